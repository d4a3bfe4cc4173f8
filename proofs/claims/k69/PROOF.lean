import PyProof.Rows.All
import Wide.All
import OpenK.AllK
import Wide.FinOn
import PySem.Challenge.RW_tellalike_k69_whole_desks_under_any_deed
import HandS.Base
import HandS.Call
import HandS.List
import HandS.Exc
import HandS.Lambda
import HandS.ForMost
import HandS.Deep
import HandS.TupAny
import HandS.IsInst
import HandS.Style
import HandS.Codes
import HandS.Words
import HandS.Defaults
import HandS.ExcOwn
import KE.KExcSuper
import KE.KExcMake
import HandS.ExcSuper
import HandS.ExcField
import KE.KExcPX
import KE.KDictPairs
import KE.SortKeyHeap
import HandS.SortKw
import HandS.More
import HandS.Text
import HandS.Wide
import HandS.Small
import HandS.OwnEq
import PyProof.EqKinds
import PyProof.ReprRoads
import KE.KStateDown
import HandS.Ends
import HandS.HeadEnd
import HandS.Head0
import HandS.Head1
import HandS.Head2
import HandS.HeadHook1
import HandS.HeadHook2
import HandS.HeadHook3
import HandS.HeadHook4
import HandS.HeadWalk
import HandS.EndTab
import KE.DataEq
set_option Elab.async false
set_option linter.all false
set_option maxRecDepth 100000
set_option maxHeartbeats 2300000
/-! N1: data, a heap of data, and what stands for them in the machine's heap. -/
namespace NL
open PyProof.Rows L2 PySem PySem.Spec

/-- data; obj: a thing of the heap of data; scr: the law's script, which nothing changes -/
inductive D where
  | non | bl (b : Bool) | int (i : Int) | str (s : Str) | tup (xs : List D) | lst (xs : List D) | dic (ks : List Key) (vs : List D) | obj (a : Addr) | scr (is : List Int)
deriving Inhabited

/-- a thing that may change; tb: a def's code objects, of the name q -/
inductive AO where
  | lst (xs : List D) | dK (kvs : List (Key × D)) | ins (C : Addr) (fs : List (Str × D)) | tb (q : Str)
abbrev AH := Addr → Option AO
/-- an exception: its class, its fields -/
structure Exn where
  C : Addr
  fs : List (Str × D)
def put (h : AH) (a : Addr) (o : AO) : AH := fun b => if b = a then some o else h b
theorem put_at {h : AH} {a : Addr} {o : AO} : put h a o a = some o := if_pos rfl
theorem put_off {h : AH} {a b : Addr} {o : AO} (n : b ≠ a) : put h a o b = h b := if_neg n
theorem put_put {h : AH} {a : Addr} {o u : AO} : put (put h a o) a u = put h a u := by
  funext b; unfold put; split <;> rfl
theorem put_dom {h : AH} {a b : Addr} {o : AO} : put h a o b ≠ none ↔ b = a ∨ h b ≠ none := by
  unfold put
  by_cases e : b = a <;> simp [e]

/-- a tuple without an own dict -/
def Bare (K : PySem.W.Frag) (H : Hp) (a : Addr) : Prop := (∃ o u, H a = some (.frz o u) ∧ o.dict = none) ∨ ∃ o, K.lookup a = some o ∧ o.dict = none
def TupAt (K : PySem.W.Frag) (H : Hp) (a : Addr) (xs : List V) : Prop := SqT K H a xs ∧ Bare K H a
theorem TupAt.frz {K : PySem.W.Frag} {H : Hp} {a : Addr} {xs : List V} {o : Obj} (e : H a = some (.frz o (.tup xs))) (d : o.dict = none) : TupAt K H a xs := ⟨.inl (.inr ⟨o, e⟩), .inl ⟨o, _, e, d⟩⟩

/-- what of the machine's heap stays when frozen things are kept -/
structure Keeps (M : Addr → Prop) (H H' : Hp) : Prop where
  tu : ∀ a xs, H a = some (.tup xs) → H' a = some (.tup xs)
  fr : ∀ a o u, H a = some (.frz o u) → H' a = some (.frz o u)
  ke : ∀ a o, H a = some o → ¬ M a → H' a = some o
  xt : ∀ a φ, H a = some (.ext φ) → H' a = some (.ext φ)
theorem Keeps.refl {M : Addr → Prop} {H : Hp} : Keeps M H H := ⟨fun _ _ e => e, fun _ _ _ e => e, fun _ _ e _ => e, fun _ _ e => e⟩
/-- what may be changed -/
def Loose : Option HO → Prop
  | some (.lst _) | some (.dK _) | some (.ins ..) | some (.tbl _) => True
  | _ => False
section
variable {K : PySem.W.Frag} {M M' : Addr → Prop} {H H1 H' : Hp} {a p : Addr} {xs : List V}
theorem Keeps.trans (x : Keeps M H H1) (y : Keeps M' H1 H') (n : ∀ b o, H b = some o → ¬ M b → ¬ M' b) : Keeps M H H' :=
  ⟨fun b ys e => y.tu b ys (x.tu b ys e), fun b o u e => y.fr b o u (x.fr b o u e), fun b o e m => y.ke b o (x.ke b o e m) (n b o e m), fun b φ e => y.xt b φ (x.xt b φ e)⟩
theorem Keeps.weak (x : Keeps M H H') (i : ∀ b o, H b = some o → M b → M' b) : Keeps M' H H' := ⟨x.tu, x.fr, fun b o e n => x.ke b o e fun m => n (i b o e m), x.xt⟩
theorem Keeps.new {o : HO} (e : H p = none) : Keeps M H (upd H p o) :=
  ⟨fun b ys q => by rw [upd_ne (ne_of_none q e)]; exact q, fun b u w q => by rw [upd_ne (ne_of_none q e)]; exact q, fun b u q _ => by rw [upd_ne (ne_of_none q e)]; exact q, fun b φ q => by rw [upd_ne (ne_of_none q e)]; exact q⟩
/-- p, which M holds, changes -/
theorem Keeps.chg {o : HO} (m : M p) (l : Loose (H p)) : Keeps M H (upd H p o) := by
  have off : ∀ {b u}, H b = some u → ¬ Loose (some u) → b ≠ p := fun {b u} q n z => n (by rw [← q, z]; exact l)
  exact ⟨fun b ys q => by rw [upd_ne (off q id)]; exact q, fun b u w q => by rw [upd_ne (off q id)]; exact q, fun b u q n => by rw [upd_ne (by intro z; subst z; exact n m)]; exact q, fun b φ q => by rw [upd_ne (off q id)]; exact q⟩
theorem Keeps.sqt (x : Keeps M H H') (e : SqT K H a xs) : SqT K H' a xs := by
  rcases e with (e | ⟨o, e⟩) | e
  · exact .inl (.inl (x.tu _ _ e))
  · exact .inl (.inr ⟨o, x.fr _ _ _ e⟩)
  · exact .inr e
theorem Keeps.tupAt (x : Keeps M H H') (e : TupAt K H a xs) : TupAt K H' a xs := by
  refine ⟨x.sqt e.1, ?_⟩
  rcases e.2 with ⟨o, u, q, d⟩ | q
  · exact .inl ⟨o, u, x.fr _ _ _ q, d⟩
  · exact .inr q
end

/-! ### data in the machine; M: what may change -/
mutual
inductive Fz (K : PySem.W.Frag) (M : Addr → Prop) (H : Hp) : V → D → Prop
  | non : Fz K M H .non .non
  | bl (b : Bool) : Fz K M H (.bl b) (.bl b)
  | int (i : Int) : Fz K M H (.int i) (.int i)
  | str (s : Str) : Fz K M H (.str s) (.str s)
  | obj (a : Addr) : Fz K M H (.ref a) (.obj a)
  | tup {a : Addr} {vs : List V} {ds : List D} : TupAt K H a vs → FzL K M H vs ds → Fz K M H (.ref a) (.tup ds)
  | lst {a : Addr} {vs : List V} {ds : List D} : ¬ M a → H a = some (.lst vs) → FzL K M H vs ds → Fz K M H (.ref a) (.lst ds)
  | scr {a : Addr} {o : Obj} {is : List Int} : H a = some (.frz o (.lst (is.map V.int))) → Fz K M H (.ref a) (.scr is)
  | dic {a : Addr} {ks : List Key} {vs : List V} {ds : List D} : ¬ M a → H a = some (.dK (ks.zip vs)) → ks.length = ds.length → FzL K M H vs ds → Fz K M H (.ref a) (.dic ks ds)
inductive FzL (K : PySem.W.Frag) (M : Addr → Prop) (H : Hp) : List V → List D → Prop
  | nil : FzL K M H [] []
  | cons {v : V} {vs : List V} {d : D} {ds : List D} : Fz K M H v d → FzL K M H vs ds → FzL K M H (v :: vs) (d :: ds)
end
section
variable {K : PySem.W.Frag} {M M' : Addr → Prop} {H H' : Hp}
mutual
/-- what M' holds that M does not was not there at H -/
theorem Fz.keeps (x : Keeps M H H') (n : ∀ a o, H a = some o → M' a → M a) : ∀ {d : D} {v : V}, Fz K M H v d → Fz K M' H' v d
  | .non, _, .non => .non
  | .bl b, _, .bl _ => .bl b
  | .int i, _, .int _ => .int i
  | .str s, _, .str _ => .str s
  | .obj a, _, .obj _ => .obj a
  | .tup ds, _, .tup q f => .tup (x.tupAt q) (FzL.keeps x n f)
  | .lst ds, _, .lst m q f => .lst (fun z => m (n _ _ q z)) (x.ke _ _ q m) (FzL.keeps x n f)
  | .scr _, _, .scr q => .scr (x.fr _ _ _ q)
  | .dic ks ds, _, .dic m q l f => .dic (fun z => m (n _ _ q z)) (x.ke _ _ q m) l (FzL.keeps x n f)
theorem FzL.keeps (x : Keeps M H H') (n : ∀ a o, H a = some o → M' a → M a) : ∀ {ds : List D} {vs : List V}, FzL K M H vs ds → FzL K M' H' vs ds
  | [], _, .nil => .nil
  | _ :: _, _, .cons f t => .cons (Fz.keeps x n f) (FzL.keeps x n t)
end
theorem Fz.anti (n : ∀ a, M' a → M a) {d : D} {v : V} (f : Fz K M H v d) : Fz K M' H v d := Fz.keeps .refl (fun a _ _ => n a) f
theorem FzL.anti (n : ∀ a, M' a → M a) {ds : List D} {vs : List V} (f : FzL K M H vs ds) : FzL K M' H vs ds := FzL.keeps .refl (fun a _ _ => n a) f
theorem FzL.len : ∀ {vs : List V} {ds : List D}, FzL K M H vs ds → vs.length = ds.length
  | _, _, .nil => rfl
  | _, _, .cons _ t => by simp [FzL.len t]
theorem FzL.get : ∀ {vs : List V} {ds : List D}, FzL K M H vs ds → ∀ {i : Nat} {d : D}, ds[i]? = some d → ∃ v, vs[i]? = some v ∧ Fz K M H v d
  | _, _, .nil, i, d, e => by simp at e
  | _, _, .cons (v := v) f t, 0, d, e => by simp at e; subst e; exact ⟨v, rfl, f⟩
  | _, _, .cons f t, i + 1, d, e => by
    obtain ⟨v, q, z⟩ := FzL.get t (i := i) (by simpa using e)
    exact ⟨v, by simpa using q, z⟩
theorem FzL.append : ∀ {vs ws : List V} {ds es : List D}, FzL K M H vs ds → FzL K M H ws es → FzL K M H (vs ++ ws) (ds ++ es)
  | _, _, _, _, .nil, s => s
  | _, _, _, _, .cons r t, s => .cons r (FzL.append t s)
theorem FzL.take : ∀ (n : Nat) {vs : List V} {ds : List D}, FzL K M H vs ds → FzL K M H (vs.take n) (ds.take n)
  | 0, _, _, _ => by simp; exact .nil
  | n + 1, _, _, .nil => by simp; exact .nil
  | n + 1, _, _, .cons r t => by simp; exact .cons r (FzL.take n t)
theorem FzL.drop : ∀ (n : Nat) {vs : List V} {ds : List D}, FzL K M H vs ds → FzL K M H (vs.drop n) (ds.drop n)
  | 0, _, _, q => by simpa using q
  | n + 1, _, _, .nil => by simp; exact .nil
  | n + 1, _, _, .cons r t => by simpa using FzL.drop n t
theorem FzL.snoc {vs : List V} {ds : List D} {v : V} {d : D} (f : FzL K M H vs ds) (q : Fz K M H v d) : FzL K M H (vs ++ [v]) (ds ++ [d]) := f.append (.cons q .nil)
theorem FzL.set : ∀ {vs : List V} {ds : List D} (_ : FzL K M H vs ds) (i : Nat) {v : V} {d : D}, Fz K M H v d → FzL K M H (vs.set i v) (ds.set i d)
  | _, _, .nil, _, _, _, _ => .nil
  | _, _, .cons _ t, 0, _, _, q => .cons q t
  | _, _, .cons r t, i + 1, _, _, q => .cons r (FzL.set t i q)
theorem FzL.reverse : ∀ {vs : List V} {ds : List D}, FzL K M H vs ds → FzL K M H vs.reverse ds.reverse
  | _, _, .nil => .nil
  | _, _, .cons r t => by simpa using (FzL.reverse t).snoc r
theorem FzL.strs : ∀ ss : List Str, FzL K M H (ss.map V.str) (ss.map D.str)
  | [] => .nil
  | s :: ss => .cons (.str s) (FzL.strs ss)
theorem FzL.ints : ∀ is : List Int, FzL K M H (is.map V.int) (is.map D.int)
  | [] => .nil
  | i :: is => .cons (.int i) (FzL.ints is)
end

/-- pairs of a key and data -/
abbrev KF (K : PySem.W.Frag) (M : Addr → Prop) (H : Hp) : List (Key × V) → List (Key × D) → Prop := Paired fun p q => p.1 = q.1 ∧ Fz K M H p.2 q.2
/-- fields -/
abbrev SF (K : PySem.W.Frag) (M : Addr → Prop) (H : Hp) : List (Str × V) → List (Str × D) → Prop := Paired fun p q => p.1 = q.1 ∧ Fz K M H p.2 q.2
/-- a thing stands at a -/
def OR (K : PySem.W.Frag) (M : Addr → Prop) (H : Hp) (a : Addr) : AO → Prop
  | .lst xs => ∃ vs, H a = some (.lst vs) ∧ FzL K M H vs xs
  | .dK kvs => ∃ kws, H a = some (.dK kws) ∧ KF K M H kws kvs
  | .ins C fs => ∃ dx gs, H a = some (.ins C dx gs) ∧ H dx = some (.own a) ∧ SF K M H gs fs
  | .tb q => LamX.TabS H a q
/-- the heap of data stands in the machine's -/
def HR (K : PySem.W.Frag) (M : Addr → Prop) (h : AH) (H : Hp) : Prop := ∀ a o, h a = some o → OR K M H a o
section
variable {K : PySem.W.Frag} {M M' : Addr → Prop} {H H' : Hp} {h h' : AH} {a : Addr}
theorem pairedMap {α β : Type} {F G : α → β → Prop} : ∀ {l : List α} {m : List β}, Paired F l m → (∀ x y, F x y → G x y) → Paired G l m
  | _, _, .nil, _ => .nil
  | _, _, .cons r t, f => .cons (f _ _ r) (pairedMap t f)
theorem KF.keeps {ps : List (Key × V)} {qs : List (Key × D)} (x : Keeps M H H') (n : ∀ a o, H a = some o → M' a → M a) (f : KF K M H ps qs) : KF K M' H' ps qs := pairedMap f fun _ _ z => ⟨z.1, Fz.keeps x n z.2⟩
theorem SF.keeps {ps : List (Str × V)} {qs : List (Str × D)} (x : Keeps M H H') (n : ∀ a o, H a = some o → M' a → M a) (f : SF K M H ps qs) : SF K M' H' ps qs := pairedMap f fun _ _ z => ⟨z.1, Fz.keeps x n z.2⟩
theorem OR.loose {o : AO} (x : OR K M H a o) : Loose (H a) := by
  cases o with
  | lst xs => obtain ⟨vs, e, _⟩ := x; rw [e]; trivial
  | dK kvs => obtain ⟨vs, e, _⟩ := x; rw [e]; trivial
  | ins C fs => obtain ⟨dx, gs, e, _⟩ := x; rw [e]; trivial
  | tb q => obtain ⟨ps, e, _⟩ := x; rw [e]; trivial
theorem Loose.ex {w : Option HO} (l : Loose w) : ∃ u, w = some u := by
  cases w with
  | none => exact l.elim
  | some u => exact ⟨u, rfl⟩
theorem OR.ex {o : AO} (x : OR K M H a o) : ∃ u, H a = some u := x.loose.ex
/-- a thing whose own place and own dict are kept -/
theorem OR.keeps {o : AO} (x : Keeps M H H') (n : ∀ a o, H a = some o → M' a → M a) (ha : ∀ u, H a = some u → H' a = some u) (hd : ∀ b, H b = some (.own a) → H' b = some (.own a)) (r : OR K M H a o) : OR K M' H' a o := by
  cases o with
  | lst xs => obtain ⟨vs, e, f⟩ := r; exact ⟨vs, ha _ e, FzL.keeps x n f⟩
  | dK kvs => obtain ⟨vs, e, f⟩ := r; exact ⟨vs, ha _ e, KF.keeps x n f⟩
  | ins C fs => obtain ⟨dx, gs, e, d, f⟩ := r; exact ⟨dx, gs, ha _ e, hd _ d, SF.keeps x n f⟩
  | tb q =>
    obtain ⟨ps, e, t, f⟩ := r
    refine ⟨ps, ha _ e, t, fun pos cv hc => ?_⟩
    obtain ⟨c, e1, e2⟩ := f pos cv hc
    exact ⟨c, e1, x.xt _ _ e2⟩
theorem OR.anti {o : AO} (n : ∀ a, M' a → M a) (r : OR K M H a o) : OR K M' H a o := r.keeps .refl (fun a _ _ => n a) (fun _ e => e) fun _ e => e
theorem HR.anti (n : ∀ a, M' a → M a) (r : HR K M h H) : HR K M' h H := fun a o e => (r a o e).anti n
theorem HR.ex {o : AO} (r : HR K M h H) (e : h a = some o) : ∃ u, H a = some u := (r a o e).ex
theorem HR.dom (r : HR K M h H) (e : h a ≠ none) : H a ≠ none := fun z => by
  cases q : h a with
  | none => exact e q
  | some o =>
    obtain ⟨u, w⟩ := r.ex q
    rw [z] at w; cases w
end
/-- an exception's class and own dict in the machine -/
def ER (K : PySem.W.Frag) (M : Addr → Prop) (H : Hp) (cls : Value) (dd : Option Addr) (x : Exn) : Prop :=
  cls = .ref x.C ∧ ((x.fs = [] ∧ dd = none) ∨ ∃ a gs, dd = some a ∧ H a = some (.xd gs) ∧ ¬ M a ∧ SF K M H gs x.fs)
theorem ER.keeps {K : PySem.W.Frag} {M M' : Addr → Prop} {H H' : Hp} {cls : Value} {dd : Option Addr} {e : Exn} (x : Keeps M H H') (n : ∀ a o, H a = some o → M' a → M a) (r : ER K M H cls dd e) : ER K M' H' cls dd e := by
  obtain ⟨c, f⟩ := r
  refine ⟨c, f.imp id ?_⟩
  rintro ⟨a, gs, e1, e2, e3, e4⟩
  exact ⟨a, gs, e1, x.ke _ _ e2 e3, fun m => e3 (n _ _ e2 m), SF.keeps x n e4⟩
end NL
set_option Elab.async false
set_option linter.all false
set_option maxRecDepth 100000
set_option maxHeartbeats 2300000
/-! N2: slots, steps, readings; names, constants, arguments, tuples, lists. -/
namespace NL
open PyProof.Rows L2 PySem PySem.Spec
/-- what a slot holds: data, or a list of the def's own that it still changes -/
inductive SV where
  | d (x : D) | l (xs : List D) | x (a : Addr) (dd : Option Addr) (e : Exn)
abbrev Rho := List (Option SV)
abbrev QD := D → AH → Prop
abbrev QX := Exn → AH → Prop
abbrev DE := Rho → AH → QD → QX → Prop
abbrev DT := Rho → AH → (Bool → AH → Prop) → QX → Prop
abbrev DA := Rho → AH → (List D → AH → Prop) → QX → Prop
/-- what may change: others' own lists, own lists, the things of the heap of data -/
def Mx (B : Addr → Prop) (as : List Addr) (h : AH) : Addr → Prop := fun a => B a ∨ a ∈ as ∨ h a ≠ none
abbrev Dom (h : AH) : Addr → Prop := fun a => h a ≠ none

structure Rep (K : PySem.W.Frag) (B : Addr → Prop) (as : List Addr) (h : AH) (H : Hp) (σ : L2.St) (ρ : Rho) : Prop where
  hr : HR K (Mx B as h) h H
  bd : ∀ a, B a → H a ≠ none
  ow : ∀ a, a ∈ as → h a = none ∧ ∃ vs, H a = some (.lst vs)
  ob : ∀ a, a ∈ as → ¬ B a
  nd : ∀ (i j : Nat) xs ys (a : Addr), ρ[i]? = some (some (.l xs)) → ρ[j]? = some (some (.l ys)) → σ[i]? = some (some (.ref a)) → σ[j]? = some (some (.ref a)) → i = j
  len : σ.length = ρ.length
  sd : ∀ (i : Nat) x, ρ[i]? = some (some (.d x)) → ∃ v, σ[i]? = some (some v) ∧ Fz K (Mx B as h) H v x
  sl : ∀ (i : Nat) xs, ρ[i]? = some (some (.l xs)) → ∃ a vs, σ[i]? = some (some (.ref a)) ∧ a ∈ as ∧ H a = some (.lst vs) ∧ FzL K (Mx B as h) H vs xs
  sx : ∀ (i : Nat) a dd e, ρ[i]? = some (some (.x a dd e)) → σ[i]? = some (some (.ref a)) ∧ ER K (Mx B as h) H (.ref e.C) dd e
/-- what evaluating does: own lists stay, things of the heap of data may change, new ones may come -/
structure Go (K : PySem.W.Frag) (B : Addr → Prop) (as : List Addr) (h : AH) (H : Hp) (h' : AH) (H' : Hp) : Prop where
  k : Keeps (Dom h) H H'
  lo : ∀ a, h a ≠ none → h' a ≠ none
  nw : ∀ a o, H a = some o → h' a ≠ none → h a ≠ none
  hr : HR K (Mx B as h') h' H'
section
variable {K : PySem.W.Frag} {B : Addr → Prop} {as : List Addr} {h h1 h' : AH} {H H1 H' : Hp} {σ : L2.St} {ρ : Rho} {v : V} {d : D} {vs : List V} {ds : List D} {p a : Addr}
theorem Go.refl (r : HR K (Mx B as h) h H) : Go K B as h H h H := ⟨.refl, fun _ e => e, fun _ _ _ e => e, r⟩
theorem Go.trans (x : Go K B as h H h1 H1) (y : Go K B as h1 H1 h' H') : Go K B as h H h' H' :=
  ⟨x.k.trans y.k fun b o e n m => n (x.nw b o e m), fun b e => y.lo b (x.lo b e), fun b o e m => by
    by_cases n : h b = none
    · exact x.nw b o e (y.nw b o (x.k.ke b o e (fun z => z n)) m)
    · exact n, y.hr⟩
theorem Go.mx (x : Go K B as h H h' H') : ∀ a o, H a = some o → Mx B as h' a → Mx B as h a := fun a o e m => by
  rcases m with m | m | m
  · exact .inl m
  · exact .inr (.inl m)
  · exact .inr (.inr (x.nw a o e m))
theorem Go.kw (x : Go K B as h H h' H') : Keeps (Mx B as h) H H' := x.k.weak fun a o _ m => .inr (.inr m)
theorem Fz.go (f : Fz K (Mx B as h) H v d) (x : Go K B as h H h' H') : Fz K (Mx B as h') H' v d := f.keeps x.kw x.mx
theorem FzL.go (f : FzL K (Mx B as h) H vs ds) (x : Go K B as h H h' H') : FzL K (Mx B as h') H' vs ds := f.keeps x.kw x.mx
theorem Go.th (x : Go K B as h H h' H') : H a ≠ none → H' a ≠ none := fun e => by
  by_cases n : h a = none
  · cases q : H a with
    | none => exact absurd q e
    | some o => rw [x.k.ke a o q (fun z => z n)]; exact fun z => by cases z
  · exact x.hr.dom (x.lo a n)
theorem Go.back (x : Go K B as h H h' H') (e : H' a = none) : H a = none := Classical.byContradiction fun n => x.th n e
theorem HR.new {M : Addr → Prop} {o : HO} (r : HR K M h H) (e : H p = none) : HR K M h (upd H p o) := fun a u q =>
  (r a u q).keeps (.new e) (fun _ _ _ m => m) (fun w z => by rw [upd_ne (ne_of_none z e)]; exact z) fun b z => by rw [upd_ne (ne_of_none z e)]; exact z
/-- something frozen is laid -/
theorem Go.new {o : HO} (r : HR K (Mx B as h) h H) (e : H p = none) : Go K B as h H h (upd H p o) := ⟨.new e, fun _ e => e, fun _ _ _ e => e, r.new e⟩
theorem Rep.dm (x : Rep K B as h H σ ρ) : ∀ a, Mx B as h a → H a ≠ none := fun a m => by
  rcases m with m | m | m
  · exact x.bd a m
  · obtain ⟨_, vs, e⟩ := x.ow a m
    rw [e]; exact fun z => by cases z
  · exact x.hr.dom m
theorem Rep.go (x : Rep K B as h H σ ρ) (y : Go K B as h H h' H') : Rep K B as h' H' σ ρ where
  hr := y.hr
  bd := fun a m => y.th (x.bd a m)
  ow := fun a m => by
    obtain ⟨n, vs, e⟩ := x.ow a m
    refine ⟨Classical.byContradiction fun z => y.nw a _ e z n, vs, y.k.ke a _ e fun z => z n⟩
  ob := x.ob
  nd := x.nd
  len := x.len
  sd := fun i d e => by
    obtain ⟨v, e1, f⟩ := x.sd i d e
    exact ⟨v, e1, f.go y⟩
  sl := fun i xs e => by
    obtain ⟨a, vs, e1, e2, e3, f⟩ := x.sl i xs e
    exact ⟨a, vs, e1, e2, y.k.ke a _ e3 (fun z => z (x.ow a e2).1), f.go y⟩
  sx := fun i a dd e q => ⟨(x.sx i a dd e q).1, (x.sx i a dd e q).2.keeps y.kw y.mx⟩
end
/-- a wish of a value, of an exception -/
def Vc (K : PySem.W.Frag) (B : Addr → Prop) (as : List Addr) (h : AH) (H : Hp) (Q : VK) (Qd : QD) : Prop := ∀ v d h' H', Go K B as h H h' H' → Fz K (Mx B as h') H' v d → Qd d h' → Q v H'
def Xc (K : PySem.W.Frag) (B : Addr → Prop) (as : List Addr) (h : AH) (H : Hp) (W : WX) (σ : L2.St) (Ed : QX) : Prop := ∀ x h' H' cls dd, Go K B as h H h' H' → ER K (Mx B as h') H' cls dd x → Ed x h' → W cls dd σ H'
/-- a list whose shell may be one's own -/
inductive Fs (K : PySem.W.Frag) (B : Addr → Prop) (as : List Addr) (h : AH) (H : Hp) : V → D → Prop
  | z {v : V} {d : D} (f : Fz K (Mx B as h) H v d) : Fs K B as h H v d
  | l {a : Addr} {vs : List V} {ds : List D} (n : h a = none) (e : H a = some (.lst vs)) (f : FzL K (Mx B as h) H vs ds) : Fs K B as h H (.ref a) (.lst ds)
section
variable {K : PySem.W.Frag} {B : Addr → Prop} {as : List Addr} {h h1 h' : AH} {H H1 H' : Hp} {σ : L2.St} {ρ : Rho} {v : V} {d : D} {vs : List V} {ds : List D} {p a : Addr} {Q : VK} {Qd : QD} {W : WX} {Ed : QX}
theorem Fs.go (f : Fs K B as h H v d) (x : Go K B as h H h' H') : Fs K B as h' H' v d := by
  cases f with
  | z f => exact .z (f.go x)
  | l n e f => exact .l (Classical.byContradiction fun z => x.nw _ _ e z n) (x.k.ke _ _ e (fun z => z n)) (f.go x)
theorem Vc.go (k : Vc K B as h H Q Qd) (x : Go K B as h H h' H') : Vc K B as h' H' Q Qd := fun v d h2 H2 y f q => k v d h2 H2 (x.trans y) f q
theorem Xc.go (k : Xc K B as h H W σ Ed) (x : Go K B as h H h' H') : Xc K B as h' H' W σ Ed := fun e h2 H2 cls dd y f q => k e h2 H2 cls dd (x.trans y) f q
theorem Fs.int {i : Int} (f : Fs K B as h H v (.int i)) : v = .int i := by
  cases f with | z f => cases f; rfl
theorem Fs.bl {b : Bool} (f : Fs K B as h H v (.bl b)) : v = .bl b := by
  cases f with | z f => cases f; rfl
theorem Fs.str {s : Str} (f : Fs K B as h H v (.str s)) : v = .str s := by
  cases f with | z f => cases f; rfl
theorem Fs.non (f : Fs K B as h H v .non) : v = .non := by
  cases f with | z f => cases f; rfl
theorem Fs.obj {a : Addr} (f : Fs K B as h H v (.obj a)) : v = .ref a := by
  cases f with | z f => cases f; rfl
theorem Fs.tup (f : Fs K B as h H v (.tup ds)) : ∃ a vs, v = .ref a ∧ TupAt K H a vs ∧ FzL K (Mx B as h) H vs ds := by
  cases f with | z f => cases f with | tup q f => exact ⟨_, _, rfl, q, f⟩
theorem Fs.lst (f : Fs K B as h H v (.lst ds)) : ∃ a vs, v = .ref a ∧ H a = some (.lst vs) ∧ FzL K (Mx B as h) H vs ds := by
  cases f with
  | z f => cases f with | lst n q f => exact ⟨_, _, rfl, q, f⟩
  | l n e f => exact ⟨_, _, rfl, e, f⟩
end

/-! ### readings: data, a list's shell perhaps one's own, a new list, a test, arguments -/
def up (K : PySem.W.Frag) (W : WX) (g : DE) : TE := fun σ H Q => ∃ B as h ρ Qd Ed, Rep K B as h H σ ρ ∧ g ρ h Qd Ed ∧ Vc K B as h H Q Qd ∧ Xc K B as h H W σ Ed
def uw (K : PySem.W.Frag) (W : WX) (g : DE) : TE := fun σ H Q => ∃ B as h ρ Qd Ed, Rep K B as h H σ ρ ∧ g ρ h Qd Ed ∧ (∀ v d h' H', Go K B as h H h' H' → Fs K B as h' H' v d → Qd d h' → Q v H') ∧ Xc K B as h H W σ Ed
def un (K : PySem.W.Frag) (W : WX) (g : DA) : TE := fun σ H Q => ∃ B as h ρ Qd Ed, Rep K B as h H σ ρ ∧ g ρ h Qd Ed ∧ (∀ p vs ds h' H', Go K B as h H h' H' → H p = none → H' p = some (.lst vs) → h' p = none → HR K (Mx B (p :: as) h') h' H' → FzL K (Mx B (p :: as) h') H' vs ds → Qd ds h' → Q (.ref p) H') ∧ Xc K B as h H W σ Ed
def ut (K : PySem.W.Frag) (W : WX) (g : DT) : TT := fun σ H Q => ∃ B as h ρ Qd Ed, Rep K B as h H σ ρ ∧ g ρ h Qd Ed ∧ (∀ b h' H', Go K B as h H h' H' → Qd b h' → Q b H') ∧ Xc K B as h H W σ Ed
def ua (K : PySem.W.Frag) (W : WX) (g : DA) : TA := fun σ H Q => ∃ B as h ρ Qd Ed, Rep K B as h H σ ρ ∧ g ρ h Qd Ed ∧ (∀ vs ds h' H', Go K B as h H h' H' → FzL K (Mx B as h') H' vs ds → Qd ds h' → Q vs H') ∧ Xc K B as h H W σ Ed
abbrev FsL (K : PySem.W.Frag) (B : Addr → Prop) (as : List Addr) (h : AH) (H : Hp) : List V → List D → Prop := Paired (Fs K B as h H)
def uv (K : PySem.W.Frag) (W : WX) (g : DA) : TA := fun σ H Q => ∃ B as h ρ Qd Ed, Rep K B as h H σ ρ ∧ g ρ h Qd Ed ∧ (∀ vs ds h' H', Go K B as h H h' H' → FsL K B as h' H' vs ds → Qd ds h' → Q vs H') ∧ Xc K B as h H W σ Ed
theorem FsL.go {K : PySem.W.Frag} {B : Addr → Prop} {as : List Addr} {h h' : AH} {H H' : Hp} {vs : List V} {ds : List D} (f : FsL K B as h H vs ds) (x : Go K B as h H h' H') : FsL K B as h' H' vs ds := pairedMap f fun _ _ z => z.go x

section
variable {X : Cx} {e : Expr} {st : Stmt} {sts : List Stmt}
theorem _root_.L2.PE.to {t t' : TE} (r : PE X e t) (i : ∀ σ H Q, t' σ H Q → t σ H Q) : PE X e t' := ⟨fun pn s σ H Q iv w => r.run pn s σ H Q iv (i σ H Q w)⟩
theorem _root_.L2.PT.to {t t' : TT} (r : PT X e t) (i : ∀ σ H Q, t' σ H Q → t σ H Q) : PT X e t' := ⟨fun pn s σ H Q iv w => r.run pn s σ H Q iv (i σ H Q w)⟩
theorem _root_.L2.PW.to {t t' : TT} (r : PW X e t) (i : ∀ σ H Q, t' σ H Q → t σ H Q) : PW X e t' := ⟨fun wh pn s σ H Q iv w => r.run wh pn s σ H Q iv (i σ H Q w)⟩
theorem _root_.L2.PA.to {es : List Expr} {t t' : TA} (r : PA X es t) (i : ∀ σ H Q, t' σ H Q → t σ H Q) : PA X es t' := ⟨fun p pn s σ H Q iv w => r.run p pn s σ H Q iv (i σ H Q w)⟩
theorem _root_.L2.PS.to {t t' : TS} (r : PS X st t) (i : ∀ D σ H, t' D σ H → t D σ H) : PS X st t' := ⟨fun pn s σ H D iv w => r.run pn s σ H D iv (i D σ H w)⟩
theorem _root_.L2.PSs.to {t t' : TS} (r : PSs X sts t) (i : ∀ D σ H, t' D σ H → t D σ H) : PSs X sts t' := ⟨fun pn s σ H D iv w => r.run pn s σ H D iv (i D σ H w)⟩
end

section
variable {X : Cx} {W : WX} {e a b c : Expr} {es : List Expr} {g ga gb gc : DE} {gt gu : DT} {gs : DA} {pos : Pos}
theorem wk (r : PE X e (up X.K W g)) : PE X e (uw X.K W g) := r.to fun σ H Q ⟨B, as, h, ρ, Qd, Ed, rp, w, k, x⟩ => ⟨B, as, h, ρ, Qd, Ed, rp, w, fun v d h' H' y f q => k v d h' H' y (.z f) q, x⟩
/-- a new list, taken as frozen -/
def dFz (gs : DA) : DE := fun ρ h Q E => gs ρ h (fun ds => Q (.lst ds)) E
theorem fzn (r : PE X e (un X.K W gs)) : PE X e (up X.K W (dFz gs)) := r.to fun σ H Q ⟨B, as, h, ρ, Qd, Ed, rp, w, k, x⟩ => ⟨B, as, h, ρ, _, Ed, rp, w, fun p vs ds h' H' y n e m _ f q =>
  k _ _ h' H' y (.lst (fun z => by
    rcases z with z | z | z
    · exact rp.bd p z n
    · exact rp.dm p (.inr (.inl z)) n
    · exact z m) e (f.anti fun a z => by
    rcases z with z | z | z
    · exact .inl z
    · exact .inr (.inl (List.mem_cons_of_mem _ z))
    · exact .inr (.inr z))) q, x⟩

/-! ### names, constants -/
def dVar (i : Nat) : DE := fun ρ h Q _ => match ρ[i]? with
  | some (some (.d x)) => Q x h
  | _ => False
def dOwn (i : Nat) : DE := fun ρ h Q _ => match ρ[i]? with
  | some (some (.l xs)) => Q (.lst xs) h
  | _ => False
theorem dVar_ok {i : Nat} {ρ : Rho} {h : AH} {Q : QD} {E : QX} (w : dVar i ρ h Q E) : ∃ x, ρ[i]? = some (some (.d x)) ∧ Q x h := by
  unfold dVar at w
  split at w
  · exact ⟨_, by assumption, w⟩
  · exact w.elim
theorem dOwn_ok {i : Nat} {ρ : Rho} {h : AH} {Q : QD} {E : QX} (w : dOwn i ρ h Q E) : ∃ x, ρ[i]? = some (some (.l x)) ∧ Q (.lst x) h := by
  unfold dOwn at w
  split at w
  · exact ⟨_, by assumption, w⟩
  · exact w.elim
theorem nm (i : Nat) {x : Str} (hN : X.N[i]? = some x := by rfl) (hv : Vis X.env.scope x := by first | exact Or.inl rfl | exact Or.inr (Or.inl rfl) | exact Or.inr (Or.inr rfl)) (hd : (x == ("__debug__" : Str)) = false := by decide) (hcd : (x == ("__classdict__" : Str)) = false := by decide) :
    PE X (.Name x pos) (up X.K W (dVar i)) := (pe_var hN hv hd hcd).to fun σ H Q ⟨B, as, h, ρ, Qd, Ed, rp, w, k, _⟩ => by
  obtain ⟨d, e, q⟩ := dVar_ok w
  obtain ⟨v, e1, f⟩ := rp.sd i d e
  exact ⟨v, e1, k v d h H (.refl rp.hr) f q⟩
theorem ow (i : Nat) {x : Str} (hN : X.N[i]? = some x := by rfl) (hv : Vis X.env.scope x := by first | exact Or.inl rfl | exact Or.inr (Or.inl rfl) | exact Or.inr (Or.inr rfl)) (hd : (x == ("__debug__" : Str)) = false := by decide) (hcd : (x == ("__classdict__" : Str)) = false := by decide) :
    PE X (.Name x pos) (uw X.K W (dOwn i)) := (pe_var hN hv hd hcd).to fun σ H Q ⟨B, as, h, ρ, Qd, Ed, rp, w, k, _⟩ => by
  obtain ⟨d, e, q⟩ := dOwn_ok w
  obtain ⟨a, vs, e1, e2, e3, f⟩ := rp.sl i d e
  exact ⟨_, e1, k _ _ h H (.refl rp.hr) (.l (rp.ow a e2).1 e3 f) q⟩
def dC (d : D) : DE := fun _ h Q _ => Q d h
theorem cst {v : V} {d : D} (r : PE X e (tC v)) (f : ∀ M H, Fz X.K M H v d) : PE X e (up X.K W (dC d)) := r.to fun σ H Q ⟨B, as, h, ρ, Qd, Ed, rp, w, k, _⟩ => k v d h H (.refl rp.hr) (f _ _) w
theorem c_int {i : Int} {j} : PE X (.Constant (.int i) j pos) (up X.K W (dC (.int i))) := cst pe_int fun _ _ => .int i
theorem c_str {s : Str} {j} : PE X (.Constant (.str s) j pos) (up X.K W (dC (.str s))) := cst pe_str fun _ _ => .str s
theorem c_bl {b : Bool} {j} : PE X (.Constant (.bool b) j pos) (up X.K W (dC (.bl b))) := cst pe_bl fun _ _ => .bl b
theorem c_non {j} : PE X (.Constant .none j pos) (up X.K W (dC .non)) := cst pe_non fun _ _ => .non
/-- a module's text, int, tuple of texts -/
theorem g_str {x z : Str} (hm : ∃ t, X.mg x = some (.str z t)) (hg : Gl X x := by rfl) (hd : (x == ("__debug__" : Str)) = false := by decide) : PE X (.Name x pos) (up X.K W (dC (.str z))) := by
  obtain ⟨t, hm⟩ := hm
  exact cst (pe_glob (v := .str z) hg hm ⟨t, rfl⟩ hd) fun _ _ => .str z
theorem g_int {x : Str} {z : Int} (hm : ∃ t, X.mg x = some (.int z t)) (hg : Gl X x := by rfl) (hd : (x == ("__debug__" : Str)) = false := by decide) : PE X (.Name x pos) (up X.K W (dC (.int z))) := by
  obtain ⟨t, hm⟩ := hm
  exact cst (pe_glob (v := .int z) hg hm ⟨t, rfl⟩ hd) fun _ _ => .int z
/-- the module's tuple of texts x -/
def TupG (K : PySem.W.Frag) (mg : Str → Option Value) (x : Str) (ss : List Str) : Prop := ∃ a : Addr, mg x = some (.ref a) ∧ ∀ H, TupAt K H a (ss.map V.str)
theorem g_tup {x : Str} {ss : List Str} (q : TupG X.K X.mg x ss) (hg : Gl X x := by rfl) (hd : (x == ("__debug__" : Str)) = false := by decide) : PE X (.Name x pos) (up X.K W (dC (.tup (ss.map D.str)))) := by
  obtain ⟨a, hm, hs⟩ := q
  exact cst (pe_glob (v := .ref a) hg hm rfl hd) fun _ H => .tup (hs H) (.strs ss)

/-! ### arguments, tuples, lists -/
def dNil : DA := fun _ h Q _ => Q [] h
def dCons (ga : DE) (gs : DA) : DA := fun ρ h Q E => ga ρ h (fun x h1 => gs ρ h1 (fun xs h2 => Q (x :: xs) h2) E) E
theorem a_nil : PA X [] (ua X.K W dNil) := pa_nil.to fun σ H Q ⟨B, as, h, ρ, Qd, Ed, rp, w, k, _⟩ => k [] [] h H (.refl rp.hr) .nil w
theorem a_cons (ha : PE X a (up X.K W ga)) (hs : PA X es (ua X.K W gs)) (hst : starEach (a :: es) X.env = (false, eval a X.env) :: starEach es X.env := by rfl) : PA X (a :: es) (ua X.K W (dCons ga gs)) :=
  (pa_cons ha hs hst).to fun σ H Q ⟨B, as, h, ρ, Qd, Ed, rp, w, k, xx⟩ => ⟨B, as, h, ρ, _, Ed, rp, w, fun v d h1 H1 x f q => ⟨B, as, h1, ρ, _, Ed, rp.go x, q, fun vs ds h2 H2 y fs q2 => k (v :: vs) (d :: ds) h2 H2 (x.trans y) (.cons (f.go y) fs) q2, xx.go x⟩, xx⟩
theorem v_nil : PA X [] (uv X.K W dNil) := pa_nil.to fun σ H Q ⟨B, as, h, ρ, Qd, Ed, rp, w, k, _⟩ => k [] [] h H (.refl rp.hr) .nil w
theorem v_cons (ha : PE X a (uw X.K W ga)) (hs : PA X es (uv X.K W gs)) (hst : starEach (a :: es) X.env = (false, eval a X.env) :: starEach es X.env := by rfl) : PA X (a :: es) (uv X.K W (dCons ga gs)) :=
  (pa_cons ha hs hst).to fun σ H Q ⟨B, as, h, ρ, Qd, Ed, rp, w, k, xx⟩ => ⟨B, as, h, ρ, _, Ed, rp, w, fun v d h1 H1 x f q => ⟨B, as, h1, ρ, _, Ed, rp.go x, q, fun vs ds h2 H2 y fs q2 => k (v :: vs) (d :: ds) h2 H2 (x.trans y) (.cons (f.go y) fs) q2, xx.go x⟩, xx⟩
/-- a new tuple bears no own dict -/
def FreshT (H : Hp) (xs : List V) (Q : VK) : Prop := ∀ p o, H p = none → o.dict = none → Q (.ref p) (upd H p (.frz o (.tup xs)))
theorem pe_fresh {n1} {t : TA} (r : PA X es t) : PE X (.Tuple es n1 pos) (fun σ H Q => t σ H fun xs H1 => xs.length ≤ sizeLine ∧ FreshT H1 xs Q) := by
  constructor
  intro pn s σ H Q iv w
  apply wpAny_Tuple_spliced
  refine thn (r.run pos pn s σ H _ iv w) fun us s1 ⟨xs, H1, J, rv, z, q⟩ => ⟨by rw [← rv.length]; exact z, ?_⟩
  have new := J.hok.fresh (Nat.le_refl s1.heap.objs.size)
  have lay := J.laid (t' := s1.toks) (o := .frz { cls := .type "tuple", data := .seq us.toArray } (.tup xs)) (fun b u e => Heap.get?_push_of_some _ e) (Nat.le_refl _)
    ⟨Heap.get?_push_size _ rfl, z, us, rv, ⟨_, Heap.get?_push_size _ rfl, rfl, _, rfl⟩⟩
  exact ⟨.ref s1.heap.objs.size, _, lay, rfl, q _ _ new rfl⟩
def dTup (gs : DA) : DE := fun ρ h Q E => gs ρ h (fun ds h1 => ds.length ≤ sizeLine ∧ Q (.tup ds) h1) E
theorem e_tup {n1} (hs : PA X es (ua X.K W gs)) : PE X (.Tuple es n1 pos) (up X.K W (dTup gs)) :=
  (pe_fresh hs).to fun σ H Q ⟨B, as, h, ρ, Qd, Ed, rp, w, k, xx⟩ => ⟨B, as, h, ρ, _, Ed, rp, w, fun vs ds h' H' x fs q => ⟨by rw [fs.len]; exact q.1, fun p o hp hd =>
    k _ _ h' _ (x.trans (.new x.hr hp)) (.tup (.frz upd_same hd) (fs.go (.new x.hr hp))) q.2⟩, xx⟩
def dLst (gs : DA) : DA := fun ρ h Q E => gs ρ h (fun ds h1 => ds.length ≤ sizeLine ∧ Q ds h1) E
theorem HR.off {K : PySem.W.Frag} {M : Addr → Prop} {h : AH} {H : Hp} {p : Addr} (r : HR K M h H) (e : H p = none) : h p = none := Classical.byContradiction fun n => r.dom n e
theorem mx_cons {B : Addr → Prop} {as : List Addr} {h : AH} {p a : Addr} (m : Mx B (p :: as) h a) : a = p ∨ Mx B as h a := by
  rcases m with m | m | m
  · exact .inr (.inl m)
  · rcases List.mem_cons.mp m with m | m
    · exact .inl m
    · exact .inr (.inr (.inl m))
  · exact .inr (.inr (.inr m))
/-- data at H know nothing of p -/
theorem FzL.more {K : PySem.W.Frag} {B : Addr → Prop} {as : List Addr} {h : AH} {H : Hp} {p : Addr} {vs : List V} {ds : List D} (f : FzL K (Mx B as h) H vs ds) (e : H p = none) : FzL K (Mx B (p :: as) h) H vs ds :=
  f.keeps .refl fun a o q m => by
    rcases mx_cons m with m | m
    · subst m; rw [e] at q; cases q
    · exact m
theorem Fz.more {K : PySem.W.Frag} {B : Addr → Prop} {as : List Addr} {h : AH} {H : Hp} {p : Addr} {v : V} {d : D} (f : Fz K (Mx B as h) H v d) (e : H p = none) : Fz K (Mx B (p :: as) h) H v d :=
  f.keeps .refl fun a o q m => by
    rcases mx_cons m with m | m
    · subst m; rw [e] at q; cases q
    · exact m
theorem HR.more {K : PySem.W.Frag} {B : Addr → Prop} {as : List Addr} {h h' : AH} {H : Hp} {p : Addr} (r : HR K (Mx B as h) h' H) (e : H p = none) : HR K (Mx B (p :: as) h) h' H := fun a o q =>
  (r a o q).keeps .refl (fun b u w m => by
    rcases mx_cons m with m | m
    · subst m; rw [e] at w; cases w
    · exact m) (fun _ w => w) fun _ w => w
theorem e_lst (hs : PA X es (ua X.K W gs)) : PE X (.List es pos) (un X.K W (dLst gs)) :=
  (pe_lst hs).to fun σ H Q ⟨B, as, h, ρ, Qd, Ed, rp, w, k, xx⟩ => ⟨B, as, h, ρ, _, Ed, rp, w, fun vs ds h' H' x fs q => ⟨by rw [fs.len]; exact q.1, fun p hp =>
    k p vs ds h' _ (x.trans (.new x.hr hp)) (x.back hp) upd_same (x.hr.off hp) ((x.hr.more hp).new hp) ((fs.more hp).keeps (.new hp) fun _ _ _ m => m) q.2⟩, xx⟩
end
end NL
set_option Elab.async false
set_option linter.all false
set_option maxRecDepth 100000
set_option maxHeartbeats 2300000
/-! N3: operators, comparisons, tests, truth values. -/
namespace NL
open PyProof.Rows L2 PySem PySem.Spec
/-! ### to HandS's data -/
def kPy : Key → PyData
  | .inl i => .int i
  | .inr s => .str s
mutual
def D.py : D → PyData
  | .non => .none
  | .bl b => .bool b
  | .int i => .int i
  | .str s => .str s
  | .tup xs => .tuple (D.pys xs)
  | .lst xs => .list (D.pys xs)
  | .dic ks xs => .dict ((ks.map kPy).zip (D.pys xs))
  | .scr _ => .none
  | .obj _ => .none
def D.pys : List D → List PyData
  | [] => []
  | x :: xs => D.py x :: D.pys xs
end
mutual
/-- no thing in it, no dict, no text that is too long -/
def D.ok : D → Bool
  | .obj _ => false
  | .dic _ _ => false
  | .scr _ => false
  | .str s => decide (s.length ≤ 16777216)
  | .tup xs => D.oks xs
  | .lst xs => D.oks xs
  | _ => true
def D.oks : List D → Bool
  | [] => true
  | x :: xs => D.ok x && D.oks xs
end
theorem pys_map : ∀ xs : List D, D.pys xs = xs.map D.py
  | [] => rfl
  | x :: xs => by rw [D.pys, pys_map xs]; rfl
theorem oks_all : ∀ xs : List D, D.oks xs = xs.all D.ok
  | [] => rfl
  | x :: xs => by rw [D.oks, oks_all xs]; rfl
section
variable {K : PySem.W.Frag} {M : Addr → Prop} {H : Hp}
mutual
theorem Fz.dp : ∀ {d : D} {v : V}, Fz K M H v d → d.ok = true → Dp K H v d.py
  | .non, _, .non, _ => by simp only [D.py]; exact .non
  | .bl b, _, .bl _, _ => by simp only [D.py]; exact .bl b
  | .int i, _, .int _, _ => by simp only [D.py]; exact .int i
  | .str s, _, .str _, _ => by simp only [D.py]; exact .str s
  | .obj a, _, _, k => by simp [D.ok] at k
  | .dic _ _, _, _, k => by simp [D.ok] at k
  | .scr _, _, _, k => by simp [D.ok] at k
  | .lst ds, _, .lst _ q f, k => by simp only [D.py]; exact .lst (SqL.of q) (FzL.dps f (by simpa [D.ok] using k))
  | .tup ds, _, .tup q f, k => by simp only [D.py]; exact .tup q.1 (FzL.dps f (by simpa [D.ok] using k))
theorem FzL.dps : ∀ {ds : List D} {vs : List V}, FzL K M H vs ds → D.oks ds = true → DpAll K H vs (D.pys ds)
  | [], _, .nil, _ => by simp only [D.pys]; exact .nil
  | d :: ds, _, .cons f t, k => by
    simp only [D.oks, Bool.and_eq_true] at k
    simp only [D.pys]
    exact .cons (Fz.dp f k.1) (FzL.dps t k.2)
end
theorem FzL.ofStrs : ∀ {ss : List Str} {vs : List V} {ds : List D}, FzL K M H vs ds → ds = ss.map D.str → vs = ss.map V.str
  | [], _, _, f, e => by subst e; cases f; rfl
  | s :: ss, _, _, f, e => by
    subst e
    cases f with
    | cons f t => cases f; rw [List.map_cons, FzL.ofStrs t rfl]
theorem FzL.ofBls : ∀ {bs : List Bool} {vs : List V} {ds : List D}, FzL K M H vs ds → ds = bs.map D.bl → vs = bs.map V.bl
  | [], _, _, f, e => by subst e; cases f; rfl
  | b :: bs, _, _, f, e => by
    subst e
    cases f with
    | cons f t => cases f; rw [List.map_cons, FzL.ofBls t rfl]
end

/-! ### a value when it is used: data, or a list whose shell may change later -/
inductive Ws (K : PySem.W.Frag) (M : Addr → Prop) (H : Hp) : V → D → Prop
  | z {v : V} {d : D} (f : Fz K M H v d) : Ws K M H v d
  | l {a : Addr} {vs : List V} {ds : List D} (e : H a = some (.lst vs)) (f : FzL K M H vs ds) : Ws K M H (.ref a) (.lst ds)
section
variable {K : PySem.W.Frag} {B : Addr → Prop} {as : List Addr} {h : AH} {M : Addr → Prop} {H : Hp} {v : V} {d : D} {ds : List D}
theorem Fs.ws (f : Fs K B as h H v d) : Ws K (Mx B as h) H v d := by
  cases f with
  | z f => exact .z f
  | l n e f => exact .l e f
theorem Ws.int {i : Int} (f : Ws K M H v (.int i)) : v = .int i := by
  cases f with | z f => cases f; rfl
theorem Ws.bl {b : Bool} (f : Ws K M H v (.bl b)) : v = .bl b := by
  cases f with | z f => cases f; rfl
theorem Ws.str {s : Str} (f : Ws K M H v (.str s)) : v = .str s := by
  cases f with | z f => cases f; rfl
theorem Ws.non (f : Ws K M H v .non) : v = .non := by
  cases f with | z f => cases f; rfl
theorem Ws.obj {a : Addr} (f : Ws K M H v (.obj a)) : v = .ref a := by
  cases f with | z f => cases f; rfl
theorem Ws.tup (f : Ws K M H v (.tup ds)) : ∃ a vs, v = .ref a ∧ TupAt K H a vs ∧ FzL K M H vs ds := by
  cases f with | z f => cases f with | tup q f => exact ⟨_, _, rfl, q, f⟩
theorem Ws.lst (f : Ws K M H v (.lst ds)) : ∃ a vs, v = .ref a ∧ H a = some (.lst vs) ∧ FzL K M H vs ds := by
  cases f with
  | z f => cases f with | lst n q f => exact ⟨_, _, rfl, q, f⟩
  | l e f => exact ⟨_, _, rfl, e, f⟩
theorem Ws.dp (f : Ws K M H v d) (k : d.ok = true) : Dp K H v d.py := by
  cases f with
  | z f => exact f.dp k
  | l e f => simp only [D.py]; exact .lst (SqL.of e) (f.dps (by simpa [D.ok] using k))
end
/-- a list of the heap of data, looked at -/
def look (h : AH) (d : D) (Q : D → Prop) : Prop := match d with
  | .obj a => (match h a with
    | some (.lst xs) => Q (.lst xs)
    | _ => False)
  | d => Q d
theorem look_ok {K : PySem.W.Frag} {M : Addr → Prop} {h : AH} {H : Hp} {v : V} {d : D} {Q : D → Prop} (r : HR K M h H) (f : Ws K M H v d) (w : look h d Q) : ∃ d', Ws K M H v d' ∧ Q d' := by
  unfold look at w
  split at w
  · split at w
    · rename_i a _ xs e
      obtain ⟨vs, q, fl⟩ := r _ _ e
      rw [f.obj]
      exact ⟨_, .l q fl, w⟩
    · exact w.elim
  · exact ⟨_, f, w⟩

/-- an operator by data: it may lay something frozen -/
def OpD (K : PySem.W.Frag) (r : R2) (f : D → D → (D → Prop) → Prop) : Prop := ∀ (B : Addr → Prop) (as : List Addr) (h : AH) (H : Hp) (x y : V) (dx dy : D) (Q : VK) (Qd : D → Prop), HR K (Mx B as h) h H → (∀ a, Mx B as h a → H a ≠ none) →
  Ws K (Mx B as h) H x dx → Ws K (Mx B as h) H y dy → f dx dy Qd → (∀ v d H', Go K B as h H h H' → Fz K (Mx B as h) H' v d → Qd d → Q v H') → r x y H Q
/-- .. with a truth value -/
def OpB (K : PySem.W.Frag) (r : R2) (f : D → D → (Bool → Prop) → Prop) : Prop := ∀ (M : Addr → Prop) (h : AH) (H : Hp) (x y : V) (dx dy : D) (Q : VK) (Qb : Bool → Prop), HR K M h H →
  Ws K M H x dx → Ws K M H y dy → f dx dy Qb → (∀ b, Qb b → Q (.bl b) H) → r x y H Q
/-- a call of a built-in by data -/
def CallD (K : PySem.W.Frag) (r : List V → Hp → VK → Prop) (f : List D → (D → Prop) → Prop) : Prop := ∀ (B : Addr → Prop) (as : List Addr) (h : AH) (H : Hp) (vs : List V) (ds : List D) (Q : VK) (Qd : D → Prop), HR K (Mx B as h) h H → (∀ a, Mx B as h a → H a ≠ none) →
  Paired (Ws K (Mx B as h) H) vs ds → f ds Qd → (∀ v d H', Go K B as h H h H' → Fz K (Mx B as h) H' v d → Qd d → Q v H') → r vs H Q
/-- the same over looked-at lists of the heap of data -/
def lk2 {α : Type} (f : D → D → α → Prop) (h : AH) : D → D → α → Prop := fun x y Q => look h x fun x' => look h y fun y' => f x' y' Q
def lkL (h : AH) : List D → (List D → Prop) → Prop
  | [], Q => Q []
  | d :: ds, Q => look h d fun d' => lkL h ds fun ds' => Q (d' :: ds')
theorem lkL_ok {K : PySem.W.Frag} {M : Addr → Prop} {h : AH} {H : Hp} (r : HR K M h H) : ∀ {vs : List V} {ds : List D} {Q : List D → Prop}, Paired (Ws K M H) vs ds → lkL h ds Q → ∃ ds', Paired (Ws K M H) vs ds' ∧ Q ds'
  | _, _, _, .nil, w => ⟨[], .nil, w⟩
  | _, _, _, .cons f t, w => by
    obtain ⟨d', f', w⟩ := look_ok r f w
    obtain ⟨ds', t', w⟩ := lkL_ok r t w
    exact ⟨_, .cons f' t', w⟩
section
variable {X : Cx} {W : WX} {e a b c : Expr} {es rest : List Expr} {g ga gb gc : DE} {gt gu : DT} {gs : DA} {pos : Pos} {r r' : R2}
def dBin (f : D → D → (D → Prop) → Prop) (ga gb : DE) : DE := fun ρ h Q E => ga ρ h (fun x h1 => gb ρ h1 (fun y h2 => f x y fun d => Q d h2) E) E
def dBinL (f : D → D → (D → Prop) → Prop) (ga gb : DE) : DE := fun ρ h Q E => ga ρ h (fun x h1 => gb ρ h1 (fun y h2 => lk2 f h2 x y fun d => Q d h2) E) E
def dCmp (f : D → D → (Bool → Prop) → Prop) (ga gb : DE) : DE := fun ρ h Q E => ga ρ h (fun x h1 => gb ρ h1 (fun y h2 => f x y fun k => Q (.bl k) h2) E) E
def dCmpL (f : D → D → (Bool → Prop) → Prop) (ga gb : DE) : DE := fun ρ h Q E => ga ρ h (fun x h1 => gb ρ h1 (fun y h2 => lk2 f h2 x y fun k => Q (.bl k) h2) E) E
def bCmp (f : D → D → (Bool → Prop) → Prop) (ga gb : DE) : DT := fun ρ h Q E => ga ρ h (fun x h1 => gb ρ h1 (fun y h2 => f x y fun k => Q k h2) E) E
def bCmpL (f : D → D → (Bool → Prop) → Prop) (ga gb : DE) : DT := fun ρ h Q E => ga ρ h (fun x h1 => gb ρ h1 (fun y h2 => lk2 f h2 x y fun k => Q k h2) E) E
def bChn (f f' : D → D → (Bool → Prop) → Prop) (ga gb gc : DE) : DT := fun ρ h Q E => ga ρ h (fun x h1 => gb ρ h1 (fun y h2 => f x y fun k => if k = true then gc ρ h2 (fun z h3 => f' y z fun k' => Q k' h3) E else Q false h2) E) E
def dChn (f f' : D → D → (Bool → Prop) → Prop) (ga gb gc : DE) : DE := fun ρ h Q E => bChn f f' ga gb gc ρ h (fun k h1 => Q (.bl k) h1) E
theorem both {r : R2} {σ : L2.St} {H : Hp} {Q : VK} {B : Addr → Prop} {as : List Addr} {h : AH} {ρ : Rho} {Ed : QX} {P : D → D → AH → Prop} (rp : Rep X.K B as h H σ ρ) (w : ga ρ h (fun x h1 => gb ρ h1 (fun y h2 => P x y h2) Ed) Ed) (xx : Xc X.K B as h H W σ Ed)
    (k : ∀ x y dx dy h2 H2, Go X.K B as h H h2 H2 → Fs X.K B as h2 H2 x dx → Fs X.K B as h2 H2 y dy → P dx dy h2 → r x y H2 Q) : tOp r (uw X.K W ga) (uw X.K W gb) σ H Q :=
  ⟨B, as, h, ρ, _, Ed, rp, w, fun v d h1 H1 x f q => ⟨B, as, h1, ρ, _, Ed, rp.go x, q, fun v2 d2 h2 H2 y f2 q2 => k v v2 d d2 h2 H2 (x.trans y) (f.go y) f2 q2, xx.go x⟩, xx⟩
theorem e_bin {op : Operator} {f : D → D → (D → Prop) → Prop} (ho : OpR X (binaryOp op) r) (hf : OpD X.K r f) (ha : PE X a (uw X.K W ga)) (hb : PE X b (uw X.K W gb)) : PE X (.BinOp a op b pos) (up X.K W (dBin f ga gb)) :=
  (pe_op ho ha hb).to fun σ H Q ⟨B, as, h, ρ, Qd, Ed, rp, w, k, xx⟩ => both rp w xx fun x y dx dy h2 H2 s f1 f2 p => hf B as h2 H2 x y dx dy Q _ s.hr (rp.go s).dm f1.ws f2.ws p fun v d H' z f q => k v d h2 H' (s.trans z) f q
theorem e_binL {op : Operator} {f : D → D → (D → Prop) → Prop} (ho : OpR X (binaryOp op) r) (hf : OpD X.K r f) (ha : PE X a (uw X.K W ga)) (hb : PE X b (uw X.K W gb)) : PE X (.BinOp a op b pos) (up X.K W (dBinL f ga gb)) :=
  (pe_op ho ha hb).to fun σ H Q ⟨B, as, h, ρ, Qd, Ed, rp, w, k, xx⟩ => both rp w xx fun x y dx dy h2 H2 s f1 f2 p => by
    obtain ⟨dx', g1, p⟩ := look_ok s.hr f1.ws p
    obtain ⟨dy', g2, p⟩ := look_ok s.hr f2.ws p
    exact hf B as h2 H2 x y dx' dy' Q _ s.hr (rp.go s).dm g1 g2 p fun v d H' z f q => k v d h2 H' (s.trans z) f q
theorem e_cmp {op : CmpOp} {f : D → D → (Bool → Prop) → Prop} (ho : OpR X (compareOp op) r) (hf : OpB X.K r f) (ha : PE X a (uw X.K W ga)) (hb : PE X b (uw X.K W gb)) (hm : behindInMarks op b = false := by first | exact nomark _ | rfl) : PE X (.Compare a [op] [b] pos) (up X.K W (dCmp f ga gb)) :=
  (pe_cmpR ho ha hb hm).to fun σ H Q ⟨B, as, h, ρ, Qd, Ed, rp, w, k, xx⟩ => both rp w xx fun x y dx dy h2 H2 s f1 f2 p => hf _ h2 H2 x y dx dy Q _ s.hr f1.ws f2.ws p fun b q => k _ _ h2 H2 s (.bl b) q
theorem e_cmpL {op : CmpOp} {f : D → D → (Bool → Prop) → Prop} (ho : OpR X (compareOp op) r) (hf : OpB X.K r f) (ha : PE X a (uw X.K W ga)) (hb : PE X b (uw X.K W gb)) (hm : behindInMarks op b = false := by first | exact nomark _ | rfl) : PE X (.Compare a [op] [b] pos) (up X.K W (dCmpL f ga gb)) :=
  (pe_cmpR ho ha hb hm).to fun σ H Q ⟨B, as, h, ρ, Qd, Ed, rp, w, k, xx⟩ => both rp w xx fun x y dx dy h2 H2 s f1 f2 p => by
    obtain ⟨dx', g1, p⟩ := look_ok s.hr f1.ws p
    obtain ⟨dy', g2, p⟩ := look_ok s.hr f2.ws p
    exact hf _ h2 H2 x y dx' dy' Q _ s.hr g1 g2 p fun b q => k _ _ h2 H2 s (.bl b) q
theorem t_cmp {op : CmpOp} {f : D → D → (Bool → Prop) → Prop} (ho : OpR X (compareOp op) r) (hf : OpB X.K r f) (ha : PE X a (uw X.K W ga)) (hb : PE X b (uw X.K W gb)) (hm : behindInMarks op b = false := by first | exact nomark _ | rfl) : PT X (.Compare a [op] [b] pos) (ut X.K W (bCmp f ga gb)) :=
  (pt_cmpR ho ha hb hm).to fun σ H Q ⟨B, as, h, ρ, Qd, Ed, rp, w, k, xx⟩ => both rp w xx fun x y dx dy h2 H2 s f1 f2 p => hf _ h2 H2 x y dx dy _ _ s.hr f1.ws f2.ws p fun b q => ⟨b, rfl, k b h2 H2 s q⟩
theorem t_cmpL {op : CmpOp} {f : D → D → (Bool → Prop) → Prop} (ho : OpR X (compareOp op) r) (hf : OpB X.K r f) (ha : PE X a (uw X.K W ga)) (hb : PE X b (uw X.K W gb)) (hm : behindInMarks op b = false := by first | exact nomark _ | rfl) : PT X (.Compare a [op] [b] pos) (ut X.K W (bCmpL f ga gb)) :=
  (pt_cmpR ho ha hb hm).to fun σ H Q ⟨B, as, h, ρ, Qd, Ed, rp, w, k, xx⟩ => both rp w xx fun x y dx dy h2 H2 s f1 f2 p => by
    obtain ⟨dx', g1, p⟩ := look_ok s.hr f1.ws p
    obtain ⟨dy', g2, p⟩ := look_ok s.hr f2.ws p
    exact hf _ h2 H2 x y dx' dy' _ _ s.hr g1 g2 p fun b q => ⟨b, rfl, k b h2 H2 s q⟩
theorem chn {σ : L2.St} {H : Hp} {Q : VK} {B : Addr → Prop} {as : List Addr} {h : AH} {ρ : Rho} {Qb : Bool → AH → Prop} {Ed : QX} {f f' : D → D → (Bool → Prop) → Prop} (hf : OpB X.K r f) (hf' : OpB X.K r' f') (rp : Rep X.K B as h H σ ρ) (w : bChn f f' ga gb gc ρ h Qb Ed)
    (k : ∀ b h' H', Go X.K B as h H h' H' → Qb b h' → Q (.bl b) H') (xx : Xc X.K B as h H W σ Ed) : tChain r r' (uw X.K W ga) (uw X.K W gb) (uw X.K W gc) σ H Q :=
  ⟨B, as, h, ρ, _, Ed, rp, w, fun v d h1 H1 x f1 q => ⟨B, as, h1, ρ, _, Ed, rp.go x, q, fun v2 d2 h2 H2 y f2 q2 => hf _ h2 H2 v v2 d d2 _ _ (x.trans y).hr (f1.go y).ws f2.ws q2 fun b q3 => ⟨b, rfl, by
    cases b with
    | false => exact k false h2 H2 (x.trans y) q3
    | true => exact ⟨B, as, h2, ρ, _, Ed, rp.go (x.trans y), q3, fun v4 d4 h4 H4 z f4 q4 => hf' _ h4 H4 v2 v4 d2 d4 _ _ z.hr (f2.go z).ws f4.ws q4 fun b5 q5 => k b5 h4 H4 ((x.trans y).trans z) q5, xx.go (x.trans y)⟩⟩, xx.go x⟩, xx⟩
theorem e_chn {op op' : CmpOp} {f f' : D → D → (Bool → Prop) → Prop} (ho : OpR X (compareOp op) r) (ho' : OpR X (compareOp op') r') (hf : OpB X.K r f) (hf' : OpB X.K r' f') (ha : PE X a (uw X.K W ga)) (hb : PE X b (uw X.K W gb)) (hc : PE X c (uw X.K W gc)) (hm : lastMarks [op, op'] [b, c] = false := by with_unfolding_all rfl) :
    PE X (.Compare a [op, op'] [b, c] pos) (up X.K W (dChn f f' ga gb gc)) :=
  (pe_chain ho ho' ha hb hc hm).to fun σ H Q ⟨B, as, h, ρ, Qd, Ed, rp, w, k, xx⟩ => chn hf hf' rp w (fun b h' H' z q => k _ _ h' H' z (.bl b) q) xx
theorem t_chn {op op' : CmpOp} {f f' : D → D → (Bool → Prop) → Prop} (ho : OpR X (compareOp op) r) (ho' : OpR X (compareOp op') r') (hf : OpB X.K r f) (hf' : OpB X.K r' f') (ha : PE X a (uw X.K W ga)) (hb : PE X b (uw X.K W gb)) (hc : PE X c (uw X.K W gc)) (hm : lastMarks [op, op'] [b, c] = false := by with_unfolding_all rfl) :
    PT X (.Compare a [op, op'] [b, c] pos) (ut X.K W (bChn f f' ga gb gc)) :=
  (pt_chain ho ho' ha hb hc hm).to fun σ H Q ⟨B, as, h, ρ, Qd, Ed, rp, w, k, xx⟩ => chn hf hf' rp w (fun b h' H' z q => ⟨b, rfl, k b h' H' z q⟩) xx

/-! ### tests and truth values -/
def bVal (g : DE) : DT := fun ρ h Q E => g ρ h (fun d h1 => match d with
  | .bl b => Q b h1
  | _ => False) E
theorem t_val (r : PE X e (uw X.K W g)) (he : ∀ whole, isTrue e X.env whole = (do let v ← whole; standAt e.pos; holding [v] (truthy v)) := by intro _; rfl) : PT X e (ut X.K W (bVal g)) :=
  (pt_val r he).to fun σ H Q ⟨B, as, h, ρ, Qd, Ed, rp, w, k, xx⟩ => ⟨B, as, h, ρ, _, Ed, rp, w, fun v d h' H' x f q => by
    cases d with
    | bl b => exact ⟨b, f.bl, k b h' H' x q⟩
    | _ => exact q.elim, xx⟩
def bAnd (gt gu : DT) : DT := fun ρ h Q E => gt ρ h (fun b h1 => if b = true then gu ρ h1 Q E else Q false h1) E
def bOr (gt gu : DT) : DT := fun ρ h Q E => gt ρ h (fun b h1 => if b = true then Q true h1 else gu ρ h1 Q E) E
def bNot (gt : DT) : DT := fun ρ h Q E => gt ρ h (fun b h1 => Q (!b) h1) E
theorem w_and1 (ha : PT X a (ut X.K W gt)) : PW X (.BoolOp .And [a] pos) (ut X.K W gt) := pw_and1 ha
theorem w_or1 (ha : PT X a (ut X.K W gt)) : PW X (.BoolOp .Or [a] pos) (ut X.K W gt) := pw_or1 ha
theorem w_and (ha : PT X a (ut X.K W gt)) (hb : PW X (.BoolOp .And (b :: rest) pos) (ut X.K W gu)) : PW X (.BoolOp .And (a :: b :: rest) pos) (ut X.K W (bAnd gt gu)) :=
  (pw_and ha hb).to fun σ H Q ⟨B, as, h, ρ, Qd, Ed, rp, w, k, xx⟩ => ⟨B, as, h, ρ, _, Ed, rp, w, fun b h1 H' x q => by
    cases b with
    | true => exact ⟨B, as, h1, ρ, _, Ed, rp.go x, q, fun b h2 H2 y q2 => k b h2 H2 (x.trans y) q2, xx.go x⟩
    | false => exact k false h1 H' x q, xx⟩
theorem w_or (ha : PT X a (ut X.K W gt)) (hb : PW X (.BoolOp .Or (b :: rest) pos) (ut X.K W gu)) : PW X (.BoolOp .Or (a :: b :: rest) pos) (ut X.K W (bOr gt gu)) :=
  (pw_or ha hb).to fun σ H Q ⟨B, as, h, ρ, Qd, Ed, rp, w, k, xx⟩ => ⟨B, as, h, ρ, _, Ed, rp, w, fun b h1 H' x q => by
    cases b with
    | false => exact ⟨B, as, h1, ρ, _, Ed, rp.go x, q, fun b h2 H2 y q2 => k b h2 H2 (x.trans y) q2, xx.go x⟩
    | true => exact k true h1 H' x q, xx⟩
theorem t_not (ha : PT X a (ut X.K W gt)) : PT X (.UnaryOp .Not a pos) (ut X.K W (bNot gt)) :=
  (pt_not ha).to fun σ H Q ⟨B, as, h, ρ, Qd, Ed, rp, w, k, xx⟩ => ⟨B, as, h, ρ, _, Ed, rp, w, fun b h1 H' x q => k (!b) h1 H' x q, xx⟩
/-- and, or, not as values; all but the last are truth values -/
def dAnd (ga gb : DE) : DE := fun ρ h Q E => ga ρ h (fun d h1 => match d with
  | .bl b => if b = true then gb ρ h1 Q E else Q (.bl false) h1
  | _ => False) E
def dOr (ga gb : DE) : DE := fun ρ h Q E => ga ρ h (fun d h1 => match d with
  | .bl b => if b = true then Q (.bl true) h1 else gb ρ h1 Q E
  | _ => False) E
def dNot (ga : DE) : DE := fun ρ h Q E => ga ρ h (fun d h1 => match d with
  | .bl b => Q (.bl (!b)) h1
  | _ => False) E
theorem e_one {op} (r : PE X a (up X.K W g)) : PE X (.BoolOp op [a] pos) (up X.K W g) := pe_one r
theorem e_and (ha : PE X a (uw X.K W ga)) (hb : PE X (.BoolOp .And (b :: rest) pos) (up X.K W gb)) : PE X (.BoolOp .And (a :: b :: rest) pos) (up X.K W (dAnd ga gb)) :=
  (pe_and ha hb).to fun σ H Q ⟨B, as, h, ρ, Qd, Ed, rp, w, k, xx⟩ => ⟨B, as, h, ρ, _, Ed, rp, w, fun v d h1 H' x f q => by
    cases d with
    | bl b =>
      refine ⟨b, f.bl, ?_⟩
      cases b with
      | true => exact ⟨B, as, h1, ρ, _, Ed, rp.go x, q, k.go x, xx.go x⟩
      | false => exact k _ _ h1 H' x (.bl false) q
    | _ => exact q.elim, xx⟩
theorem e_or (ha : PE X a (uw X.K W ga)) (hb : PE X (.BoolOp .Or (b :: rest) pos) (up X.K W gb)) : PE X (.BoolOp .Or (a :: b :: rest) pos) (up X.K W (dOr ga gb)) :=
  (pe_or ha hb).to fun σ H Q ⟨B, as, h, ρ, Qd, Ed, rp, w, k, xx⟩ => ⟨B, as, h, ρ, _, Ed, rp, w, fun v d h1 H' x f q => by
    cases d with
    | bl b =>
      refine ⟨b, f.bl, ?_⟩
      cases b with
      | false => exact ⟨B, as, h1, ρ, _, Ed, rp.go x, q, k.go x, xx.go x⟩
      | true => exact k _ _ h1 H' x (.bl true) q
    | _ => exact q.elim, xx⟩
theorem e_not (ha : PE X a (uw X.K W ga)) : PE X (.UnaryOp .Not a pos) (up X.K W (dNot ga)) :=
  (pe_not ha).to fun σ H Q ⟨B, as, h, ρ, Qd, Ed, rp, w, k, xx⟩ => ⟨B, as, h, ρ, _, Ed, rp, w, fun v d h1 H' x f q => by
    cases d with
    | bl b => exact ⟨b, f.bl, k _ _ h1 H' x (.bl _) q⟩
    | _ => exact q.elim, xx⟩
def dIf (gt : DT) (ga gb : DE) : DE := fun ρ h Q E => gt ρ h (fun b h1 => if b = true then ga ρ h1 Q E else gb ρ h1 Q E) E
theorem e_if (hc : PT X c (ut X.K W gt)) (ha : PE X a (up X.K W ga)) (hb : PE X b (up X.K W gb)) : PE X (.IfExp c a b pos) (up X.K W (dIf gt ga gb)) :=
  (pe_ifExp hc ha hb).to fun σ H Q ⟨B, as, h, ρ, Qd, Ed, rp, w, k, xx⟩ => ⟨B, as, h, ρ, _, Ed, rp, w, fun b h1 H' x q => by
    cases b with
    | true => exact ⟨B, as, h1, ρ, _, Ed, rp.go x, q, k.go x, xx.go x⟩
    | false => exact ⟨B, as, h1, ρ, _, Ed, rp.go x, q, k.go x, xx.go x⟩, xx⟩
end
end NL
set_option Elab.async false
set_option linter.all false
set_option maxRecDepth 100000
set_option maxHeartbeats 2300000
/-! N4: what the operators do with data. -/
namespace NL
open PyProof.Rows L2 PySem PySem.Spec
section
variable {X : Cx}
/-- t + u: one of them, or a new tuple that bears no own dict -/
def rTupAdd (K : PySem.W.Frag) : R2 := fun x y H Q => ∃ a b xs ys, x = .ref a ∧ y = .ref b ∧ SqT K H a xs ∧ SqT K H b ys ∧ xs.length + ys.length ≤ sizeLine ∧
  (xs = [] → Q (.ref b) H) ∧ (xs ≠ [] → ys = [] → Q (.ref a) H) ∧ (xs ≠ [] → ys ≠ [] → FreshT H (xs ++ ys) Q)
theorem op_tupAdd : OpR X (binaryOp .Add) (rTupAdd X.K) := by
  rintro pn st sg H x y v u Q J rx ry ⟨a, b, xs, ys, rfl, rfl, ta, tb, small, leftNil, rightNil, new⟩
  cases rx
  cases ry
  obtain ⟨us, ru, pa, _⟩ := J.tuple ta
  obtain ⟨ws, rw', pb, _⟩ := J.tuple tb
  rcases Classical.em (xs = []) with hx | hx
  · cases hx
    cases ru
    exact L2.cat_tup0 pa pb ⟨.ref b, H, J, rfl, leftNil rfl⟩
  have nu : us ≠ [] := fun z => hx (ru.nil_iff.mp z)
  have le : us.length + ws.length ≤ sizeLine := by rw [← ru.length, ← rw'.length]; exact small
  refine HT.cat_tup pa pb nu (fun z => ⟨.ref a, H, J, rfl, rightNil hx (rw'.nil_iff.mp z)⟩) (fun z => ?_) le
  have lay := J.laid (t' := st.toks) (o := .frz { cls := .type "tuple", data := .seq (us ++ ws).toArray } (.tup (xs ++ ys))) (fun c w q => Heap.get?_push_of_some _ q) (Nat.le_refl _)
    ⟨Heap.get?_push_size _ rfl, by rw [List.length_append]; exact small, _, ru.append rw', IsTup.new _ _⟩
  exact ⟨.ref st.heap.objs.size, _, lay, rfl, new hx (fun w => z (rw'.nil_iff.mpr w)) _ _ (J.hok.fresh (Nat.le_refl _)) rfl⟩
/-- + -/
def fAdd : D → D → (D → Prop) → Prop
  | .int i, .int j, Q => Q (.int (i + j))
  | .str s, .str t, Q => s.length + t.length ≤ sizeLine ∧ Q (.str (s ++ t))
  | .tup xs, .tup ys, Q => xs.length + ys.length ≤ sizeLine ∧ Q (.tup (xs ++ ys))
  | .lst xs, .lst ys, Q => xs.length + ys.length ≤ sizeLine ∧ Q (.lst (xs ++ ys))
  | _, _, _ => False
def rPlus (K : PySem.W.Frag) : R2 := fun x y H Q => (∃ i j, x = .int i ∧ y = .int j ∧ Q (.int (i + j)) H) ∨ (∃ i j, x = .str i ∧ y = .str j ∧ i.length + j.length ≤ sizeLine ∧ Q (.str (i ++ j)) H) ∨ rTupAdd K x y H Q ∨ rCat x y H Q
theorem op_plus : OpR X (binaryOp .Add) (rPlus X.K) := OpR.or op_add (OpR.or op_add_str (OpR.or op_tupAdd op_cat))
theorem FzL.newly {K : PySem.W.Frag} {B : Addr → Prop} {as : List Addr} {h : AH} {H : Hp} {vs : List V} {ds : List D} {p : Addr} {o : HO} (f : FzL K (Mx B as h) H vs ds) (e : H p = none) : FzL K (Mx B as h) (upd H p o) vs ds := f.keeps (.new e) fun _ _ _ m => m
theorem od_add {K : PySem.W.Frag} : OpD K (rPlus K) fAdd := by
  intro B as h H x y dx dy Q Qd hr dm fx fy w k
  cases dx with
  | int i => cases dy with
    | int i' => rw [fx.int, fy.int]; exact .inl ⟨i, i', rfl, rfl, k _ _ H (.refl hr) (.int _) w⟩
    | _ => exact w.elim
  | str s => cases dy with
    | str s' => rw [fx.str, fy.str]; exact .inr (.inl ⟨s, s', rfl, rfl, w.1, k _ _ H (.refl hr) (.str _) w.2⟩)
    | _ => exact w.elim
  | tup xs => cases dy with
    | tup ys =>
      obtain ⟨p, vs, rfl, h1, f1⟩ := fx.tup
      obtain ⟨q, ws, rfl, h2, f2⟩ := fy.tup
      obtain ⟨w1, w2⟩ := w
      refine .inr (.inr (.inl ⟨p, q, vs, ws, rfl, rfl, h1.1, h2.1, by rw [f1.len, f2.len]; exact w1, fun e => ?_, fun _ e => ?_, fun _ _ t o ht hd => ?_⟩))
      · subst e
        cases f1
        exact k _ _ H (.refl hr) (.tup h2 f2) w2
      · subst e
        cases f2
        rw [List.append_nil] at w2
        exact k _ _ H (.refl hr) (.tup h1 f1) w2
      · exact k _ _ _ (.new hr ht) (.tup (.frz upd_same hd) ((f1.append f2).newly ht)) w2
    | _ => exact w.elim
  | lst xs => cases dy with
    | lst ys =>
      obtain ⟨p, vs, rfl, h1, f1⟩ := fx.lst
      obtain ⟨q, ws, rfl, h2, f2⟩ := fy.lst
      obtain ⟨w1, w2⟩ := w
      exact .inr (.inr (.inr ⟨p, q, vs, ws, rfl, rfl, h1, h2, by rw [f1.len, f2.len]; exact w1, fun t ht => k _ _ _ (.new hr ht) (.lst (fun m => dm _ m ht) upd_same ((f1.append f2).newly ht)) w2⟩))
    | _ => exact w.elim
  | _ => cases dy <;> exact w.elim
/-- ints -/
def fI (C : Int → Int → Prop) (f : Int → Int → Int) : D → D → (D → Prop) → Prop
  | .int i, .int j, Q => C i j ∧ Q (.int (f i j))
  | _, _, _ => False
theorem od_I {K : PySem.W.Frag} {C : Int → Int → Prop} {f : Int → Int → Int} : OpD K (rI C fun i j => .int (f i j)) (fI C f) := by
  intro B as h H x y dx dy Q Qd hr dm fx fy w k
  cases dx with
  | int i => cases dy with
    | int i' => rw [fx.int, fy.int]; exact ⟨i, i', rfl, rfl, w.1, k _ _ H (.refl hr) (.int _) w.2⟩
    | _ => exact w.elim
  | _ => cases dy <;> exact w.elim
def fI0 (f : Int → Int → Int) : D → D → (D → Prop) → Prop
  | .int i, .int j, Q => Q (.int (f i j))
  | _, _, _ => False
theorem od_I0 {K : PySem.W.Frag} {f : Int → Int → Int} : OpD K (rI0 fun i j => .int (f i j)) (fI0 f) := by
  intro B as h H x y dx dy Q Qd hr dm fx fy w k
  cases dx with
  | int i => cases dy with
    | int i' => rw [fx.int, fy.int]; exact ⟨i, i', rfl, rfl, k _ _ H (.refl hr) (.int _) w⟩
    | _ => exact w.elim
  | _ => cases dy <;> exact w.elim
/-- == and != of data -/
def good (d : D) : Prop := d.ok = true ∧ SeqAt.shaped d.py = true
def eqD (x y : D) : Bool := PyData.eqv x.py y.py
def fEq : D → D → (Bool → Prop) → Prop := fun x y Q => good x ∧ good y ∧ Q (eqD x y)
def fNe : D → D → (Bool → Prop) → Prop := fun x y Q => good x ∧ good y ∧ Q (!eqD x y)
theorem ob_eq {K : PySem.W.Frag} : OpB K (rEqD K) fEq := fun M h H x y dx dy Q Qb hr fx fy w k => ⟨dx.py, dy.py, fx.dp w.1.1, fy.dp w.2.1.1, w.1.2, w.2.1.2, k _ w.2.2⟩
theorem ob_ne {K : PySem.W.Frag} : OpB K (rNeD K) fNe := fun M h H x y dx dy Q Qb hr fx fy w k => ⟨dx.py, dy.py, fx.dp w.1.1, fy.dp w.2.1.1, w.1.2, w.2.1.2, k _ w.2.2⟩
/-- order of ints, of texts -/
def fOrd (p : Int → Int → Bool) (q : Str → Str → Bool) : D → D → (Bool → Prop) → Prop
  | .int i, .int j, Q => Q (p i j)
  | .str s, .str t, Q => Q (q s t)
  | _, _, _ => False
def rOrd (p : Int → Int → Bool) (q : Str → Str → Bool) : R2 := fun x y H Q => rI0 (fun i j => .bl (p i j)) x y H Q ∨ ∃ i j, x = .str i ∧ y = .str j ∧ Q (.bl (q i j)) H
theorem ob_ord {K : PySem.W.Frag} {p : Int → Int → Bool} {q : Str → Str → Bool} : OpB K (rOrd p q) (fOrd p q) := by
  intro M h H x y dx dy Q Qb hr fx fy w k
  cases dx with
  | int i => cases dy with
    | int i' => rw [fx.int, fy.int]; exact .inl ⟨i, i', rfl, rfl, k _ w⟩
    | _ => exact w.elim
  | str i => cases dy with
    | str i' => rw [fx.str, fy.str]; exact .inr ⟨i, i', rfl, rfl, k _ w⟩
    | _ => exact w.elim
  | _ => cases dy <;> exact w.elim
def ltS (s t : Str) : Bool := decide (s.cps.toList < t.cps.toList)
abbrev fLt := fOrd (fun i j => decide (i < j)) ltS
abbrev fLe := fOrd (fun i j => decide (i ≤ j)) fun s t => !ltS t s
abbrev fGt := fOrd (fun i j => decide (j < i)) fun s t => ltS t s
abbrev fGe := fOrd (fun i j => decide (j ≤ i)) fun s t => !ltS s t
theorem o_lt : OpR X (compareOp .Lt) (rOrd (fun i j => decide (i < j)) ltS) := OpR.or op_lt op_lt_str
theorem o_le : OpR X (compareOp .LtE) (rOrd (fun i j => decide (i ≤ j)) fun s t => !ltS t s) := OpR.or op_le op_le_str
theorem o_gt : OpR X (compareOp .Gt) (rOrd (fun i j => decide (j < i)) fun s t => ltS t s) := OpR.or op_gt op_gt_str
theorem o_ge : OpR X (compareOp .GtE) (rOrd (fun i j => decide (j ≤ i)) fun s t => !ltS s t) := OpR.or op_ge op_ge_str
/-- in: a list, a tuple of data; one sign in a text -/
def sgn (s : Str) : Option Nat := match s.cps.toList with
  | [c] => some c
  | _ => none
theorem sgn_eq {s : Str} {c : Nat} (w : sgn s = some c) : s = ⟨#[c]⟩ := by
  unfold sgn at w
  split at w
  · rename_i c' e
    cases w
    obtain ⟨l⟩ := s
    congr
    exact Array.toList_inj.mp e
  · cases w
def fIn (neg : Bool) : D → D → (Bool → Prop) → Prop
  | x, .lst ys, Q => good x ∧ good (.lst ys) ∧ Q (ys.any (fun z => eqD z x) != neg)
  | x, .tup ys, Q => good x ∧ good (.tup ys) ∧ Q (ys.any (fun z => eqD z x) != neg)
  | .str s, .str t, Q => match sgn s with
    | some c => Q (decide (c ∈ t.cps.toList) != neg)
    | none => False
  | _, _, _ => False
/-- x in t, a tuple of data -/
def rInTup (K : PySem.W.Frag) (neg : Bool) : R2 := fun x y H Q => ∃ d ds, Dp K H x d ∧ Dp K H y (.tuple ds) ∧ SeqAt.shaped d = true ∧ SeqAt.shaped (.tuple ds) = true ∧ Q (.bl ((ds.any fun z => PyData.eqv z d) != neg)) H
theorem o_inTup (hu : X.A.units + 65 < cLine) : OpR X (compareOp .In) (rInTup X.K false) := by
  rintro pn st sg H x y v u Q J rx ry ⟨d, ds, hx, hy, sx, sy, q⟩
  have ⟨as, reads1⟩ := Dp.reads J _ _ _ hx rx
  have ⟨bs, reads2⟩ := Dp.reads J _ _ _ hy ry
  refine SeqAt.in_tuple_reads reads2 reads1 (SeqAt.canLay_of_shaped sy) (SeqAt.canLay_of_shaped sx) (room_in_shaped sx hu) ?_
  rw [Bool.bne_false] at q
  exact ⟨.bl _, H, J, rfl, q⟩
theorem o_offTup (hu : X.A.units + 65 < cLine) : OpR X (compareOp .NotIn) (rInTup X.K true) := by
  rintro pn st sg H x y v u Q J rx ry ⟨d, ds, hx, hy, sx, sy, q⟩
  have ⟨as, reads1⟩ := Dp.reads J _ _ _ hx rx
  have ⟨bs, reads2⟩ := Dp.reads J _ _ _ hy ry
  refine SeqAt.notIn_tuple_reads reads2 reads1 (SeqAt.canLay_of_shaped sy) (SeqAt.canLay_of_shaped sx) (room_in_shaped sx hu) ?_
  rw [Bool.bne_true] at q
  exact ⟨.bl _, H, J, rfl, q⟩
def rInAny (K : PySem.W.Frag) : R2 := fun x y H Q => rInD K x y H Q ∨ rInTup K false x y H Q ∨ ∃ (c : Nat) (z : Str), x = .str ⟨#[c]⟩ ∧ y = .str z ∧ Q (.bl (decide (c ∈ z.cps.toList))) H
def rOffAny (K : PySem.W.Frag) : R2 := fun x y H Q => rNotInD K x y H Q ∨ rInTup K true x y H Q ∨ ∃ (c : Nat) (z : Str), x = .str ⟨#[c]⟩ ∧ y = .str z ∧ Q (.bl (!decide (c ∈ z.cps.toList))) H
theorem o_in (hu : X.A.units + 65 < cLine) : OpR X (compareOp .In) (rInAny X.K) := OpR.or (op_inD hu) (OpR.or (o_inTup hu) op_in_sign)
theorem o_off (hu : X.A.units + 65 < cLine) : OpR X (compareOp .NotIn) (rOffAny X.K) := OpR.or (op_notInD hu) (OpR.or (o_offTup hu) op_notIn_sign)
theorem any_py (x : D) (ys : List D) : (D.pys ys).any (fun z => PyData.eqv z x.py) = ys.any (fun z => eqD z x) := by
  rw [pys_map, List.any_map]; rfl
theorem ob_in {K : PySem.W.Frag} : OpB K (rInAny K) (fIn false) := by
  intro M h H x y dx dy Q Qb hr fx fy w k
  cases dy with
  | lst ys =>
    have ⟨g1, g2, w3⟩ : good dx ∧ good (.lst ys) ∧ Qb (ys.any (fun z => eqD z dx) != false) := by cases dx <;> exact w
    have h2 := fy.dp g2.1
    have s2 := g2.2
    simp only [D.py] at h2 s2
    refine .inl ⟨dx.py, D.pys ys, fx.dp g1.1, h2, g1.2, s2, ?_⟩
    rw [any_py]
    exact k _ (by simpa using w3)
  | tup ys =>
    have ⟨g1, g2, w3⟩ : good dx ∧ good (.tup ys) ∧ Qb (ys.any (fun z => eqD z dx) != false) := by cases dx <;> exact w
    have h2 := fy.dp g2.1
    have s2 := g2.2
    simp only [D.py] at h2 s2
    refine .inr (.inl ⟨dx.py, D.pys ys, fx.dp g1.1, h2, g1.2, s2, ?_⟩)
    rw [any_py]
    exact k _ w3
  | str t => cases dx with
    | str s =>
      have w' : (match sgn s with | some c => Qb (decide (c ∈ t.cps.toList) != false) | none => False) := w
      cases e : sgn s with
      | none => rw [e] at w'; exact w'.elim
      | some c =>
        rw [e] at w'
        rw [fx.str, fy.str, sgn_eq e]
        exact .inr (.inr ⟨c, t, rfl, rfl, k _ (by simpa using w')⟩)
    | _ => exact w.elim
  | _ => cases dx <;> exact w.elim
theorem ob_off {K : PySem.W.Frag} : OpB K (rOffAny K) (fIn true) := by
  intro M h H x y dx dy Q Qb hr fx fy w k
  cases dy with
  | lst ys =>
    have ⟨g1, g2, w3⟩ : good dx ∧ good (.lst ys) ∧ Qb (ys.any (fun z => eqD z dx) != true) := by cases dx <;> exact w
    have h2 := fy.dp g2.1
    have s2 := g2.2
    simp only [D.py] at h2 s2
    refine .inl ⟨dx.py, D.pys ys, fx.dp g1.1, h2, g1.2, s2, ?_⟩
    rw [any_py]
    exact k _ (by simpa using w3)
  | tup ys =>
    have ⟨g1, g2, w3⟩ : good dx ∧ good (.tup ys) ∧ Qb (ys.any (fun z => eqD z dx) != true) := by cases dx <;> exact w
    have h2 := fy.dp g2.1
    have s2 := g2.2
    simp only [D.py] at h2 s2
    refine .inr (.inl ⟨dx.py, D.pys ys, fx.dp g1.1, h2, g1.2, s2, ?_⟩)
    rw [any_py]
    exact k _ w3
  | str t => cases dx with
    | str s =>
      have w' : (match sgn s with | some c => Qb (decide (c ∈ t.cps.toList) != true) | none => False) := w
      cases e : sgn s with
      | none => rw [e] at w'; exact w'.elim
      | some c =>
        rw [e] at w'
        rw [fx.str, fy.str, sgn_eq e]
        exact .inr (.inr ⟨c, t, rfl, rfl, k _ (by simpa using w')⟩)
    | _ => exact w.elim
  | _ => cases dx <;> exact w.elim
/-- is None -/
def isN : D → Bool
  | .non => true
  | _ => false
theorem ws_non {K : PySem.W.Frag} {M : Addr → Prop} {H : Hp} {v : V} {d : D} (f : Ws K M H v d) : decide (v = .non) = isN d := by
  cases f with
  | z f => cases f <;> rfl
  | l e f => rfl
def rIsN : R2 := fun x y H Q => y = V.non ∧ Q (V.bl (decide (x = V.non))) H
def rNotN : R2 := fun x y H Q => y = V.non ∧ Q (V.bl (!decide (x = V.non))) H
def fIs : D → D → (Bool → Prop) → Prop
  | x, .non, Q => Q (isN x)
  | _, _, _ => False
def fIsNot : D → D → (Bool → Prop) → Prop
  | x, .non, Q => Q (!isN x)
  | _, _, _ => False
theorem o_is : OpR X (compareOp .Is) rIsN := op_isN
theorem o_isnt : OpR X (compareOp .IsNot) rNotN := op_notN
theorem ob_is {K : PySem.W.Frag} : OpB K rIsN fIs := by
  intro M h H x y dx dy Q Qb hr fx fy w k
  cases dy with
  | non =>
    have w' : Qb (isN dx) := by cases dx <;> exact w
    refine ⟨fy.non, ?_⟩
    rw [ws_non fx]
    exact k _ w'
  | _ => cases dx <;> exact w.elim
theorem ob_isnt {K : PySem.W.Frag} : OpB K rNotN fIsNot := by
  intro M h H x y dx dy Q Qb hr fx fy w k
  cases dy with
  | non =>
    have w' : Qb (!isN dx) := by cases dx <;> exact w
    refine ⟨fy.non, ?_⟩
    rw [ws_non fx]
    exact k _ w'
  | _ => cases dx <;> exact w.elim
end

/-! ### subscripts, slices -/
def ofO {α : Type} (o : Option α) (Q : α → Prop) : Prop := match o with
  | some x => Q x
  | none => False
theorem ofO_ok {α : Type} {o : Option α} {Q : α → Prop} (w : ofO o Q) : ∃ x, o = some x ∧ Q x := by
  cases o with
  | some x => exact ⟨x, rfl, w⟩
  | none => exact w.elim
def fIx : D → D → (D → Prop) → Prop
  | .tup xs, .int i, Q => ofO (atI xs i) Q
  | .lst xs, .int i, Q => ofO (atI xs i) Q
  | .str s, .int i, Q => s.length ≤ sizeLine ∧ ofO (atI s.cps.toList i) fun c => Q (.str ⟨#[c]⟩)
  | _, _, _ => False
theorem FzL.atI {K : PySem.W.Frag} {M : Addr → Prop} {H : Hp} {vs : List V} {ds : List D} (f : FzL K M H vs ds) {i : Int} {d : D} (w : L2.atI ds i = some d) : ∃ v, L2.atI vs i = some v ∧ Fz K M H v d := by
  unfold L2.atI at w ⊢
  rw [f.len]
  cases e : ixN ds.length i with
  | none =>
    rw [e] at w
    cases w
  | some j =>
    rw [e] at w
    exact f.get (i := j) w
theorem od_ix {K : PySem.W.Frag} : OpD K (rIx K) fIx := by
  intro B as h H x y dx dy Q Qd hr dm fx fy w k
  cases dx with
  | tup xs => cases dy with
    | int i =>
      obtain ⟨p, vs, rfl, h1, f1⟩ := fx.tup
      obtain ⟨d, e, q⟩ := ofO_ok (show ofO (atI xs i) Qd from w)
      obtain ⟨v, e2, f2⟩ := f1.atI e
      exact .inr (.inl ⟨p, vs, i, v, rfl, fy.int, h1.1, e2, k _ _ H (.refl hr) f2 q⟩)
    | _ => exact w.elim
  | lst xs => cases dy with
    | int i =>
      obtain ⟨p, vs, rfl, h1, f1⟩ := fx.lst
      obtain ⟨d, e, q⟩ := ofO_ok (show ofO (atI xs i) Qd from w)
      obtain ⟨v, e2, f2⟩ := f1.atI e
      exact .inl ⟨p, vs, i, v, rfl, fy.int, SqL.of h1, e2, k _ _ H (.refl hr) f2 q⟩
    | _ => exact w.elim
  | str s => cases dy with
    | int i =>
      obtain ⟨w1, w2⟩ := (show s.length ≤ sizeLine ∧ ofO (atI s.cps.toList i) (fun c => Qd (.str ⟨#[c]⟩)) from w)
      obtain ⟨c, e, q⟩ := ofO_ok w2
      exact .inr (.inr ⟨s, i, c, fx.str, fy.int, w1, e, k _ _ H (.refl hr) (.str _) q⟩)
    | _ => exact w.elim
  | _ => cases dy <;> exact w.elim
section
variable {X : Cx} {W : WX} {e a b c : Expr} {es rest : List Expr} {g ga gb gc : DE} {gt gu : DT} {gs : DA} {pos : Pos}
theorem e_ix (ha : PE X a (uw X.K W ga)) (hb : PE X b (uw X.K W gb)) (hs : PlainIx b := by intro _ _; rfl) : PE X (.Subscript a b pos) (up X.K W (dBin fIx ga gb)) :=
  (pe_ix ix_seq ha hb hs).to fun σ H Q ⟨B, as, h, ρ, Qd, Ed, rp, w, k, xx⟩ => both rp w xx fun x y dx dy h2 H2 s f1 f2 p => od_ix B as h2 H2 x y dx dy Q _ s.hr (rp.go s).dm f1.ws f2.ws p fun v d H' z f q => k v d h2 H' (s.trans z) f q
theorem e_ixL (ha : PE X a (uw X.K W ga)) (hb : PE X b (uw X.K W gb)) (hs : PlainIx b := by intro _ _; rfl) : PE X (.Subscript a b pos) (up X.K W (dBinL fIx ga gb)) :=
  (pe_ix ix_seq ha hb hs).to fun σ H Q ⟨B, as, h, ρ, Qd, Ed, rp, w, k, xx⟩ => both rp w xx fun x y dx dy h2 H2 s f1 f2 p => by
    obtain ⟨dx', g1, p⟩ := look_ok s.hr f1.ws p
    obtain ⟨dy', g2, p⟩ := look_ok s.hr f2.ws p
    exact od_ix B as h2 H2 x y dx' dy' Q _ s.hr (rp.go s).dm g1 g2 p fun v d H' z f q => k v d h2 H' (s.trans z) f q
/-- a part of a slice -/
abbrev DO := Rho → AH → (Option Int → AH → Prop) → QX → Prop
def uo (K : PySem.W.Frag) (W : WX) (g : DO) : TO := fun σ H Q => ∃ B as h ρ Qd Ed, Rep K B as h H σ ρ ∧ g ρ h Qd Ed ∧ (∀ o h' H', Go K B as h H h' H' → Qd o h' → Q o H') ∧ Xc K B as h H W σ Ed
def oNo : DO := fun _ h Q _ => Q none h
def oIs (g : DE) : DO := fun ρ h Q E => g ρ h (fun d h1 => match d with
  | .int i => Q (some i) h1
  | _ => False) E
theorem p_no : PO X none (uo X.K W oNo) := ⟨fun pins s σ H Q I ⟨B, as, h, ρ, Qd, Ed, rp, w, k, _⟩ => po_none.run pins s σ H Q I (k none h H (.refl rp.hr) w)⟩
theorem p_is (r : PE X e (uw X.K W g)) : PO X (some e) (uo X.K W (oIs g)) := ⟨fun pins s σ H Q I ⟨B, as, h, ρ, Qd, Ed, rp, w, k, xx⟩ => (po_some r).run pins s σ H Q I ⟨B, as, h, ρ, _, Ed, rp, w, fun v d h' H' x f q => by
  cases d with
  | int i => exact ⟨i, f.int, k _ h' H' x q⟩
  | _ => exact q.elim, xx⟩⟩
def cutD (xs : List D) (lo hi : Option Int) : List D := (xs.drop (HT.sIx xs.length 0 lo)).take (HT.sIx xs.length xs.length hi - HT.sIx xs.length 0 lo)
theorem FzL.cut {K : PySem.W.Frag} {M : Addr → Prop} {H : Hp} {vs : List V} {ds : List D} (f : FzL K M H vs ds) (lo hi : Option Int) : FzL K M H (cutV vs lo hi) (cutD ds lo hi) := by
  unfold cutV cutD
  rw [f.len]
  exact (f.drop _).take _
def fSl : D → Option Int → Option Int → (D → Prop) → Prop
  | .tup xs, lo, hi, Q => Q (.tup (cutD xs lo hi))
  | .lst xs, lo, hi, Q => Q (.lst (cutD xs lo hi))
  | .scr is, lo, hi, Q => Q (.lst (cutD (is.map D.int) lo hi))
  | .str s, lo, hi, Q => s.length ≤ sizeLine ∧ Q (.str (cutS s lo hi))
  | _, _, _, _ => False
/-- t[lo:hi]: t itself, or a new tuple that bears no own dict -/
def rTupCut (K : PySem.W.Frag) : V → Option Int → Option Int → Hp → VK → Prop := fun x lo hi H Q => ∃ a xs, x = .ref a ∧ SqT K H a xs ∧
  (HT.sIx xs.length 0 lo = 0 ∧ HT.sIx xs.length xs.length hi = xs.length → Q (.ref a) H) ∧ (¬ (HT.sIx xs.length 0 lo = 0 ∧ HT.sIx xs.length xs.length hi = xs.length) → FreshT H (cutV xs lo hi) Q)
theorem sl_tupCut : SlR X (rTupCut X.K) := by
  rintro pn st σ H x v vl vu lo hi sl Q J rx hs pl pu ⟨a, xs, rfl, ta, whole, part⟩
  cases rx
  obtain ⟨us, ru, pa, hz⟩ := J.tuple ta
  have size : us.toArray.size = xs.length := by rw [List.size_toArray, ru.length]
  refine ⟨"tuple", _, PyProof.Rows.slot_tuple_getitem.lookup, pa.typeIs, ?_⟩
  rcases Classical.em (HT.sIx xs.length 0 lo = 0 ∧ HT.sIx xs.length xs.length hi = xs.length) with c | c
  · exact L2.getItem_tuple_whole pa hs pl pu (by rw [size]; exact c) ⟨.ref a, H, J, rfl, whole c⟩
  · have hz' : us.toArray.size ≤ sizeLine := by rw [size]; exact hz
    refine HT.getItem_tuple_cut pa hs pl pu (by rw [size]; exact c) ?_ hz'
    rw [size]
    have lay := J.laid (t' := st.toks) (o := .frz { cls := .type "tuple", data := .seq ((us.drop (HT.sIx xs.length 0 lo)).take (HT.sIx xs.length xs.length hi - HT.sIx xs.length 0 lo)).toArray } (.tup (cutV xs lo hi))) (fun b w q => Heap.get?_push_of_some _ q) (Nat.le_refl _)
      ⟨Heap.get?_push_size _ rfl, Nat.le_trans (cutV_length xs lo hi) hz, _, (ru.drop (HT.sIx xs.length 0 lo)).take (HT.sIx xs.length xs.length hi - HT.sIx xs.length 0 lo), IsTup.new _ _⟩
    exact ⟨.ref st.heap.objs.size, _, lay, rfl, part c _ _ (J.hok.fresh (Nat.le_refl _)) rfl⟩
def rCut (K : PySem.W.Frag) : V → Option Int → Option Int → Hp → VK → Prop := fun x lo hi H Q => rTupCut K x lo hi H Q ∨ rSlL K x lo hi H Q ∨ rSlS x lo hi H Q
theorem sl_cut : SlR X (rCut X.K) := SlR.or sl_tupCut (SlR.or sl_list sl_str)
def dSl (ga : DE) (gl gh : DO) : DE := fun ρ h Q E => ga ρ h (fun x h1 => gl ρ h1 (fun lo h2 => gh ρ h2 (fun hi h3 => fSl x lo hi fun d => Q d h3) E) E) E
def dSlL (ga : DE) (gl gh : DO) : DE := fun ρ h Q E => ga ρ h (fun x h1 => gl ρ h1 (fun lo h2 => gh ρ h2 (fun hi h3 => look h3 x fun x' => fSl x' lo hi fun d => Q d h3) E) E) E
theorem cut_ok {K : PySem.W.Frag} {B : Addr → Prop} {as : List Addr} {h : AH} {H : Hp} {v : V} {d : D} {lo hi : Option Int} {Q : VK} {Qd : D → Prop} (hr : HR K (Mx B as h) h H) (dm : ∀ a, Mx B as h a → H a ≠ none) (f : Ws K (Mx B as h) H v d) (w : fSl d lo hi Qd)
    (k : ∀ v d H', Go K B as h H h H' → Fz K (Mx B as h) H' v d → Qd d → Q v H') : rCut K v lo hi H Q := by
  cases d with
  | tup xs =>
    obtain ⟨p, vs, rfl, h1, f1⟩ := f.tup
    refine .inl ⟨p, vs, rfl, h1.1, fun e => ?_, fun _ t o ht hd => ?_⟩
    · have e1 : cutD xs lo hi = xs := by
        rw [f1.len] at e
        unfold cutD
        rw [e.1, e.2]
        simp
      have w' : Qd (.tup (cutD xs lo hi)) := w
      rw [e1] at w'
      exact k _ _ H (.refl hr) (.tup h1 f1) w'
    · exact k _ _ _ (.new hr ht) (.tup (.frz upd_same hd) ((f1.cut lo hi).newly ht)) w
  | lst xs =>
    obtain ⟨p, vs, rfl, h1, f1⟩ := f.lst
    exact .inr (.inl ⟨p, vs, rfl, SqL.of h1, fun t ht => k _ _ _ (.new hr ht) (.lst (fun m => dm _ m ht) upd_same ((f1.cut lo hi).newly ht)) w⟩)
  | scr is =>
    cases f with
    | z f => cases f with
      | @scr p o _ q => exact .inr (.inl ⟨p, is.map V.int, rfl, .inl (.inr ⟨_, q⟩), fun t ht => k _ _ _ (.new hr ht) (.lst (fun m => dm _ m ht) upd_same (((FzL.ints is).cut lo hi).newly ht)) w⟩)
  | str z =>
    obtain ⟨w1, w2⟩ := (show z.length ≤ sizeLine ∧ Qd (.str (cutS z lo hi)) from w)
    exact .inr (.inr ⟨z, f.str, w1, k _ _ H (.refl hr) (.str _) w2⟩)
  | _ => exact w.elim
theorem e_sl {lo hi : Option Expr} {p2 : Pos} {gl gh : DO} (ha : PE X a (uw X.K W ga)) (hl : PO X lo (uo X.K W gl)) (hh : PO X hi (uo X.K W gh)) : PE X (.Subscript a (.Slice lo hi none p2) pos) (up X.K W (dSl ga gl gh)) :=
  (pe_slice sl_cut ha hl hh).to fun σ H Q ⟨B, as, h, ρ, Qd, Ed, rp, w, k, xx⟩ => ⟨B, as, h, ρ, _, Ed, rp, w, fun v d h1 H1 x f q => ⟨B, as, h1, ρ, _, Ed, rp.go x, q, fun lo h2 H2 y q2 => ⟨B, as, h2, ρ, _, Ed, rp.go (x.trans y), q2, fun hi h3 H3 z q3 =>
    cut_ok z.hr (rp.go ((x.trans y).trans z)).dm ((f.go y).go z).ws q3 fun v d H' y2 f q => k v d h3 H' (((x.trans y).trans z).trans y2) f q, xx.go (x.trans y)⟩, xx.go x⟩, xx⟩
theorem e_slL {lo hi : Option Expr} {p2 : Pos} {gl gh : DO} (ha : PE X a (uw X.K W ga)) (hl : PO X lo (uo X.K W gl)) (hh : PO X hi (uo X.K W gh)) : PE X (.Subscript a (.Slice lo hi none p2) pos) (up X.K W (dSlL ga gl gh)) :=
  (pe_slice sl_cut ha hl hh).to fun σ H Q ⟨B, as, h, ρ, Qd, Ed, rp, w, k, xx⟩ => ⟨B, as, h, ρ, _, Ed, rp, w, fun v d h1 H1 x f q => ⟨B, as, h1, ρ, _, Ed, rp.go x, q, fun lo h2 H2 y q2 => ⟨B, as, h2, ρ, _, Ed, rp.go (x.trans y), q2, fun hi h3 H3 z q3 => by
    obtain ⟨d', f', q4⟩ := look_ok z.hr ((f.go y).go z).ws q3
    exact cut_ok z.hr (rp.go ((x.trans y).trans z)).dm f' q4 fun v d H' y2 f q => k v d h3 H' (((x.trans y).trans z).trans y2) f q, xx.go (x.trans y)⟩, xx.go x⟩, xx⟩
end
end NL
set_option Elab.async false
set_option linter.all false
set_option maxRecDepth 100000
set_option maxHeartbeats 2300000
/-! N5: calls of built-ins over data. -/
namespace NL
open PyProof.Rows L2 PySem PySem.Spec
section
variable {X : Cx} {W : WX} {e a b c : Expr} {es rest : List Expr} {g ga gb gc : DE} {gt gu : DT} {gs : DA} {pos : Pos}
def dCall (f : List D → (D → Prop) → Prop) (gs : DA) : DE := fun ρ h Q E => gs ρ h (fun ds h1 => f ds fun d => Q d h1) E
/-- the same over looked-at lists of the heap of data -/
def dCallL (f : List D → (D → Prop) → Prop) (gs : DA) : DE := fun ρ h Q E => gs ρ h (fun ds h1 => lkL h1 ds fun ds' => f ds' fun d => Q d h1) E
theorem FsL.ws {K : PySem.W.Frag} {B : Addr → Prop} {as : List Addr} {h : AH} {H : Hp} {vs : List V} {ds : List D} (f : FsL K B as h H vs ds) : Paired (Ws K (Mx B as h) H) vs ds := pairedMap f fun _ _ z => z.ws
theorem tcb {r : List V → Hp → VK → Prop} {f : List D → (D → Prop) → Prop} (hf : CallD X.K r f) {σ : L2.St} {H : Hp} {Q : VK} (w : up X.K W (dCall f gs) σ H Q) : tCB r (uv X.K W gs) σ H Q := by
  obtain ⟨B, as, h, ρ, Qd, Ed, rp, w, k, xx⟩ := w
  exact ⟨B, as, h, ρ, _, Ed, rp, w, fun vs ds h' H' x fs q => hf B as h' H' vs ds Q _ x.hr (rp.go x).dm fs.ws q fun v d H2 y f2 q2 => k v d h' H2 (x.trans y) f2 q2, xx⟩
theorem tcbL {r : List V → Hp → VK → Prop} {f : List D → (D → Prop) → Prop} (hf : CallD X.K r f) {σ : L2.St} {H : Hp} {Q : VK} (w : up X.K W (dCallL f gs) σ H Q) : tCB r (uv X.K W gs) σ H Q := by
  obtain ⟨B, as, h, ρ, Qd, Ed, rp, w, k, xx⟩ := w
  refine ⟨B, as, h, ρ, _, Ed, rp, w, fun vs ds h' H' x fs q => ?_, xx⟩
  obtain ⟨ds', fs', q⟩ := lkL_ok x.hr fs.ws q
  exact hf B as h' H' vs ds' Q _ x.hr (rp.go x).dm fs' q fun v d H2 y f2 q2 => k v d h' H2 (x.trans y) f2 q2
theorem e_blt {x : Str} {id : String} {p : Pos} {rc : List V → Hp → VK → Prop} {f : List D → (D → Prop) → Prop} (hc : CallR X (.builtin id) rc) (hf : CallD X.K rc f) (hg : Gl X x) (hm : X.mg x = none) (hv : bootBuiltins x = some (.builtin id)) (ha : PA X (e :: es) (uv X.K W gs))
    (hn : x ≠ "__name__" := by decide) (hdb : (x == ("__debug__" : Str)) = false := by decide) (he : starEach (e :: es) X.env = (false, eval e X.env) :: starEach es X.env := by rfl) (hpl : (backTo pos (starEach es X.env)).any (·.1) = false := by rfl) :
    PE X (.Call (.Name x p) (e :: es) [] pos) (up X.K W (dCall f gs)) := (pe_callB hc hg hm hv ha hn hdb he hpl).to fun σ H Q w => tcb hf w
theorem e_bltL {x : Str} {id : String} {p : Pos} {rc : List V → Hp → VK → Prop} {f : List D → (D → Prop) → Prop} (hc : CallR X (.builtin id) rc) (hf : CallD X.K rc f) (hg : Gl X x) (hm : X.mg x = none) (hv : bootBuiltins x = some (.builtin id)) (ha : PA X (e :: es) (uv X.K W gs))
    (hn : x ≠ "__name__" := by decide) (hdb : (x == ("__debug__" : Str)) = false := by decide) (he : starEach (e :: es) X.env = (false, eval e X.env) :: starEach es X.env := by rfl) (hpl : (backTo pos (starEach es X.env)).any (·.1) = false := by rfl) :
    PE X (.Call (.Name x p) (e :: es) [] pos) (up X.K W (dCallL f gs)) := (pe_callB hc hg hm hv ha hn hdb he hpl).to fun σ H Q w => tcbL hf w
theorem e_ty {x : Str} {T : String} {p : Pos} {rc : List V → Hp → VK → Prop} {f : List D → (D → Prop) → Prop} (hc : CallR X (.type T) rc) (hf : CallD X.K rc f) (hg : Gl X x) (hm : X.mg x = none) (hv : bootBuiltins x = some (.type T)) (ha : PA X (e :: es) (uv X.K W gs))
    (hn : x ≠ "__name__" := by decide) (hdb : (x == ("__debug__" : Str)) = false := by decide) (he : starEach (e :: es) X.env = (false, eval e X.env) :: starEach es X.env := by rfl) (hpl : (backTo pos (starEach es X.env)).any (·.1) = false := by rfl) :
    PE X (.Call (.Name x p) (e :: es) [] pos) (up X.K W (dCall f gs)) := (pe_callTy hc hg hm hv ha hn hdb he hpl).to fun σ H Q w => tcb hf w
theorem e_tyL {x : Str} {T : String} {p : Pos} {rc : List V → Hp → VK → Prop} {f : List D → (D → Prop) → Prop} (hc : CallR X (.type T) rc) (hf : CallD X.K rc f) (hg : Gl X x) (hm : X.mg x = none) (hv : bootBuiltins x = some (.type T)) (ha : PA X (e :: es) (uv X.K W gs))
    (hn : x ≠ "__name__" := by decide) (hdb : (x == ("__debug__" : Str)) = false := by decide) (he : starEach (e :: es) X.env = (false, eval e X.env) :: starEach es X.env := by rfl) (hpl : (backTo pos (starEach es X.env)).any (·.1) = false := by rfl) :
    PE X (.Call (.Name x p) (e :: es) [] pos) (up X.K W (dCallL f gs)) := (pe_callTy hc hg hm hv ha hn hdb he hpl).to fun σ H Q w => tcbL hf w
end
section
variable {K : PySem.W.Frag} {M : Addr → Prop} {H : Hp} {vs : List V} {d d' : D}
theorem one_of (f : Paired (Ws K M H) vs [d]) : ∃ v, vs = [v] ∧ Ws K M H v d := by
  cases f with
  | cons f t => cases t; exact ⟨_, rfl, f⟩
theorem two_of (f : Paired (Ws K M H) vs [d, d']) : ∃ v w, vs = [v, w] ∧ Ws K M H v d ∧ Ws K M H w d' := by
  cases f with
  | cons f t =>
    obtain ⟨w, rfl, f2⟩ := one_of t
    exact ⟨_, _, rfl, f, f2⟩
end
section
variable {X : Cx} {K : PySem.W.Frag}
/-- len -/
def fLen : List D → (D → Prop) → Prop
  | [.str s], Q => s.length ≤ sizeLine ∧ Q (.int s.length)
  | [.tup xs], Q => Q (.int xs.length)
  | [.lst xs], Q => Q (.int xs.length)
  | _, _ => False
abbrev rLen1 (K : PySem.W.Frag) : List V → Hp → VK → Prop := fun xs H Q => ∃ x n, xs = [x] ∧ LenV K x H n ∧ Q (.int (n : Nat)) H
theorem k_len : CallR X (.builtin "len") (rLen1 X.K) := call_len
theorem d_len : CallD K (rLen1 K) fLen := by
  intro B as h H vs ds Q Qd hr dm fs w k
  match ds, w with
  | [.str s], w =>
    obtain ⟨v, rfl, f⟩ := one_of fs
    rw [f.str]
    exact ⟨_, s.length, rfl, ⟨w.1, rfl⟩, k _ _ H (.refl hr) (.int _) w.2⟩
  | [.tup xs], w =>
    obtain ⟨v, rfl, f⟩ := one_of fs
    obtain ⟨p, vs, rfl, h1, f1⟩ := f.tup
    exact ⟨_, xs.length, rfl, .inr ⟨vs, h1.1, f1.len.symm⟩, k _ _ H (.refl hr) (.int _) w⟩
  | [.lst xs], w =>
    obtain ⟨v, rfl, f⟩ := one_of fs
    obtain ⟨p, vs, rfl, h1, f1⟩ := f.lst
    exact ⟨_, xs.length, rfl, .inl ⟨vs, SqL.of h1, f1.len.symm⟩, k _ _ H (.refl hr) (.int _) w⟩
/-- all, any of truth values -/
def blsOf : List D → Option (List Bool)
  | [] => some []
  | .bl b :: xs => (blsOf xs).map (b :: ·)
  | _ => none
theorem blsOf_map : ∀ bs : List Bool, blsOf (bs.map D.bl) = some bs
  | [] => rfl
  | b :: bs => by simp [blsOf, blsOf_map bs]
theorem blsOf_eq : ∀ (xs : List D) {bs : List Bool}, blsOf xs = some bs → xs = bs.map D.bl
  | [], _, e => by cases e; rfl
  | x :: xs, bs, e => by
    cases x with
    | bl b =>
      simp only [blsOf, Option.map_eq_some_iff] at e
      obtain ⟨cs, e1, rfl⟩ := e
      rw [blsOf_eq xs e1]; rfl
    | _ => cases e
def fAll : List D → (D → Prop) → Prop
  | [.lst xs], Q => ofO (blsOf xs) fun bs => Q (.bl (bs.all id))
  | _, _ => False
def fAny : List D → (D → Prop) → Prop
  | [.lst xs], Q => ofO (blsOf xs) fun bs => Q (.bl (bs.any id))
  | _, _ => False
theorem d_all : CallD K (rAll K) fAll := by
  intro B as h H vs ds Q Qd hr dm fs w k
  match ds, w with
  | [.lst xs], w =>
    obtain ⟨v, rfl, f⟩ := one_of fs
    obtain ⟨p, vs, rfl, h1, f1⟩ := f.lst
    obtain ⟨bs, e, q⟩ := ofO_ok (show ofO (blsOf xs) (fun bs => Qd (.bl (bs.all id))) from w)
    rw [f1.ofBls (blsOf_eq _ e)] at h1
    exact ⟨p, bs, rfl, SqL.of h1, k _ _ H (.refl hr) (.bl _) q⟩
theorem d_any : CallD K (rAny K) fAny := by
  intro B as h H vs ds Q Qd hr dm fs w k
  match ds, w with
  | [.lst xs], w =>
    obtain ⟨v, rfl, f⟩ := one_of fs
    obtain ⟨p, vs, rfl, h1, f1⟩ := f.lst
    obtain ⟨bs, e, q⟩ := ofO_ok (show ofO (blsOf xs) (fun bs => Qd (.bl (bs.any id))) from w)
    rw [f1.ofBls (blsOf_eq _ e)] at h1
    exact ⟨p, bs, rfl, SqL.of h1, k _ _ H (.refl hr) (.bl _) q⟩
/-- tuple(l), tuple(t): a new tuple bears no own dict -/
def fTupOf : List D → (D → Prop) → Prop
  | [.lst xs], Q => Q (.tup xs)
  | [.tup xs], Q => Q (.tup xs)
  | _, _ => False
def rMkTup (K : PySem.W.Frag) : List V → Hp → VK → Prop := fun xs H Q => ∃ p ys, xs = [.ref p] ∧ ((SqL K H p ys ∧ FreshT H ys Q) ∨ (SqT K H p ys ∧ Q (.ref p) H))
theorem k_tuple : CallR X (.type "tuple") (rMkTup X.K) := by
  rintro pn st sg H xs us Q J rr ⟨p, ys, rfl, list | tuple⟩
  all_goals obtain ⟨u, rfl, rx⟩ := vals1 rr; cases rx
  · obtain ⟨sq, new⟩ := list
    obtain ⟨its, rv, pl, hz⟩ := J.list sq
    have small : its.toArray.size ≤ sizeLine := by rw [List.size_toArray, ← rv.length]; exact hz
    refine call_tuple_list pl.isList (fun h' kp => ?_) small
    have J1 : Inv X pn sg H { st with heap := h' } := J.kept (t' := st.toks) kp
    have lay := J1.laid (t' := st.toks) (a := h'.objs.size) (o := .frz { cls := .type "tuple", data := .seq its.toArray } (.tup ys)) (h' := h'.push { cls := .type "tuple", data := .seq its.toArray }) (fun b o e => Heap.get?_push_of_some _ e) (Nat.le_refl _)
      ⟨Heap.get?_push_size _ rfl, hz, its, rv, IsTup.new _ _⟩
    exact ⟨.ref h'.objs.size, _, lay, rfl, new _ _ (J1.hok.fresh (Nat.le_refl _)) rfl⟩
  · obtain ⟨sq, q⟩ := tuple
    obtain ⟨its, rv, pl, hz⟩ := J.tuple sq
    exact call_tuple_same pl ⟨.ref p, H, J, rfl, q⟩
theorem d_tuple : CallD K (rMkTup K) fTupOf := by
  intro B as h H vs ds Q Qd hr dm fs w k
  match ds, w with
  | [.lst xs], w =>
    obtain ⟨v, rfl, f⟩ := one_of fs
    obtain ⟨p, vs, rfl, h1, f1⟩ := f.lst
    exact ⟨p, vs, rfl, .inl ⟨SqL.of h1, fun l o hl hd => k _ _ _ (.new hr hl) (.tup (.frz upd_same hd) (f1.newly hl)) w⟩⟩
  | [.tup xs], w =>
    obtain ⟨v, rfl, f⟩ := one_of fs
    obtain ⟨p, vs, rfl, h1, f1⟩ := f.tup
    exact ⟨p, vs, rfl, .inr ⟨h1.1, k _ _ H (.refl hr) (.tup h1 f1) w⟩⟩
/-- list(l), list(t), frozen -/
def fLstOf : List D → (D → Prop) → Prop
  | [.lst xs], Q => Q (.lst xs)
  | [.tup xs], Q => Q (.lst xs)
  | _, _ => False
abbrev rMkLst (K : PySem.W.Frag) : List V → Hp → VK → Prop := fun xs H Q => ∃ p ys, xs = [.ref p] ∧ (SqL K H p ys ∨ SqT K H p ys) ∧ ∀ l, H l = none → Q (.ref l) (upd H l (.lst ys))
theorem k_list : CallR X (.type "list") (rMkLst X.K) := call_list_of
theorem d_list : CallD K (rMkLst K) fLstOf := by
  intro B as h H vs ds Q Qd hr dm fs w k
  match ds, w with
  | [.lst xs], w =>
    obtain ⟨v, rfl, f⟩ := one_of fs
    obtain ⟨p, vs, rfl, h1, f1⟩ := f.lst
    exact ⟨p, vs, rfl, .inl (SqL.of h1), fun l hl => k _ _ _ (.new hr hl) (.lst (fun m => dm _ m hl) upd_same (f1.newly hl)) w⟩
  | [.tup xs], w =>
    obtain ⟨v, rfl, f⟩ := one_of fs
    obtain ⟨p, vs, rfl, h1, f1⟩ := f.tup
    exact ⟨p, vs, rfl, .inr h1.1, fun l hl => k _ _ _ (.new hr hl) (.lst (fun m => dm _ m hl) upd_same (f1.newly hl)) w⟩
/-- isinstance(x, T), T a built-in class -/
def tyN : D → Option String
  | .non => some "NoneType"
  | .bl _ => some "bool"
  | .int _ => some "int"
  | .str _ => some "str"
  | .tup _ => some "tuple"
  | .lst _ => some "list"
  | .dic _ _ => some "dict"
  | .obj _ => none
  | .scr _ => none
end
end NL
set_option Elab.async false
set_option linter.all false
set_option maxRecDepth 100000
set_option maxHeartbeats 2300000
/-! N6: statements. -/
namespace NL
open PyProof.Rows L2 PySem PySem.Spec
structure DEnds where
  nx : Rho → AH → Prop
  rt : QD
  ex : Exn → Rho → AH → Prop := fun _ _ _ => False
  bk : Rho → AH → Prop := fun _ _ => False
  ct : Rho → AH → Prop := fun _ _ => False
abbrev DS := DEnds → Rho → AH → Prop
abbrev DEnds.er (E : DEnds) (ρ : Rho) : QX := fun x h => E.ex x ρ h
/-- from one state to a later one: own lists may change and come, things of the heap of data too -/
structure Mv (as : List Addr) (h : AH) (H : Hp) (as' : List Addr) (h' : AH) (H' : Hp) : Prop where
  k : Keeps (fun a => h a ≠ none ∨ a ∈ as) H H'
  lo : ∀ a, h a ≠ none → h' a ≠ none
  nw : ∀ a o, H a = some o → h' a ≠ none → h a ≠ none ∨ a ∈ as
  su : ∀ a o, H a = some o → a ∈ as' → a ∈ as
  th : ∀ a, H a ≠ none → H' a ≠ none
structure To (K : PySem.W.Frag) (B : Addr → Prop) (as : List Addr) (h : AH) (H : Hp) (as' : List Addr) (h' : AH) (H' : Hp) (σ : L2.St) (ρ : Rho) : Prop where
  rp : Rep K B as' h' H' σ ρ
  mv : Mv as h H as' h' H'
section
variable {K : PySem.W.Frag} {B : Addr → Prop} {as as1 as2 as' : List Addr} {h h1 h2 h' : AH} {H H1 H2 H' : Hp} {σ σ1 σ2 : L2.St} {ρ ρ1 ρ2 : Rho} {v : V} {d : D} {vs : List V} {ds : List D} {p a : Addr}
theorem Mv.refl : Mv as h H as h H := ⟨.refl, fun _ e => e, fun _ _ _ e => .inl e, fun _ _ _ e => e, fun _ e => e⟩
theorem Mv.trans (x : Mv as h H as1 h1 H1) (y : Mv as1 h1 H1 as2 h2 H2) : Mv as h H as2 h2 H2 := by
  have old : ∀ b o, H b = some o → (h1 b ≠ none ∨ b ∈ as1) → h b ≠ none ∨ b ∈ as := fun b o e m => by
    rcases m with m | m
    · exact x.nw b o e m
    · exact .inr (x.su b o e m)
  refine ⟨x.k.trans y.k fun b o e n m => n (old b o e m), fun b e => y.lo b (x.lo b e), fun b o e m => ?_, fun b o e m => ?_, fun b e => y.th b (x.th b e)⟩
  · rcases Classical.em (h b ≠ none ∨ b ∈ as) with c | c
    · exact c
    · exact old b o e (y.nw b o (x.k.ke b o e c) m)
  · rcases Classical.em (h b ≠ none ∨ b ∈ as) with c | c
    · obtain ⟨w, q⟩ := Option.ne_none_iff_exists'.mp (x.th b (by rw [e]; exact fun z => by cases z))
      exact x.su b o e (y.su b w q m)
    · exact x.su b o e (y.su b o (x.k.ke b o e c) m)
theorem Mv.mx (x : Mv as h H as' h' H') : ∀ a o, H a = some o → Mx B as' h' a → Mx B as h a := fun a o e m => by
  rcases m with m | m | m
  · exact .inl m
  · exact .inr (.inl (x.su a o e m))
  · rcases x.nw a o e m with z | z
    · exact .inr (.inr z)
    · exact .inr (.inl z)
theorem Mv.kw (x : Mv as h H as' h' H') : Keeps (Mx B as h) H H' := x.k.weak fun a o _ m => by
  rcases m with m | m
  · exact .inr (.inr m)
  · exact .inr (.inl m)
theorem Fz.mv (f : Fz K (Mx B as h) H v d) (x : Mv as h H as' h' H') : Fz K (Mx B as' h') H' v d := f.keeps x.kw x.mx
theorem FzL.mv (f : FzL K (Mx B as h) H vs ds) (x : Mv as h H as' h' H') : FzL K (Mx B as' h') H' vs ds := f.keeps x.kw x.mx
theorem Go.mv (x : Go K B as h H h' H') : Mv as h H as h' H' := ⟨x.k.weak fun _ _ _ m => .inl m, x.lo, fun a o e m => .inl (x.nw a o e m), fun _ _ _ m => m, fun _ e => x.th e⟩
theorem To.refl (rp : Rep K B as h H σ ρ) : To K B as h H as h H σ ρ := ⟨rp, .refl⟩
theorem To.go (rp : Rep K B as h H σ ρ) (x : Go K B as h H h' H') : To K B as h H as h' H' σ ρ := ⟨rp.go x, x.mv⟩
theorem To.trans (x : To K B as h H as1 h1 H1 σ1 ρ1) (y : To K B as1 h1 H1 as2 h2 H2 σ2 ρ2) : To K B as h H as2 h2 H2 σ2 ρ2 := ⟨y.rp, x.mv.trans y.mv⟩
end
structure Es (K : PySem.W.Frag) (B : Addr → Prop) (as : List Addr) (h : AH) (H : Hp) (W : WX) (E : DEnds) (D : Ends) : Prop where
  nx : ∀ as' h' H' σ' ρ', To K B as h H as' h' H' σ' ρ' → E.nx ρ' h' → D.nx σ' H'
  bk : ∀ as' h' H' σ' ρ', To K B as h H as' h' H' σ' ρ' → E.bk ρ' h' → D.bk σ' H'
  ct : ∀ as' h' H' σ' ρ', To K B as h H as' h' H' σ' ρ' → E.ct ρ' h' → D.ct σ' H'
  rt : ∀ v d h' H', Mv as h H [] h' H' → HR K (Mx B [] h') h' H' → Fz K (Mx B [] h') H' v d → E.rt d h' → D.rt v H'
  ex : ∀ x as' h' H' σ' ρ' cls dd, To K B as h H as' h' H' σ' ρ' → ER K (Mx B as' h') H' cls dd x → E.ex x ρ' h' → W cls dd σ' H'
def us (K : PySem.W.Frag) (W : WX) (g : DS) : TS := fun D σ H => ∃ B as h ρ E, Rep K B as h H σ ρ ∧ g E ρ h ∧ Es K B as h H W E D
section
variable {K : PySem.W.Frag} {B : Addr → Prop} {as as1 as2 as' : List Addr} {h h1 h2 h' : AH} {H H1 H2 H' : Hp} {σ σ1 σ2 : L2.St} {ρ ρ1 ρ2 : Rho} {v : V} {d : D} {vs : List V} {ds : List D} {p a : Addr} {W : WX} {E : DEnds} {Dn : Ends}
theorem Es.to (e : Es K B as h H W E Dn) (x : To K B as h H as1 h1 H1 σ1 ρ1) : Es K B as1 h1 H1 W E Dn :=
  ⟨fun as' h' H' σ' ρ' y => e.nx as' h' H' σ' ρ' (x.trans y), fun as' h' H' σ' ρ' y => e.bk as' h' H' σ' ρ' (x.trans y), fun as' h' H' σ' ρ' y => e.ct as' h' H' σ' ρ' (x.trans y),
    fun v d h' H' y => e.rt v d h' H' (x.mv.trans y), fun z as' h' H' σ' ρ' cls dd y => e.ex z as' h' H' σ' ρ' cls dd (x.trans y)⟩
theorem Es.xc (e : Es K B as h H W E Dn) (rp : Rep K B as h H σ ρ) : Xc K B as h H W σ (E.er ρ) := fun x h' H' cls dd g r q => e.ex x as h' H' σ ρ cls dd (.go rp g) r q
theorem Mv.drop (x : Mv as h H as' h' H') : Mv as h H [] h' H' := ⟨x.k, x.lo, x.nw, fun _ _ _ m => (nomatch m), x.th⟩
theorem mx_nil {a : Addr} (m : Mx B [] h a) : Mx B as h a := by
  rcases m with m | m | m
  · exact .inl m
  · cases m
  · exact .inr (.inr m)
theorem Es.ret (e : Es K B as h H W E Dn) (x : Go K B as h H h' H') (f : Fz K (Mx B as h') H' v d) (q : E.rt d h') : Dn.rt v H' := e.rt v d h' H' x.mv.drop (x.hr.anti fun _ m => mx_nil m) (f.anti fun _ m => mx_nil m) q

/-! ### slots change -/
theorem set_get {α : Type} {l : List α} {i j : Nat} {x y : α} (e : (l.set i x)[j]? = some y) : (i = j ∧ y = x) ∨ (i ≠ j ∧ l[j]? = some y) := by
  rcases Classical.em (i = j) with c | c
  · subst c
    obtain ⟨lt, e⟩ := List.getElem?_eq_some_iff.mp e
    rw [List.getElem_set_self] at e
    exact .inl ⟨rfl, e.symm⟩
  · rw [List.getElem?_set_ne c] at e
    exact .inr ⟨c, e⟩
theorem Rep.setD {i : Nat} (rp : Rep K B as h H σ ρ) (f : Fz K (Mx B as h) H v d) : Rep K B as h H (σ.set i (some v)) (ρ.set i (some (.d d))) where
  hr := rp.hr
  bd := rp.bd
  ow := rp.ow
  ob := rp.ob
  nd := fun j l xs ys a e1 e2 e3 e4 => by
    rcases set_get e1 with ⟨_, e⟩ | ⟨n1, e1⟩
    · cases e
    · rcases set_get e2 with ⟨_, e⟩ | ⟨n2, e2⟩
      · cases e
      · rw [List.getElem?_set_ne n1] at e3
        rw [List.getElem?_set_ne n2] at e4
        exact rp.nd j l xs ys a e1 e2 e3 e4
  len := by simp [rp.len]
  sd := fun j x e => by
    rcases set_get e with ⟨c, q⟩ | ⟨c, e⟩
    · subst c
      cases q
      have hl : i < σ.length := by
        rw [rp.len]
        simpa using (List.getElem?_eq_some_iff.mp e).1
      exact ⟨v, List.getElem?_set_self hl, f⟩
    · obtain ⟨w, e1, f1⟩ := rp.sd j x e
      exact ⟨w, by rw [List.getElem?_set_ne c]; exact e1, f1⟩
  sl := fun j x e => by
    rcases set_get e with ⟨c, q⟩ | ⟨c, e⟩
    · cases q
    · obtain ⟨a, vs, e1, e2, e3, f1⟩ := rp.sl j x e
      exact ⟨a, vs, by rw [List.getElem?_set_ne c]; exact e1, e2, e3, f1⟩
  sx := fun j a dd e q => by
    rcases set_get q with ⟨c, z⟩ | ⟨c, q⟩
    · cases z
    · obtain ⟨e1, r⟩ := rp.sx j a dd e q
      exact ⟨by rw [List.getElem?_set_ne c]; exact e1, r⟩
theorem To.setD {i : Nat} (rp : Rep K B as h H σ ρ) (x : Go K B as h H h' H') (f : Fz K (Mx B as h') H' v d) : To K B as h H as h' H' (σ.set i (some v)) (ρ.set i (some (.d d))) := ⟨(rp.go x).setD f, x.mv⟩
/-- a slot forgets -/
theorem Rep.setN {i : Nat} {o : Option V} (rp : Rep K B as h H σ ρ) : Rep K B as h H (σ.set i o) (ρ.set i none) where
  hr := rp.hr
  bd := rp.bd
  ow := rp.ow
  ob := rp.ob
  nd := fun j l xs ys a e1 e2 e3 e4 => by
    rcases set_get e1 with ⟨_, e⟩ | ⟨n1, e1⟩
    · cases e
    · rcases set_get e2 with ⟨_, e⟩ | ⟨n2, e2⟩
      · cases e
      · rw [List.getElem?_set_ne n1] at e3
        rw [List.getElem?_set_ne n2] at e4
        exact rp.nd j l xs ys a e1 e2 e3 e4
  len := by simp [rp.len]
  sd := fun j x e => by
    rcases set_get e with ⟨c, q⟩ | ⟨c, e⟩
    · cases q
    · obtain ⟨w, e1, f1⟩ := rp.sd j x e
      exact ⟨w, by rw [List.getElem?_set_ne c]; exact e1, f1⟩
  sl := fun j x e => by
    rcases set_get e with ⟨c, q⟩ | ⟨c, e⟩
    · cases q
    · obtain ⟨a, vs, e1, e2, e3, f1⟩ := rp.sl j x e
      exact ⟨a, vs, by rw [List.getElem?_set_ne c]; exact e1, e2, e3, f1⟩
  sx := fun j a dd e q => by
    rcases set_get q with ⟨c, z⟩ | ⟨c, q⟩
    · cases z
    · obtain ⟨e1, r⟩ := rp.sx j a dd e q
      exact ⟨by rw [List.getElem?_set_ne c]; exact e1, r⟩
/-- one own list more, in no slot as yet -/
theorem Rep.more (rp : Rep K B as h H σ ρ) (e : H p = none) (xs : List V) : Rep K B (p :: as) h (upd H p (.lst xs)) σ ρ where
  hr := (rp.hr.more e).new e
  bd := fun a m => by
    rcases Classical.em (a = p) with c | c
    · rw [c, upd_same]; exact fun z => by cases z
    · rw [upd_ne c]; exact rp.bd a m
  ow := fun a m => by
    rcases Classical.em (a = p) with c | c
    · rw [c]; exact ⟨rp.hr.off e, xs, upd_same⟩
    · rcases List.mem_cons.mp m with m | m
      · exact absurd m c
      · obtain ⟨n, vs, q⟩ := rp.ow a m
        exact ⟨n, vs, by rw [upd_ne c]; exact q⟩
  ob := fun a m b => by
    rcases List.mem_cons.mp m with m | m
    · subst m; exact rp.bd a b e
    · exact rp.ob a m b
  nd := rp.nd
  len := rp.len
  sd := fun i x q => by
    obtain ⟨v, e1, f⟩ := rp.sd i x q
    exact ⟨v, e1, (f.more e).keeps (.new e) fun _ _ _ m => m⟩
  sl := fun i ys q => by
    obtain ⟨a, vs, e1, e2, e3, f⟩ := rp.sl i ys q
    exact ⟨a, vs, e1, List.mem_cons_of_mem _ e2, by rw [upd_ne (ne_of_none e3 e)]; exact e3, (f.more e).keeps (.new e) fun _ _ _ m => m⟩
  sx := fun i a dd x q => by
    obtain ⟨e1, r⟩ := rp.sx i a dd x q
    exact ⟨e1, r.keeps (.new e) fun b o w m => by
      rcases mx_cons m with m | m
      · subst m; rw [e] at w; cases w
      · exact m⟩
theorem Mv.more {o : HO} (e : H p = none) : Mv as h H (p :: as) h (upd H p o) :=
  ⟨.new e, fun _ m => m, fun _ _ _ m => .inl m, fun a u q m => by
    rcases List.mem_cons.mp m with m | m
    · subst m; rw [e] at q; cases q
    · exact m, fun a m => by
    rcases Classical.em (a = p) with c | c
    · rw [c, upd_same]; exact fun z => by cases z
    · rw [upd_ne c]; exact m⟩
/-- an own list takes a slot -/
theorem Rep.setL {i : Nat} (rp : Rep K B as h H σ ρ) (m : p ∈ as) (e : H p = some (.lst vs)) (f : FzL K (Mx B as h) H vs ds) (free : ∀ (j : Nat) ys, ρ[j]? = some (some (.l ys)) → σ[j]? ≠ some (some (.ref p))) :
    Rep K B as h H (σ.set i (some (.ref p))) (ρ.set i (some (.l ds))) where
  hr := rp.hr
  bd := rp.bd
  ow := rp.ow
  ob := rp.ob
  nd := fun j l xs ys a e1 e2 e3 e4 => by
    rcases set_get e1 with ⟨c1, _⟩ | ⟨c1, e1⟩ <;> rcases set_get e2 with ⟨c2, _⟩ | ⟨c2, e2⟩
    · exact c1.symm.trans c2
    · subst c1
      rw [List.getElem?_set_ne c2] at e4
      have : a = p := by
        rcases set_get e3 with ⟨_, z⟩ | ⟨z, _⟩
        · cases z; rfl
        · exact absurd rfl z
      rw [this] at e4
      exact absurd e4 (free l _ e2)
    · subst c2
      rw [List.getElem?_set_ne c1] at e3
      have : a = p := by
        rcases set_get e4 with ⟨_, z⟩ | ⟨z, _⟩
        · cases z; rfl
        · exact absurd rfl z
      rw [this] at e3
      exact absurd e3 (free j _ e1)
    · rw [List.getElem?_set_ne c1] at e3
      rw [List.getElem?_set_ne c2] at e4
      exact rp.nd j l xs ys a e1 e2 e3 e4
  len := by simp [rp.len]
  sd := fun j x q => by
    rcases set_get q with ⟨c, z⟩ | ⟨c, q⟩
    · cases z
    · obtain ⟨w, e1, f1⟩ := rp.sd j x q
      exact ⟨w, by rw [List.getElem?_set_ne c]; exact e1, f1⟩
  sl := fun j x q => by
    rcases set_get q with ⟨c, z⟩ | ⟨c, q⟩
    · subst c
      cases z
      have hl : i < σ.length := by
        rw [rp.len]
        simpa using (List.getElem?_eq_some_iff.mp q).1
      exact ⟨p, vs, List.getElem?_set_self hl, m, e, f⟩
    · obtain ⟨a, us, e1, e2, e3, f1⟩ := rp.sl j x q
      exact ⟨a, us, by rw [List.getElem?_set_ne c]; exact e1, e2, e3, f1⟩
  sx := fun j a dd e q => by
    rcases set_get q with ⟨c, z⟩ | ⟨c, q⟩
    · cases z
    · obtain ⟨e1, r⟩ := rp.sx j a dd e q
      exact ⟨by rw [List.getElem?_set_ne c]; exact e1, r⟩
/-- an own list that is in no slot changes -/
theorem Rep.chg {ws : List V} (rp : Rep K B as h H σ ρ) (m : p ∈ as) (free : ∀ (j : Nat) ys, ρ[j]? = some (some (.l ys)) → σ[j]? ≠ some (some (.ref p))) : Rep K B as h (upd H p (.lst ws)) σ ρ := by
  obtain ⟨hp, us, e⟩ := rp.ow p m
  have kp : Keeps (Mx B as h) H (upd H p (.lst ws)) := .chg (.inr (.inl m)) (by rw [e]; trivial)
  refine ⟨fun a o q => (rp.hr a o q).keeps kp (fun _ _ _ m => m) (fun u z => ?_) (fun b z => ?_), fun a z => ?_, fun a z => ?_, rp.ob, rp.nd, rp.len, fun i x q => ?_, fun i ys q => ?_, fun i a dd e q => ⟨(rp.sx i a dd e q).1, (rp.sx i a dd e q).2.keeps kp fun _ _ _ m => m⟩⟩
  · rw [upd_ne (fun c => by rw [c, hp] at q; cases q)]; exact z
  · rw [upd_ne (fun c => by rw [c, e] at z; cases z)]; exact z
  · rcases Classical.em (a = p) with c | c
    · rw [c, upd_same]; exact fun z => by cases z
    · rw [upd_ne c]; exact rp.bd a z
  · rcases Classical.em (a = p) with c | c
    · rw [c]; exact ⟨hp, ws, upd_same⟩
    · obtain ⟨n, vs, q⟩ := rp.ow a z
      exact ⟨n, vs, by rw [upd_ne c]; exact q⟩
  · obtain ⟨v, e1, f⟩ := rp.sd i x q
    exact ⟨v, e1, f.keeps kp fun _ _ _ m => m⟩
  · obtain ⟨a, vs, e1, e2, e3, f⟩ := rp.sl i ys q
    exact ⟨a, vs, e1, e2, by rw [upd_ne (fun c => by rw [c] at e1; exact free i ys q e1)]; exact e3, f.keeps kp fun _ _ _ m => m⟩
theorem Mv.chg {ws us : List V} (m : p ∈ as) (e : H p = some (.lst us)) : Mv as h H as h (upd H p (.lst ws)) :=
  ⟨.chg (.inr m) (by rw [e]; trivial), fun _ z => z, fun _ _ _ z => .inl z, fun _ _ _ z => z, fun a z => by
    rcases Classical.em (a = p) with c | c
    · rw [c, upd_same]; exact fun z => by cases z
    · rw [upd_ne c]; exact z⟩
/-- the own list of slot i becomes another one -/
theorem To.own {i : Nat} {xs ys : List D} {us ws : List V} (rp : Rep K B as h H σ ρ) (ei : ρ[i]? = some (some (.l xs))) (es : σ[i]? = some (some (.ref p))) (m : p ∈ as) (e : H p = some (.lst us)) (f : FzL K (Mx B as h) H ws ys) :
    To K B as h H as h (upd H p (.lst ws)) σ (ρ.set i (some (.l ys))) := by
  have hi : i < σ.length := (List.getElem?_eq_some_iff.mp es).1
  have same : σ.set i (some (.ref p)) = σ := by
    apply List.ext_getElem?
    intro j
    rcases Classical.em (i = j) with c | c
    · subst c; rw [List.getElem?_set_self hi, es]
    · rw [List.getElem?_set_ne c]
  have free : ∀ (j : Nat) zs, (ρ.set i none)[j]? = some (some (SV.l zs)) → σ[j]? ≠ some (some (.ref p)) := fun j zs q z => by
    rcases set_get q with ⟨_, w⟩ | ⟨c, q⟩
    · cases w
    · exact c (rp.nd i j _ _ p ei q es z)
  have r1 : Rep K B as h H σ (ρ.set i none) := by
    have := rp.setN (i := i) (o := some (.ref p))
    rwa [same] at this
  have r2 := r1.chg (ws := ws) m free
  have kp : Keeps (Mx B as h) H (upd H p (.lst ws)) := (Mv.chg (ws := ws) (h := h) m e).kw
  have r3 := r2.setL (i := i) m upd_same (f.keeps kp fun _ _ _ m => m) free
  rw [same, List.set_set] at r3
  exact ⟨r3, .chg m e⟩
end

/-! ### targets -/
/-- a target by data: it stores data in slots -/
abbrev TD := D → Rho → (Rho → Prop) → Prop
structure GD (K : PySem.W.Frag) (g : TG) (tg : TD) (is : List Nat) : Prop where
  run : ∀ {B : Addr → Prop} {as : List Addr} {h : AH} {H : Hp} {σ : L2.St} {ρ : Rho} {v : V} {d : D} {Q : L2.St → Hp → Prop} {Qr : Rho → Prop}, Rep K B as h H σ ρ → Fz K (Mx B as h) H v d → tg d ρ Qr →
    (∀ σ' ρ', Rep K B as h H σ' ρ' → σ'.length = σ.length → (∀ k, k ∉ is → σ'[k]? = σ[k]?) → Qr ρ' → Q σ' H) → g v σ H Q
def tName (i : Nat) : TD := fun d ρ Q => Q (ρ.set i (some (.d d)))
theorem gd_name {K : PySem.W.Frag} {i : Nat} : GD K (gName i) (tName i) [i] := ⟨fun {B as h H σ ρ v d Q Qr} rp f w k => k _ _ (rp.setD f) (by simp) (fun k hk => by
  rw [List.getElem?_set_ne]
  intro e
  subst e
  simp at hk) w⟩
structure GDs (K : PySem.W.Frag) (g : TGs) (tg : List D → Rho → (Rho → Prop) → Prop) (is : List Nat) : Prop where
  run : ∀ {B : Addr → Prop} {as : List Addr} {h : AH} {H : Hp} {σ : L2.St} {ρ : Rho} {vs : List V} {ds : List D} {Q : L2.St → Hp → Prop} {Qr : Rho → Prop}, Rep K B as h H σ ρ → FzL K (Mx B as h) H vs ds → tg ds ρ Qr →
    (∀ σ' ρ', Rep K B as h H σ' ρ' → σ'.length = σ.length → (∀ k, k ∉ is → σ'[k]? = σ[k]?) → Qr ρ' → Q σ' H) → g vs σ H Q
def tNil : List D → Rho → (Rho → Prop) → Prop
  | [], ρ, Q => Q ρ
  | _, _, _ => False
def tCons (t : TD) (u : List D → Rho → (Rho → Prop) → Prop) : List D → Rho → (Rho → Prop) → Prop
  | d :: ds, ρ, Q => t d ρ fun ρ1 => u ds ρ1 Q
  | _, _, _ => False
theorem gds_nil {K : PySem.W.Frag} : GDs K gNil tNil [] := ⟨fun {B as h H σ ρ vs ds Q Qr} rp f w k => by
  cases f with
  | nil => exact ⟨rfl, k σ ρ rp rfl (fun _ _ => rfl) w⟩
  | cons f t => exact w.elim⟩
theorem gds_cons {K : PySem.W.Frag} {g : TG} {gs : TGs} {t : TD} {u : List D → Rho → (Rho → Prop) → Prop} {is js : List Nat} (h1 : GD K g t is) (h2 : GDs K gs u js) : GDs K (gCons g gs) (tCons t u) (is ++ js) := ⟨fun {B as h H σ ρ vs ds Q Qr} rp f w k => by
  cases f with
  | nil => exact w.elim
  | @cons v vs d ds f t' => exact ⟨v, vs, rfl, h1.run rp f w fun σ1 ρ1 rp1 l1 s1 w1 => h2.run rp1 t' w1 fun σ2 ρ2 rp2 l2 s2 w2 => k σ2 ρ2 rp2 (l2.trans l1) (fun k hk => by
      rw [s2 k (fun m => hk (List.mem_append_right _ m)), s1 k (fun m => hk (List.mem_append_left _ m))]) w2⟩⟩
def tTups (n : Nat) (u : List D → Rho → (Rho → Prop) → Prop) : TD
  | .tup ds, ρ, Q => ds.length = n ∧ u ds ρ Q
  | _, _, _ => False
theorem gd_tup {K : PySem.W.Frag} {gs : TGs} {u : List D → Rho → (Rho → Prop) → Prop} {is : List Nat} {n : Nat} (x : GDs K gs u is) : GD K (gTup K n gs) (tTups n u) is := ⟨fun {B as h H σ ρ v d Q Qr} rp f w k => by
  cases d with
  | tup ds =>
    cases f with
    | @tup a vs _ q f => exact ⟨a, vs, rfl, q.1, by rw [f.len]; exact w.1, x.run rp f w.2 k⟩
  | _ => exact w.elim⟩

/-! ### statements -/
section
variable {X : Cx} {W : WX} {e a b c : Expr} {es rest : List Expr} {st : Stmt} {sts : List Stmt} {g ga gb gc : DE} {gt gu : DT} {gs : DA} {pos : Pos} {g1 g2 : DS}
def sNext : DS := fun E ρ h => E.nx ρ h
theorem ss_nil : PSs X [] (us X.K W sNext) := pss_nil.to fun D σ H ⟨B, as, h, ρ, E, rp, w, k⟩ => k.nx as h H σ ρ (.refl rp) w
def sSeq (g1 g2 : DS) : DS := fun E ρ h => g1 { E with nx := g2 E } ρ h
theorem ss_cons (h1 : PS X st (us X.K W g1)) (h2 : PSs X sts (us X.K W g2)) : PSs X (st :: sts) (us X.K W (sSeq g1 g2)) := (pss_cons h1 h2).to fun D σ H ⟨B, as, h, ρ, E, rp, w, k⟩ =>
  ⟨B, as, h, ρ, { E with nx := g2 E }, rp, w, ⟨fun as' h' H' σ' ρ' t q => ⟨B, as', h', ρ', E, t.rp, q, k.to t⟩, k.bk, k.ct, k.rt, k.ex⟩⟩
theorem ss_one (h1 : PS X st (us X.K W g1)) : PSs X [st] (us X.K W g1) := pss_one h1
def sIf (gt : DT) (g1 g2 : DS) : DS := fun E ρ h => gt ρ h (fun b h1 => if b = true then g1 E ρ h1 else g2 E ρ h1) (E.er ρ)
theorem st_if {sa sb : List Stmt} (hc : PT X c (ut X.K W gt)) (ha : PSs X sa (us X.K W g1)) (hb : PSs X sb (us X.K W g2)) : PS X (.If c sa sb pos) (us X.K W (sIf gt g1 g2)) := (ps_if hc ha hb).to fun D σ H ⟨B, as, h, ρ, E, rp, w, k⟩ =>
  ⟨B, as, h, ρ, _, _, rp, w, fun b h' H' x q => by
    have t : To X.K B as h H as h' H' σ ρ := .go rp x
    cases b with
    | true => exact ⟨B, as, h', ρ, E, t.rp, q, k.to t⟩
    | false => exact ⟨B, as, h', ρ, E, t.rp, q, k.to t⟩, k.xc rp⟩
def sRet (g : DE) : DS := fun E ρ h => g ρ h E.rt (E.er ρ)
theorem st_ret (he : PE X e (up X.K W g)) : PS X (.Return (some e) pos) (us X.K W (sRet g)) := (ps_ret he).to fun D σ H ⟨B, as, h, ρ, E, rp, w, k⟩ =>
  ⟨B, as, h, ρ, _, _, rp, w, fun v d h' H' x f q => k.ret x f q, k.xc rp⟩
theorem st_retN : PS X (.Return none pos) (us X.K W (sRet (dC .non))) := ps_retN.to fun D σ H ⟨B, as, h, ρ, E, rp, w, k⟩ => k.ret (.refl rp.hr) .non w
/-- return of an own list -/
def sRetL (i : Nat) : DS := fun E ρ h => dOwn i ρ h E.rt (E.er ρ)
theorem st_retL {i : Nat} {x : Str} {p1 : Pos} (hN : X.N[i]? = some x) (hv : Vis X.env.scope x) (hd : (x == ("__debug__" : Str)) = false := by decide) (hcd : (x == ("__classdict__" : Str)) = false := by decide) : PS X (.Return (some (.Name x p1)) pos) (us X.K W (sRetL i)) :=
  (ps_ret (pe_var hN hv hd hcd)).to fun D σ H ⟨B, as, h, ρ, E, rp, w, k⟩ => by
    obtain ⟨xs, e, q⟩ := dOwn_ok w
    obtain ⟨a, vs, e1, e2, e3, f⟩ := rp.sl i xs e
    exact ⟨_, e1, k.rt _ _ h H Mv.refl.drop (rp.hr.anti fun _ m => mx_nil m) (.lst (fun m => by
      rcases m with m | m | m
      · exact rp.ob a e2 m
      · cases m
      · exact m (rp.ow a e2).1) e3 (f.anti fun _ m => mx_nil m)) q⟩
end
end NL
set_option Elab.async false
set_option linter.all false
set_option maxRecDepth 100000
set_option maxHeartbeats 2300000
/-! N7: stores, loops, comprehensions. -/
namespace NL
open PyProof.Rows L2 PySem PySem.Spec
/-- what the rules ask of the context -/
structure CxN (X : Cx) (W : WX) : Prop where
  po : PassesOwn (model X.prog X.w) X.A X.env X.xe
  cm : X.calm = true
  nd : X.N.Nodup
  gd : X.A.guards = some []
  tk : Takes X W
def W0 : WX := fun _ _ _ _ => False
theorem takesNone {X : Cx} : Takes X W0 := fun _ _ ⟨_, _, _, _, _, _, _, _, _, _, _, _, _, _, _, _, w⟩ => w.elim
theorem CxN.blk {X : Cx} {W : WX} (c : CxN X W) {s : Shared} {H : Hp} {scope : Scope} {cenv : Env} {fp : List Addr} : CxN (X.blk s H scope cenv fp) W0 := ⟨PassesOwn.never, c.cm, c.nd, c.gd, takesNone⟩
section
variable {X : Cx} {W : WX} {e a b c elt tg iter : Expr} {es rest : List Expr} {st : Stmt} {sts body : List Stmt} {g ga gb gc ge : DE} {gt gu : DT} {gs : DA} {pos : Pos} {g1 g2 gbd : DS}
def sSet (t : TD) (g : DE) : DS := fun E ρ h => g ρ h (fun d h1 => t d ρ fun ρ1 => E.nx ρ1 h1) (E.er ρ)
theorem st_set {i : Nat} {x : Str} {pos' : Pos} (C : CxN X W) (hi : X.N[i]? = some x) (hx : Loc X.env.scope x) (he : PE X e (up X.K W g)) (hs : swapsWith e (some (.Name x pos')) pos.line X.env = pure false := by rfl)
    (hf : X.fn x = true ∨ X.env.scope.names.lookup x = some .local := by first | exact .inl rfl | exact .inr rfl | assumption) : PS X (.Assign [.Name x pos'] e pos) (us X.K W (sSet (tName i) g)) :=
  (ps_set C.nd hi hx he hs hf).to fun D σ H ⟨B, as, h, ρ, E, rp, w, k⟩ => ⟨B, as, h, ρ, _, _, rp, w, fun v d h' H' x f q => k.nx _ _ _ _ _ (To.setD rp x f) q, k.xc rp⟩
/-- (a, b, ..) = e -/
theorem st_asg {tg : Expr} {gg : TG} {t : TD} {is : List Nat} (he : PE X e (up X.K W g)) (hg : PG X tg gg) (hd : GD X.K gg t is) (hs : swapsWithSole [tg] e pos.line X.env = pure false := by rfl) (hw : swappedStores [tg] e X.env = pure none := by rfl)
    (h1 : (assignEach [tg] X.env).map (·.2) = [assign tg X.env] := by rfl) : PS X (.Assign [tg] e pos) (us X.K W (sSet t g)) :=
  (ps_asg he hg hs hw h1).to fun D σ H ⟨B, as, h, ρ, E, rp, w, k⟩ => ⟨B, as, h, ρ, _, _, rp, w, fun v d h' H' x f q => hd.run (rp.go x) f q fun σ' ρ' rp' _ _ q2 => k.nx _ _ _ _ _ ⟨rp', x.mv⟩ q2, k.xc rp⟩
def sPar (i j : Nat) (gs : DA) : DS := fun E ρ h => gs ρ h (fun ds h1 => match ds with
  | [x, y] => E.nx ((ρ.set i (some (.d x))).set j (some (.d y))) h1
  | _ => False) (E.er ρ)
theorem st_par {i j : Nat} {x y : Str} {px py pt : Pos} {kt k2 pt2} (C : CxN X W) (hi : X.N[i]? = some x) (hj : X.N[j]? = some y) (hij : i ≠ j)
    (hx : X.env.scope.names.lookup x = some .local) (hy : X.env.scope.names.lookup y = some .local) (ha : PA X [a, b] (ua X.K W gs))
    (hw : swappedStores [.Tuple [.Name x px, .Name y py] kt pt] (.Tuple [a, b] k2 pt2) X.env = pure (some [x, y])) (hs : swapsWithSole [.Tuple [.Name x px, .Name y py] kt pt] (.Tuple [a, b] k2 pt2) pos.line X.env = pure false := by rfl) :
    PS X (.Assign [.Tuple [.Name x px, .Name y py] kt pt] (.Tuple [a, b] k2 pt2) pos) (us X.K W (sPar i j gs)) :=
  (ps_par C.cm C.nd hi hj hij hx hy ha hw hs).to fun D σ H ⟨B, as, h, ρ, E, rp, w, k⟩ => ⟨B, as, h, ρ, _, _, rp, w, fun vs ds h' H' z fs q => by
    match ds, q with
    | [d1, d2], q =>
      cases fs with
      | @cons v1 _ _ _ f1 t1 =>
        cases t1 with
        | @cons v2 _ _ _ f2 t2 =>
          cases t2
          have s1 := To.setD (i := i) rp z f1
          have s2 := To.setD (i := j) s1.rp (.refl s1.rp.hr) f2
          exact ⟨v1, v2, rfl, k.nx _ _ _ _ _ (s1.trans s2) q⟩, k.xc rp⟩
/-- a new list of one's own -/
theorem To.new {K : PySem.W.Frag} {B : Addr → Prop} {as : List Addr} {h h' : AH} {H H' : Hp} {σ : L2.St} {ρ : Rho} {i : Nat} {p : Addr} {vs : List V} {ds : List D} (rp : Rep K B as h H σ ρ) (x : Go K B as h H h' H') (n : H p = none) (e : H' p = some (.lst vs)) (m : h' p = none) (hr' : HR K (Mx B (p :: as) h') h' H')
    (f : FzL K (Mx B (p :: as) h') H' vs ds) : To K B as h H (p :: as) h' H' (σ.set i (some (.ref p))) (ρ.set i (some (.l ds))) := by
  have r1 := rp.go x
  have up : ∀ {a : Addr} {o : HO}, H a = some o → a ≠ p := fun {a o} q z => by subst z; rw [n] at q; cases q
  have free : ∀ (j : Nat) ys, ρ[j]? = some (some (SV.l ys)) → σ[j]? ≠ some (some (.ref p)) := fun j ys q z => by
    obtain ⟨a, us, e1, e2, e3, _⟩ := rp.sl j ys q
    rw [z] at e1
    cases e1
    rw [n] at e3; cases e3
  have nb : ¬ B p := fun b => rp.bd p b n
  have r2 : Rep K B (p :: as) h' H' σ ρ := {
    hr := hr'
    bd := r1.bd
    ow := fun a m2 => by
      rcases List.mem_cons.mp m2 with m2 | m2
      · subst m2; exact ⟨m, vs, e⟩
      · exact r1.ow a m2
    ob := fun a m2 b => by
      rcases List.mem_cons.mp m2 with m2 | m2
      · subst m2; exact nb b
      · exact rp.ob a m2 b
    nd := r1.nd
    len := r1.len
    sd := fun j y q => by
      obtain ⟨v, e1, f1⟩ := rp.sd j y q
      exact ⟨v, e1, f1.keeps x.kw fun a o w m2 => by
        rcases mx_cons m2 with m2 | m2
        · exact absurd m2 (up w)
        · exact x.mx a o w m2⟩
    sl := fun j ys q => by
      obtain ⟨a, us, e1, e2, e3, f1⟩ := rp.sl j ys q
      exact ⟨a, us, e1, List.mem_cons_of_mem _ e2, x.k.ke _ _ e3 (fun z => z (rp.ow a e2).1), f1.keeps x.kw fun a o w m2 => by
        rcases mx_cons m2 with m2 | m2
        · exact absurd m2 (up w)
        · exact x.mx a o w m2⟩
    sx := fun j a dd y q => ⟨(rp.sx j a dd y q).1, (rp.sx j a dd y q).2.keeps x.kw fun a o w m2 => by
        rcases mx_cons m2 with m2 | m2
        · exact absurd m2 (up w)
        · exact x.mx a o w m2⟩ }
  refine ⟨r2.setL List.mem_cons_self e f free, x.mv.k, x.lo, x.mv.nw, fun a o q m2 => ?_, x.mv.th⟩
  rcases List.mem_cons.mp m2 with m2 | m2
  · exact absurd m2 (up q)
  · exact m2
def sOwn (i : Nat) (gs : DA) : DS := fun E ρ h => gs ρ h (fun ds h1 => E.nx (ρ.set i (some (.l ds))) h1) (E.er ρ)
theorem st_own {i : Nat} {x : Str} {pos' : Pos} (C : CxN X W) (hi : X.N[i]? = some x) (hx : Loc X.env.scope x) (he : PE X e (un X.K W gs)) (hs : swapsWith e (some (.Name x pos')) pos.line X.env = pure false := by rfl)
    (hf : X.fn x = true ∨ X.env.scope.names.lookup x = some .local := by first | exact .inl rfl | exact .inr rfl | assumption) : PS X (.Assign [.Name x pos'] e pos) (us X.K W (sOwn i gs)) :=
  (ps_set C.nd hi hx he hs hf).to fun D σ H ⟨B, as, h, ρ, E, rp, w, k⟩ => ⟨B, as, h, ρ, _, _, rp, w, fun p vs ds h' H' x n e m r f q => k.nx _ _ _ _ _ (To.new rp x n e m r f) q, k.xc rp⟩
/-- a, xs = e, [..], xs a list of one's own -/
def sAsgO (i j : Nat) (ga : DE) (gs : DA) : DS := fun E ρ h => ga ρ h (fun d h1 => gs ρ h1 (fun ds h2 => E.nx ((ρ.set i (some (.d d))).set j (some (.l ds))) h2) (E.er ρ)) (E.er ρ)
/-- an expression whose value is let go -/
def sExp (g : DE) : DS := fun E ρ h => g ρ h (fun _ h1 => E.nx ρ h1) (E.er ρ)
theorem st_exp (he : PE X e (up X.K W g)) (hs : swapsWith e none pos.line X.env = pure false := by rfl) : PS X (.Expr e pos) (us X.K W (sExp g)) :=
  (ps_expr he hs).to fun D σ H ⟨B, as, h, ρ, E, rp, w, k⟩ => ⟨B, as, h, ρ, _, _, rp, w, fun v d h' H' x f q => k.nx _ _ _ _ _ (.go rp x) q, k.xc rp⟩
theorem st_doc {x j pos pos'} : PS X (.Expr (.Constant (.str x) j pos) pos') (us X.K W sNext) := ps_doc.to fun D σ H ⟨B, as, h, ρ, E, rp, w, k⟩ => k.nx as h H σ ρ (.refl rp) w
theorem st_pass : PS X (.Pass pos) (us X.K W sNext) := ps_pass.to fun D σ H ⟨B, as, h, ρ, E, rp, w, k⟩ => k.nx as h H σ ρ (.refl rp) w
def sBrk : DS := fun E ρ h => E.bk ρ h
def sCnt : DS := fun E ρ h => E.ct ρ h
theorem st_brk : PS X (.Break pos) (us X.K W sBrk) := ps_break.to fun D σ H ⟨B, as, h, ρ, E, rp, w, k⟩ => k.bk as h H σ ρ (.refl rp) w
theorem st_cnt : PS X (.Continue pos) (us X.K W sCnt) := ps_continue.to fun D σ H ⟨B, as, h, ρ, E, rp, w, k⟩ => k.ct as h H σ ρ (.refl rp) w
/-- xs.append(e), xs one's own -/
def ownOf (ρ : Rho) (i : Nat) (Q : List D → Prop) : Prop := match ρ[i]? with
  | some (some (.l xs)) => Q xs
  | _ => False
theorem ownOf_ok {ρ : Rho} {i : Nat} {Q : List D → Prop} (w : ownOf ρ i Q) : ∃ xs, ρ[i]? = some (some (.l xs)) ∧ Q xs := by
  unfold ownOf at w
  split at w
  · exact ⟨_, by assumption, w⟩
  · exact w.elim
def sApp (i : Nat) (g : DE) : DS := fun E ρ h => ownOf ρ i fun xs => g ρ h (fun d h1 => xs.length < sizeLine ∧ E.nx (ρ.set i (some (.l (xs ++ [d])))) h1) (E.er ρ)
theorem st_app {i : Nat} {x : Str} {p1 p2 pos2 : Pos} (hN : X.N[i]? = some x) (hv : Vis X.env.scope x) (he : PE X e (up X.K W g)) (hd : (x == ("__debug__" : Str)) = false := by decide) (hcd : (x == ("__classdict__" : Str)) = false := by decide)
    (hb : attributeBase (.Name x p1) "append" X.env (eval (.Name x p1) X.env) = eval (.Name x p1) X.env := by rfl)
    (hfew : ((backTo pos2 (starEach [e] X.env)).all (fun x => !x.1) && (backToKw pos2 (keywordEach [] X.env)).all (fun x => x.1.isSome) && decide (([e] : List Expr).length + ([] : List Keyword).length + (if ([] : List Keyword).isEmpty then 0 else 1) < 30)) = true := by rfl)
    (hl : (p2.endLine == pos2.line) = true := by rfl) (hst : starEach [e] X.env = (false, eval e X.env) :: starEach [] X.env := by rfl) (hpl : (backTo pos2 (starEach [] X.env)).any (·.1) = false := by rfl)
    (hs : swapsWith (.Call (.Attribute (.Name x p1) "append" p2) [e] [] pos2) none pos.line X.env = pure false := by rfl) :
    PS X (.Expr (.Call (.Attribute (.Name x p1) "append" p2) [e] [] pos2) pos) (us X.K W (sApp i g)) := by
  refine (ps_expr (pe_bm PySem.F.plainAttrs_list PySem.F.slot_list_append PySem.F.type_list_append mt_append (pe_var hN hv hd hcd) (pa_cons he pa_nil hst) hb hfew hl hst hpl) hs).to fun D σ H ⟨B, as, h, ρ, E, rp, w, k⟩ => ?_
  obtain ⟨xs, e0, w⟩ := ownOf_ok w
  obtain ⟨p, vs, e1, e2, e3, f⟩ := rp.sl i xs e0
  refine ⟨_, e1, .inl ⟨rfl, _, SqL.of e3⟩, B, as, h, ρ, _, _, rp, w, fun v d h' H' x f1 q => ?_, k.xc rp⟩
  have e4 := x.k.ke _ _ e3 fun z => z (rp.ow p e2).1
  exact ⟨p, vs, v, rfl, rfl, e4, by rw [f.len]; exact q.1, k.nx _ _ _ _ _ ((To.go rp x).trans (To.own (rp.go x) e0 e1 e2 e4 ((f.go x).snoc f1))) q.2⟩

/-! ### what is walked; ck: what must hold of the heap of data at each turn -/
structure ItD (K : PySem.W.Frag) (B : Addr → Prop) (as : List Addr) (h : AH) (H : Hp) (J : It) (ds : List D) (ck : AH → Prop) : Prop where
  stop : ∀ as' h' H', Mv as h H as' h' H' → HR K (Mx B as' h') h' H' → ck h' → J.stop ds.length H'
  go : ∀ as' h' H' i, Mv as h H as' h' H' → HR K (Mx B as' h') h' H' → ck h' → i < ds.length → J.go i H'
  yld : ∀ as' h' H' i v H'', Mv as h H as' h' H' → HR K (Mx B as' h') h' H' → ck h' → J.yld i H' v H'' → H'' = H' ∧ ∀ d, ds[i]? = some d → Fz K (Mx B as' h') H' v d
abbrev DI := Rho → AH → (List D → (AH → Prop) → AH → Prop) → QX → Prop
def ui (K : PySem.W.Frag) (W : WX) (g : DI) : TI := fun σ H Q => ∃ B as h ρ Qd Ed, Rep K B as h H σ ρ ∧ g ρ h Qd Ed ∧ (∀ J ds ck h' H', Go K B as h H h' H' → ItD K B as h' H' J ds ck → Qd ds ck h' → Q J H') ∧ Xc K B as h H W σ Ed
theorem _root_.L2.PI.to {tg e : Expr} {t t' : TI} (r : PI X tg e t) (i : ∀ sg H Q, t' sg H Q → t sg H Q) : PI X tg e t' := ⟨fun pn s sg H Q iv w => r.run pn s sg H Q iv (i sg H Q w)⟩
/-- nothing to look at -/
def ckT : AH → Prop := fun _ => True
def ckL (a : Addr) (xs : List D) : AH → Prop := fun h => h a = some (.lst xs)
def signs (s : Str) : List D := s.cps.toList.map fun c => .str ⟨#[c]⟩
/-- a text, a tuple, a list; a list of the heap of data, which stays while it is walked -/
def iA (g : DE) : DI := fun ρ h Q E => g ρ h (fun d h1 => match d with
  | .str s => Q (signs s) ckT h1
  | .tup xs => Q xs ckT h1
  | .lst xs => Q xs ckT h1
  | .obj a => (match h1 a with
    | some (.lst xs) => Q xs (ckL a xs) h1
    | _ => False)
  | _ => False) E
/-- a text, a tuple, a list walked -/
def iAny (K : PySem.W.Frag) (tl : TE) : TI := fun σ H R => tl σ H fun x H1 => (∃ z, x = .str z ∧ R (Its z) H1) ∨ ∃ a, x = .ref a ∧ (((∃ xs, SqL K H1 a xs) ∧ R (Itl K a) H1) ∨ ((∃ xs, SqT K H1 a xs) ∧ R (Itt K a) H1))
theorem one_it {pn : List (Addr × Obj)} {s : Shared} {σ : L2.St} {H : Hp} {tg : Expr} {J : It} {ob : Obj} {tn : Nat → Heap → Prop} {R : It → Hp → Prop} (iv : Inv X pn σ H s) (tt : Turn X.prog X.w X.K tg J [s.heap.objs.size] s.heap.objs.size tn) (t0 : tn 0 (s.heap.push ob)) (q : R J H) :
    PIE X pn σ tg R (.ref s.heap.objs.size) { s with heap := s.heap.push ob } :=
  ⟨s.heap.objs.size, [s.heap.objs.size], tn, J, H, rfl, iv.kept (t' := s.toks) fun _ _ e => Heap.get?_push_of_some _ e, tt, t0, fun b m => by
    cases List.mem_singleton.mp m
    exact iv.fpOk (Nat.le_refl _) (iv.hok.fresh (Nat.le_refl _)), q⟩
theorem pi_walk {tl : TE} (hl : PE X e tl) : PI X tg e (iAny X.K tl) := by
  constructor
  intro pn s σ H R iv q0
  refine thn (hl.run pn s σ H _ iv q0) fun u s1 ⟨x, H1, J1, rx, q1⟩ => ?_
  rcases q1 with ⟨z, ez, q⟩ | ⟨a, ea, ⟨⟨xs, sq⟩, q⟩ | ⟨⟨xs, sq⟩, q⟩⟩
  · subst ez
    obtain ⟨tk, rfl⟩ := rx
    cases asc : z.cps.all (· < 128)
    · exact wpAny_pyIter_wide asc (one_it J1 (turn_str _ z tk "str_iterator" (.inr rfl)) ⟨_, Heap.get?_push_size _ rfl, rfl, rfl⟩ q)
    · exact wpAny_pyIter_ascii asc (one_it J1 (turn_str _ z tk "str_ascii_iterator" (.inl rfl)) ⟨_, Heap.get?_push_size _ rfl, rfl, rfl⟩ q)
  · subst ea
    cases rx
    obtain ⟨cells, _, pl, _⟩ := J1.list sq
    exact wpAny_pyIter_list pl.isList (one_it J1 (turn_list a _) ⟨_, Heap.get?_push_size _ rfl, rfl, rfl⟩ q)
  · subst ea
    cases rx
    obtain ⟨cells, _, pl, _⟩ := J1.tuple sq
    exact wpAny_pyIter_tuple (show s1.heap.IsTuple a cells.toArray from pl) (one_it J1 (turn_tuple a _) ⟨_, Heap.get?_push_size _ rfl, rfl, rfl⟩ q)
end
section
variable {K : PySem.W.Frag} {B : Addr → Prop} {as : List Addr} {h : AH} {H : Hp} {p : Addr} {vs : List V} {ds : List D}
theorem it_str (s : Str) : ItD K B as h H (Its s) (signs s) ckT where
  stop := fun as' h' H' m r _ => by simp [Its, signs]
  go := fun as' h' H' i m r _ lt => by simpa [Its, signs] using lt
  yld := fun as' h' H' i v H'' m r _ y => ⟨y.1, fun d hd => by
    obtain ⟨_, c, hc, rfl⟩ := y
    have e1 : d = .str ⟨#[c]⟩ := by
      unfold signs at hd
      rw [List.getElem?_map] at hd
      have : s.cps.toList[i]? = some c := by simpa using hc
      rw [this] at hd
      exact (Option.some.inj hd).symm
    rw [e1]
    exact .str _⟩
theorem it_tup (t : TupAt K H p vs) (f : FzL K (Mx B as h) H vs ds) : ItD K B as h H (Itt K p) ds ckT where
  stop := fun as' h' H' m r _ => ⟨vs, m.k.sqt t.1, by rw [f.len]; exact Nat.le_refl _⟩
  go := fun as' h' H' i m r _ lt => by
    have lt' : i < vs.length := by rw [f.len]; exact lt
    exact ⟨vs, vs[i], m.k.sqt t.1, List.getElem?_eq_getElem lt'⟩
  yld := fun as' h' H' i v H'' m r _ y => ⟨y.1, fun d hd => by
    have e1 := y.2 vs (m.k.sqt t.1)
    obtain ⟨w, e2, f2⟩ := (f.mv m).get hd
    rw [e1] at e2
    cases e2
    exact f2⟩
theorem it_lst (n : ¬ Mx B as h p) (e : H p = some (.lst vs)) (f : FzL K (Mx B as h) H vs ds) : ItD K B as h H (Itl K p) ds ckT where
  stop := fun as' h' H' m r _ => ⟨vs, SqL.of (m.kw.ke _ _ e n), by rw [f.len]; exact Nat.le_refl _⟩
  go := fun as' h' H' i m r _ lt => by
    have lt' : i < vs.length := by rw [f.len]; exact lt
    exact ⟨vs, vs[i], SqL.of (m.kw.ke _ _ e n), List.getElem?_eq_getElem lt'⟩
  yld := fun as' h' H' i v H'' m r _ y => ⟨y.1, fun d hd => by
    have e1 := y.2 vs (SqL.of (m.kw.ke _ _ e n))
    obtain ⟨w, e2, f2⟩ := (f.mv m).get hd
    rw [e1] at e2
    cases e2
    exact f2⟩
theorem it_obj : ItD K B as h H (Itl K p) ds (ckL p ds) where
  stop := fun as' h' H' m r c => by
    obtain ⟨vs, e, f⟩ := r p _ c
    exact ⟨vs, SqL.of e, by rw [f.len]; exact Nat.le_refl _⟩
  go := fun as' h' H' i m r c lt => by
    obtain ⟨vs, e, f⟩ := r p _ c
    have lt' : i < vs.length := by rw [f.len]; exact lt
    exact ⟨vs, vs[i], SqL.of e, List.getElem?_eq_getElem lt'⟩
  yld := fun as' h' H' i v H'' m r c y => ⟨y.1, fun d hd => by
    obtain ⟨vs, e, f⟩ := r p _ c
    have e1 := y.2 vs (SqL.of e)
    obtain ⟨w, e2, f2⟩ := f.get hd
    rw [e1] at e2
    cases e2
    exact f2⟩
def intsD (lo : Int) (n : Nat) : List D := (List.range n).map fun (i : Nat) => .int (lo + (i : Int))
theorem it_rng (lo : Int) (n : Nat) : ItD K B as h H (Itr lo n) (intsD lo n) ckT where
  stop := fun as' h' H' m r _ => by simp [Itr, intsD]
  go := fun as' h' H' i m r _ lt => by simpa [Itr, intsD] using lt
  yld := fun as' h' H' i v H'' m r _ y => ⟨y.1, fun d hd => by
    have e1 : d = .int (lo + (i : Int)) := by
      unfold intsD at hd
      rw [List.getElem?_map] at hd
      by_cases c : i < n
      · rw [List.getElem?_range c] at hd
        exact (Option.some.inj hd).symm
      · rw [List.getElem?_eq_none (by simpa using Nat.le_of_not_lt c)] at hd
        cases hd
    rw [e1, y.2]
    exact .int _⟩
end
section
variable {X : Cx} {W : WX} {e a b c elt tg iter : Expr} {es rest : List Expr} {st : Stmt} {sts body : List Stmt} {g ga gb gc ge : DE} {gt gu : DT} {gs : DA} {gi : DI} {pos : Pos} {g1 g2 gbd : DS}
theorem i_any (he : PE X e (up X.K W g)) : PI X tg e (ui X.K W (iA g)) := (pi_walk he).to fun σ H Q ⟨B, as, h, ρ, Qd, Ed, rp, w, k, xx⟩ => ⟨B, as, h, ρ, _, Ed, rp, w, fun v d h' H' x f q => by
  cases d with
  | str s => cases f; exact .inl ⟨s, rfl, k _ _ _ h' H' x (it_str s) q⟩
  | tup xs =>
    cases f with
    | @tup p vs _ t f => exact .inr ⟨p, rfl, .inr ⟨⟨vs, t.1⟩, k _ _ _ h' H' x (it_tup t f) q⟩⟩
  | lst xs =>
    cases f with
    | @lst p vs _ n e f => exact .inr ⟨p, rfl, .inl ⟨⟨vs, SqL.of e⟩, k _ _ _ h' H' x (it_lst n e f) q⟩⟩
  | obj p =>
    cases f
    have q' : (match h' p with | some (.lst xs) => Qd xs (ckL p xs) h' | _ => False) := q
    split at q'
    · rename_i xs e
      obtain ⟨vs, e2, _⟩ := x.hr p _ e
      exact .inr ⟨p, rfl, .inl ⟨⟨vs, SqL.of e2⟩, k _ _ _ h' H' x it_obj q'⟩⟩
    · exact q'.elim
  | _ => exact q.elim, xx⟩
def iRg1 (g : DE) : DI := fun ρ h Q E => g ρ h (fun d h1 => match d with
  | .int n => (-(2 ^ 62) ≤ n ∧ n < 2 ^ 62) ∧ Q (intsD 0 n.toNat) ckT h1
  | _ => False) E
theorem i_rng1 {p : Pos} (hg : Gl X "range") (hmm : X.mg "range" = none) (ha : PE X a (uw X.K W g)) (hs : starEach [a] X.env = [(false, eval a X.env)] := by rfl) (hs2 : starEach [a] X.env = (false, eval a X.env) :: starEach [] X.env := by rfl) : PI X tg (.Call (.Name "range" p) [a] [] pos) (ui X.K W (iRg1 g)) :=
  (pi_range1 hg hmm (pa_cons ha pa_nil hs2) hs).to fun σ H Q ⟨B, as, h, ρ, Qd, Ed, rp, w, k, xx⟩ => ⟨B, as, h, ρ, _, Ed, rp, w, fun v d h' H' x f q => by
    cases d with
    | int n =>
      rw [f.int]
      refine ⟨n, rfl, q.1.1, q.1.2, ?_⟩
      simpa using k _ _ _ h' H' x (it_rng 0 n.toNat) q.2
    | _ => exact q.elim, xx⟩

/-! ### for, while -/
def loopD (t : TD) (gb : DS) (ck : AH → Prop) : List D → DEnds → Rho → AH → Prop
  | [], E, ρ, h => ck h ∧ E.nx ρ h
  | d :: ds, E, ρ, h => ck h ∧ t d ρ fun ρ1 => gb { nx := fun ρ2 h2 => loopD t gb ck ds E ρ2 h2, ct := fun ρ2 h2 => loopD t gb ck ds E ρ2 h2, bk := E.nx, rt := E.rt, ex := E.ex } ρ1 h
def sFor (gi : DI) (t : TD) (gb : DS) : DS := fun E ρ h => gi ρ h (fun ds ck h1 => loopD t gb ck ds E ρ h1) (E.er ρ)
theorem st_for {gg : TG} {t : TD} {is : List Nat} (C : CxN X W) (hi : PI X tg iter (ui X.K W gi)) (hg : PG X tg gg) (hd : GD X.K gg t is) (hbb : PSs X body (us X.K W gbd))
    (hs : ∀ x, foldedSetIterable iter X.env x = pure x := by intro _; rfl) : PS X (.For tg iter body [] pos) (us X.K W (sFor gi t gbd)) := by
  refine (ps_for C.po C.cm hi hg hbb hs).to fun D σ H ⟨B, as, h, ρ, E, rp, w, k⟩ => ⟨B, as, h, ρ, _, _, rp, w, fun J ds ck h1 H1 x it q => ?_, k.xc rp⟩
  have t1 : To X.K B as h H as h1 H1 σ ρ := .go rp x
  have k1 := k.to t1
  refine ⟨fun i m σ' H' => m = ds.length - i ∧ i ≤ ds.length ∧ ∃ as' h' ρ', To X.K B as h1 H1 as' h' H' σ' ρ' ∧ loopD t gbd ck (ds.drop i) E ρ' h', ⟨ds.length, by omega, Nat.zero_le _, as, h1, ρ, .refl t1.rp, by simpa using q⟩, ?_⟩
  rintro i m σ' H' ⟨rfl, hi, as', h', ρ', tt, q'⟩
  by_cases hlt : i < ds.length
  · have e2 : ds.drop i = ds[i] :: ds.drop (i + 1) := List.drop_eq_getElem_cons hlt
    rw [e2] at q'
    refine .inr ⟨it.go as' h' H' i tt.mv tt.rp.hr q'.1 hlt, fun σ2 H2 => ∃ as2 h2 ρ2, To X.K B as h1 H1 as2 h2 H2 σ2 ρ2 ∧ loopD t gbd ck (ds.drop (i + 1)) E ρ2 h2, fun σ2 H2 ⟨as2, h2, ρ2, t2, q2⟩ => ⟨ds.length - (i + 1), by omega, rfl, hlt, as2, h2, ρ2, t2, q2⟩, fun v H'' y => ?_⟩
    obtain ⟨e1, f⟩ := it.yld as' h' H' i v H'' tt.mv tt.rp.hr q'.1 y
    subst e1
    refine hd.run tt.rp (f ds[i] (List.getElem?_eq_getElem hlt)) q'.2 fun σ2 ρ2 rp2 _ _ q2 => ⟨B, as', h', ρ2, _, rp2, q2, ?_⟩
    have t3 : To X.K B as h1 H1 as' h' H'' σ2 ρ2 := ⟨rp2, tt.mv⟩
    exact ⟨fun as4 h4 H4 σ4 ρ4 t4 q4 => ⟨as4, h4, ρ4, t3.trans t4, q4⟩, fun as4 h4 H4 σ4 ρ4 t4 q4 => k1.nx as4 h4 H4 σ4 ρ4 (t3.trans t4) q4, fun as4 h4 H4 σ4 ρ4 t4 q4 => ⟨as4, h4, ρ4, t3.trans t4, q4⟩, (k1.to t3).rt, (k1.to t3).ex⟩
  · have e : i = ds.length := by omega
    subst e
    rw [List.drop_length] at q'
    exact .inl ⟨it.stop as' h' H' tt.mv tt.rp.hr q'.1, k1.nx as' h' H' σ' ρ' tt q'.2⟩
/-- at most n turns -/
def whileD (gt : DT) (gb : DS) : Nat → DEnds → Rho → AH → Prop
  | 0, _, _, _ => False
  | n + 1, E, ρ, h => gt ρ h (fun b h1 => if b = true then gb { nx := fun ρ2 h2 => whileD gt gb n E ρ2 h2, ct := fun ρ2 h2 => whileD gt gb n E ρ2 h2, bk := E.nx, rt := E.rt, ex := E.ex } ρ h1 else E.nx ρ h1) (E.er ρ)
def sWhile (gt : DT) (gb : DS) : DS := fun E ρ h => ∃ n, whileD gt gb n E ρ h
theorem st_while (C : CxN X W) (hc : PT X c (ut X.K W gt)) (hb : PSs X body (us X.K W gbd)) : PS X (.While c body [] pos) (us X.K W (sWhile gt gbd)) := by
  refine (ps_while C.po hc hb).to fun D σ H ⟨B, as, h, ρ, E, rp, ⟨n, w⟩, k⟩ => ?_
  refine ⟨fun m σ' H' => ∃ as' h' ρ', To X.K B as h H as' h' H' σ' ρ' ∧ whileD gt gbd m E ρ' h', ⟨n, as, h, ρ, .refl rp, w⟩, ?_⟩
  rintro m σ' H' ⟨as', h', ρ', tt, q⟩
  cases m with
  | zero => exact q.elim
  | succ m =>
    refine ⟨B, as', h', ρ', _, _, tt.rp, q, fun b h2 H2 x q2 => ?_, (k.to tt).xc tt.rp⟩
    have t2 := tt.trans (To.go tt.rp x)
    cases b with
    | false => exact k.nx _ _ _ _ _ t2 q2
    | true =>
      refine ⟨fun σ4 H4 => ∃ as4 h4 ρ4, To X.K B as h H as4 h4 H4 σ4 ρ4 ∧ whileD gt gbd m E ρ4 h4, fun σ4 H4 z => ⟨m, Nat.lt_succ_self m, z⟩, B, as', h2, ρ', _, t2.rp, q2, ?_⟩
      exact ⟨fun as4 h4 H4 σ4 ρ4 t4 q4 => ⟨as4, h4, ρ4, t2.trans t4, q4⟩, fun as4 h4 H4 σ4 ρ4 t4 q4 => k.nx as4 h4 H4 σ4 ρ4 (t2.trans t4) q4, fun as4 h4 H4 σ4 ρ4 t4 q4 => ⟨as4, h4, ρ4, t2.trans t4, q4⟩, (k.to t2).rt, (k.to t2).ex⟩
end
end NL
set_option Elab.async false
set_option linter.all false
set_option maxRecDepth 100000
set_option maxHeartbeats 2300000
/-! N8: comprehensions. -/
namespace NL
open PyProof.Rows L2 PySem PySem.Spec
def wipeR (ρ : Rho) : List Nat → Rho
  | [] => ρ
  | i :: is => (wipeR ρ is).set i none
theorem wipe_get (τ : L2.St) (k : Nat) : ∀ vs : List Nat, (wipe τ vs)[k]? = if k ∈ vs then (if k < τ.length then some none else none) else τ[k]?
  | [] => by simp [wipe]
  | v :: vs => by
    unfold wipe
    rcases Classical.em (v = k) with c | c
    · subst c
      by_cases hv : v < τ.length
      · rw [List.getElem?_set_self (by rw [wipe_length]; exact hv)]; simp [hv]
      · rw [List.getElem?_eq_none (by simp [wipe_length]; omega)]; simp [hv]
    · rw [List.getElem?_set_ne c, wipe_get τ k vs]
      have : (k ∈ v :: vs) ↔ k ∈ vs := by simp [Ne.symm c]
      simp only [this]
theorem wipe_same {sg σ' : L2.St} {vs : List Nat} (hl : σ'.length = sg.length) (q : ∀ k, k ∉ vs → σ'[k]? = sg[k]?) : wipe σ' vs = wipe sg vs := by
  apply List.ext_getElem?
  intro k
  rw [wipe_get, wipe_get, hl]
  by_cases hk : k ∈ vs
  · simp [hk]
  · simp [hk, q k hk]
theorem wipe_twice (sg : L2.St) (vs : List Nat) : wipe (wipe sg vs) vs = wipe sg vs := wipe_same (wipe_length _ _) fun k hk => by rw [wipe_get, if_neg hk]
section
variable {K : PySem.W.Frag} {B : Addr → Prop} {as : List Addr} {h : AH} {H : Hp} {σ : L2.St} {ρ : Rho}
theorem Rep.wiped (rp : Rep K B as h H σ ρ) : ∀ vs : List Nat, Rep K B as h H (wipe σ vs) (wipeR ρ vs)
  | [] => rp
  | v :: vs => by unfold wipe wipeR; exact (Rep.wiped rp vs).setN
end
def compD (t : TD) (gt : DT) (ge : DE) (vs : List Nat) (ck : AH → Prop) : List D → List D → Rho → AH → (List D → AH → Prop) → Prop
  | [], acc, _, h, Q => ck h ∧ Q acc h
  | d :: ds, acc, ρ, h, Q => ck h ∧ t d (wipeR ρ vs) fun ρ1 => gt ρ1 h (fun b h1 => if b = true then ge ρ1 h1 (fun y h2 => acc.length < sizeLine ∧ compD t gt ge vs ck ds (acc ++ [y]) ρ h2 Q) (fun _ _ => False) else compD t gt ge vs ck ds acc ρ h1 Q) (fun _ _ => False)
def dLc (gi : DI) (t : TD) (gt : DT) (ge : DE) (vs : List Nat) : DA := fun ρ h Q E => gi ρ h (fun ds ck h1 => compD t gt ge vs ck ds [] ρ h1 Q) E
def bYes : DT := fun _ h Q _ => Q true h
section
variable {X : Cx} {W : WX} {e a b c elt tg iter : Expr} {es rest : List Expr} {st : Stmt} {sts body : List Stmt} {g ga gb gc ge : DE} {gt gu : DT} {gs : DA} {gi : DI} {pos : Pos} {g1 g2 gbd : DS}
theorem ts_nil {X : Cx} : PTs X [] (ut X.K W0 bYes) := ⟨fun pn s sg H Q iv ⟨B, as, h, ρ, Qd, Ed, rp, w, k, _⟩ => pts_nil.run pn s sg H Q iv (k true h H (.refl rp.hr) w)⟩
theorem ts_one {X : Cx} {c : Expr} {gt : DT} (r : PT X c (ut X.K W0 gt)) : PTs X [c] (ut X.K W0 gt) := pts_one r
theorem noX {K : PySem.W.Frag} {B : Addr → Prop} {as : List Addr} {h : AH} {H : Hp} {W : WX} {σ : L2.St} : Xc K B as h H W σ (fun _ _ => False) := fun _ _ _ _ _ _ _ q => q.elim
/-- the reading of a comprehension -/
theorem lcD {gg : TG} {t : TD} {is vs : List Nat} (hsub : ∀ k, k ∈ is → k ∈ vs) (hd : GD X.K gg t is) {sg : L2.St} {H : Hp} {Q : VK} (w : un X.K W (dLc gi t gt ge vs) sg H Q) : tLc (ui X.K W gi) gg (ut X.K W0 gt) (up X.K W0 ge) vs sg H Q := by
  obtain ⟨B, as, h, ρ, Qd, Ed, rp, w, k, xx⟩ := w
  refine ⟨B, as, h, ρ, _, Ed, rp, w, fun J ds ck h1 H1 x it q p hpp => ?_, xx⟩
  have rp1 := rp.go x
  have rp2 : Rep X.K B (p :: as) h1 (upd H1 p (.lst [])) sg ρ := rp1.more hpp []
  have m0 : Mv as h1 H1 (p :: as) h1 (upd H1 p (.lst [])) := .more hpp
  have free : ∀ (j : Nat) ys, ρ[j]? = some (some (SV.l ys)) → sg[j]? ≠ some (some (.ref p)) := fun j ys e z => by
    obtain ⟨a, us, e1, e2, e3, _⟩ := rp1.sl j ys e
    rw [z] at e1
    cases e1
    rw [hpp] at e3; cases e3
  have hpH : H p = none := x.back hpp
  -- a state of the loop: the list so far, what is the same as at the start
  let St (H' : Hp) (h' : AH) (accV : List V) (acc : List D) : Prop := H' p = some (.lst accV) ∧ FzL X.K (Mx B (p :: as) h') H' accV acc ∧ Rep X.K B (p :: as) h' H' sg ρ ∧ Mv (p :: as) h1 (upd H1 p (.lst [])) (p :: as) h' H' ∧
    (∀ a o, H a = some o → h a = none → H' a = some o) ∧ (∀ a o, H a = some o → h' a ≠ none → h a ≠ none)
  have go : ∀ {H' h' accV acc H2 h2}, St H' h' accV acc → Go X.K B (p :: as) h' H' h2 H2 → St H2 h2 accV acc := fun {H' h' accV acc H2 h2} s g => by
    obtain ⟨e, f, r, m, kp, nw⟩ := s
    exact ⟨g.k.ke _ _ e (fun z => z (r.ow p List.mem_cons_self).1), f.go g, r.go g, m.trans g.mv, fun a o q n => g.k.ke _ _ (kp a o q n) (fun z => nw a o q z n), fun a o q z => by
      rcases Classical.em (h a = none) with c | c
      · exact nw a o q (g.nw a o (kp a o q c) z)
      · exact c⟩
  have app : ∀ {H' h' accV acc v d}, St H' h' accV acc → Fz X.K (Mx B (p :: as) h') H' v d → St (upd H' p (.lst (accV ++ [v]))) h' (accV ++ [v]) (acc ++ [d]) := fun {H' h' accV acc v d} s f1 => by
    obtain ⟨e, f, r, m, kp, nw⟩ := s
    have mc : Mv (p :: as) h' H' (p :: as) h' (upd H' p (.lst (accV ++ [v]))) := .chg List.mem_cons_self e
    exact ⟨upd_same, (f.snoc f1).mv mc, r.chg List.mem_cons_self free, m.trans mc, fun a o q n => by
      rw [upd_ne (fun z => by subst z; rw [hpH] at q; cases q)]; exact kp a o q n, nw⟩
  refine ⟨fun i m H' => m = ds.length - i ∧ i ≤ ds.length ∧ ∃ h' accV acc, St H' h' accV acc ∧ compD t gt ge vs ck (ds.drop i) acc ρ h' Qd,
    ⟨ds.length, by omega, Nat.zero_le _, h1, [], [], ⟨upd_same, .nil, rp2, .refl, fun a o q n => by rw [upd_ne (fun z => by subst z; rw [hpH] at q; cases q)]; exact x.k.ke _ _ q (fun z => z n), x.nw⟩, by simpa using q⟩, ?_⟩
  rintro i m H' ⟨rfl, hi, h', accV, acc, s, q'⟩
  obtain ⟨ep, fa, rpi, mv, kp, nw⟩ := id s
  have mv1 := m0.trans mv
  by_cases hlt : i < ds.length
  · have e2 : ds.drop i = ds[i] :: ds.drop (i + 1) := List.drop_eq_getElem_cons hlt
    rw [e2] at q'
    refine .inr ⟨it.go _ h' H' i mv1 rpi.hr q'.1 hlt, fun H2 => ∃ h2 accV acc, St H2 h2 accV acc ∧ compD t gt ge vs ck (ds.drop (i + 1)) acc ρ h2 Qd,
      fun H2 ⟨h2, v2, a2, z⟩ => ⟨ds.length - (i + 1), by omega, rfl, hlt, h2, v2, a2, z⟩, fun v H'' y => ?_⟩
    obtain ⟨e1, f⟩ := it.yld _ h' H' i v H'' mv1 rpi.hr q'.1 y
    subst e1
    refine hd.run (rpi.wiped vs) (f ds[i] (List.getElem?_eq_getElem hlt)) q'.2 fun σ3 ρ3 rp3 l3 s3 q3 => ⟨?_, ?_⟩
    · rw [← wipe_twice sg vs]
      exact wipe_same l3 fun k hk => s3 k (fun m => hk (hsub k m))
    · refine ⟨B, p :: as, h', ρ3, _, _, rp3, q3, fun b h3 H3 x3 q4 => ?_, noX⟩
      cases b with
      | false => exact ⟨h3, accV, acc, go s x3, q4⟩
      | true =>
        refine ⟨B, p :: as, h3, ρ3, _, _, rp3.go x3, q4, fun yv yd h4 H4 x4 fy q5 => ?_, noX⟩
        have s4 := go (go s x3) x4
        exact ⟨accV, s4.1, by rw [s4.2.1.len]; exact q5.1, h4, accV ++ [yv], acc ++ [yd], app s4 fy, q5.2⟩
  · have e : i = ds.length := by omega
    subst e
    rw [List.drop_length] at q'
    refine .inl ⟨it.stop _ h' H' mv1 rpi.hr q'.1, k p accV acc h' H' ?_ hpH ep (rpi.ow p List.mem_cons_self).1 rpi.hr fa q'.2⟩
    refine ⟨⟨fun a ys e => mv1.k.tu a ys (x.k.tu a ys e), fun a o u e => mv1.k.fr a o u (x.k.fr a o u e), fun a o e n => kp a o e (Classical.byContradiction fun z => n z), fun a φ e => mv1.k.xt a φ (x.k.xt a φ e)⟩, fun a e => mv.lo a (x.lo a e), nw, rpi.hr.anti fun a m => ?_⟩
    rcases m with m | m | m
    · exact .inl m
    · exact .inr (.inl (List.mem_cons_of_mem _ m))
    · exact .inr (.inr m)
abbrev BlkG (X : Cx) (scope : Scope) (tg : Expr) (gg : TG) : Prop := ∀ (s : Shared) (H : Hp) (C : Addr) (cl : List (Str × Addr)) (fp : List Addr), PG (X.blk s H scope (compEnvC scope cl C X.env) fp) tg gg
abbrev BlkT (X : Cx) (scope : Scope) (ifs : List Expr) (gt : DT) : Prop := ∀ (s : Shared) (H : Hp) (C : Addr) (cl : List (Str × Addr)) (fp : List Addr), PTs (X.blk s H scope (compEnvC scope cl C X.env) fp) ifs (ut X.K W0 gt)
abbrev BlkE (X : Cx) (scope : Scope) (elt : Expr) (ge : DE) : Prop := ∀ (s : Shared) (H : Hp) (C : Addr) (cl : List (Str × Addr)) (fp : List Addr), PE (X.blk s H scope (compEnvC scope cl C X.env) fp) elt (up X.K W0 ge)
theorem e_lc {ifs : List Expr} {scope : Scope} {own : List (Str × Nat)} {gg : TG} {t : TD} {is : List Nat} (C : CxN X W) (hi : PI X tg iter (ui X.K W gi)) (ok : BlkOk X.N X.env.scope scope own) (hd : GD X.K gg t is) (hsub : ∀ k, k ∈ is → k ∈ own.map (·.2))
    (hg : BlkG X scope tg gg) (ht : BlkT X scope ifs gt) (he : BlkE X scope elt ge) (hs : ∀ x, foldedSetIterable iter X.env x = pure x := by intro _; rfl) :
    PE X (.ListComp elt [⟨tg, iter, ifs, 0⟩] scope pos) (un X.K W (dLc gi t gt ge (own.map (·.2)))) := (pe_lc C.cm C.nd hi ok hg ht he hs).to fun sg H Q w => lcD hsub hd w
theorem st_setLc {i : Nat} {y : Str} {py : Pos} {spos : Pos} {ifs : List Expr} {scope : Scope} {own : List (Str × Nat)} {gg : TG} {t : TD} {is : List Nat} (C : CxN X W) (hy : X.N[i]? = some y) (hyl : X.env.scope.names.lookup y = some .local)
    (hsw : swapsWith (.ListComp elt [⟨tg, iter, ifs, 0⟩] scope pos) (some (.Name y py)) spos.line X.env = pure true) (hi : PI X tg iter (ui X.K W gi)) (ok : BlkOk X.N X.env.scope scope own) (hd : GD X.K gg t is) (hsub : ∀ k, k ∈ is → k ∈ own.map (·.2))
    (hg : BlkG X scope tg gg) (ht : BlkT X scope ifs gt) (he : BlkE X scope elt ge) (hs : ∀ x, foldedSetIterable iter X.env x = pure x := by intro _; rfl) :
    PS X (.Assign [.Name y py] (.ListComp elt [⟨tg, iter, ifs, 0⟩] scope pos) spos) (us X.K W (sSet (tName i) (dFz (dLc gi t gt ge (own.map (·.2)))))) :=
  (ps_setLc C.cm C.nd hy hyl hsw hi ok hg ht he hs).to fun D sg H ⟨B, as, h, ρ, E, rp, w, k⟩ => lcD hsub hd ⟨B, as, h, ρ, _, _, rp, w, fun p vs ds h' H' x n e m r f q => k.nx _ _ _ _ _ (To.setD rp x (.lst (fun z => by
    rcases z with z | z | z
    · exact rp.bd p z n
    · exact rp.dm p (.inr (.inl z)) n
    · exact z m) e (f.anti fun a z => by
    rcases z with z | z | z
    · exact .inl z
    · exact .inr (.inl (List.mem_cons_of_mem _ z))
    · exact .inr (.inr z)))) q, k.xc rp⟩
theorem st_ownLc {i : Nat} {y : Str} {py : Pos} {spos : Pos} {ifs : List Expr} {scope : Scope} {own : List (Str × Nat)} {gg : TG} {t : TD} {is : List Nat} (C : CxN X W) (hy : X.N[i]? = some y) (hyl : X.env.scope.names.lookup y = some .local)
    (hsw : swapsWith (.ListComp elt [⟨tg, iter, ifs, 0⟩] scope pos) (some (.Name y py)) spos.line X.env = pure true) (hi : PI X tg iter (ui X.K W gi)) (ok : BlkOk X.N X.env.scope scope own) (hd : GD X.K gg t is) (hsub : ∀ k, k ∈ is → k ∈ own.map (·.2))
    (hg : BlkG X scope tg gg) (ht : BlkT X scope ifs gt) (he : BlkE X scope elt ge) (hs : ∀ x, foldedSetIterable iter X.env x = pure x := by intro _; rfl) :
    PS X (.Assign [.Name y py] (.ListComp elt [⟨tg, iter, ifs, 0⟩] scope pos) spos) (us X.K W (sOwn i (dLc gi t gt ge (own.map (·.2))))) :=
  (ps_setLc C.cm C.nd hy hyl hsw hi ok hg ht he hs).to fun D sg H ⟨B, as, h, ρ, E, rp, w, k⟩ => lcD hsub hd ⟨B, as, h, ρ, _, _, rp, w, fun p vs ds h' H' x n e m r f q => k.nx _ _ _ _ _ (To.new rp x n e m r f) q, k.xc rp⟩
end
end NL
set_option Elab.async false
set_option linter.all false
set_option maxRecDepth 100000
set_option maxHeartbeats 2300000
/-! N9: defs and their calls. -/
namespace NL
open PyProof.Rows L2 PySem PySem.Spec
/-- what a def does, over data -/
abbrev SG := List D → AH → QD → QX → Prop
/-- a def's promise -/
def spN (K : PySem.W.Frag) (G : SG) : Sp := fun vs H Q E => ∃ B h ds Qd Ed, (∀ a, B a → H a ≠ none) ∧ HR K (Mx B [] h) h H ∧ FzL K (Mx B [] h) H vs ds ∧ G ds h Qd Ed ∧
  (∀ v d h' H', Go K B [] h H h' H' → Fz K (Mx B [] h') H' v d → Qd d h' → Q v H') ∧ (∀ x h' H' cls dd, Go K B [] h H h' H' → ER K (Mx B [] h') H' cls dd x → Ed x h' → E cls dd H')
/-- a def that keeps its promise where no repr is under way -/
structure FnN (P : Program) (w : World) (K : PySem.W.Frag) (mg : Str → Option Value) (base : Heap) (k : Nat) (f : Addr) (fd : FuncData) (ps : List Str) (G : SG) : Prop where
  len : ∀ ds h Q E, G ds h Q E → ds.length = ps.length
  go : ∀ (A : Around) (outer : List Env) (s : Shared) (H : Hp) (args : Args) (us : List Value) (vs : List V) (Q : VK) (E : XK), A.guards = some [] → Room k A → Env0 P w K mg base A outer s H → BindsTo s fd args (ps.zip us) → Vals vs us → spN K G vs H Q E →
    codeAny (model P w) A (.call (.ref f) args) (CR (L2.CX P w) outer P w H s Q E) s
theorem FnN.up {P : Program} {w : World} {K : PySem.W.Frag} {mg : Str → Option Value} {base : Heap} {j k : Nat} {f : Addr} {fd : FuncData} {ps : List Str} {G : SG} (F : FnN P w K mg base j f fd ps G) (le : j ≤ k) : FnN P w K mg base k f fd ps G :=
  ⟨F.len, fun A outer s H args us vs Q E g r => F.go A outer s H args us vs Q E g (r.mono le)⟩
theorem spN.len {K : PySem.W.Frag} {G : SG} {vs : List V} {H : Hp} {Q : VK} {E : XK} {n : Nat} (p : spN K G vs H Q E) (hG : ∀ ds h Q E, G ds h Q E → ds.length = n) : vs.length = n := by
  obtain ⟨B, h, ds, Qd, Ed, _, _, f, g, _⟩ := p
  rw [f.len]
  exact hG _ _ _ _ g
theorem FnN.imp {P : Program} {w : World} {K : PySem.W.Frag} {mg : Str → Option Value} {base : Heap} {k : Nat} {f : Addr} {fd : FuncData} {ps : List Str} {G G' : SG} (F : FnN P w K mg base k f fd ps G) (i : ∀ ds h Q E, G' ds h Q E → G ds h Q E) : FnN P w K mg base k f fd ps G' :=
  ⟨fun ds h Q E g => F.len ds h Q E (i _ _ _ _ g), fun A outer s H args us vs Q E g r e0 b rv ⟨B, h, ds, Qd, Ed, p1, p2, p3, p4, p5⟩ => F.go A outer s H args us vs Q E g r e0 b rv ⟨B, h, ds, Qd, Ed, p1, p2, p3, i _ _ _ _ p4, p5⟩⟩

/-! ### the callee's new things forgotten -/
def cutH (h h' : AH) : AH := fun a => if h a = none then none else h' a
theorem cutH_put {h h' : AH} {a : Addr} {o : AO} (n : h a ≠ none) : cutH h (put h' a o) = put (cutH h h') a o := by
  funext b
  unfold cutH put
  by_cases c : b = a
  · subst c; simp [n]
  · simp [c]
theorem cutH_self {h : AH} : cutH h h = h := by
  funext b
  unfold cutH
  split
  · rename_i e; exact e.symm
  · rfl
theorem cutH_new {h h' : AH} {a : Addr} {o : AO} (n : h a = none) : cutH h (put h' a o) = cutH h h' := by
  funext b
  unfold cutH put
  by_cases c : b = a
  · subst c; simp [n]
  · simp [c]
def forget (G : SG) : SG := fun ds h Q E => G ds h (fun d h' => Q d (cutH h h')) (fun x h' => E x (cutH h h'))
section
variable {K : PySem.W.Frag} {B : Addr → Prop} {as : List Addr} {h h' : AH} {H H' : Hp}
theorem cut_mx {a : Addr} (m : Mx B as (cutH h h') a) : Mx B as h' a := by
  rcases m with m | m | m
  · exact .inl m
  · exact .inr (.inl m)
  · refine .inr (.inr fun z => m ?_)
    unfold cutH
    rw [z, ite_self]
theorem Go.cut (x : Go K B as h H h' H') : Go K B as h H (cutH h h') H' where
  k := x.k
  lo := fun a m => by
    unfold cutH
    rw [if_neg m]
    exact x.lo a m
  nw := fun a o _ m => by
    intro z
    apply m
    unfold cutH
    rw [if_pos z]
  hr := fun a o e => by
    unfold cutH at e
    split at e
    · cases e
    · exact (x.hr a o e).anti fun _ m => cut_mx m
end
theorem FnN.forget {P : Program} {w : World} {K : PySem.W.Frag} {mg : Str → Option Value} {base : Heap} {k : Nat} {f : Addr} {fd : FuncData} {ps : List Str} {G : SG} (F : FnN P w K mg base k f fd ps G) : FnN P w K mg base k f fd ps (forget G) :=
  ⟨fun ds h Q E g => F.len ds h _ _ g, fun A outer s H args us vs Q E g r e0 b rv ⟨B, h, ds, Qd, Ed, p1, p2, p3, p4, p5, p6⟩ => F.go A outer s H args us vs Q E g r e0 b rv ⟨B, h, ds, _, _, p1, p2, p3, p4,
    fun v d h' H' x f q => p5 v d _ H' x.cut (f.anti fun _ m => cut_mx m) q, fun e h' H' cls dd x f q => p6 e _ H' cls dd x.cut (by
      obtain ⟨c, f⟩ := f
      refine ⟨c, f.imp id ?_⟩
      rintro ⟨a, gs, e1, e2, e3, e4⟩
      exact ⟨a, gs, e1, e2, fun m => e3 (cut_mx m), e4.keeps .refl fun _ _ _ m => cut_mx m⟩) q⟩⟩

/-! ### a def's body -/
/-- the slots at the entry -/
def startN : Nat → List D → Rho
  | 0, _ => []
  | n + 1, [] => none :: startN n []
  | n + 1, d :: ds => some (.d d) :: startN n ds
def run (N : Nat) (g : DS) : SG := fun ds h Q E => g { nx := fun _ h' => Q .non h', rt := Q, ex := fun x _ h' => E x h' } (startN N ds) h
def fnG (n N : Nat) (g : DS) : SG := fun ds h Q E => ds.length = n ∧ run N g ds h Q E
theorem startN_len : ∀ (n : Nat) (ds : List D), (startN n ds).length = n
  | 0, _ => rfl
  | n + 1, [] => by simp [startN, startN_len n]
  | n + 1, d :: ds => by simp [startN, startN_len n]
theorem startN_get : ∀ (n : Nat) (ds : List D) (i : Nat), i < n → (startN n ds)[i]? = some ((ds[i]?).map SV.d)
  | n + 1, [], 0, _ => by simp [startN]
  | n + 1, d :: ds, 0, _ => by simp [startN]
  | n + 1, [], i + 1, hi => by simp [startN]; simpa using startN_get n [] i (by omega)
  | n + 1, d :: ds, i + 1, hi => by simp [startN]; simpa using startN_get n ds i (by omega)
theorem Rep.start {K : PySem.W.Frag} {B : Addr → Prop} {h : AH} {H : Hp} {N : List Str} {vs : List V} {ds : List D} (bd : ∀ a, B a → H a ≠ none) (hr : HR K (Mx B [] h) h H) (f : FzL K (Mx B [] h) H vs ds) (le : vs.length ≤ N.length) :
    Rep K B [] h H (L2.start N vs) (startN N.length ds) where
  hr := hr
  bd := bd
  ow := fun a m => nomatch m
  ob := fun a m => nomatch m
  nd := fun i j xs ys a e => by
    have lt : i < N.length := by
      have := (List.getElem?_eq_some_iff.mp e).1
      rwa [startN_len] at this
    rw [startN_get _ _ _ lt] at e
    cases q : ds[i]? <;> (rw [q] at e; cases e)
  len := by
    have e : (L2.start N vs).length = N.length := by simp only [L2.start, List.length_append, List.length_map, List.length_replicate]; omega
    rw [startN_len]; exact e
  sd := fun i x e => by
    have lt : i < N.length := by
      have := (List.getElem?_eq_some_iff.mp e).1
      rwa [startN_len] at this
    rw [startN_get _ _ _ lt] at e
    cases q : ds[i]? with
    | none => (rw [q] at e; cases e)
    | some d =>
      rw [q] at e
      cases e
      obtain ⟨v, e1, f1⟩ := f.get q
      refine ⟨v, ?_, f1⟩
      unfold L2.start
      rw [List.getElem?_append_left (by simpa using (List.getElem?_eq_some_iff.mp e1).1), List.getElem?_map, e1]
      rfl
  sl := fun i x e => by
    have lt : i < N.length := by
      have := (List.getElem?_eq_some_iff.mp e).1
      rwa [startN_len] at this
    rw [startN_get _ _ _ lt] at e
    cases q : ds[i]? <;> (rw [q] at e; cases e)
  sx := fun i a dd x e => by
    have lt : i < N.length := by
      have := (List.getElem?_eq_some_iff.mp e).1
      rwa [startN_len] at this
    rw [startN_get _ _ _ lt] at e
    cases q : ds[i]? <;> (rw [q] at e; cases e)
/-- what a def's exception is wished for -/
def wE (E : XK) : WX := fun cls d _ H => E cls d H
theorem start_us {K : PySem.W.Frag} {n : Nat} {g : DS} {N : List Str} {vs : List V} {H : Hp} {Q : VK} {E : XK} (p : spN K (fnG n N.length g) vs H Q E) (le : n ≤ N.length) : us K (wE E) g { nx := fun _ H' => Q .non H', rt := Q } (L2.start N vs) H := by
  obtain ⟨B, h, ds, Qd, Ed, bd, hr, f, ⟨hl, w⟩, kq, kx⟩ := p
  have go : ∀ {as' : List Addr} {h' : AH} {H' : Hp}, Mv [] h H as' h' H' → HR K (Mx B [] h') h' H' → Go K B [] h H h' H' := fun {as' h' H'} m r =>
    ⟨m.k.weak fun a o _ z => z.elim id fun z => (nomatch z), m.lo, fun a o e z => (m.nw a o e z).elim id fun z => (nomatch z), r⟩
  refine ⟨B, [], h, _, _, .start bd hr f (by rw [f.len, hl]; exact le), w, ?_, fun _ _ _ _ _ _ q => q.elim, fun _ _ _ _ _ _ q => q.elim, fun v d h' H' m r f q => kq v d h' H' (go m r) f q, ?_⟩
  · exact fun as' h' H' σ' ρ' t q => kq .non .non h' H' (go t.mv (t.rp.hr.anti fun _ m => mx_nil m)) .non q
  · exact fun x as' h' H' σ' ρ' cls dd t r q => kx x h' H' cls dd (go t.mv (t.rp.hr.anti fun _ m => mx_nil m)) (by
      obtain ⟨c, f⟩ := r
      refine ⟨c, f.imp id ?_⟩
      rintro ⟨a, gs, e1, e2, e3, e4⟩
      exact ⟨a, gs, e1, e2, fun m => e3 (mx_nil m), e4.keeps .refl fun _ _ _ m => mx_nil m⟩) q
section
variable {P : Program} {w : World} {K : PySem.W.Frag} {mg : Str → Option Value} {base : Heap} {x qual : Str} {params : Arguments} {body : List Stmt} {scope : Scope} {f : Addr} {fd : FuncData} {N ps : List Str} {k : Nat}
abbrev cxN (P : Program) (w : World) (K : PySem.W.Frag) (mg : Str → Option Value) (base : Heap) (N : List Str) (qual : Str) (scope : Scope) (f : Addr) (cd : Value) (A : Around) (outer : List Env) (s : Shared) (H : Hp) (E : XK) : Cx := cxOf (L2.CX P w) P w K mg base N qual scope f cd A outer s H E
theorem cxn_of {cd : Value} {A : Around} {outer : List Env} {s : Shared} {H : Hp} {E : XK} (nd : N.Nodup) (g : A.guards = some []) : CxN (cxN P w K mg base N qual scope f cd A outer s H E) (wE E) :=
  ⟨passes_of (K := fun e s'' => L2.CX P w outer H s E e s'') rfl, rfl, nd, g, takes_of rfl rfl rfl rfl⟩
/-- THE RULE for a def -/
theorem FnN.made {g : DS} (F : FunD K x qual params body scope [] [] f fd) (S : FnScope N ps scope)
    (hb : ∀ (cdv : Value) (A : Around) (outer : List Env) (s : Shared) (H : Hp) (E : XK), fd.code = cdv → Room k (A.deeper (envOfC qual scope s.heap.objs.size f cdv)) → CxN (cxN P w K mg base N qual scope f cdv A outer s H E) (wE E) →
      PSs (cxN P w K mg base N qual scope f cdv A outer s H E) body (us K (wE E) g)) : FnN P w K mg base (k + 1) f fd ps (fnG ps.length N.length g) := by
  have le : ps.length ≤ N.length := by have := congrArg List.length S.pre; rw [List.length_take] at this; omega
  obtain ⟨oc, od, dV, kV, doc, pm, an, cdv, ct, osl, rfl, lk, hcode, _, _⟩ := F.ex
  exact ⟨fun ds h Q E p => p.1, fun A outer s H args us vs Q E hg r e0 b rv p => LamX.run_ofS lk hcode S r e0 b rv (p.len fun _ _ _ _ q => q.1) fun r' =>
    ⟨_, hb cdv A outer s H E rfl r' (cxn_of S.nd hg), start_us p le⟩⟩
end

/-! ### calls -/
theorem mx_flat {B : Addr → Prop} {as : List Addr} {h : AH} {a : Addr} : Mx (fun b => B b ∨ b ∈ as) [] h a ↔ Mx B as h a := by
  constructor
  · rintro ((m | m) | m | m)
    · exact .inl m
    · exact .inr (.inl m)
    · cases m
    · exact .inr (.inr m)
  · rintro (m | m | m)
    · exact .inl (.inl m)
    · exact .inl (.inr m)
    · exact .inr (.inr m)
theorem ER.anti {K : PySem.W.Frag} {M M' : Addr → Prop} {H : Hp} {cls : Value} {dd : Option Addr} {x : Exn} (n : ∀ a, M' a → M a) (r : ER K M H cls dd x) : ER K M' H cls dd x := by
  obtain ⟨c, f⟩ := r
  refine ⟨c, f.imp id ?_⟩
  rintro ⟨a, gs, e1, e2, e3, e4⟩
  exact ⟨a, gs, e1, e2, fun m => e3 (n _ m), e4.keeps .refl fun _ _ _ m => n _ m⟩
/-- what a call of a def asks of what stands around it -/
theorem spN.at {K : PySem.W.Frag} {B : Addr → Prop} {as : List Addr} {h : AH} {H : Hp} {σ : L2.St} {ρ : Rho} {G : SG} {vs : List V} {ds : List D} {Q : VK} {Qd : QD} {W : WX} {Ed : QX} (rp : Rep K B as h H σ ρ) (f : FzL K (Mx B as h) H vs ds) (g : G ds h Qd Ed)
    (kq : ∀ v d h' H', Go K B as h H h' H' → Fz K (Mx B as h') H' v d → Qd d h' → Q v H') (xx : Xc K B as h H W σ Ed) : spN K G vs H Q (fun cls dd H' => W cls dd σ H') := by
  have go : ∀ {h' : AH} {H' : Hp}, Go K (fun b => B b ∨ b ∈ as) [] h H h' H' → Go K B as h H h' H' := fun x => ⟨x.k, x.lo, x.nw, x.hr.anti fun _ m => mx_flat.mpr m⟩
  exact ⟨fun b => B b ∨ b ∈ as, h, ds, Qd, Ed, fun a m => m.elim (rp.bd a) fun m => rp.dm a (.inr (.inl m)), rp.hr.anti fun _ m => mx_flat.mp m, f.anti fun _ m => mx_flat.mp m, g,
    fun v d h' H' x f q => kq v d h' H' (go x) (f.anti fun _ m => mx_flat.mpr m) q, fun e h' H' cls dd x r q => xx e h' H' cls dd (go x) (r.anti fun _ m => mx_flat.mpr m) q⟩
section
variable {X : Cx} {W : WX} {e o : Expr} {es : List Expr} {go : DE} {gs : DA} {pos p apos : Pos} {k j : Nat} {f C : Addr} {fd : FuncData} {ps : List Str} {G : SG} {x m : Str}
/-- the callee runs: by its slots' wish -/
theorem FnN.runs {pins : List (Addr × Obj)} {σ : L2.St} {H : Hp} {s : Shared} {Q : VK} {us : List Value} {vs : List V} (F : FnN X.prog X.w X.K X.mg X.base k f fd ps G) (c : CxN X W) (hr : Room k X.A) (hb : Binds X.K fd ps []) (iv : Inv X pins σ H s) (r : Vals vs us)
    (w : spN X.K G vs H Q (fun cls dd H' => W cls dd σ H')) : wpAny (model X.prog X.w) X.A (call (.ref f) us) (EP X pins σ Q) X.xe s := by
  have hl : us.length = ps.length := by rw [← r.length]; exact w.len F.len
  have bnd := hb s us iv.kIn (by simpa using hl)
  rw [List.append_nil] at bnd
  refine wpAny_call (codeAny_mono (F.go X.A X.stack s H ⟨us, []⟩ us vs Q _ c.gd hr iv.env0 bnd r w) fun res s' q => ?_)
  match res, q with
  | .ok (.ret u), q => exact iv.after q
  | .error ex, q => exact c.tk _ _ (XE.of_call iv (fun _ _ _ z => z) q)
  | .ok .next, q => exact q.elim
  | .ok .brk, q => exact q.elim
  | .ok .cont, q => exact q.elim
def dFn (G : SG) (gs : DA) : DE := fun ρ h Q E => gs ρ h (fun ds h1 => G ds h1 Q E) E
/-- a def of the module: where it stands, what it does -/
def Dn (P : Program) (w : World) (K : PySem.W.Frag) (mg : Str → Option Value) (base : Heap) (k : Nat) (x : Str) (ps : List Str) (G : SG) : Prop := ∃ f fd, FnN P w K mg base k f fd ps G ∧ mg x = some (.ref f) ∧ PySem.W.keepIn K (.ref f) = true ∧ Binds K fd ps []
theorem Dn.up {P : Program} {w : World} {K : PySem.W.Frag} {mg : Str → Option Value} {base : Heap} {j k : Nat} {x : Str} {ps : List Str} {G : SG} (d : Dn P w K mg base j x ps G) (le : j ≤ k) : Dn P w K mg base k x ps G := by
  obtain ⟨f, fd, F, r⟩ := d
  exact ⟨f, fd, F.up le, r⟩
/-- f(a, ..) -/
theorem e_fn (d : Dn X.prog X.w X.K X.mg X.base k x ps G) (c : CxN X W) (hr : Room j X.A) (ha : PA X (e :: es) (ua X.K W gs)) (le : k ≤ j := by omega) (hg : Gl X x := by rfl)
    (he : starEach (e :: es) X.env = (false, eval e X.env) :: starEach es X.env := by rfl) (hdb : (x == ("__debug__" : Str)) = false := by decide) (hpl : (backTo pos (starEach es X.env)).any (·.1) = false := by rfl) :
    PE X (.Call (.Name x p) (e :: es) [] pos) (up X.K W (dFn G gs)) := by
  obtain ⟨f, fd, F, hm, hk, hb⟩ := d
  constructor
  rintro pn s σ H Q iv ⟨B, as, h, ρ, Qd, Ed, rp, w, k, xx⟩
  apply wpAny_Call_Name_kw (ld_glob iv hg hm ?_ hdb)
  apply PySem.W.callWith_K (h₀ := X.base) iv.ok.mod.kin hk (thn (ha.run pos pn s σ H (fun vs H1 => spN X.K G vs H1 Q fun cls dd H' => W cls dd σ H') iv ⟨B, as, h, ρ, _, _, rp, w, fun vs ds h1 H1 go f q => ?_, xx⟩) fun us s1 ⟨vs, H1, J, r, q⟩ => ⟨J.kIn, ?_⟩) he hpl
  · exact spN.at (rp.go go) f q (k.go go) (xx.go go)
  · exact F.runs c (hr.mono le) hb J r q
/-- f() -/
theorem e_fn0 (d : Dn X.prog X.w X.K X.mg X.base k x ps G) (c : CxN X W) (hr : Room j X.A) (le : k ≤ j := by omega) (hg : Gl X x := by rfl) (hdb : (x == ("__debug__" : Str)) = false := by decide) :
    PE X (.Call (.Name x p) [] [] pos) (up X.K W (dFn G dNil)) := by
  obtain ⟨f, fd, F, hm, hk, hb⟩ := d
  constructor
  rintro pn s σ H Q iv ⟨B, as, h, ρ, Qd, Ed, rp, w, k, xx⟩
  apply wpAny_Call_Name_kw (ld_glob iv hg hm ?_ hdb)
  exact PySem.W.callWith_K0 iv.kIn hk (F.runs (us := []) c (hr.mono le) hb iv .nil (spN.at rp .nil w k xx))
/-- an instance of the class at C -/
def atIns (C : Addr) (d : D) (h : AH) (Q : Addr → List (Str × D) → Prop) : Prop := match d with
  | .obj a => ∃ fs, h a = some (.ins C fs) ∧ Q a fs
  | _ => False
theorem atIns_ok {C : Addr} {d : D} {h : AH} {Q : Addr → List (Str × D) → Prop} (w : atIns C d h Q) : ∃ a fs, d = .obj a ∧ h a = some (.ins C fs) ∧ Q a fs := by
  cases d with
  | obj a => obtain ⟨fs, e, q⟩ := w; exact ⟨a, fs, rfl, e, q⟩
  | _ => exact w.elim
theorem SF.none {K : PySem.W.Frag} {M : Addr → Prop} {H : Hp} {n : Str} : ∀ {gs : List (Str × V)} {fs : List (Str × D)}, SF K M H gs fs → fs.lookup n = none → gs.lookup n = none
  | _, _, .nil, _ => rfl
  | (a, v) :: _, (b, d) :: _, .cons r t, e => by
    obtain ⟨z, _⟩ := r
    have z : a = b := z
    subst z
    rw [List.lookup_cons] at e ⊢
    cases q : n == a with
    | true => rw [q] at e; cases e
    | false => rw [q] at e; exact SF.none t e
theorem SF.some {K : PySem.W.Frag} {M : Addr → Prop} {H : Hp} {n : Str} {d : D} : ∀ {gs : List (Str × V)} {fs : List (Str × D)}, SF K M H gs fs → fs.lookup n = some d → ∃ v, gs.lookup n = Option.some v ∧ Fz K M H v d
  | _, _, .nil, e => by cases e
  | (a, v) :: _, (b, d') :: _, .cons r t, e => by
    obtain ⟨z, f⟩ := r
    have z : a = b := z
    subst z
    rw [List.lookup_cons] at e ⊢
    cases q : n == a with
    | true => rw [q] at e; cases e; exact ⟨v, rfl, f⟩
    | false => rw [q] at e; exact SF.some t e
theorem SF.length {K : PySem.W.Frag} {M : Addr → Prop} {H : Hp} {gs : List (Str × V)} {fs : List (Str × D)} (f : SF K M H gs fs) : gs.length = fs.length := Paired.length f
/-- o.m(a, ..), o an instance of the class at C -/
def dMeth (C : Addr) (m : Str) (G : SG) (go : DE) (gs : DA) : DE := fun ρ h Q E => go ρ h (fun d h1 => atIns C d h1 fun a fs => fs.lookup m = none ∧ gs ρ h1 (fun ds h2 => G (.obj a :: ds) h2 Q E) E) E
/-- C's method m, a plain def -/
def Mn (P : Program) (w : World) (K : PySem.W.Frag) (mg : Str → Option Value) (base : Heap) (k : Nat) (C : Addr) (m : Str) (ps : List Str) (G : SG) : Prop := ∃ f fd, FnN P w K mg base k f fd ps G ∧ Cls K C ∧ Meth K C m f ∧ Binds K fd ps []
theorem e_meth {pl : Sem Bool} (d : Mn X.prog X.w X.K X.mg X.base k C m ps G) (c : CxN X W) (hr : Room j X.A) (ho : PE X o (up X.K W go)) (ha : PA X (e :: es) (ua X.K W gs)) (le : k ≤ j := by omega) (hst : starEach (e :: es) X.env = (false, eval e X.env) :: starEach es X.env := by rfl) (hpl : (backTo pos (starEach es X.env)).any (·.1) = false := by rfl) (ht : eval (.Call (.Attribute o m apos) (e :: es) [] pos) X.env = (do
      let ov ← eval o X.env
      standAt apos.atName; let (f, first) ← holding [ov] (getMethod ov m pl); callWith pos f first (backTo pos (starEach (e :: es) X.env)) (backToKw pos (keywordEach [] X.env))) := by rfl) :
    PE X (.Call (.Attribute o m apos) (e :: es) [] pos) (up X.K W (dMeth C m G go gs)) := by
  obtain ⟨f, fd, F, cl, hm, hb⟩ := d
  constructor
  rintro pn s σ H Q iv ⟨B, as, h, ρ, Qd, Ed, rp, w, k, xx⟩
  refine PySem.W.methodCall_KW (pl := pl) (thn (ho.run pn s σ H (fun x H1 => ∃ a dx fs, x = .ref a ∧ H1 a = some (.ins C dx fs) ∧ fs.lookup m = none ∧ ua X.K W gs σ H1 fun vs H2 => spN X.K G (.ref a :: vs) H2 Q fun cls dd H' => W cls dd σ H') iv
    ⟨B, as, h, ρ, _, _, rp, w, fun v d h1 H1 g f q => ?_, xx⟩) fun u s1 ⟨x, H1, J, rx, a, dx, fs, ex, ea, l, q⟩ => ?_) ht
  · obtain ⟨a, fs, rfl, ea, l, q⟩ := atIns_ok q
    obtain ⟨dx, gs', e1, e2, sf⟩ := g.hr a _ ea
    cases f
    exact ⟨a, dx, gs', rfl, e1, sf.none l, B, as, h1, ρ, _, _, rp.go g, q, fun vs ds h2 H2 g2 f2 q2 => spN.at (rp.go (g.trans g2)) (.cons (.obj a) f2) q2 (k.go (g.trans g2)) (xx.go (g.trans g2)), xx.go g⟩
  · subst ex; obtain rfl : u = Value.ref a := rx
    refine getmeth_ok J ea cl hm l ?_
    exact PySem.W.callWith_K (first := [.ref a]) (h₀ := X.base) J.ok.mod.kin hm.kp (thn (ha.run pos pn s1 σ H1 _ J q) fun us s2 ⟨vs, H2, J2, r, q2⟩ => ⟨J2.kIn, F.runs (us := .ref a :: us) (vs := .ref a :: vs) c (hr.mono le) hb J2 (.cons rfl r) q2⟩) hst hpl
/-- o.m() -/
theorem e_meth0 {pl : Sem Bool} (d : Mn X.prog X.w X.K X.mg X.base k C m ps G) (c : CxN X W) (hr : Room j X.A) (ho : PE X o (up X.K W go)) (le : k ≤ j := by omega) (ht : eval (.Call (.Attribute o m apos) [] [] pos) X.env = (do
      let ov ← eval o X.env
      standAt apos.atName; let (f, first) ← holding [ov] (getMethod ov m pl); callWith pos f first (backTo pos (starEach [] X.env)) (backToKw pos (keywordEach [] X.env))) := by rfl) :
    PE X (.Call (.Attribute o m apos) [] [] pos) (up X.K W (dMeth C m G go dNil)) := by
  obtain ⟨f, fd, F, cl, hm, hb⟩ := d
  constructor
  rintro pn s σ H Q iv ⟨B, as, h, ρ, Qd, Ed, rp, w, k, xx⟩
  refine PySem.W.methodCall_KW (pl := pl) (thn (ho.run pn s σ H (fun x H1 => ∃ a dx fs, x = .ref a ∧ H1 a = some (.ins C dx fs) ∧ fs.lookup m = none ∧ spN X.K G [.ref a] H1 Q fun cls dd H' => W cls dd σ H') iv
    ⟨B, as, h, ρ, _, _, rp, w, fun v d h1 H1 g f q => ?_, xx⟩) fun u s1 ⟨x, H1, J, rx, a, dx, fs, ex, ea, l, q⟩ => ?_) ht
  · obtain ⟨a, fs, rfl, ea, l, q⟩ := atIns_ok q
    obtain ⟨dx, gs', e1, e2, sf⟩ := g.hr a _ ea
    cases f
    exact ⟨a, dx, gs', rfl, e1, sf.none l, spN.at (rp.go g) (.cons (.obj a) .nil) q (k.go g) (xx.go g)⟩
  · subst ex; obtain rfl : u = Value.ref a := rx
    refine getmeth_ok J ea cl hm l ?_
    exact PySem.W.callWith_K0 (first := [.ref a]) J.kIn hm.kp (F.runs (us := [.ref a]) (vs := [.ref a]) c (hr.mono le) hb J (.cons rfl .nil) q)
end
end NL
set_option Elab.async false
set_option linter.all false
set_option maxRecDepth 100000
set_option maxHeartbeats 2300000
/-! N10: the heap of data: instances, lists, dicts. -/
namespace NL
open PyProof.Rows L2 PySem PySem.Spec
theorem _root_.L2.Room.u65 {k : Nat} {A : Around} (r : Room k A) : A.units + 65 < cLine := by have := r.un; omega
theorem _root_.L2.Room.u1 {k : Nat} {A : Around} (r : Room k A) : A.units + 1 < cLine := by have := r.un; omega
theorem _root_.L2.Room.u64 {k : Nat} {A : Around} (r : Room k A) : A.units + 64 < cLine := by have := r.un; omega
theorem _root_.L2.Room.u66 {k : Nat} {A : Around} (r : Room k A) : A.units + 66 < cLine := by have := r.un; omega
section
variable {K : PySem.W.Frag} {B : Addr → Prop} {as : List Addr} {h h' : AH} {H H' : Hp} {a p : Addr} {o o' : AO} {ho : HO}
theorem put_mx {b : Addr} (e : h a = some o) : Mx B as (put h a o') b → Mx B as h b := fun m => by
  rcases m with m | m | m
  · exact .inl m
  · exact .inr (.inl m)
  · rcases put_dom.mp m with m | m
    · subst m; exact .inr (.inr (by rw [e]; exact fun z => by cases z))
    · exact .inr (.inr m)
/-- the thing at a becomes another one -/
theorem Go.wr (r : HR K (Mx B as h) h H) (e : h a = some o) (new : OR K (Mx B as h) (upd H a ho) a o') : Go K B as h H (put h a o') (upd H a ho) := by
  have st := r a o e
  have ma : Mx B as h a := .inr (.inr (by rw [e]; exact fun z => by cases z))
  refine ⟨.chg (by show h a ≠ none; rw [e]; exact fun z => by cases z) st.loose, fun b m => put_dom.mpr (.inr m), fun b u q m => ?_, fun b u q => ?_⟩
  · rcases put_dom.mp m with m | m
    · subst m; rw [e]; exact fun z => by cases z
    · exact m
  · rcases Classical.em (b = a) with c | c
    · subst c
      rw [put_at] at q
      cases q
      exact new.anti fun _ m => put_mx e m
    · rw [put_off c] at q
      refine (r b u q).keeps (.chg ma st.loose) (fun _ _ _ m => put_mx e m) (fun w z => by rw [upd_ne c]; exact z) fun d z => ?_
      rw [upd_ne (fun y => ?_)]
      · exact z
      · subst y
        cases o with
        | lst xs => obtain ⟨vs, w, _⟩ := st; rw [w] at z; cases z
        | dK kvs => obtain ⟨vs, w, _⟩ := st; rw [w] at z; cases z
        | ins C fs => obtain ⟨dx, gs, w, _⟩ := st; rw [w] at z; cases z
        | tb q => obtain ⟨ps, w, _⟩ := st; rw [w] at z; cases z
theorem new_mx {b : Addr} {u : HO} (n : H p = none) (q : H b = some u) (m : Mx B as (put h p o') b) : Mx B as h b := by
  rcases m with m | m | m
  · exact .inl m
  · exact .inr (.inl m)
  · rcases put_dom.mp m with m | m
    · subst m; rw [n] at q; cases q
    · exact .inr (.inr m)
/-- a new thing at p, laid just now: H is the machine's heap ahead of it -/
theorem Go.made (x : Go K B as h H h' H') (n : H p = none) (n' : h' p = none) (new : OR K (Mx B as (put h' p o')) H' p o') (r : HR K (Mx B as (put h' p o')) h' H') : Go K B as h H (put h' p o') H' := by
  refine ⟨x.k, fun b m => put_dom.mpr (.inr (x.lo b m)), fun b u q m => ?_, fun b u q => ?_⟩
  · rcases put_dom.mp m with m | m
    · subst m; rw [n] at q; cases q
    · exact x.nw b u q m
  · rcases Classical.em (b = p) with c | c
    · subst c; rw [put_at] at q; cases q; exact new
    · rw [put_off c] at q; exact r b u q
theorem HR.put_new (r : HR K (Mx B as h) h H) (n : H p = none) : HR K (Mx B as (put h p o')) h (upd H p ho) := fun b u q =>
  (r b u q).keeps (.new n) (fun _ _ w m => new_mx n w m) (fun w z => by rw [upd_ne (ne_of_none z n)]; exact z) fun d z => by rw [upd_ne (ne_of_none z n)]; exact z
end

/-! ### instances -/
def putD (f : Str) (d : D) : List (Str × D) → List (Str × D)
  | [] => [(f, d)]
  | (g, x) :: r => if g = f then (g, d) :: r else (g, x) :: putD f d r
theorem SF.wr {K : PySem.W.Frag} {M : Addr → Prop} {H : Hp} {f : Str} {v : V} {d : D} (fd : Fz K M H v d) : ∀ {gs : List (Str × V)} {fs : List (Str × D)}, SF K M H gs fs → SF K M H (putF f v gs) (putD f d fs)
  | _, _, .nil => .cons ⟨rfl, fd⟩ .nil
  | (a, w) :: _, (b, e) :: _, .cons r t => by
    obtain ⟨z, q⟩ := r
    have z : a = b := z
    subst z
    unfold putF putD
    split
    · exact .cons ⟨rfl, fd⟩ t
    · exact .cons ⟨rfl, q⟩ (SF.wr fd t)
/-- o.f -/
def dFld (C : Addr) (f : Str) (go : DE) : DE := fun ρ h Q E => go ρ h (fun d h1 => atIns C d h1 fun a fs => ofO (fs.lookup f) fun d => Q d h1) E
section
variable {X : Cx} {W : WX} {e o a b : Expr} {es : List Expr} {g ga gb go : DE} {gs : DA} {pos pos' p apos : Pos} {k j : Nat} {C : Addr} {G : SG} {x m f : Str} {ps : List Str}
theorem e_fld (cl : Cls X.K C) (na : NoAttr X.K C f) (ho : PE X o (up X.K W go)) (hb : attributeBase o f X.env (eval o X.env) = eval o X.env := by rfl) : PE X (.Attribute o f pos) (up X.K W (dFld C f go)) :=
  (pe_fld ho hb).to fun σ H Q ⟨B, as, h, ρ, Qd, Ed, rp, w, k, xx⟩ => ⟨B, as, h, ρ, _, Ed, rp, w, fun v d h1 H1 g fz q => by
    obtain ⟨a, fs, rfl, ea, q⟩ := atIns_ok q
    obtain ⟨d, ed, q⟩ := ofO_ok q
    obtain ⟨dx, gs, e1, e2, sf⟩ := g.hr a _ ea
    obtain ⟨v', ev, fv⟩ := sf.some ed
    cases fz
    exact ⟨a, C, dx, gs, v', rfl, e1, cl, na, ev, k v' d h1 H1 g fv q⟩, xx⟩
/-- o.f = e -/
def sFldSet (C : Addr) (f : Str) (go g : DE) : DS := fun E ρ h => g ρ h (fun d h1 => go ρ h1 (fun o h2 => atIns C o h2 fun a fs => fs.length < 1000 ∧ E.nx ρ (put h2 a (.ins C (putD f d fs)))) (E.er ρ)) (E.er ρ)
theorem OR.insPut {K : PySem.W.Frag} {B : Addr → Prop} {as : List Addr} {h : AH} {H : Hp} {a dx : Addr} {gs : List (Str × V)} {fs fs' : List (Str × D)} {gs' : List (Str × V)} (r : HR K (Mx B as h) h H) (ea : h a = some (.ins C fs)) (e1 : H a = some (.ins C dx gs)) (e2 : H dx = some (.own a)) (sf : SF K (Mx B as h) H gs' fs') :
    OR K (Mx B as h) (upd H a (.ins C dx gs')) a (.ins C fs') := by
  have st := r a _ ea
  have ma : Mx B as h a := .inr (.inr (by rw [ea]; exact fun z => by cases z))
  have ne : dx ≠ a := fun z => by rw [z, e1] at e2; cases e2
  exact ⟨dx, gs', upd_same, by rw [upd_ne ne]; exact e2, sf.keeps (.chg ma st.loose) fun _ _ _ m => m⟩
theorem st_fld (cl : Cls X.K C) (na : NoAttr X.K C f) (ho : PE X o (up X.K W go)) (he : PE X e (up X.K W g)) (hs : swapsWith e (some (.Attribute o f pos')) pos.line X.env = pure false := by rfl) : PS X (.Assign [.Attribute o f pos'] e pos) (us X.K W (sFldSet C f go g)) :=
  (ps_fld ho he hs).to fun D σ H ⟨B, as, h, ρ, E, rp, w, k⟩ => ⟨B, as, h, ρ, _, _, rp, w, fun y d h1 H1 g1 fd q => ⟨B, as, h1, ρ, _, _, rp.go g1, q, fun v o h2 H2 g2 fo q2 => by
    obtain ⟨a, fs, rfl, ea, l, q2⟩ := atIns_ok q2
    obtain ⟨dx, gs, e1, e2, sf⟩ := g2.hr a _ ea
    cases fo
    have gp := Go.wr g2.hr ea (OR.insPut g2.hr ea e1 e2 (sf.wr (f := f) (fd.go g2)))
    exact ⟨a, C, dx, gs, rfl, e1, cl, na, by rw [sf.length]; exact l, k.nx _ _ _ _ _ (.go rp ((g1.trans g2).trans gp)) q2⟩, (k.to (.go rp g1)).xc (rp.go g1)⟩, k.xc rp⟩
/-- C(a, ..), C's own __init__ -/
def dMake (C : Addr) (G : SG) (gs : DA) : DE := fun ρ h Q E => gs ρ h (fun ds h1 => ∀ a, h1 a = none → G (.obj a :: ds) (put h1 a (.ins C [])) (fun d h2 => d = .non ∧ Q (.obj a) h2) E) E
/-- the class at C, under the name x -/
def Kn (P : Program) (w : World) (K : PySem.W.Frag) (mg : Str → Option Value) (base : Heap) (k : Nat) (x : Str) (C : Addr) (ps : List Str) (G : SG) : Prop := ∃ f fd, FnN P w K mg base k f fd ps G ∧ mg x = some (.ref C) ∧ Mk K C f ∧ Binds K fd ps []
theorem under_guards {A : Around} {C : Addr} {us : List Value} (g : A.guards = some []) : (A.under (.builtin "type.__call__" ⟨.ref C :: us, []⟩)).guards = some [] := by
  simp [Around.under, Code.guards, Code.isGuard, guardIds, pushGuards, g]
theorem FnN.makes {pins : List (Addr × Obj)} {σ : L2.St} {H : Hp} {s : Shared} {Q : VK} {us : List Value} {vs : List V} {fn : Addr} {fd : FuncData} (F : FnN X.prog X.w X.K X.mg X.base k fn fd ps G) (M : Mk X.K C fn) (c : CxN X W) (hr : Room (k + 1) X.A) (hb : Binds X.K fd ps []) (iv : Inv X pins σ H s) (r : Vals vs us)
    (w : ∀ x dx, H x = none → H dx = none → dx ≠ x → spN X.K G (.ref x :: vs) (upd (upd H dx (.own x)) x (.ins C dx [])) (fun v H2 => v = .non ∧ Q (.ref x) H2) (fun cls dd H' => W cls dd σ H')) : wpAny (model X.prog X.w) X.A (call (.ref C) us) (EP X pins σ Q) X.xe s := by
  have w' := w (s.heap.objs.size + 1) s.heap.objs.size (iv.hok.fresh (Nat.le_succ _)) (iv.hok.fresh (Nat.le_refl _)) (Nat.ne_of_lt (Nat.lt_succ_self _))
  have iv2 := Inv.made (C := C) iv; have r2 : Vals (V.ref (s.heap.objs.size + 1) :: vs) (Value.ref (s.heap.objs.size + 1) :: us) := .cons rfl r
  have hl : (Value.ref (s.heap.objs.size + 1) :: us).length = ps.length := by rw [← r2.length]; exact w'.len F.len
  have bnd := hb _ (Value.ref (s.heap.objs.size + 1) :: us) iv2.kIn (by simpa using hl)
  rw [List.append_nil] at bnd
  refine wpAny_call (make_map (f := fn) iv.kIn M.makes M.init (beq_iff_eq.mp M.fn) (codeAny_mono (F.go _ X.stack _ _ _ _ _ _ _ (under_guards c.gd) (hr.make C us []) (iv2.env0.make C us []) bnd r2 w') fun res s' q => ?_))
  match res, q with
  | .ok (.ret u), q =>
    obtain ⟨v, H', iv3, rv, ev, q3⟩ := iv2.after q
    subst ev
    exact ⟨rv, ⟨V.ref (s.heap.objs.size + 1), H', iv3, rfl, q3⟩⟩
  | .error ex, q => exact c.tk _ _ (XE.of_call iv2 (fun _ _ _ z => z) q)
  | .ok .next, q => exact q.elim
  | .ok .brk, q => exact q.elim
  | .ok .cont, q => exact q.elim
theorem e_make (d : Kn X.prog X.w X.K X.mg X.base k x C ps G) (c : CxN X W) (hr : Room j X.A) (ha : PA X (e :: es) (ua X.K W gs)) (le : k + 1 ≤ j := by omega) (hg : Gl X x := by rfl)
    (he : starEach (e :: es) X.env = (false, eval e X.env) :: starEach es X.env := by rfl) (hdb : (x == ("__debug__" : Str)) = false := by decide) (hpl : (backTo pos (starEach es X.env)).any (·.1) = false := by rfl) :
    PE X (.Call (.Name x p) (e :: es) [] pos) (up X.K W (dMake C G gs)) := by
  obtain ⟨fn, fd, F, hm, M, hb⟩ := d
  constructor
  rintro pn s σ H Q iv ⟨B, as, h, ρ, Qd, Ed, rp, w, k, xx⟩
  apply wpAny_Call_Name_kw (ld_glob iv hg hm ?_ hdb)
  apply PySem.W.callWith_K (h₀ := X.base) iv.ok.mod.kin M.kp (thn (ha.run pos pn s σ H (fun vs H1 => ∀ x dx, H1 x = none → H1 dx = none → dx ≠ x → spN X.K G (.ref x :: vs) (upd (upd H1 dx (.own x)) x (.ins C dx [])) (fun v H2 => v = .non ∧ Q (.ref x) H2) (fun cls dd H' => W cls dd σ H')) iv
    ⟨B, as, h, ρ, _, _, rp, w, fun vs ds h1 H1 g f q => fun x dx nx ndx ne => ?_, xx⟩) fun us s1 ⟨vs, H1, J, r, q⟩ => ⟨J.kIn, ?_⟩) he hpl
  · have g1 : Go X.K B as h1 H1 h1 (upd H1 dx (.own x)) := .new g.hr ndx
    have nx' : upd H1 dx (HO.own x) x = none := by rw [upd_ne ne.symm]; exact nx
    have g2 : Go X.K B as h1 (upd H1 dx (.own x)) (put h1 x (.ins C [])) (upd (upd H1 dx (.own x)) x (.ins C dx [])) :=
      .made (.new g1.hr nx') nx' (g1.hr.off nx') ⟨dx, [], upd_same, by rw [upd_ne ne]; exact upd_same, .nil⟩ (g1.hr.put_new nx')
    have gg := (g.trans g1).trans g2
    exact spN.at (rp.go gg) (.cons (.obj x) (f.go (g1.trans g2))) (q x (g.hr.off nx)) (fun v d h' H' g3 fz q3 => by
      obtain ⟨rfl, q3⟩ := q3
      cases fz
      exact ⟨rfl, k _ _ h' H' (gg.trans g3) (.obj x) q3⟩) (xx.go gg)
  · exact F.makes M c (hr.mono le) hb J r q

/-! ### lists of the heap of data -/
/-- a new list, of the heap of data -/
def dHp (gs : DA) : DE := fun ρ h Q E => gs ρ h (fun ds h1 => ∀ p, h1 p = none → Q (.obj p) (put h1 p (.lst ds))) E
theorem hpn (r : PE X e (un X.K W gs)) : PE X e (up X.K W (dHp gs)) := r.to fun σ H Q ⟨B, as, h, ρ, Qd, Ed, rp, w, k, xx⟩ => ⟨B, as, h, ρ, _, Ed, rp, w, fun p vs ds h' H' g n e m r f q => by
  have eq : ∀ {b : Addr}, Mx B as (put h' p (.lst ds)) b → Mx B (p :: as) h' b := fun {b} z => by
    rcases z with z | z | z
    · exact .inl z
    · exact .inr (.inl (List.mem_cons_of_mem _ z))
    · rcases put_dom.mp z with z | z
      · subst z; exact .inr (.inl List.mem_cons_self)
      · exact .inr (.inr z)
  exact k _ _ _ H' (g.made (o' := .lst ds) n m ⟨vs, e, f.anti fun _ z => eq z⟩ (r.anti fun _ z => eq z)) (.obj p) (q p m), xx⟩
/-- a method of a list that may change it -/
def LmR (r : V → List V → Hp → VK → Prop) (f : List D → List D → (D → List D → Prop) → Prop) : Prop := ∀ (K : PySem.W.Frag) (M : Addr → Prop) (H : Hp) (a : Addr) (vs us : List V) (xs ds : List D) (Q : VK) (Qd : D → List D → Prop), H a = some (.lst vs) → FzL K M H vs xs → FzL K M H us ds → f xs ds Qd →
  (∀ v d ws ys, Fz K M H v d → FzL K M H ws ys → Qd d ys → Q v (upd H a (.lst ws))) → r (.ref a) us H Q
def dLm (f : List D → List D → (D → List D → Prop) → Prop) (go : DE) (gs : DA) : DE := fun ρ h Q E => go ρ h (fun d h1 => match d with
  | .obj a => (∃ xs, h1 a = some (.lst xs)) ∧ gs ρ h1 (fun ds h2 => ∃ xs, h2 a = some (.lst xs) ∧ f xs ds fun d ys => Q d (put h2 a (.lst ys))) E
  | _ => False) E
theorem lm_ok {K : PySem.W.Frag} {B : Addr → Prop} {as : List Addr} {h : AH} {H : Hp} {r : V → List V → Hp → VK → Prop} {f : List D → List D → (D → List D → Prop) → Prop} {a : Addr} {us : List V} {xs ds : List D} {Q : VK} {Qd : QD} (hf : LmR r f) (hr : HR K (Mx B as h) h H) (ea : h a = some (.lst xs)) (fu : FzL K (Mx B as h) H us ds)
    (w : f xs ds fun d ys => Qd d (put h a (.lst ys))) (k : ∀ v d h' H', Go K B as h H h' H' → Fz K (Mx B as h') H' v d → Qd d h' → Q v H') : r (.ref a) us H Q := by
  obtain ⟨vs, e, fx⟩ := hr a _ ea
  refine hf K _ H a vs us xs ds Q _ e fx fu w fun v d ws ys fv fw q => ?_
  have ma : Mx B as h a := .inr (.inr (by rw [ea]; exact fun z => by cases z))
  have kp : Keeps (Mx B as h) H (upd H a (.lst ws)) := .chg ma (by rw [e]; trivial)
  have g : Go K B as h H (put h a (.lst ys)) (upd H a (.lst ws)) := .wr hr ea ⟨ws, upd_same, fw.keeps kp fun _ _ _ m => m⟩
  exact k v d _ _ g (fv.go g) q
theorem e_lm {id : String} {r : V → List V → Hp → VK → Prop} {f : List D → List D → (D → List D → Prop) → Prop} (slot : Slot "list" m id) (hty : typeOf (.builtin id) = pure (.type "method_descriptor")) (hm : MtR X id r) (hf : LmR r f) (ho : PE X o (up X.K W go)) (ha : PA X (e :: es) (ua X.K W gs))
    (hb : attributeBase o m X.env (eval o X.env) = eval o X.env := by rfl)
    (hfew : ((backTo pos (starEach (e :: es) X.env)).all (fun x => !x.1) && (backToKw pos (keywordEach [] X.env)).all (fun x => x.1.isSome) && decide ((e :: es).length + ([] : List Keyword).length + (if ([] : List Keyword).isEmpty then 0 else 1) < 30)) = true := by rfl)
    (hl : (apos.endLine == pos.line) = true := by rfl) (hst : starEach (e :: es) X.env = (false, eval e X.env) :: starEach es X.env := by rfl) (hpl : (backTo pos (starEach es X.env)).any (·.1) = false := by rfl) :
    PE X (.Call (.Attribute o m apos) (e :: es) [] pos) (up X.K W (dLm f go gs)) :=
  (pe_bm PySem.F.plainAttrs_list slot hty hm ho ha hb hfew hl hst hpl).to fun σ H Q ⟨B, as, h, ρ, Qd, Ed, rp, w, k, xx⟩ => ⟨B, as, h, ρ, _, Ed, rp, w, fun v d h1 H1 g fz q => by
    cases d with
    | obj a =>
      cases fz
      obtain ⟨⟨xs, ea⟩, q⟩ := q
      obtain ⟨vs, e1, _⟩ := g.hr a _ ea
      exact ⟨.inl ⟨rfl, _, SqL.of e1⟩, B, as, h1, ρ, _, Ed, rp.go g, q, fun us ds h2 H2 g2 fu ⟨xs2, ea2, q2⟩ => lm_ok hf g2.hr ea2 fu q2 (k.go (g.trans g2)), xx.go g⟩
    | _ => exact q.elim, xx⟩
theorem e_lm0 {id : String} {r : V → List V → Hp → VK → Prop} {f : List D → List D → (D → List D → Prop) → Prop} (slot : Slot "list" m id) (hty : typeOf (.builtin id) = pure (.type "method_descriptor")) (hm : MtR X id r) (hf : LmR r f) (ho : PE X o (up X.K W go))
    (hb : attributeBase o m X.env (eval o X.env) = eval o X.env := by rfl) (hl : (apos.endLine == pos.line) = true := by rfl) :
    PE X (.Call (.Attribute o m apos) [] [] pos) (up X.K W (dLm f go dNil)) :=
  (pe_bm0 PySem.F.plainAttrs_list slot hty hm ho hb hl).to fun σ H Q ⟨B, as, h, ρ, Qd, Ed, rp, w, k, xx⟩ => ⟨B, as, h, ρ, _, Ed, rp, w, fun v d h1 H1 g fz q => by
    cases d with
    | obj a =>
      cases fz
      obtain ⟨_, xs, ea, q⟩ := q
      obtain ⟨vs, e1, _⟩ := g.hr a _ ea
      exact ⟨.inl ⟨rfl, _, SqL.of e1⟩, lm_ok hf g.hr ea .nil q (k.go g)⟩
    | _ => exact q.elim, xx⟩
def fApp : List D → List D → (D → List D → Prop) → Prop
  | xs, [y], Q => xs.length < sizeLine ∧ Q .non (xs ++ [y])
  | _, _, _ => False
theorem l_app : LmR rAppend fApp := by
  intro K M H a vs us xs ds Q Qd e fx fu w k
  match ds, w with
  | [y], w =>
    cases fu with
    | cons f t =>
      cases t
      exact ⟨a, vs, _, rfl, rfl, e, by rw [fx.len]; exact w.1, k _ _ _ _ .non (fx.snoc f) w.2⟩
def fPop : List D → List D → (D → List D → Prop) → Prop
  | xs, [], Q => ofO xs[xs.length - 1]? fun y => Q y xs.dropLast
  | _, _, _ => False
theorem FzL.dropLast {K : PySem.W.Frag} {M : Addr → Prop} {H : Hp} {vs : List V} {xs : List D} (f : FzL K M H vs xs) : FzL K M H vs.dropLast xs.dropLast := by
  rw [List.dropLast_eq_take, List.dropLast_eq_take, f.len]
  exact f.take _
theorem l_pop : LmR rPop fPop := by
  intro K M H a vs us xs ds Q Qd e fx fu w k
  match ds, w with
  | [], w =>
    cases fu
    obtain ⟨y, ey, q⟩ := ofO_ok (show ofO xs[xs.length - 1]? (fun y => Qd y xs.dropLast) from w)
    obtain ⟨v, ev, fv⟩ := fx.get ey
    rw [← fx.len] at ev
    exact ⟨a, vs, v, rfl, rfl, e, ev, k _ _ _ _ fv fx.dropLast q⟩
/-- xs.append(e), xs.pop() of a list of the heap of data -/
theorem e_app (ho : PE X o (up X.K W go)) (ha : PE X e (up X.K W g)) (hb : attributeBase o "append" X.env (eval o X.env) = eval o X.env := by rfl)
    (hfew : ((backTo pos (starEach [e] X.env)).all (fun x => !x.1) && (backToKw pos (keywordEach [] X.env)).all (fun x => x.1.isSome) && decide (([e] : List Expr).length + ([] : List Keyword).length + (if ([] : List Keyword).isEmpty then 0 else 1) < 30)) = true := by rfl)
    (hl : (apos.endLine == pos.line) = true := by rfl) (hst : starEach [e] X.env = (false, eval e X.env) :: starEach [] X.env := by rfl) (hpl : (backTo pos (starEach [] X.env)).any (·.1) = false := by rfl) :
    PE X (.Call (.Attribute o "append" apos) [e] [] pos) (up X.K W (dLm fApp go (dCons g dNil))) := e_lm PySem.F.slot_list_append PySem.F.type_list_append mt_append l_app ho (a_cons ha a_nil hst) hb hfew hl hst hpl
theorem e_pop (ho : PE X o (up X.K W go)) (hb : attributeBase o "pop" X.env (eval o X.env) = eval o X.env := by rfl) (hl : (apos.endLine == pos.line) = true := by rfl) :
    PE X (.Call (.Attribute o "pop" apos) [] [] pos) (up X.K W (dLm fPop go dNil)) := e_lm0 PySem.F.slot_list_pop PySem.F.type_list_pop mt_pop l_pop ho hb hl
end
end NL
set_option Elab.async false
set_option linter.all false
set_option maxRecDepth 100000
set_option maxHeartbeats 2300000
/-! N11: dicts of the heap of data; isinstance. -/
namespace NL
open PyProof.Rows L2 PySem PySem.Spec
def keyD : D → Option Key
  | .int i => some (.inl i)
  | .str s => some (.inr s)
  | _ => none
def valD (kvs : List (Key × D)) (k : Key) : Option D := (kvs.find? fun kv => decide (kv.1 = k)).map (·.2)
def putKD (kvs : List (Key × D)) (k : Key) (d : D) : List (Key × D) :=
  if (kvs.any fun kv => decide (kv.1 = k)) = true then kvs.map (fun kv => if kv.1 = k then (kv.1, d) else kv) else kvs ++ [(k, d)]
section
variable {K : PySem.W.Frag} {M : Addr → Prop} {H : Hp} {k : Key} {d : D} {v : V}
theorem KF.val : ∀ {kws : List (Key × V)} {kvs : List (Key × D)}, KF K M H kws kvs → (∀ d, valD kvs k = some d → ∃ v, valV kws k = some v ∧ Fz K M H v d) ∧ (valD kvs k = none → valV kws k = none)
  | _, _, .nil => ⟨fun d e => (by cases e), fun _ => rfl⟩
  | (a, w) :: ws, (b, x) :: xs, .cons r t => by
    obtain ⟨z, f⟩ := r
    have z : a = b := z
    subst z
    obtain ⟨i1, i2⟩ := KF.val t
    unfold valD valV at *
    by_cases c : a = k
    · simp only [List.find?_cons, decide_eq_true c]
      exact ⟨fun d e => (by cases e; exact ⟨w, rfl, f⟩), fun e => (by cases e)⟩
    · simp only [List.find?_cons, decide_eq_false c]
      exact ⟨i1, i2⟩
theorem KF.any : ∀ {kws : List (Key × V)} {kvs : List (Key × D)}, KF K M H kws kvs → (kws.any fun kv => decide (kv.1 = k)) = kvs.any fun kv => decide (kv.1 = k)
  | _, _, .nil => rfl
  | _ :: _, _ :: _, .cons r t => by rw [List.any_cons, List.any_cons, KF.any t, r.1]
theorem KF.len {kws : List (Key × V)} {kvs : List (Key × D)} (f : KF K M H kws kvs) : kws.length = kvs.length := Paired.length f
theorem KF.snoc : ∀ {kws : List (Key × V)} {kvs : List (Key × D)}, KF K M H kws kvs → Fz K M H v d → KF K M H (kws ++ [(k, v)]) (kvs ++ [(k, d)])
  | _, _, .nil, f => .cons ⟨rfl, f⟩ .nil
  | _, _, .cons r t, f => .cons r (KF.snoc t f)
theorem KF.repl : ∀ {kws : List (Key × V)} {kvs : List (Key × D)}, KF K M H kws kvs → Fz K M H v d → KF K M H (kws.map fun kv => if kv.1 = k then (kv.1, v) else kv) (kvs.map fun kv => if kv.1 = k then (kv.1, d) else kv)
  | _, _, .nil, _ => .nil
  | (a, w) :: _, (b, x) :: _, .cons r t, f => by
    obtain ⟨z, q⟩ := r
    have z : a = b := z
    subst z
    refine .cons ?_ (KF.repl t f)
    by_cases c : a = k
    · simp only [if_pos c]; exact ⟨trivial, f⟩
    · simp only [if_neg c]; exact ⟨trivial, q⟩
theorem KF.wr {kws : List (Key × V)} {kvs : List (Key × D)} (r : KF K M H kws kvs) (f : Fz K M H v d) : KF K M H (putK kws k v) (putKD kvs k d) := by
  unfold putK putKD
  rw [r.any]
  split
  · exact r.repl f
  · exact r.snoc f
theorem KF.zip : ∀ {ks : List Key} {vs : List V} {ds : List D}, FzL K M H vs ds → KF K M H (ks.zip vs) (ks.zip ds)
  | [], _, _, _ => by simp; exact .nil
  | k :: ks, _, _, .nil => by simp; exact .nil
  | k :: ks, _, _, .cons f t => .cons ⟨rfl, f⟩ (KF.zip t)
end
/-- a dict: of the heap of data, or frozen -/
def atDic (d : D) (h : AH) (Q : List (Key × D) → Prop) : Prop := match d with
  | .obj a => (match h a with
    | some (.dK kvs) => Q kvs
    | _ => False)
  | .dic ks ds => Q (ks.zip ds)
  | _ => False
theorem atDic_ok {K : PySem.W.Frag} {M : Addr → Prop} {h : AH} {H : Hp} {v : V} {d : D} {Q : List (Key × D) → Prop} (r : HR K M h H) (f : Fz K M H v d) (w : atDic d h Q) : ∃ a kws kvs, v = .ref a ∧ H a = some (.dK kws) ∧ KF K M H kws kvs ∧ Q kvs := by
  cases d with
  | obj a =>
    cases f
    have w' : (match h a with | some (.dK kvs) => Q kvs | _ => False) := w
    split at w'
    · rename_i kvs e
      obtain ⟨kws, e2, kf⟩ := r _ _ e
      exact ⟨a, kws, kvs, rfl, e2, kf, w'⟩
    · exact w'.elim
  | dic ks ds =>
    cases f with
    | dic m e l f => exact ⟨_, _, _, rfl, e, .zip f, w⟩
  | _ => exact w.elim
theorem keyD_ok {K : PySem.W.Frag} {M : Addr → Prop} {H : Hp} {v : V} {d : D} {k : Key} (f : Fz K M H v d) (e : keyD d = some k) : v = kV k := by
  cases d with
  | int i => cases e; cases f; rfl
  | str s => cases e; cases f; rfl
  | _ => cases e
section
variable {X : Cx} {W : WX} {e o a b i : Expr} {es : List Expr} {g ga gb go gi : DE} {gs : DA} {pos pos' p apos : Pos} {k j : Nat} {C : Addr}
/-- d[k] -/
def dGet (go gi : DE) : DE := fun ρ h Q E => go ρ h (fun d h1 => gi ρ h1 (fun i h2 => atDic d h2 fun kvs => ofO (keyD i) fun k => ofO (valD kvs k) fun v => Q v h2) E) E
theorem e_dget {k : Nat} (hr : Room k X.A) (ho : PE X o (up X.K W go)) (hi : PE X i (up X.K W gi)) (hs : NoSl i := by intro _ _; rfl) : PE X (.Subscript o i pos) (up X.K W (dGet go gi)) :=
  (pe_dget hr.u1 ho hi hs).to fun σ H Q ⟨B, as, h, ρ, Qd, Ed, rp, w, k, xx⟩ => ⟨B, as, h, ρ, _, Ed, rp, w, fun v d h1 H1 g f q => ⟨B, as, h1, ρ, _, Ed, rp.go g, q, fun y c h2 H2 g2 fy q2 => by
    obtain ⟨a, kws, kvs, rfl, e, kf, q2⟩ := atDic_ok g2.hr (f.go g2) q2
    obtain ⟨key, ek, q2⟩ := ofO_ok q2
    obtain ⟨x, ex, q2⟩ := ofO_ok q2
    obtain ⟨u, eu, fu⟩ := (kf.val (k := key)).1 x ex
    refine ⟨a, u, rfl, ?_, k u x h2 H2 (g.trans g2) fu q2⟩
    rw [keyD_ok fy ek, ← eu]
    exact .k e, xx.go g⟩, xx⟩
/-- k in d, k not in d -/
def bDin (neg : Bool) (gi go : DE) : DT := fun ρ h Q E => gi ρ h (fun i h1 => go ρ h1 (fun d h2 => atDic d h2 fun kvs => ofO (keyD i) fun k => Q ((valD kvs k).isSome != neg) h2) E) E
theorem t_din {k : Nat} (hr : Room k X.A) (hi : PE X i (up X.K W gi)) (ho : PE X o (up X.K W go)) (hm : behindInMarks .In o = false := by rfl) : PT X (.Compare i [.In] [o] pos) (ut X.K W (bDin false gi go)) :=
  (pt_cmp (pc_din hr.u1 hi ho) hm).to fun σ H Q ⟨B, as, h, ρ, Qd, Ed, rp, w, k, xx⟩ => ⟨B, as, h, ρ, _, Ed, rp, w, fun y c h1 H1 g fy q => ⟨B, as, h1, ρ, _, Ed, rp.go g, q, fun v d h2 H2 g2 f q2 => by
    obtain ⟨a, kws, kvs, rfl, e, kf, q2⟩ := atDic_ok g2.hr f q2
    obtain ⟨key, ek, q2⟩ := ofO_ok q2
    refine ⟨a, valV kws key, rfl, ?_, (valV kws key).isSome, rfl, k _ h2 H2 (g.trans g2) ?_⟩
    · rw [keyD_ok (fy.go g2) ek]
      exact .k e
    · have eq : (valV kws key).isSome = (valD kvs key).isSome := by
        cases c : valD kvs key with
        | none => rw [(kf.val (k := key)).2 c]; rfl
        | some x =>
          obtain ⟨u, eu, _⟩ := (kf.val (k := key)).1 x c
          rw [eu]; rfl
      rw [eq]
      simpa using q2, xx.go g⟩, xx⟩
theorem t_dnot {k : Nat} (hr : Room k X.A) (hi : PE X i (up X.K W gi)) (ho : PE X o (up X.K W go)) (hm : behindInMarks .NotIn o = false := by rfl) : PT X (.Compare i [.NotIn] [o] pos) (ut X.K W (bDin true gi go)) :=
  (pt_cmp (pc_dnotin hr.u1 hi ho) hm).to fun σ H Q ⟨B, as, h, ρ, Qd, Ed, rp, w, k, xx⟩ => ⟨B, as, h, ρ, _, Ed, rp, w, fun y c h1 H1 g fy q => ⟨B, as, h1, ρ, _, Ed, rp.go g, q, fun v d h2 H2 g2 f q2 => by
    obtain ⟨a, kws, kvs, rfl, e, kf, q2⟩ := atDic_ok g2.hr f q2
    obtain ⟨key, ek, q2⟩ := ofO_ok q2
    refine ⟨a, valV kws key, rfl, ?_, !(valV kws key).isSome, rfl, k _ h2 H2 (g.trans g2) ?_⟩
    · rw [keyD_ok (fy.go g2) ek]
      exact .k e
    · have eq : (valV kws key).isSome = (valD kvs key).isSome := by
        cases c : valD kvs key with
        | none => rw [(kf.val (k := key)).2 c]; rfl
        | some x =>
          obtain ⟨u, eu, _⟩ := (kf.val (k := key)).1 x c
          rw [eu]; rfl
      rw [eq]
      simpa using q2, xx.go g⟩, xx⟩
/-- d[k] = v, a dict of the heap of data -/
def atDicO (d : D) (h : AH) (Q : Addr → List (Key × D) → Prop) : Prop := match d with
  | .obj a => (match h a with
    | some (.dK kvs) => Q a kvs
    | _ => False)
  | _ => False
theorem atDicO_ok {d : D} {h : AH} {Q : Addr → List (Key × D) → Prop} (w : atDicO d h Q) : ∃ a kvs, d = .obj a ∧ h a = some (.dK kvs) ∧ Q a kvs := by
  cases d with
  | obj a =>
    have w' : (match h a with | some (.dK kvs) => Q a kvs | _ => False) := w
    split at w'
    · rename_i kvs e; exact ⟨a, kvs, rfl, e, w'⟩
    · exact w'.elim
  | _ => exact w.elim
def sDput (go gi g : DE) : DS := fun E ρ h => g ρ h (fun d h1 => go ρ h1 (fun o h2 => gi ρ h2 (fun i h3 => atDicO o h3 fun a kvs => ofO (keyD i) fun k => kvs.length < sizeLine ∧ E.nx ρ (put h3 a (.dK (putKD kvs k d)))) (E.er ρ)) (E.er ρ)) (E.er ρ)
theorem st_dput {k : Nat} (hr : Room k X.A) (ho : PE X o (up X.K W go)) (hi : PE X i (up X.K W gi)) (he : PE X e (up X.K W g)) (hs : swapsWith e (some (.Subscript o i pos')) pos.line X.env = pure false := by rfl) :
    PS X (.Assign [.Subscript o i pos'] e pos) (us X.K W (sDput go gi g)) :=
  (ps_dput hr.u1 ho hi he hs).to fun D σ H ⟨B, as, h, ρ, E, rp, w, k⟩ => ⟨B, as, h, ρ, _, _, rp, w, fun y d h1 H1 g1 fd q => ⟨B, as, h1, ρ, _, _, rp.go g1, q, fun v o h2 H2 g2 fo q2 => ⟨B, as, h2, ρ, _, _, rp.go (g1.trans g2), q2, fun c i h3 H3 g3 fi q3 => by
    obtain ⟨a, kvs, rfl, ea, q3⟩ := atDicO_ok q3
    obtain ⟨key, ek, lt, q3⟩ := ofO_ok q3
    obtain ⟨kws, e1, kf⟩ := g3.hr a _ ea
    cases fo
    have fd3 := (fd.go g2).go g3
    have ma : Mx B as h3 a := .inr (.inr (by rw [ea]; exact fun z => by cases z))
    have kp : Keeps (Mx B as h3) H3 (upd H3 a (.dK (putK kws key y))) := .chg ma (by rw [e1]; trivial)
    have gp := Go.wr (o' := .dK (putKD kvs key d)) g3.hr ea ⟨_, upd_same, (kf.wr fd3).keeps kp fun _ _ _ m => m⟩
    refine ⟨a, _, rfl, ?_, k.nx _ _ _ _ _ (.go rp (((g1.trans g2).trans g3).trans gp)) q3⟩
    rw [keyD_ok fi ek]
    exact .k e1 (by rw [kf.len]; exact lt), (k.to (.go rp (g1.trans g2))).xc (rp.go (g1.trans g2))⟩, (k.to (.go rp g1)).xc (rp.go g1)⟩, k.xc rp⟩

/-! ### displays -/
/-- a thing that nobody may touch yet -/
theorem Rep.guard {K : PySem.W.Frag} {B : Addr → Prop} {as : List Addr} {h : AH} {H : Hp} {σ : L2.St} {ρ : Rho} {p : Addr} {u : HO} (rp : Rep K B as h H σ ρ) (n : H p = none) : Rep K (fun b => B b ∨ b = p) as h (upd H p u) σ ρ := by
  have mx : ∀ {a : Addr} {o : HO}, H a = some o → Mx (fun b => B b ∨ b = p) as h a → Mx B as h a := fun {a o} q m => by
    rcases m with (m | m) | m | m
    · exact .inl m
    · subst m; rw [n] at q; cases q
    · exact .inr (.inl m)
    · exact .inr (.inr m)
  refine ⟨fun a o q => (rp.hr a o q).keeps (.new n) (fun _ _ w m => mx w m) (fun w z => by rw [upd_ne (ne_of_none z n)]; exact z) (fun d z => by rw [upd_ne (ne_of_none z n)]; exact z), fun a m => ?_, fun a m => ?_, fun a m b => ?_, rp.nd, rp.len, fun i x q => ?_, fun i ys q => ?_, fun i a dd x q => ⟨(rp.sx i a dd x q).1, (rp.sx i a dd x q).2.keeps (.new n) fun _ _ w m => mx w m⟩⟩
  · rcases Classical.em (a = p) with c | c
    · rw [c, upd_same]; exact fun z => by cases z
    · rw [upd_ne c]; exact rp.bd a (m.elim id fun z => absurd z c)
  · obtain ⟨m1, vs, e⟩ := rp.ow a m
    exact ⟨m1, vs, by rw [upd_ne (ne_of_none e n)]; exact e⟩
  · rcases b with b | b
    · exact rp.ob a m b
    · obtain ⟨_, vs, e⟩ := rp.ow a m
      rw [b, n] at e; cases e
  · obtain ⟨v, e1, f⟩ := rp.sd i x q
    exact ⟨v, e1, f.keeps (.new n) fun _ _ w m => mx w m⟩
  · obtain ⟨a, vs, e1, e2, e3, f⟩ := rp.sl i ys q
    exact ⟨a, vs, e1, e2, by rw [upd_ne (ne_of_none e3 n)]; exact e3, f.keeps (.new n) fun _ _ w m => mx w m⟩
structure PPD (X : Cx) (W : WX) (pos : Pos) (keys : List (Option Expr)) (values : List Expr) (ks : List Key) (gs : DA) : Prop where
  ex : ∃ trs, PPs X pos keys values trs ∧ ∀ σ H (Q : List (V × V) → Hp → Prop), (∃ B as h ρ Qd Ed, Rep X.K B as h H σ ρ ∧ gs ρ h Qd Ed ∧
    (∀ vs ds h' H', Go X.K B as h H h' H' → FzL X.K (Mx B as h') H' vs ds → ds.length = ks.length → Qd ds h' → Q ((ks.zip vs).map fun p => (kV p.1, p.2)) H') ∧ Xc X.K B as h H W σ Ed) → tPairs trs σ H Q
theorem pd_nil : PPD X W pos [] [] [] dNil := ⟨[], pps_nil, fun σ H Q ⟨B, as, h, ρ, Qd, Ed, rp, w, k, _⟩ => k [] [] h H (.refl rp.hr) .nil rfl w⟩
theorem pd_cons {kx v : Expr} {key : Key} {keys : List (Option Expr)} {values : List Expr} {ks : List Key} (hk : PE X kx (tC (kV key))) (hv : PE X v (up X.K W g)) (r : PPD X W pos keys values ks gs) : PPD X W pos (some kx :: keys) (v :: values) (key :: ks) (dCons g gs) := by
  obtain ⟨trs, h1, h2⟩ := r.ex
  refine ⟨(_, _) :: trs, pps_cons hk hv h1, fun σ H Q ⟨B, as, h, ρ, Qd, Ed, rp, w, k, xx⟩ => ?_⟩
  exact ⟨B, as, h, ρ, _, Ed, rp, w, fun u d h1 H1 g f q => h2 _ _ _ ⟨B, as, h1, ρ, _, Ed, rp.go g, q, fun vs ds h3 H3 g3 fs l q3 => k (u :: vs) (d :: ds) h3 H3 (g.trans g3) (.cons (f.go g3) fs) (by simp [l]) q3, xx.go g⟩, xx⟩
theorem pk_str {s : Str} {j} {pos : Pos} : PE X (.Constant (.str s) j pos) (tC (kV (.inr s))) := pe_str
theorem pk_int {i : Int} {j} {pos : Pos} : PE X (.Constant (.int i) j pos) (tC (kV (.inl i))) := pe_int
theorem merge_app : ∀ (more kvs : List (Key × V)), ((kvs ++ more).map (·.1)).Nodup → mergeK kvs more = kvs ++ more
  | [], kvs, _ => by simp [mergeK]
  | p :: more, kvs, nd => by
    have e : putK kvs p.1 p.2 = kvs ++ [p] := by
      unfold putK
      rw [if_neg]
      intro z
      obtain ⟨q, hq, e⟩ := List.any_eq_true.mp z
      rw [List.map_append, List.nodup_append] at nd
      exact nd.2.2 q.1 (List.mem_map_of_mem hq) p.1 (by simp) (of_decide_eq_true e)
    have := merge_app more (kvs ++ [p]) (by simpa using nd)
    unfold mergeK at this ⊢
    rw [List.foldl_cons, e, this]
    simp
/-- {k: v, ..} with written keys, of the heap of data -/
def dDisp (ks : List Key) (gs : DA) : DE := fun ρ h Q E => gs ρ h (fun ds h1 => ∀ p, h1 p = none → Q (.obj p) (put h1 p (.dK (ks.zip ds)))) E
theorem e_disp {keys : List (Option Expr)} {values : List Expr} {ks : List Key} (r : PPD X W pos keys values ks gs) (nd : ks.Nodup := by decide) (l15 : ks.length ≤ 15 := by decide) (hall : keys.all (·.isSome) = true := by rfl) (hl : keys.length = values.length := by rfl) (h0 : keys ≠ [] := by simp)
    (h15 : keys.length ≤ 15 := by decide) : PE X (.Dict keys values pos) (up X.K W (dDisp ks gs)) := by
  obtain ⟨trs, h1, h2⟩ := r.ex
  refine (pe_disp h1 hall hl h0 h15).to fun σ H Q ⟨B, as, h, ρ, Qd, Ed, rp, w, k, xx⟩ => fun p np => ?_
  have g0 : Go X.K B as h H h (upd H p (.dK [])) := .new rp.hr np
  have rg := rp.guard (u := .dK []) np
  have un : ∀ {h' : AH} {H' : Hp}, Go X.K (fun b => B b ∨ b = p) as h (upd H p (.dK [])) h' H' → Go X.K B as h (upd H p (.dK [])) h' H' := fun x => ⟨x.k, x.lo, x.nw, x.hr.anti fun a m => by
    rcases m with m | m | m
    · exact .inl (.inl m)
    · exact .inr (.inl m)
    · exact .inr (.inr m)⟩
  refine h2 _ _ _ ⟨_, as, h, ρ, _, Ed, rg, w, fun vs ds h' H' g fs l q => ?_, fun e h' H' cls dd g r q => xx e h' H' cls dd (g0.trans (un g)) (r.anti fun a m => ?_) q⟩
  · have ep : H' p = some (.dK []) := g.k.ke p _ upd_same fun z => z (rp.hr.off np)
    have hp : h' p = none := Classical.byContradiction fun z => g.nw p _ upd_same z (rp.hr.off np)
    have lv : vs.length = ks.length := by rw [fs.len, l]
    have ek : (ks.zip vs).map (·.1) = ks := by rw [List.map_fst_zip (by omega)]
    refine ⟨ep, ks.zip vs, rfl, by rw [List.length_zip]; omega, ?_⟩
    rw [merge_app _ [] (by rw [List.nil_append, ek]; exact nd), List.nil_append]
    have mx : ∀ {b : Addr}, Mx B as (put h' p (.dK (ks.zip ds))) b → Mx (fun b => B b ∨ b = p) as h' b := fun {b} m => by
      rcases m with m | m | m
      · exact .inl (.inl m)
      · exact .inr (.inl m)
      · rcases put_dom.mp m with m | m
        · exact .inl (.inr m)
        · exact .inr (.inr m)
    have kp : Keeps (Mx (fun b => B b ∨ b = p) as h') H' (upd H' p (.dK (ks.zip vs))) := .chg (.inl (.inr rfl)) (by rw [ep]; trivial)
    have gu := g0.trans (un g)
    have gf : Go X.K B as h H h' (upd H' p (.dK (ks.zip vs))) := by
      refine ⟨⟨fun b ys e => ?_, fun b u w e => ?_, fun b u e n => ?_, fun b φ e => ?_⟩, gu.lo, gu.nw, fun b u q => ?_⟩
      · rw [upd_ne (ne_of_none e np)]; exact gu.k.tu b ys e
      · rw [upd_ne (ne_of_none e np)]; exact gu.k.fr b u w e
      · rw [upd_ne (ne_of_none e np)]; exact gu.k.ke b u e n
      · rw [upd_ne (ne_of_none e np)]; exact gu.k.xt b φ e
      · refine (g.hr b u q).keeps kp (fun a o _ m => ?_) (fun w z => ?_) fun d z => ?_
        · rcases m with m | m | m
          · exact .inl (.inl m)
          · exact .inr (.inl m)
          · exact .inr (.inr m)
        · rw [upd_ne (fun c => by rw [c, hp] at q; cases q)]; exact z
        · rw [upd_ne (fun c => by rw [c, ep] at z; cases z)]; exact z
    refine k _ _ _ _ (gf.made (o' := .dK (ks.zip ds)) np hp ⟨_, upd_same, (KF.zip fs).keeps kp fun _ _ _ m => mx m⟩ fun b u q2 => ?_) (.obj p) (q p hp)
    refine (g.hr b u q2).keeps kp (fun a o _ m => mx m) (fun w z => ?_) fun d z => ?_
    · rw [upd_ne (fun c => by rw [c, hp] at q2; cases q2)]; exact z
    · rw [upd_ne (fun c => by rw [c, ep] at z; cases z)]; exact z
  · rcases m with m | m | m
    · exact .inl (.inl m)
    · exact .inr (.inl m)
    · exact .inr (.inr m)

/-! ### isinstance -/
/-- the class of a value -/
def tyH (h : AH) : D → Option Value
  | .obj a => match h a with
    | some (.lst _) => some (.type "list")
    | some (.dK _) => some (.type "dict")
    | some (.ins C _) => some (.ref C)
    | _ => none
  | d => (tyN d).map .type
/-- what a class must say for isinstance -/
structure IsC (K : PySem.W.Frag) (C : Addr) : Prop where
  cl : Cls K C
  (ca : PySem.W.findIn K (.ref C) "__class__" = some (some (.builtin "object.__class__")))
  cg : PySem.W.specialIn K (.builtin "object.__class__") "__get__" = some (some (.builtin "getset_descriptor.__get__"))
  (ct : PySem.W.takesIn K (.builtin "object.__class__") = some true)
  co : PySem.W.mroIn K C (.type "object") = some true
theorem ty_ok {K : PySem.W.Frag} {B : Addr → Prop} {as : List Addr} {h : AH} {H : Hp} {v : V} {d : D} {t : Value} (r : HR K (Mx B as h) h H) (f : Fs K B as h H v d) (e : tyH h d = some t) (hc : ∀ C, t = .ref C → IsC K C) : TyX K H v t := by
  cases d with
  | non => cases e; rw [f.non]; exact .base .non
  | bl b => cases e; rw [f.bl]; exact .base (.bl b)
  | int b => cases e; rw [f.int]; exact .base (.int b)
  | str b => cases e; rw [f.str]; exact .base (.str b)
  | tup xs =>
    cases e
    obtain ⟨p, vs, rfl, ⟨h1, _⟩, _⟩ := f.tup
    rcases h1 with (h1 | ⟨o, h1⟩) | ⟨o, its, m, h1, c, _⟩
    · exact .base (.tup h1)
    · exact .fTuple h1
    · exact .kTuple h1 c
  | lst xs =>
    cases e
    obtain ⟨p, vs, rfl, h1, _⟩ := f.lst
    exact .base (.lst h1)
  | dic ks xs =>
    cases e
    cases f with
    | z f => cases f with | dic m q l f => exact .base (.dK q)
  | scr is => cases e
  | obj a =>
    rw [f.obj]
    have e' : (match h a with | some (.lst _) => some (Value.type "list") | some (.dK _) => some (.type "dict") | some (.ins C _) => some (.ref C) | _ => none) = some t := e
    cases q : h a with
    | none => rw [q] at e'; cases e'
    | some o =>
      rw [q] at e'
      cases o with
      | lst xs => cases e'; obtain ⟨vs, w, _⟩ := r a _ q; exact .base (.lst w)
      | dK xs => cases e'; obtain ⟨vs, w, _⟩ := r a _ q; exact .base (.dK w)
      | tb q => cases e'
      | ins C fs =>
        cases e'
        obtain ⟨dx, gs, w, _⟩ := r a _ q
        have c := hc C rfl
        exact .base (.ins w c.cl c.ca c.cg c.ct c.co)
/-- isinstance(x, T): T a class of the text or a built-in -/
def dIsi (K : PySem.W.Frag) (T : Value) (g : DE) : DE := fun ρ h Q E => g ρ h (fun d h1 => ofO (tyH h1 d) fun t => (∀ C, t = .ref C → IsC K C) ∧ ofO (PySem.W.kitOne K t T) fun b => Q (.bl b) h1) E
theorem e_isi {p pos : Pos} {T : Value} {c : V} (hg : Gl X "isinstance") (hm : X.mg "isinstance" = none) (ht : PE X b (tC c)) (kc : ClsV c T) (ha : PE X a (uw X.K W ga))
    (he : starEach [a, b] X.env = (false, eval a X.env) :: starEach [b] X.env := by rfl) (he2 : starEach [b] X.env = (false, eval b X.env) :: starEach [] X.env := by rfl)
    (hpl : (backTo pos (starEach [b] X.env)).any (·.1) = false := by rfl) :
    PE X (.Call (.Name "isinstance" p) [a, b] [] pos) (up X.K W (dIsi X.K T ga)) :=
  (pe_callB call_isi hg hm (by decide +kernel) (pa_cons ha (pa_cons ht pa_nil he2) he) (by decide) (by decide) he hpl).to fun σ H Q ⟨B, as, h, ρ, Qd, Ed, rp, w, k, xx⟩ => ⟨B, as, h, ρ, _, Ed, rp, w, fun v d h' H' g f q => (by
    obtain ⟨t, et, hc, q⟩ := ofO_ok q
    obtain ⟨r, er, q⟩ := ofO_ok q
    exact ⟨v, c, t, T, r, rfl, kc, ty_ok g.hr f et hc, er, k _ _ h' H' g (.bl r) q⟩), xx⟩
/-- isinstance(x, T), T a built-in class, x data -/
def fIsi (T : String) (d : D) (Q : D → Prop) : Prop := ofO (tyN d) fun n => ofO (kitB n T) fun b => Q (.bl b)
def dIsiB (T : String) (g : DE) : DE := fun ρ h Q E => g ρ h (fun d h1 => fIsi T d fun d' => Q d' h1) E
theorem e_isiB {p pos px : Pos} {T : String} {x : Str} (hg : Gl X "isinstance") (hm : X.mg "isinstance" = none) (hgT : Gl X x) (hmT : X.mg x = none) (ha : PE X a (uw X.K W ga)) (hvT : bootBuiltins x = some (.type T) := by decide +kernel)
    (hn : x ≠ "__name__" := by decide) (hd : (x == ("__debug__" : Str)) = false := by decide)
    (he : starEach [a, .Name x px] X.env = (false, eval a X.env) :: starEach [.Name x px] X.env := by rfl) (he2 : starEach [.Name x px] X.env = (false, eval (.Name x px) X.env) :: starEach [] X.env := by rfl)
    (hpl : (backTo pos (starEach [.Name x px] X.env)).any (·.1) = false := by rfl) :
    PE X (.Call (.Name "isinstance" p) [a, .Name x px] [] pos) (up X.K W (dIsiB T ga)) :=
  (pe_callB call_isi hg hm (by decide +kernel) (pa_cons ha (pa_cons (pe_bltn (v := .ty T) (u := .type T) hgT hmT hvT rfl hn hd) pa_nil he2) he) (by decide) (by decide) he hpl).to fun σ H Q ⟨B, as, h, ρ, Qd, Ed, rp, w, k, xx⟩ => ⟨B, as, h, ρ, _, Ed, rp, w, fun v d h' H' g f q => (by
    obtain ⟨n, en, q⟩ := ofO_ok q
    obtain ⟨r, er, q⟩ := ofO_ok q
    have et : tyH h' d = some (.type n) := by
      cases d with
      | obj a => cases en
      | scr a => cases en
      | _ => cases en; rfl
    exact ⟨v, .ty T, .type n, .type T, r, rfl, .ty T, ty_ok g.hr f et (fun C e => by cases e), kit_ty er, k _ _ h' H' g (.bl r) q⟩), xx⟩
end
/-! ### isinstance, reckoned -/
def isT (C : String) : D → Bool
  | .non => C == "NoneType"
  | .bl _ => C == "bool" || C == "int"
  | .int _ => C == "int"
  | .str _ => C == "str"
  | .tup _ => C == "tuple"
  | .lst _ => C == "list"
  | .dic _ _ => C == "dict"
  | .obj _ => false
  | .scr _ => false
def noO : D → Bool
  | .obj _ => false
  | .scr _ => false
  | _ => true
theorem isi_of {C : String} {d : D} {Q : D → Prop} (hC : C = "str" ∨ C = "int" ∨ C = "bool" ∨ C = "tuple" ∨ C = "list" ∨ C = "dict") (hd : noO d = true) (w : Q (.bl (isT C d))) : fIsi C d Q := by
  have key : ∀ n, tyN d = some n → kitB n C = some (isT C d) → fIsi C d Q := fun n h1 h2 => by
    show ofO (tyN d) _
    rw [h1]
    show ofO (kitB n C) _
    rw [h2]
    exact w
  cases d with
  | obj a => cases hd
  | scr a => cases hd
  | _ =>
    refine key _ rfl ?_
    rcases hC with e | e | e | e | e | e <;> subst e <;> simp only [isT] <;> decide +kernel
end NL
set_option Elab.async false
set_option linter.all false
set_option maxRecDepth 100000
set_option maxHeartbeats 4300000
/-! N12: an own exception over an own base, with super().__init__(x); self.f = x. -/
namespace NL
open PyProof.Rows L2 PySem PySem.Spec
abbrev exB : List Value := [.type "Exception", .type "BaseException", .type "object"]
/-- the text of such an __init__ -/
structure SupT (body : List Stmt) (params : Arguments) (scope : Scope) (a f : Str) : Prop where
  body : ∃ p0 p1 p2 p3 p4 p5 p6 p7 p8 p9, body = [.Expr (.Call (.Attribute (.Call (.Name "super" p0) [] [] p1) "__init__" p2) [.Name a p3] [] p4) p5, .Assign [.Attribute (.Name "self" p6) f p7] (.Name a p8) p9] ∧
    ∀ env : Env, (∃ pl : Sem Bool, eval (.Call (.Attribute (.Call (.Name "super" p0) [] [] p1) "__init__" p2) [.Name a p3] [] p4) env = (do
      let ov ← attributeBase (.Call (.Name "super" p0) [] [] p1) "__init__" env (eval (.Call (.Name "super" p0) [] [] p1) env)
      standAt p2.atName; let (f, first) ← holding [ov] (getMethod ov "__init__" pl)
      callWith p4 f first (backTo p4 (starEach [.Name a p3] env)) [])) ∧ swapsWith (.Call (.Attribute (.Call (.Name "super" p0) [] [] p1) "__init__" p2) [.Name a p3] [] p4) none p5.line env = pure false ∧ swapsWith (.Name a p8) (some (.Attribute (.Name "self" p6) f p7)) p9.line env = pure false
  head : ∃ ar : Arg, (params.posonlyargs ++ params.args).head? = some ar ∧ ar.arg = ("self" : Str)
  kind : scope.kind = .function
  (co : scope.isCoroutine = false)
  (gen : scope.isGenerator = false)
  nocell : ∀ x ∈ scope.names, x.2 ≠ .cell
  sup : scope.names.lookup ("super" : Str) = some .globalImplicit
  cls : scope.names.lookup ("__class__" : Str) = some .free
  self : scope.names.lookup ("self" : Str) = some .local
  par : scope.names.lookup a = some .local
  ne : a ≠ "self"
  dbg : (a == ("__debug__" : Str)) = false
/-- what the module's head says of the class -/
structure SupC (P : Program) (K : PySem.W.Frag) (mg : Str → Option Value) (C : Addr) (f : Str) : Prop where
  ini : PySem.W.excInitIn K C exB "Exception.__new__" = true
  over : PySem.W.excOver K C exB = true
  cd : ∃ cd bm, PySem.W.clsIn K C = some cd ∧ cd.mro = .ref C :: bm ∧ cd.hasDict = true ∧ PySem.W.alongIn K "__init__" bm = some (some (.builtin "Exception.__init__"))
  (sa : PySem.W.findIn K (.ref C) "__setattr__" = some (some (.builtin "object.__setattr__")))
  na : PySem.W.findIn K (.ref C) f = some none
  exS : PySem.W.subIn K (.ref C) (.type "Exception") = some true
  exB : PySem.W.subIn K (.ref C) (.type "BaseException") = some true
  ty : PySem.W.typeIn K (.ref C) = some (.type "type")
  (kC : PySem.W.keepIn K (.ref C) = true)
  mC : PySem.W.mroIn K C (.ref C) = some true
  opq : PySem.W.nsIn K cStatics "thirdparty.any" = some none
  gl : mg "super" = none
  top : (P.main.scope.names.lookup ("super" : Str)).isSome = false
  fn : ∃ (fI cc cda : Addr) (oc : Value) (od : Option Addr) (osl : Array (Option Value)) (name qual : Str) (params : Arguments) (body : List Stmt) (scope : Scope) (dV kV doc pm : Value) (an : Option Addr) (ct : Value) (a : Str),
    PySem.W.findIn K (.ref C) "__init__" = some (some (.ref fI)) ∧ PySem.W.typeIn K (.ref fI) = some (.type "function") ∧
    K.lookup fI = some ⟨oc, od, .func (PySem.W.ksFn name qual params body scope dV kV doc pm an (.ref cda) ct cc), osl⟩ ∧ PySem.W.codeIn K (.ref cda) qual = true ∧ SupT body params scope a f ∧
    (∀ x y : Value, bindArgs (PySem.W.ksFn name qual params body scope dV kV doc pm an (.ref cda) ct cc) ⟨[x, y], []⟩ = pure [(("self" : Str), x), (a, y)]) ∧
    (∃ cl cld csl, K.lookup cc = some ⟨cl, cld, .cell (some (.ref C)), csl⟩) ∧
    ∃ ccl cdd vs ccs file tf, K.lookup cda = some ⟨ccl, cdd, .fields vs, ccs⟩ ∧ vs[2]? = some (.str file tf) ∧ ((P.main.file : Str) == file) = true
/-- a def's frame, as the body sees it -/
structure SupE (env : Env) (scope : Scope) (L fI cda cc : Addr) : Prop where
  sc : env.scope = scope
  lo : env.locals = L
  gl : env.globals = mainGlobals
  bl : env.builtins = builtinsNs
  ce : env.cells = [(("__class__" : Str), cc)]
  fu : env.func = some fI
  co : env.code = .ref cda
section
open PySem.Calls Builtin Builtin.ObjectAttr
variable {P : Program} {w : World} {K : PySem.W.Frag} {mg mb : Str → Option Value} {A : Around} {E : Value → Shared → Prop} {C : Addr} {a f : Str}
/-- super().__init__(a); self.f = a -/
theorem sup_body {code : Code} {env : Env} {scope : Scope} {L fI cda cc e t0 : Addr} {body : List Stmt} {params : Arguments} {fd : FuncData} {oc cl ccl u : Value} {od cld cdd : Option Addr} {osl csl ccs : Array (Option Value)} {vs : Array Value} {file : Str} {tf : Tok} {cd : ClassData} {bm : List Value}
    {h : Heap} {g : Array GenState} {d : Drawn} {t : Nat} {os : OsState} {Q : Flow → Shared → Prop} {m : Str → Option Value} {nm qn : Str} {N : Addr} {bs bm' : List Value} {hdct : Bool} {sn : List Str} {sub : List Value} {ab : Bool} {col : Option Bool} {dd : Option Addr} {k0 k1 k2 k3 k5 : Option Value}
    (hbody : code = .func body env) (ST : SupT body params scope a f) (V : SupE env scope L fI cda cc) (KX : K.In h) (hg : h.Ns mainGlobals mg) (hb : h.Ns builtinsNs mb) (hbb : mb "super" = bootBuiltins "super") (hgl : mg "super" = none) (htop : (P.main.scope.names.lookup ("super" : Str)).isSome = false)
    (hf : K.lookup fI = some ⟨oc, od, .func fd, osl⟩) (hfd : fd.params = params) (lcc : K.lookup cc = some ⟨cl, cld, .cell (some (.ref C)), csl⟩) (lcd : K.lookup cda = some ⟨ccl, cdd, .fields vs, ccs⟩) (hvs : vs[2]? = some (.str file tf)) (hfile : ((P.main.file : Str) == file) = true)
    (hcd : PySem.W.clsIn K C = some cd) (hmro : cd.mro = .ref C :: bm) (hal : PySem.W.alongIn K "__init__" bm = some (some (.builtin "Exception.__init__"))) (hdict : cd.hasDict = true) (hsub : PySem.W.mroIn K C (.ref C) = some true) (hexc : PySem.W.subIn K (.ref C) (.type "Exception") = some true)
    (hopq : PySem.W.nsIn K cStatics "thirdparty.any" = some none) (hsa : PySem.W.findIn K (.ref C) "__setattr__" = some (some (.builtin "object.__setattr__"))) (hna : PySem.W.findIn K (.ref C) f = some none) (hover : PySem.W.excOver K C exB = true)
    (hCo : h.get? C = some (excClassObj nm qn C N bs bm' hdct sn sub ab col dd k0 k1 k2 k3 k5 "Exception.__new__"))
    (he : h.get? e = some (PySem.HandSPX.excO C t0)) (heK : K.lookup e = none) (hn : h.Ns L m) (hm1 : m "self" = some (.ref e)) (hm2 : m a = some u)
    (q : ∀ (dx t1 : Addr) (h' : Heap) (tk : Tok), (∀ b o, b ≠ e → h.get? b = some o → h'.get? b = some o) → e < dx →
      h'.get? e = some { cls := .ref C, dict := some dx, data := .fields #[.ref t1, .none, .none, .none, .bool false, .none] } → h'.Ns1 dx (fun y => if y = f then some u else none) → Q .next ⟨h', g, d, tk, os⟩) :
    PySem.wpAt (model P w) A code (execs body env) Q E ⟨h, g, d, t, os⟩ := by
  subst hbody
  obtain ⟨⟨p0, p1, p2, p3, p4, p5, p6, p7, p8, p9, rfl, hsw⟩, ⟨ar, hhead, har⟩, hkind, hco, hgen, hnc, hsup, hcls, hself, hpar, hne, hdbg⟩ := ST
  have kd : env.scope.kind = .function := by rw [V.sc]; exact hkind
  obtain ⟨pl, hcall⟩ := (hsw env).1
  obtain ⟨oD, hD1, hD2⟩ : ∃ oD, h.get? C = some oD ∧ oD.data = .cls cd := by
    unfold PySem.W.clsIn at hcd
    split at hcd
    · rename_i c d cd' sl ho
      cases hcd
      exact ⟨_, KX _ _ ho, rfl⟩
    · cases hcd
  refine PySem.ks_wpAt_execs_cons (PySem.ks_wpAt_Expr_any ?_ (by unfold interactive; rw [kd]; rfl) (hsw _).2.1)
  refine PySem.ks_wpAt_MethodCall ?_ hcall
  have ks : env.kindOf "super" = some .globalImplicit := by unfold Env.kindOf; rw [V.sc]; exact hsup
  have kc : env.kindOf "__class__" = some .free := by unfold Env.kindOf; rw [V.sc]; exact hcls
  have kself : env.kindOf "self" = some .local := by unfold Env.kindOf; rw [V.sc]; exact hself
  have kpar : env.kindOf a = some .local := by unfold Env.kindOf; rw [V.sc]; exact hpar
  have hx : ∀ c, (PySem.HandSPX.excO C t0).data ≠ .cls c := fun c z => by cases z
  have isE : ∀ {h' : Heap} {oe : Obj}, K.In h' → h'.get? e = some oe → oe.cls = .ref C → PySem.W.Looks (model P w) h' (isInstance (.ref e) (.type "Exception")) true := fun {h' oe} X ho hc => by
    have LT : PySem.W.Looks (model P w) h' (typeOf (.ref e)) (.ref C) := fun A Q E s k q => wpAny_typeOf_ref (k _ _ ho) (by rw [hc]; exact q)
    exact LT.andThen (PySem.W.looks_subIn X hexc)
  refine PySem.ks_wpAt_super_base ks kc (by decide) V.fu (KX _ _ hf) rfl (by rw [hfd]; exact hhead) V.co (KX _ _ lcd) rfl hvs hfile htop ?_
  refine PySem.W.ks_loadName_global kd ks (loadGlobal_builtin (by rw [V.gl]; exact hg) hgl (by rw [V.bl]; exact hb) (hbb.trans (by decide +kernel)) ⟨rfl, ?_⟩)
  refine wpAny_loadName_free kd kc (by rw [V.ce]; rfl) ⟨_, KX _ _ lcc, rfl⟩ ?_
  rw [har]
  refine wpAny_loadName_local kd kself (by rw [V.lo]; exact hn) hm1 ?_
  refine PySem.ks_wpAny_isType_cls hD1 hD2 ⟨rfl, ?_⟩
  refine PySem.ks_wpAny_call_super hD1 hD2 he rfl hx (PySem.W.looks_mroIn KX hsub) (fun h3 hso kp3 => ?_)
  have KX3 := KX.keeps kp3
  have he3 := kp3 _ _ he
  have Lm : PySem.W.Looks (model P w) h3 (mroOf (.ref C)) cd.mro := (PySem.W.looks_clsIn KX3 hcd).andThen .now
  have neC : e ≠ C := fun z => by rw [z, hD1] at he; cases he; cases hD2
  refine PySem.ESX.getMethod_super (l := bm) hso (PySem.W.looks_opaque KX3 hopq) Lm (by rw [hmro]; simp [List.dropWhile_cons]) KX3 hal neC (by decide) (isE KX3 he3 rfl) ?_
  have up4 : ∀ b o, h.get? b = some o → (h3.push (PySem.ESX.bw e)).get? b = some o := fun b o z => Heap.get?_push_of_some _ (kp3 b o z)
  have hu4 : (h3.push (PySem.ESX.bw e)).get? h3.objs.size = some (PySem.ESX.bw e) := Heap.get?_push_size _ rfl
  have g3 : h.objs.size ≤ h3.objs.size := Nat.le_of_lt (Heap.lt_size hso)
  generalize h3.push (PySem.ESX.bw e) = h4 at up4 hu4 ⊢
  have neu : e ≠ h3.objs.size := Nat.ne_of_lt (Heap.lt_size he3)
  refine PySem.ESX.callWith_bound (x := e) (u := h3.objs.size) ?_ (by rfl) (by rfl)
  show wpAny _ _ (spliced ((false, eval (.Name a p3) env) :: backTo p4 (starEach [] env))) _ _ _
  refine spliced_cons (PySem.ESX.ldL (by rw [V.lo]; exact hn.keeps up4) hm2 ?_ kd kpar hdbg)
  refine spliced_nil ⟨hu4, ?_⟩
  refine PySem.ESX.call_bw (e := e) (t0 := t0) (up4 _ _ hCo) (up4 _ _ he) hu4 (by show 1 ≤ sizeLine; rw [sizeLine_eq]; omega) fun h5 t1 kp5 he5 => ?_
  -- self.f = a
  have kp : ∀ b o, b ≠ e → h.get? b = some o → h5.get? b = some o := fun b o nb z => kp5 b o nb (up4 b o z)
  have neL : L ≠ e := fun z => by
    obtain ⟨o, es, ep, e1, e2, _⟩ := hn
    rw [z, he] at e1
    cases e1; cases e2
  have hn5 : h5.Ns L m := by
    obtain ⟨o, es, ep, e1, r⟩ := hn
    exact ⟨o, es, ep, kp _ _ neL e1, r⟩
  have KX5 : K.In h5 := fun b o z => by
    by_cases c : b = e
    · subst c
      rw [heK] at z; cases z
    · exact kp b o c (KX b o z)
  refine PySem.ks_wpAt_execs_cons (PySem.wpAt_of_wpAny (plainObj_wpAny_Assign_Attribute (PySem.ESX.ldL (by rw [V.lo]; exact hn5) hm2 (PySem.ESX.ldL (by rw [V.lo]; exact hn5) hm1 ?_ kd kself) kd kpar hdbg) (hsw _).2.2))
  have I5 : PySem.W.InstAt h5 e (PySem.HandSPX.excO C t1) C none := ⟨he5, rfl, rfl, trivial⟩
  refine PySem.W.set_plain KX5 I5 hsa ?_
  refine PySem.W.osa_openX (r := none) F.store_Exception KX5 I5 hover (by unfold PySem.W.takerIn; rw [hna]; rfl) fun b => ?_
  have hcl : PySem.W.Looks (model P w) h5 (classData C) cd := PySem.W.looks_clsIn KX5 hcd
  have nd : e ≠ h5.objs.size := Nat.ne_of_lt (Heap.lt_size he5)
  obtain ⟨nm', bs2, mro', ns', qn', hd', sn', sb', ab', col', del'⟩ := cd
  dsimp only at hdict
  subst hdict
  show wpAny _ _ (storeInOwnDict (.ref e) (.ref C) (.str f _) f u b) _ _ _; unfold storeInOwnDict ownDictForStores
  repeat (first | with_reducible refine PySem.HandSPX.store_in_new ?_ ?_ | with_reducible refine wpAny_loadPart_at he5 ?_ | with_reducible refine hcl.at ?_ | wp_step)
  · exact ⟨_, #[], _, (Heap.get?_update_ne _ _ _ _ nd.symm).trans (Heap.get?_push_at rfl rfl), rfl, fun z hz => absurd hz (by simp), fun _ => rfl⟩
  · intro h6 tk6 hn6 sb6
    have he5' : (h5.push { cls := .type "dict", data := .dict #[] }).get? e = some (PySem.HandSPX.excO C t1) := Heap.get?_push_of_some _ he5
    have keep : ∀ b o, b ≠ e → h5.get? b = some o → h6.get? b = some o := fun b o nb z =>
      (sb6.2 b (Nat.ne_of_lt (Heap.lt_size z))).trans ((Heap.get?_update_ne _ _ _ _ nb).trans (Heap.get?_push_of_some _ z))
    have he6 : h6.get? e = some { cls := .ref C, dict := some h5.objs.size, data := .fields #[.ref t1, .none, .none, .none, .bool false, .none] } := (sb6.2 e nd).trans (Heap.get?_update_self _ he5' rfl)
    exact PySem.wpAt_of_wpAny (wpAny_execs_nil (q h5.objs.size t1 h6 tk6 (fun b o nb z => keep b o nb (kp b o nb z)) (Heap.lt_size he5) he6 hn6))
/-- C(u): what is there stays; a new exception at e, its own dict at dx -/
theorem make_super {X : Cx} {pins : List (Addr × Obj)} {σ : L2.St} {H : Hp} (T : SupC X.prog X.K X.mg C f) {s : Shared} (J : Inv X pins σ H s) (hr : Room 2 X.A) (u : Value) {Q : Value → Shared → Prop}
    (q : ∀ (e dx t : Addr) (h' : Heap) (tk : Tok), (∀ b o, s.heap.get? b = some o → h'.get? b = some o) → s.heap.objs.size ≤ e → e < dx →
      h'.get? e = some { cls := .ref C, dict := some dx, data := .fields #[.ref t, .none, .none, .none, .bool false, .none] } → h'.Ns1 dx (fun y => if y = f then some u else none) → Q (.ref e) { s with heap := h', toks := tk }) :
    wpAny (model X.prog X.w) X.A (call (.ref C) [u]) Q E s := by
  obtain ⟨fI, cc, cda, oc, od, osl, name, qual, params, body, scope, dV, kV, doc, pm, an, ct, a, hi, tI, lk, hcd, ST, hb, ⟨cl, cld, csl, lcc⟩, ccl, cdd, vs, ccs, file, tf, lcd, hvs, hfile⟩ := T.fn
  obtain ⟨cd, bm, hcd2, hmro, hdict, halong⟩ := T.cd
  have mod := J.mod
  obtain ⟨mb, hmb, hbb⟩ := mod.blt
  have hgN : s.heap.Ns mainGlobals X.mg := mod.glob.keeps J.bk
  have hbN : s.heap.Ns builtinsNs mb := hmb.keeps J.bk
  have lim := J.nolimit
  have KX : X.K.In s.heap := J.kIn; obtain ⟨hp, g, dr, tk, os⟩ := s
  obtain ⟨nm, N, qn, bs, bm', hdct, sn, sub, ab, col, dd, k0, k1, k2, k3, k5, hC, hT⟩ := PySem.W.excInit_of KX T.ini
  have FB := F.excBase_Exception
  have up0 : ∀ b o, hp.get? b = some o → ((hp.push (PySem.W.kdv_tup [u])).push (PySem.HandSPX.excO C hp.objs.size)).get? b = some o := fun b o e => Heap.get?_push_of_some _ (Heap.get?_push_of_some _ e)
  have hget : ((hp.push (PySem.W.kdv_tup [u])).push (PySem.HandSPX.excO C hp.objs.size)).get? (hp.objs.size + 1) = some (PySem.HandSPX.excO C hp.objs.size) := by heap_get
  refine wpAny_call (PySem.HandSPX.call_own FB hT hC (PySem.W.looks_findIn KX hi) (fun self => PySem.W.bind_fn KX self tI) (by show 1 ≤ sizeLine; rw [sizeLine_eq]; omega) ?_)
  have KX1 : X.K.In ((hp.push (PySem.W.kdv_tup [u])).push (PySem.HandSPX.excO C hp.objs.size)) := KX.keeps up0
  generalize (hp.push (PySem.W.kdv_tup [u])).push (PySem.HandSPX.excO C hp.objs.size) = h1 at hget up0 KX1 ⊢
  have depth : (X.A.under (.builtin "type.__call__" ⟨.ref C :: [u], []⟩)).depth < recursionLimit := (hr.make C [u] []).depth
  have nself : a ≠ "self" := ST.ne
  refine PySem.ks_codeAny_call_defAt (fd := PySem.W.ksFn name qual params body scope dV kV doc pm an (.ref cda) ct cc) (binds := [(("self" : Str), .ref (hp.objs.size + 1)), (a, u)]) depth (KX1 _ _ lk) rfl (lim.keeps up0) (PySem.W.codeRec_of KX1 hcd) rfl (.of_eq (hb _ _)) ST.nocell ?_ (fun h2 hns kp2 => ?_) ST.co ST.gen ST.kind
  · intro x hx; rcases List.mem_cons.mp hx with e | hx
    · subst e; exact ST.self
    · cases List.mem_singleton.mp hx
      exact ST.par
  · have up2 : ∀ b o, hp.get? b = some o → h2.get? b = some o := fun b o e => kp2 b o (up0 b o e)
    have heK : X.K.lookup (hp.objs.size + 1) = none := by
      cases z : X.K.lookup (hp.objs.size + 1) with
      | none => rfl
      | some o => exact absurd (show hp.objs.size + 1 < hp.objs.size from Heap.lt_size (KX _ _ z)) (by omega)
    have e1 : ("self" == a) = false := beq_eq_false_iff_ne.mpr (Ne.symm nself)
    refine sup_body (fI := fI) (cda := cda) (cc := cc) (e := hp.objs.size + 1) (t0 := hp.objs.size) (u := u) (C := C) (f := f) (a := a) (K := X.K) (mg := X.mg) (mb := mb) rfl ST ⟨rfl, rfl, rfl, rfl, rfl, rfl, rfl⟩ (KX.keeps up2) (hgN.keeps up2) (hbN.keeps up2) (hbb _ (by decide)) T.gl T.top lk rfl lcc lcd hvs hfile hcd2 hmro halong hdict T.mC T.exS T.opq T.sa T.na T.over (up2 _ _ hC) (kp2 _ _ hget) heK hns ?_ ?_ (fun dx t1 h' tk' kp' lt he' hn' => ?_)
    · simp [List.lookup, e1]
    · simp [List.lookup]
    · exact ⟨rfl, q (hp.objs.size + 1) dx t1 h' _ (fun b o z => kp' b o (Nat.ne_of_lt (Nat.lt_succ_of_lt (Heap.lt_size z))) (up2 b o z)) (Nat.le_succ _) lt he' hn'⟩
end
end NL
set_option Elab.async false
set_option linter.all false
set_option maxRecDepth 100000
set_option maxHeartbeats 4300000
/-! N13: raise. -/
namespace NL
open PyProof.Rows L2 PySem PySem.Spec
section
variable {X : Cx} {pins : List (Addr × Obj)} {σ : L2.St} {H : Hp} {C : Addr} {f x : Str} {e : Expr} {W : WX} {g : DE} {p pos pos2 : Pos} {s : Shared} {Q : XK}
theorem raisesSup (T : SupC X.prog X.K X.mg C f) : Raises X (.ref C) := raises_own T.exB T.ty
/-- the new exception's dict is tracked, the exception itself is not -/
theorem mk_sup (T : SupC X.prog X.K X.mg C f) (J : Inv X pins σ H s) {v : V} {u : Value} (ru : RelV v u) {e dx t : Addr} {h' : Heap} {tk : Tok} (k : ∀ b o, s.heap.get? b = some o → h'.get? b = some o) (le : s.heap.objs.size ≤ e) (lt : e < dx)
    (he : h'.get? e = some { cls := .ref C, dict := some dx, data := .fields #[.ref t, .none, .none, .none, .bool false, .none] }) (hn : h'.Ns1 dx (fun y => if y = f then some u else none))
    (q : Q (.ref C) (some dx) (upd H dx (.xd [(f, v)]))) : MkP X pins σ Q (.ref e) { s with heap := h', toks := tk } := by
  obtain ⟨G, g1, g2⟩ := restrict h' fun b => decide (b ≠ e)
  have gk : ∀ b, b ≠ e → G.get? b = h'.get? b := fun b n => g1 b (decide_eq_true n)
  have ge : G.get? e = none := g2 e (by simp)
  have old : ∀ b o, s.heap.get? b = some o → b ≠ e := fun b o z => Nat.ne_of_lt (Nat.lt_of_lt_of_le (Heap.lt_size z) le)
  have lo : s.heap.objs.size ≤ dx := Nat.le_trans le (Nat.le_of_lt lt)
  have ned : dx ≠ e := Nat.ne_of_gt lt
  have lay := J.laid (t' := tk) (h' := G) (a := dx) (o := .xd [(f, v)]) (fun b o z => (gk b (old b o z)).trans (k b o z)) lo
    ⟨_, hn.at fun o z => (gk dx ned).trans z, fun y => by
      by_cases c : y = f
      · subst c; simp [List.lookup]; exact ru
      · have : (y == f) = false := by simpa using c
        simp [List.lookup, this, c]; trivial⟩
  refine ⟨e, _, _, _, _, .ref C, some dx, rfl, lay, fun b o z => ?_, ge, he, ⟨rfl, rfl⟩, rfl, rfl, ?_, rfl, lay.bare, raisesSup T, q⟩
  · by_cases c : b = e
    · subst c
      have z' : G.get? b = some o := z
      rw [ge] at z'; cases z'
    · exact (gk b c).symm.trans z
  · rw [upd_ne (Ne.symm ned)]
    exact J.hok.fresh le
/-- C(e) -/
theorem pmk_sup {ta : TA} (T : SupC X.prog X.K X.mg C f) (hm : X.mg x = some (.ref C)) (hr : Room 2 X.A) (ha : PA X [e] ta) (hg : Gl X x := by rfl)
    (hdb : (x == ("__debug__" : Str)) = false := by decide) (he : starEach [e] X.env = (false, eval e X.env) :: starEach [] X.env := by rfl) (hpl : (backTo pos (starEach [] X.env)).any (·.1) = false := by rfl) :
    PMk X (.Call (.Name x p) [e] [] pos) (fun σ H Q => ta σ H fun vs H1 => ∃ v, vs = [v] ∧ ∀ dx, H1 dx = none → Q (.ref C) (some dx) (upd H1 dx (.xd [(f, v)]))) := by
  intro pins s σ H Q I h; refine wpAny_Call_Name_kw (ld_glob I hg hm ?_ hdb)
  refine PySem.W.callWith_K (h₀ := X.base) I.ok.mod.kin T.kC (thn (ha.run pos pins s σ H _ I h) fun us s1 ⟨vs, H1, I1, r1, v, ev, q⟩ => ⟨I1.kIn, ?_⟩) he hpl
  subst ev
  cases r1 with
  | cons ru rn =>
    cases rn
    exact make_super T I1 hr _ fun e dx t h' tk k le lt he' hn => mk_sup T I1 ru k le lt he' hn (q dx (I1.hok.fresh (Nat.le_trans le (Nat.le_of_lt lt))))
/-- C() -/
theorem pmk_bare {bmB : List Value} {B newId initId : String} (F : ExcBaseFacts B newId initId bmB) (qC : PySem.W.excIn X.K C bmB newId = true) (hm : X.mg x = some (.ref C)) (kC : PySem.W.keepIn X.K (.ref C) = true) (r : Raises X (.ref C)) (hg : Gl X x := by rfl)
    (hdb : (x == ("__debug__" : Str)) = false := by decide) : PMk X (.Call (.Name x p) [] [] pos) (fun _ H Q => Q (.ref C) none H) := by
  intro pins s σ H Q I h; refine wpAny_Call_Name_kw (ld_glob I hg hm ?_ hdb)
  refine PySem.W.callWith_K0 I.kIn kC ?_
  obtain ⟨bm, N, nm, qn, bs, hdct, sn, sub, ab, col, dd, k0, k1, k2, k3, k5, mN, hC, hN, hni, T⟩ := exc_obj I.kIn qC
  refine wpAny_call_exc_subT F T hC hN hni (fun h' e hx => ?_) (Nat.zero_le _)
  exact mk_of I hx r h (I.hok.gone hx.new)

/-- raise C(e) -/
def sRaise (C : Addr) (f : Str) (g : DE) : DS := fun E ρ h => g ρ h (fun d h1 => E.ex ⟨C, [(f, d)]⟩ ρ h1) (E.er ρ)
theorem st_raise (c : CxN X W) (T : SupC X.prog X.K X.mg C f) (hm : X.mg x = some (.ref C)) (hr : Room 2 X.A) (ha : PE X e (up X.K W g)) (hg : Gl X x := by rfl)
    (hdb : (x == ("__debug__" : Str)) = false := by decide) (he : starEach [e] X.env = (false, eval e X.env) :: starEach [] X.env := by rfl) (hpl : (backTo pos (starEach [] X.env)).any (·.1) = false := by rfl) :
    PS X (.Raise (some (.Call (.Name x p) [e] [] pos)) none pos2) (us X.K W (sRaise C f g)) :=
  (ps_raise c.cm c.tk (pmk_sup T hm hr (a_cons ha a_nil he) hg hdb he hpl)).to fun D σ H ⟨B, as, h, ρ, E, rp, w, k⟩ =>
    ⟨B, as, h, ρ, fun ds h1 => match ds with
      | [d] => E.ex ⟨C, [(f, d)]⟩ ρ h1
      | _ => False, E.er ρ, rp, w, fun vs ds h' H' g1 fs q => by
      cases fs with
      | nil => exact q.elim
      | @cons v _ _ _ fv fn =>
        cases fn with
        | cons _ _ => exact q.elim
        | nil =>
          refine ⟨_, rfl, fun dx hdx => ?_⟩
          have g2 : Go X.K B as h' H' h' (upd H' dx (.xd [(f, v)])) := .new (o := .xd [(f, v)]) g1.hr hdx
          exact k.ex ⟨C, [(f, _)]⟩ as h' _ σ ρ _ _ (.go rp (g1.trans g2)) ⟨rfl, .inr ⟨dx, _, rfl, upd_same, fun m => (rp.go g1).dm dx m hdx, .cons ⟨rfl, fv.go g2⟩ .nil⟩⟩ q, k.xc rp⟩
/-- raise C() -/
def sRaise0 (C : Addr) : DS := fun E ρ h => E.ex ⟨C, []⟩ ρ h
theorem st_raise0 {bmB : List Value} {B newId initId : String} (c : CxN X W) (F : ExcBaseFacts B newId initId bmB) (qC : PySem.W.excIn X.K C bmB newId = true) (hm : X.mg x = some (.ref C)) (kC : PySem.W.keepIn X.K (.ref C) = true) (r : Raises X (.ref C)) (hg : Gl X x := by rfl)
    (hdb : (x == ("__debug__" : Str)) = false := by decide) : PS X (.Raise (some (.Call (.Name x p) [] [] pos)) none pos2) (us X.K W (sRaise0 C)) :=
  (ps_raise c.cm c.tk (pmk_bare F qC hm kC r hg hdb)).to fun D σ H ⟨B, as, h, ρ, E, rp, w, k⟩ => k.ex ⟨C, []⟩ as h H σ ρ _ _ (.refl rp) ⟨rfl, .inl ⟨rfl, rfl⟩⟩ w
end
end NL
set_option Elab.async false
set_option linter.all false
set_option maxRecDepth 100000
set_option maxHeartbeats 4300000
/-! N14: try, with clauses that may name the exception. -/
namespace NL
open PyProof.Rows L2 PySem PySem.Spec
/-- an exception that has landed in a try: what stood before it still stands -/
structure Land (X : Cx) (pins : List (Addr × Obj)) (σ : L2.St) (H : Hp) (a : Addr) (cls : Value) (d : Option Addr) (B : Heap) (s : Shared) : Prop where
  fl : PySem.PX.FlyingZ B (X.env :: X.outer) a (Zc cls d) s.heap
  iv : ∀ h', B.StaysIn h' → s.heap.UpToSlots h' → Inv X pins σ H { s with heap := h' }
  na : H a = none
  up : ∀ (W : WX) h', PySem.PX.HeldZ B (X.env :: X.outer) a (Zc cls d) X.env.locals h' → s.heap.UpToSlots h' → W cls d σ H → XE X W (.ref a) { s with heap := h' }
section
variable {X : Cx} {pins : List (Addr × Obj)} {σ : L2.St} {H : Hp} {a : Addr} {cls : Value} {d : Option Addr} {B : Heap} {s : Shared}
theorem Land.here (l : Land X pins σ H a cls d B s) : Inv X pins σ H s := l.iv _ l.fl.1 (Heap.UpToSlots.refl _)
/-- the slots of frames change: it still has landed -/
theorem Land.on {h' : Heap} (l : Land X pins σ H a cls d B s) (fl : PySem.PX.FlyingZ B (X.env :: X.outer) a (Zc cls d) h') (u : s.heap.UpToSlots h') : Land X pins σ H a cls d B { s with heap := h' } :=
  ⟨fl, fun h2 st u2 => l.iv h2 st (u.trans u2), l.na, fun W h2 hd u2 w => l.up W h2 hd (u.trans u2) w⟩
/-- the suite's own invariant: the exception is pinned -/
theorem Land.suite (l : Land X pins σ H a cls d B s) (hf : X.env.frame = some X.env.locals) : ∃ oe, Zc cls d oe ∧ (∃ vs, oe.data = .fields vs) ∧ Inv (X.suite a ((a, oe) :: (X.pn ++ pins))) [] σ H s := by
  obtain ⟨oe, vs, e1, e2, e3⟩ := l.fl.there
  have off : a ∉ frs (X.env :: X.outer) := fun m => by
    obtain ⟨_, o, q, n⟩ := l.fl.2.2.1.mem m
    rw [e1] at q
    cases q
    exact n vs e3
  refine ⟨oe, e2, ⟨vs, e3⟩, l.here.suite e1 e3 l.na (fun z => off ?_) fun m => off ?_⟩
  · exact List.mem_filterMap.mpr ⟨X.env, List.mem_cons_self, z ▸ hf⟩
  · obtain ⟨w, m1, m2⟩ := List.mem_filterMap.mp m
    exact List.mem_filterMap.mpr ⟨w, List.mem_cons_of_mem _ m1, m2⟩
end
/-- a clause in the machine: its class, its name's slot, its suite -/
abbrev MC := Value × Option Nat × (Addr → Value → Option Addr → TS)
def mEnd (D : Ends) : Option Nat → Ends
  | none => D
  | some i => { nx := fun σ H => D.nx (σ.set i none) H, rt := D.rt, bk := fun σ H => D.bk (σ.set i none) H, ct := fun σ H => D.ct (σ.set i none) H }
def mIn (a : Addr) : Option Nat → L2.St → L2.St
  | none, σ => σ
  | some i, σ => σ.set i (some (.ref a))
def wCl (K : PySem.W.Frag) (Wout : WX) (D : Ends) : List MC → WX
  | [] => Wout
  | (c, i, ts) :: r => fun cls d σ H => ∃ b, PySem.W.exmOne K cls c = some b ∧ (b = true → ∀ a, H a = none → ts a cls d (mEnd D i) (mIn a i σ) H) ∧ (b = false → wCl K Wout D r cls d σ H)
inductive HdM (X : Cx) : List ExceptHandler → List MC → Prop
  | nil : HdM X [] []
  | un {x : Str} {c : Value} {ts : Addr → Value → Option Addr → TS} {b₀ : Stmt} {suite : List Stmt} {np pos : Pos} {hds : List ExceptHandler} {l : List MC} (hc : Names X x c)
      (hsu : ∀ (a : Addr) (oe : Obj) (cls : Value) (d : Option Addr) (pn : List (Addr × Obj)), Zc cls d oe → (∃ vs, oe.data = .fields vs) → PSs (X.suite a ((a, oe) :: pn)) (b₀ :: suite) (ts a cls d)) (r : HdM X hds l) :
      HdM X (.ExceptHandler (some (.Name x np)) none (b₀ :: suite) pos :: hds) ((c, none, ts) :: l)
  | nm {x n : Str} {c : Value} {i : Nat} {ts : Addr → Value → Option Addr → TS} {b₀ : Stmt} {suite : List Stmt} {np pos : Pos} {hds : List ExceptHandler} {l : List MC} (hc : Names X x c) (hi : X.N[i]? = some n) (hln : X.env.kindOf n = some .local)
      (hsu : ∀ (a : Addr) (oe : Obj) (cls : Value) (d : Option Addr) (pn : List (Addr × Obj)), Zc cls d oe → (∃ vs, oe.data = .fields vs) → PSs (X.suite a ((a, oe) :: pn)) (b₀ :: suite) (ts a cls d)) (r : HdM X hds l) :
      HdM X (.ExceptHandler (some (.Name x np)) (some n) (b₀ :: suite) pos :: hds) ((c, some i, ts) :: l)
section
variable {X : Cx} {pins : List (Addr × Obj)} {σ : L2.St} {H : Hp} {a : Addr} {cls : Value} {d : Option Addr} {B : Heap} {s : Shared} {D : Ends} {Wout : WX}
/-- the clauses, one after the other -/
theorem Land.clauses (hf : X.env.frame = some X.env.locals) (hN : X.N.Nodup) (tk : Takes X Wout) : ∀ {hds : List ExceptHandler} {l : List MC}, HdM X hds l → Land X pins σ H a cls d B s → wCl X.K Wout D l cls d σ H →
    wpAny (model X.prog X.w) X.A (handleBy (.ref a) X.env hds) (SP X pins D) X.xe s := by
  intro hds l hk ld
  have ok := ld.here.ok
  have cz : ∀ o, Zc cls d o → o.cls = cls := fun _ z => z.1
  have test : ∀ {x : Str} {c : Value} {np : Pos}, Names X x c → ∀ {Q' : Value → Shared → Prop} {E' : Value → Shared → Prop}, Q' c s → wpAny (model X.prog X.w) (X.A.mark (some (.ref a))) (eval (.Name x np) X.env) Q' E' s := by
    intro x c np nmd Q' E' q
    obtain ⟨oe, _, _, S⟩ := ld.suite hf
    rcases nmd with ⟨n1, n2, n3 | ⟨n3, n4, n5⟩⟩
    · exact ld_glob (X := X.suite a _) S n1 n3 q n2
    · exact ld_blt (X := X.suite a _) S n1 n3 n4 q n5 n2
  induction hk with
  | nil =>
    intro w
    exact PySem.PX.no_clauseZ hf ld.fl fun h' hd u => tk _ _ (ld.up Wout h' hd u w)
  | un hc hsu r ih =>
    intro ⟨b, eb, yes, no⟩
    cases b with
    | false => exact PySem.PX.clause_passZ ld.here.kIn cz ld.fl eb (test hc) (ih (no rfl))
    | true =>
      refine PySem.PX.clause_onlyZ ld.here.kIn cz ld.fl eb (test hc) fun h' fl u => ?_
      obtain ⟨oe, z, zf, S⟩ := (ld.on fl u).suite hf
      refine wpAny_mono ((hsu a oe cls d _ z zf).run [] _ σ H D S (yes rfl a ld.na)) (fun f s2 q => ?_) fun _ _ z => z
      match f, q with
      | .next, ⟨σ2, H2, S2, q⟩ => exact ⟨σ2, H2, S2.unsuite ok, q⟩
      | .brk, ⟨σ2, H2, S2, q⟩ => exact ⟨σ2, H2, S2.unsuite ok, q⟩
      | .cont, ⟨σ2, H2, S2, q⟩ => exact ⟨σ2, H2, S2.unsuite ok, q⟩
      | .ret u, ⟨v, σ2, H2, S2, rv, q⟩ => exact ⟨v, σ2, H2, S2.unsuite ok, rv, q⟩
  | @nm x n c i ts b₀ suite np pos hds l hc hi hln hsu r ih =>
    intro ⟨b, eb, yes, no⟩
    cases b with
    | false => exact PySem.PX.clause_passZ ld.here.kIn cz ld.fl eb (test hc) (ih (no rfl))
    | true =>
      refine PySem.PX.clause_asZ ld.here.kIn cz ld.fl eb (test hc) fun h' fl u => ?_
      obtain ⟨oe, z, zf, S⟩ := (ld.on fl u).suite hf
      refine store_ok (X := X.suite a _) (v := .ref a) S hN hi (.inl hln) rfl (fun s1 S1 => ?_) (.inr hln)
      refine wpAny_mono ((hsu a oe cls d _ z zf).run [] s1 _ H (mEnd D (some i)) S1 (yes rfl a ld.na)) (fun f s2 q => ?_) fun _ _ z => z
      match f, q with
      | .next, ⟨σ2, H2, S2, q⟩ => exact gone_ok (S2.unsuite ok) hN hi hln fun s3 J => ⟨_, H2, J, q⟩
      | .brk, ⟨σ2, H2, S2, q⟩ => exact gone_ok (S2.unsuite ok) hN hi hln fun s3 J => ⟨_, H2, J, q⟩
      | .cont, ⟨σ2, H2, S2, q⟩ => exact gone_ok (S2.unsuite ok) hN hi hln fun s3 J => ⟨_, H2, J, q⟩
      | .ret u, ⟨v, σ2, H2, S2, rv, q⟩ => exact gone_ok (S2.unsuite ok) hN hi hln fun s3 J => ⟨v, _, H2, J, rv, q⟩
/-- an exception of the body lands -/
theorem lands {xe : Value → Shared → Prop} {W : WX} {u : Value} {Q : Unit → Shared → Prop} {E : Value → Shared → Prop} (hs : X.stack = X.env :: X.outer) (hf : X.env.frame = some X.env.locals) (ok : X.Ok) (x : XE (X.tr (X.pn ++ pins) xe) W u s)
    (k : ∀ a cls d B σ H pins' h', u = .ref a → Land X (pins ++ pins') σ H a cls d B { s with heap := h' } → W cls d σ H → Q () { s with heap := h' }) :
    wpAny (model X.prog X.w) X.A (noteFrame u X.env) (fun _ s₂ => wpAny (model X.prog X.w) X.A (setFlight u none) Q E s₂) E s := by
  obtain ⟨a, B, sI, pins', σ, H, cls, d, rfl, J', nb, up, sky, na, os, ag, w⟩ := x
  have fr : X.A.frames = some (X.env :: X.outer) := by rw [ok.frames, hs]
  rw [show (X.tr (X.pn ++ pins) xe).stack = X.env :: X.outer from hs] at sky
  have J : Inv X (pins ++ pins') σ H sI := ⟨ok, J'.os, J'.bare, J'.base, J'.loc, J'.cell, J'.free, J'.freeC, fun p hp => J'.pin p (by rw [← List.append_assoc] at hp; exact hp), J'.hok, J'.len⟩
  refine PySem.PX.AirZ.land (L := X.env.locals) (fun o v => Zc.steady o _) fr hf sky fun h' fl u2 => k a cls d B σ H pins' h' rfl ⟨fl, fun h2 st u3 => J.landed nb st ((up.trans u2).trans u3) os ag, na, fun W2 h2 hd u3 w2 => ?_⟩ w
  exact ⟨a, B, sI, _, σ, H, cls, d, rfl, J, nb, (up.trans u2).trans u3, .inr (.inr (by rw [hs]; exact hd)), na, os, ag, w2⟩
end
section
variable {X : Cx} {body : List Stmt} {h₀ : ExceptHandler} {hds : List ExceptHandler} {l : List MC} {pos : Pos} {tb : WX → TS} {Wout : WX}
theorem ps_tryN (hs : X.stack = X.env :: X.outer) (hf : X.env.frame = some X.env.locals) (hN : X.N.Nodup) (tk : Takes X Wout) (hb : ∀ (W : WX) (pn : List (Addr × Obj)) (xe : Value → Shared → Prop), Takes (X.tr pn xe) W → PassesOwn (model X.prog X.w) X.A X.env xe → PSs (X.tr pn xe) body (tb W))
    (hh : HdM X (h₀ :: hds) l) : PS X (.Try body (h₀ :: hds) [] [] pos) (fun D σ H => tb (wCl X.K Wout D l) D σ H) := by
  refine ⟨fun pins s σ H D I w => wpAny_Try_except ?_⟩
  refine wpAny_mono ((hb _ (X.pn ++ pins) _ (fun u s' x => ?_) PassesOwn.looking).run [] s σ H D (I.toTry _) w) (fun f s1 q => ?_) fun _ _ z => z
  · refine lands hs hf I.ok x fun a cls d B σ1 H1 pins' h' eu ld w1 => ?_
    subst eu
    refine wpAny_mono (ld.clauses (D := D) hf hN tk hh w1) (fun f s2 q => ?_) fun _ _ z => z
    have less : ∀ {σ : L2.St} {H : Hp}, Inv X (pins ++ pins') σ H s2 → Inv X pins σ H s2 := fun J => ⟨J.ok, J.os, J.bare, J.base, J.loc, J.cell, J.free, J.freeC, fun p hp => J.pin p (by rw [← List.append_assoc]; exact List.mem_append_left _ hp), J.hok, J.len⟩
    match f, q with
    | .next, ⟨σ2, H2, J, q⟩ => exact ⟨σ2, H2, less J, q⟩
    | .brk, ⟨σ2, H2, J, q⟩ => exact ⟨σ2, H2, less J, q⟩
    | .cont, ⟨σ2, H2, J, q⟩ => exact ⟨σ2, H2, less J, q⟩
    | .ret u, ⟨v, σ2, H2, J, rv, q⟩ => exact ⟨v, σ2, H2, less J, rv, q⟩
  · match f, q with
    | .next, ⟨σ2, H2, J, q⟩ => exact wpAny_execs_nil ⟨σ2, H2, J.ofTry I.ok, q⟩
    | .brk, ⟨σ2, H2, J, q⟩ => exact ⟨σ2, H2, J.ofTry I.ok, q⟩
    | .cont, ⟨σ2, H2, J, q⟩ => exact ⟨σ2, H2, J.ofTry I.ok, q⟩
    | .ret u, ⟨v, σ2, H2, J, rv, q⟩ => exact ⟨v, σ2, H2, J.ofTry I.ok, rv, q⟩
end
end NL
set_option Elab.async false
set_option linter.all false
set_option maxRecDepth 100000
set_option maxHeartbeats 4300000
/-! N15: try over data. -/
namespace NL
open PyProof.Rows L2 PySem PySem.Spec
structure Cl where
  c : Value
  i : Option Nat
  g : Addr → Value → Option Addr → DS
def endN (E : DEnds) : Option Nat → DEnds
  | none => { nx := E.nx, rt := E.rt, bk := E.bk, ct := E.ct }
  | some i => { nx := fun ρ h => E.nx (ρ.set i none) h, rt := E.rt, bk := fun ρ h => E.bk (ρ.set i none) h, ct := fun ρ h => E.ct (ρ.set i none) h }
def inN (a : Addr) (d : Option Addr) (x : Exn) : Option Nat → Rho → Rho
  | none, ρ => ρ
  | some i, ρ => ρ.set i (some (.x a d x))
/-- what the clauses wish of an exception -/
def wTry (K : PySem.W.Frag) (E : DEnds) : List Cl → Exn → Rho → AH → Prop
  | [], x, ρ, h => E.ex x ρ h
  | k :: r, x, ρ, h => ∃ b, PySem.W.exmOne K (.ref x.C) k.c = some b ∧ (b = true → ∀ a d, k.g a (.ref x.C) d (endN E k.i) (inN a d x k.i ρ) h) ∧ (b = false → wTry K E r x ρ h)
def sTry (K : PySem.W.Frag) (gb : DS) (cs : List Cl) : DS := fun E ρ h => gb { E with ex := wTry K E cs } ρ h
def mCl (K : PySem.W.Frag) (k : Cl) : MC := (k.c, k.i, fun a cls d => us K W0 (k.g a cls d))
def HdN (X : Cx) (hds : List ExceptHandler) (cs : List Cl) : Prop := HdM X hds (cs.map (mCl X.K))
section
variable {K : PySem.W.Frag} {B : Addr → Prop} {as : List Addr} {h : AH} {H : Hp} {σ : L2.St} {ρ : Rho} {a : Addr} {dd : Option Addr} {x : Exn} {i : Nat}
theorem set_other {α : Type} {l : List (Option α)} {i j : Nat} {x y : α} (e : (l.set i (some x))[j]? = some (some y)) (n : y ≠ x) : (l.set i none)[j]? = some (some y) ∧ i ≠ j := by
  rcases set_get e with ⟨_, q⟩ | ⟨c, q⟩
  · cases q; exact absurd rfl n
  · exact ⟨by rw [List.getElem?_set_ne c]; exact q, c⟩
theorem Rep.setX (rp : Rep K B as h H σ ρ) (r : ER K (Mx B as h) H (.ref x.C) dd x) : Rep K B as h H (σ.set i (some (.ref a))) (ρ.set i (some (.x a dd x))) := by
  have q := rp.setN (i := i) (o := some (.ref a))
  refine ⟨q.hr, q.bd, q.ow, q.ob, fun j l xs ys b e1 e2 e3 e4 => q.nd j l xs ys b (set_other e1 (fun z => by cases z)).1 (set_other e2 (fun z => by cases z)).1 e3 e4, by simp [rp.len], fun j y e => q.sd j y (set_other e fun z => by cases z).1, fun j y e => q.sl j y (set_other e fun z => by cases z).1, fun j b dd' x' e => ?_⟩
  rcases set_get e with ⟨c, z⟩ | ⟨c, e⟩
  · cases z
    subst c
    have lt : i < σ.length := by
      rw [rp.len]
      simpa using (List.getElem?_eq_some_iff.mp e).1
    exact ⟨List.getElem?_set_self lt, r⟩
  · exact q.sx j b dd' x' (by rw [List.getElem?_set_ne c]; exact e)
theorem Es.inside {as : List Addr} {h : AH} {H : Hp} {W : WX} {E : DEnds} {D : Ends} (k : Es K B as h H W E D) : ∀ o : Option Nat, Es K B as h H W0 (endN E o) (mEnd D o)
  | none => ⟨k.nx, k.bk, k.ct, k.rt, fun _ _ _ _ _ _ _ _ _ _ q => q.elim⟩
  | some i => ⟨fun as' h' H' σ' ρ' t q => k.nx as' h' H' _ _ ⟨t.rp.setN, t.mv⟩ q, fun as' h' H' σ' ρ' t q => k.bk as' h' H' _ _ ⟨t.rp.setN, t.mv⟩ q, fun as' h' H' σ' ρ' t q => k.ct as' h' H' _ _ ⟨t.rp.setN, t.mv⟩ q, k.rt, fun _ _ _ _ _ _ _ _ _ _ q => q.elim⟩
/-- the wish of the clauses, in the machine -/
theorem wTry_wCl {W : WX} {E : DEnds} {D : Ends} {as' : List Addr} {h' : AH} {H' : Hp} {σ' : L2.St} {ρ' : Rho} {cls : Value} (k : Es K B as h H W E D) (t : To K B as h H as' h' H' σ' ρ') (r : ER K (Mx B as' h') H' cls dd x) : ∀ {cs : List Cl}, wTry K E cs x ρ' h' → wCl K W D (cs.map (mCl K)) cls dd σ' H'
  | [], w => k.ex x as' h' H' σ' ρ' cls dd t r w
  | c :: cs, ⟨b, e, yes, no⟩ => by
    obtain rfl := r.1
    refine ⟨b, e, fun hb a na => ?_, fun hb => wTry_wCl k t r (no hb)⟩
    have w := yes hb a dd
    have es := (k.to t).inside c.i
    show us K W0 (c.g a (.ref x.C) dd) (mEnd D c.i) (mIn a c.i σ') H'
    rcases hi : c.i with _ | i
    · rw [hi] at w es
      exact ⟨B, as', h', ρ', _, t.rp, w, es⟩
    · rw [hi] at w es
      exact ⟨B, as', h', _, _, t.rp.setX r, w, es⟩
end
section
variable {X : Cx} {W : WX} {body : List Stmt} {h₀ : ExceptHandler} {hds : List ExceptHandler} {cs : List Cl} {pos : Pos} {gb : DS}
theorem h_nil : HdN X [] [] := .nil
theorem h_un {x : Str} {c : Value} {g : Addr → Value → Option Addr → DS} {b₀ : Stmt} {suite : List Stmt} {np pos' : Pos} (hc : Names X x c)
    (hsu : ∀ (a : Addr) (oe : Obj) (cls : Value) (d : Option Addr) (pn : List (Addr × Obj)), Zc cls d oe → (∃ vs, oe.data = .fields vs) → PSs (X.suite a ((a, oe) :: pn)) (b₀ :: suite) (us X.K W0 (g a cls d))) (r : HdN X hds cs) :
    HdN X (.ExceptHandler (some (.Name x np)) none (b₀ :: suite) pos' :: hds) (⟨c, none, g⟩ :: cs) := .un hc hsu r
theorem h_nm {x n : Str} {c : Value} {i : Nat} {g : Addr → Value → Option Addr → DS} {b₀ : Stmt} {suite : List Stmt} {np pos' : Pos} (hc : Names X x c)
    (hsu : ∀ (a : Addr) (oe : Obj) (cls : Value) (d : Option Addr) (pn : List (Addr × Obj)), Zc cls d oe → (∃ vs, oe.data = .fields vs) → PSs (X.suite a ((a, oe) :: pn)) (b₀ :: suite) (us X.K W0 (g a cls d))) (r : HdN X hds cs)
    (hi : X.N[i]? = some n := by rfl) (hln : X.env.kindOf n = some .local := by rfl) :
    HdN X (.ExceptHandler (some (.Name x np)) (some n) (b₀ :: suite) pos' :: hds) (⟨c, some i, g⟩ :: cs) := .nm hc hi hln hsu r
theorem st_try (c : CxN X W) (hb : ∀ (W : WX) (pn : List (Addr × Obj)) (xe : Value → Shared → Prop), CxN (X.tr pn xe) W → PSs (X.tr pn xe) body (us X.K W gb)) (hh : HdN X (h₀ :: hds) cs)
    (hs : X.stack = X.env :: X.outer := by rfl) (hf : X.env.frame = some X.env.locals := by rfl) : PS X (.Try body (h₀ :: hds) [] [] pos) (us X.K W (sTry X.K gb cs)) :=
  (ps_tryN (tb := fun W => us X.K W gb) hs hf c.nd c.tk (fun W pn xe tk po => hb W pn xe ⟨po, c.cm, c.nd, c.gd, tk⟩) hh).to fun D σ H ⟨B, as, h, ρ, E, rp, w, k⟩ =>
    ⟨B, as, h, ρ, _, rp, w, ⟨k.nx, k.bk, k.ct, k.rt, fun x as' h' H' σ' ρ' cls dd t r q => wTry_wCl k t r q⟩⟩
/-! ### a field of the caught exception -/
def dXf (i : Nat) (a : Addr) (cls : Value) (d : Option Addr) (C : Addr) (f : Str) : DE := fun ρ h Q _ => match ρ[i]? with
  | some (some (.x a' d' x)) => a' = a ∧ d' = d ∧ cls = .ref C ∧ ofO (x.fs.lookup f) fun v => Q v h
  | _ => False
theorem e_xf {a C : Addr} {oe : Obj} {cls : Value} {d : Option Addr} {pn : List (Addr × Obj)} {n f : Str} {p : Pos} (i : Nat) (T : XfC X.K C) (hno : PySem.W.findIn X.K (.ref C) f = some none) (hz : Zc cls d oe) (hf : ∃ vs, oe.data = .fields vs)
    (hN : X.N[i]? = some n := by rfl) (hv : Vis X.env.scope n := by first | exact Or.inl rfl | exact Or.inr (Or.inl rfl) | exact Or.inr (Or.inr rfl)) (hd : (n == ("__debug__" : Str)) = false := by decide) (hcd : (n == ("__classdict__" : Str)) = false := by decide) :
    PE (X.suite a ((a, oe) :: pn)) (.Attribute (.Name n p) f pos) (up X.K W (dXf i a cls d C f)) :=
  (pe_xf T hno hz hf (pe_var (X := X.suite a ((a, oe) :: pn)) hN hv hd hcd) rfl).to fun σ H Q ⟨B, as, h, ρ, Qd, Ed, rp, w, k, xx⟩ => by
    unfold dXf at w
    split at w
    · rename_i a' d' x e
      obtain ⟨rfl, rfl, ec, w⟩ := w
      obtain ⟨v, ev, q⟩ := ofO_ok w
      obtain ⟨e1, r⟩ := rp.sx _ _ _ _ e
      rcases r.2 with ⟨z, _⟩ | ⟨dx, gs, z1, z2, z3, z4⟩
      · rw [z] at ev; cases ev
      · obtain ⟨u, eu, fu⟩ := z4.some ev
        subst z1
        exact ⟨_, e1, rfl, ec, dx, gs, u, rfl, z2, eu, k u v h H (.refl rp.hr) fu q⟩
    · exact w.elim
end
end NL
set_option Elab.async false
set_option linter.all false
set_option maxRecDepth 100000
set_option maxHeartbeats 2300000
/-! N16: the built-ins by their names; where a def stands. -/
namespace NL
open PyProof.Rows L2 PySem PySem.Spec
/-- built-ins that the module does not bind -/
structure Fr (mg : Str → Option Value) : Prop where
  len : mg "len" = none
  isinstance : mg "isinstance" = none
  all : mg "all" = none
  any : mg "any" = none
  tuple : mg "tuple" = none
  list : mg "list" = none
  str : mg "str" = none
  int : mg "int" = none
  bool : mg "bool" = none
  dict : mg "dict" = none
  range : mg "range" = none
  sorted : mg "sorted" = none
  max : mg "max" = none
  repr : mg "repr" = none
section
variable {X : Cx} {W : WX} {e a b : Expr} {es : List Expr} {g ga gb : DE} {gs : DA} {p px pos : Pos}
theorem c_len (F : Fr X.mg) (ha : PA X (e :: es) (uv X.K W gs)) (hg : Gl X "len" := by rfl) (he : starEach (e :: es) X.env = (false, eval e X.env) :: starEach es X.env := by rfl) (hpl : (backTo pos (starEach es X.env)).any (·.1) = false := by rfl) :
    PE X (.Call (.Name "len" p) (e :: es) [] pos) (up X.K W (dCall fLen gs)) := e_blt k_len d_len hg F.len (by decide +kernel) ha (by decide) (by decide) he hpl
theorem c_lenL (F : Fr X.mg) (ha : PA X (e :: es) (uv X.K W gs)) (hg : Gl X "len" := by rfl) (he : starEach (e :: es) X.env = (false, eval e X.env) :: starEach es X.env := by rfl) (hpl : (backTo pos (starEach es X.env)).any (·.1) = false := by rfl) :
    PE X (.Call (.Name "len" p) (e :: es) [] pos) (up X.K W (dCallL fLen gs)) := e_bltL k_len d_len hg F.len (by decide +kernel) ha (by decide) (by decide) he hpl
theorem c_all (F : Fr X.mg) (c : CxN X W) (ha : PA X (e :: es) (uv X.K W gs)) (hg : Gl X "all" := by rfl) (he : starEach (e :: es) X.env = (false, eval e X.env) :: starEach es X.env := by rfl) (hpl : (backTo pos (starEach es X.env)).any (·.1) = false := by rfl) :
    PE X (.Call (.Name "all" p) (e :: es) [] pos) (up X.K W (dCall fAll gs)) := e_blt (cr_all c.cm) d_all hg F.all (by decide +kernel) ha (by decide) (by decide) he hpl
theorem c_any (F : Fr X.mg) (c : CxN X W) (ha : PA X (e :: es) (uv X.K W gs)) (hg : Gl X "any" := by rfl) (he : starEach (e :: es) X.env = (false, eval e X.env) :: starEach es X.env := by rfl) (hpl : (backTo pos (starEach es X.env)).any (·.1) = false := by rfl) :
    PE X (.Call (.Name "any" p) (e :: es) [] pos) (up X.K W (dCall fAny gs)) := e_blt (cr_any c.cm) d_any hg F.any (by decide +kernel) ha (by decide) (by decide) he hpl
theorem c_tuple (F : Fr X.mg) (ha : PA X (e :: es) (uv X.K W gs)) (hg : Gl X "tuple" := by rfl) (he : starEach (e :: es) X.env = (false, eval e X.env) :: starEach es X.env := by rfl) (hpl : (backTo pos (starEach es X.env)).any (·.1) = false := by rfl) :
    PE X (.Call (.Name "tuple" p) (e :: es) [] pos) (up X.K W (dCall fTupOf gs)) := e_ty k_tuple d_tuple hg F.tuple (by decide +kernel) ha (by decide) (by decide) he hpl
theorem c_list (F : Fr X.mg) (ha : PA X (e :: es) (uv X.K W gs)) (hg : Gl X "list" := by rfl) (he : starEach (e :: es) X.env = (false, eval e X.env) :: starEach es X.env := by rfl) (hpl : (backTo pos (starEach es X.env)).any (·.1) = false := by rfl) :
    PE X (.Call (.Name "list" p) (e :: es) [] pos) (up X.K W (dCall fLstOf gs)) := e_ty k_list d_list hg F.list (by decide +kernel) ha (by decide) (by decide) he hpl
theorem c_isi {T : String} {x : Str} (F : Fr X.mg) (hmT : X.mg x = none) (ha : PE X a (uw X.K W ga)) (hg : Gl X "isinstance" := by rfl) (hgT : Gl X x := by rfl) (hvT : bootBuiltins x = some (.type T) := by decide +kernel)
    (hn : x ≠ "__name__" := by decide) (hd : (x == ("__debug__" : Str)) = false := by decide)
    (he : starEach [a, .Name x px] X.env = (false, eval a X.env) :: starEach [.Name x px] X.env := by rfl) (he2 : starEach [.Name x px] X.env = (false, eval (.Name x px) X.env) :: starEach [] X.env := by rfl)
    (hpl : (backTo pos (starEach [.Name x px] X.env)).any (·.1) = false := by rfl) :
    PE X (.Call (.Name "isinstance" p) [a, .Name x px] [] pos) (up X.K W (dIsiB T ga)) := e_isiB hg F.isinstance hgT hmT ha hvT hn hd he he2 hpl
end
/-- a def of the text, no defaults -/
abbrev DefP (K : PySem.W.Frag) (x : Str) (st : Stmt) (f : Addr) (fd : FuncData) : Prop := FunD K x x (defArgs st) (defBody st) (defScope st) [] [] f fd
/-- where a def stands -/
def At (K : PySem.W.Frag) (mg : Str → Option Value) (x : Str) (st : Stmt) : Prop := ∃ f fd, DefP K x st f fd ∧ mg x = some (.ref f)
/-- a promise by data alone -/
def pure1 (G : List D → (D → Prop) → Prop) : SG := fun ds h Q _ => G ds fun d => Q d h
section
variable {P : Program} {w : World} {K : PySem.W.Frag} {mg : Str → Option Value} {base : Heap} {x : Str} {st : Stmt} {N ps : List Str} {k : Nat} {G : SG}
theorem Dn.imp {G' : SG} (d : Dn P w K mg base k x ps G) (i : ∀ ds h Q E, G' ds h Q E → G ds h Q E) : Dn P w K mg base k x ps G' := by
  obtain ⟨f, fd, F, r⟩ := d
  exact ⟨f, fd, F.imp i, r⟩
def lenN : List Str → Nat
  | [] => 0
  | _ :: xs => lenN xs + 1
theorem lenN_eq : ∀ xs : List Str, lenN xs = xs.length
  | [] => rfl
  | _ :: xs => by rw [lenN, lenN_eq xs]; rfl
/-- a def's promise, from its body -/
theorem Dn.of {g : DS} (A : At K mg x st) (S : FnScope N ps (defScope st)) (hl : ∀ {f : Addr} {fd : FuncData}, DefP K x st f fd → Binds K fd ps [])
    (hb : ∀ (f : Addr) (cdv : Value) (A : Around) (outer : List Env) (s : Shared) (H : Hp) (E : XK), Room k (A.deeper (envOfC x (defScope st) s.heap.objs.size f cdv)) → CxN (cxN P w K mg base N x (defScope st) f cdv A outer s H E) (wE E) →
      PSs (cxN P w K mg base N x (defScope st) f cdv A outer s H E) (defBody st) (us K (wE E) g)) (i : ∀ ds h Q E, G ds h Q E → ds.length = ps.length ∧ run (lenN N) g ds h Q E) : Dn P w K mg base (k + 1) x ps G := by
  obtain ⟨f, fd, F, hm⟩ := A
  exact ⟨f, fd, (FnN.made F S fun cdv A outer s H E _ r c => hb f cdv A outer s H E r c).imp fun ds h Q E q => by rw [← lenN_eq N]; exact i ds h Q E q, hm, F.kp, hl F⟩
/-- a promise that asks for nothing that ever is -/
theorem Dn.no (A : At K mg x st) (hl : ∀ {f : Addr} {fd : FuncData}, DefP K x st f fd → Binds K fd ps []) (i : ∀ ds h Q E, ¬ G ds h Q E) : Dn P w K mg base k x ps G := by
  obtain ⟨f, fd, F, hm⟩ := A
  exact ⟨f, fd, ⟨fun ds h Q E q => absurd q (i ds h Q E), fun _ _ _ _ _ _ _ _ _ _ _ _ _ _ ⟨_, _, _, _, _, _, _, _, q, _⟩ => absurd q (i _ _ _ _)⟩, hm, F.kp, hl F⟩
end
end NL
set_option Elab.async false
set_option linter.all false
set_option maxRecDepth 100000
set_option maxHeartbeats 2300000
/-! N17: data that may be compared; words, concepts, books. -/
namespace NL
open PyProof.Rows L2 PySem PySem.Spec
/-! ### good data -/
theorem depth_pys : ∀ (xs : List D) (x : D), x ∈ xs → PyData.depth x.py ≤ PyData.depthAll (D.pys xs)
  | [], x, h => by cases h
  | y :: ys, x, h => by
    simp only [D.pys, PyData.depthAll]
    rcases List.mem_cons.mp h with h | h
    · subst h; exact Nat.le_max_left _ _
    · exact Nat.le_trans (depth_pys ys x h) (Nat.le_max_right _ _)
theorem lay_pys : ∀ (xs : List D), PyData.canLayAll0 (D.pys xs) = xs.all fun x => x.py.canLay0
  | [] => by simp [D.pys, PyData.canLayAll0]
  | y :: ys => by simp [D.pys, PyData.canLayAll0, lay_pys ys]
theorem good_iff {d : D} : good d ↔ d.ok = true ∧ d.py.canLay0 = true ∧ d.py.depth ≤ 64 := by
  unfold good SeqAt.shaped
  rw [Bool.and_eq_true, decide_eq_true_eq]
theorem good_mem {xs : List D} {x : D} (h : good (.tup xs) ∨ good (.lst xs)) (m : x ∈ xs) : good x := by
  have h' : D.oks xs = true ∧ PyData.canLayAll0 (D.pys xs) = true ∧ PyData.depthAll (D.pys xs) + 1 ≤ 64 := by
    rcases h with h | h
    · have := good_iff.mp h
      simpa [D.ok, D.py, PyData.canLay0, PyData.depth] using this
    · have := good_iff.mp h
      simpa [D.ok, D.py, PyData.canLay0, PyData.depth] using this
  rw [oks_all, lay_pys] at h'
  refine good_iff.mpr ⟨List.all_eq_true.mp h'.1 x m, List.all_eq_true.mp h'.2.1 x m, ?_⟩
  have := depth_pys xs x m
  omega
/-- how deep -/
def dep (d : D) : Nat := d.py.depth
def deps (xs : List D) : Nat := PyData.depthAll (D.pys xs)
theorem good_tup {xs : List D} (h : ∀ x, x ∈ xs → good x) (n : Nat) (hd : ∀ x, x ∈ xs → dep x ≤ n) (hn : n < 64 := by decide) : good (.tup xs) ∧ good (.lst xs) := by
  have key : ∀ ys : List D, (∀ y, y ∈ ys → y ∈ xs) → PyData.depthAll (D.pys ys) ≤ n := by
    intro ys
    induction ys with
    | nil => intro _; simp [D.pys, PyData.depthAll]
    | cons y ys ih =>
      intro hy
      simp only [D.pys, PyData.depthAll]
      exact Nat.max_le.mpr ⟨hd y (hy y List.mem_cons_self), ih fun z hz => hy z (List.mem_cons_of_mem _ hz)⟩
  have k := key xs fun y h => h
  have h1 : D.oks xs = true := by
    rw [oks_all]
    exact List.all_eq_true.mpr fun x m => (good_iff.mp (h x m)).1
  have h2 : PyData.canLayAll0 (D.pys xs) = true := by
    rw [lay_pys]
    exact List.all_eq_true.mpr fun x m => (good_iff.mp (h x m)).2.1
  constructor
  · refine good_iff.mpr ⟨by simpa [D.ok] using h1, by simpa [D.py, PyData.canLay0] using h2, ?_⟩
    simp only [D.py, PyData.depth]
    omega
  · refine good_iff.mpr ⟨by simpa [D.ok] using h1, by simpa [D.py, PyData.canLay0] using h2, ?_⟩
    simp only [D.py, PyData.depth]
    omega
theorem dep_tup {xs : List D} {n : Nat} (hd : ∀ x, x ∈ xs → dep x ≤ n) : dep (.tup xs) ≤ n + 1 := by
  have key : ∀ ys : List D, (∀ y, y ∈ ys → y ∈ xs) → PyData.depthAll (D.pys ys) ≤ n := by
    intro ys
    induction ys with
    | nil => intro _; simp [D.pys, PyData.depthAll]
    | cons y ys ih =>
      intro hy
      simp only [D.pys, PyData.depthAll]
      exact Nat.max_le.mpr ⟨hd y (hy y List.mem_cons_self), ih fun z hz => hy z (List.mem_cons_of_mem _ hz)⟩
  have := key xs fun y h => h
  simp only [dep, D.py, PyData.depth]
  omega
theorem good_int (i : Int) : good (.int i) := ⟨rfl, by rfl⟩
theorem good_bl (i : Bool) : good (.bl i) := ⟨rfl, by rfl⟩
theorem good_non : good .non := ⟨rfl, by rfl⟩
theorem good_str {s : Str} (h : PyData.strOk s = true) (hl : s.length ≤ 16777216) : good (.str s) := good_iff.mpr ⟨by simpa [D.ok] using hl, by simpa [D.py, PyData.canLay0] using h, by simp [D.py, PyData.depth]⟩
theorem str_of_good {s : Str} (h : good (.str s)) : PyData.strOk s = true := by
  have := (good_iff.mp h).2.1
  simpa [D.py, PyData.canLay0] using this
theorem len_of_good {s : Str} (h : good (.str s)) : s.length ≤ sizeLine := by
  have := (good_iff.mp h).1
  rw [sizeLine_eq]
  simpa [D.ok] using this
theorem noO_of {d : D} (h : good d) : noO d = true := by
  cases d with
  | obj a => exact absurd h.1 (by simp [D.ok])
  | scr a => exact absurd h.1 (by simp [D.ok])
  | _ => rfl
@[simp] theorem eqD_int (i j : Int) : eqD (.int i) (.int j) = (i == j) := by simp [eqD, D.py, PyData.eqv]
@[simp] theorem eqD_str (i j : Str) : eqD (.str i) (.str j) = (i == j) := by simp [eqD, D.py, PyData.eqv]
def eqDs : List D → List D → Bool
  | [], [] => true
  | x :: xs, y :: ys => eqD x y && eqDs xs ys
  | _, _ => false
theorem eqDs_eq : ∀ xs ys : List D, PyData.eqvAll (D.pys xs) (D.pys ys) = eqDs xs ys
  | [], [] => by simp [D.pys, PyData.eqvAll, eqDs]
  | [], _ :: _ => by simp [D.pys, PyData.eqvAll, eqDs]
  | _ :: _, [] => by simp [D.pys, PyData.eqvAll, eqDs]
  | x :: xs, y :: ys => by simp [D.pys, PyData.eqvAll, eqDs, eqDs_eq xs ys, eqD]
@[simp] theorem eqD_tup (i j : List D) : eqD (.tup i) (.tup j) = eqDs i j := by simp [eqD, D.py, PyData.eqv, eqDs_eq]
@[simp] theorem eqD_lst (i j : List D) : eqD (.lst i) (.lst j) = eqDs i j := by simp [eqD, D.py, PyData.eqv, eqDs_eq]
@[simp] theorem eqD_tl (i j : List D) : eqD (.tup i) (.lst j) = false := by simp [eqD, D.py, PyData.eqv]
@[simp] theorem eqD_lt (i j : List D) : eqD (.lst i) (.tup j) = false := by simp [eqD, D.py, PyData.eqv]
@[simp] theorem eqD_st (i : Str) (j : List D) : eqD (.str i) (.tup j) = false := by simp [eqD, D.py, PyData.eqv]
@[simp] theorem eqD_ts (i : Str) (j : List D) : eqD (.tup j) (.str i) = false := by simp [eqD, D.py, PyData.eqv]
/-! ### reckoning -/
theorem isi_str {d : D} {Q : D → Prop} (hd : noO d = true) (h : Q (.bl (isT "str" d))) : fIsi "str" d Q := isi_of (.inl rfl) hd h
theorem isi_int {d : D} {Q : D → Prop} (hd : noO d = true) (h : Q (.bl (isT "int" d))) : fIsi "int" d Q := isi_of (.inr (.inl rfl)) hd h
theorem isi_bool {d : D} {Q : D → Prop} (hd : noO d = true) (h : Q (.bl (isT "bool" d))) : fIsi "bool" d Q := isi_of (.inr (.inr (.inl rfl))) hd h
theorem isi_tuple {d : D} {Q : D → Prop} (hd : noO d = true) (h : Q (.bl (isT "tuple" d))) : fIsi "tuple" d Q := isi_of (.inr (.inr (.inr (.inl rfl)))) hd h
theorem isi_list {d : D} {Q : D → Prop} (hd : noO d = true) (h : Q (.bl (isT "list" d))) : fIsi "list" d Q := isi_of (.inr (.inr (.inr (.inr (.inl rfl))))) hd h
theorem isi_dict {d : D} {Q : D → Prop} (hd : noO d = true) (h : Q (.bl (isT "dict" d))) : fIsi "dict" d Q := isi_of (.inr (.inr (.inr (.inr (.inr rfl))))) hd h
theorem at0 {α : Type} {x : α} {xs : List α} : atI (x :: xs) 0 = some x := by
  unfold atI ixN
  rw [if_pos (by decide), if_pos (by simp only [List.length_cons]; omega)]
  rfl
theorem at1 {α : Type} {x y : α} {xs : List α} : atI (x :: y :: xs) 1 = some y := by
  unfold atI ixN
  rw [if_pos (by decide), if_pos (by simp only [List.length_cons]; omega)]
  rfl
theorem at2 {α : Type} {x y z : α} {xs : List α} : atI (x :: y :: z :: xs) 2 = some z := by
  unfold atI ixN
  rw [if_pos (by decide), if_pos (by simp only [List.length_cons]; omega)]
  rfl
theorem ofO_some {α : Type} {x : α} {Q : α → Prop} : ofO (some x) Q = Q x := rfl
/-! ### small mirrors -/
def isI : D → Bool
  | .int _ => true
  | _ => false
def btw : D → Int → Int → Bool
  | .int i, lo, hi => decide (lo ≤ i) && decide (i ≤ hi)
  | _, _, _ => false
def rowD : D → Int → Bool
  | .tup xs, n => (xs.length : Int) == n
  | _, _ => false
def kindD : D → Str → Int → Bool
  | .tup (.str s :: xs), w, n => (((D.str s :: xs).length : Int) == n) && s == w
  | _, _, _ => false
/-! ### comprehensions, reckoned -/
/-- a comprehension that changes nothing -/
theorem lc_fm0 {t : TD} {gt : DT} {ge : DE} {vs : List Nat} {ρ : Rho} {ck : AH → Prop} {h : AH} (p : D → Bool) (f : D → D) (hk : ck h) : ∀ (ds acc : List D) {Q : List D → AH → Prop},
    (∀ d, d ∈ ds → ∀ (A : D → AH → Prop) (N : AH → Prop), (p d = true → A (f d) h) → (p d = false → N h) → t d (wipeR ρ vs) fun ρ1 => gt ρ1 h (fun b h1 => if b = true then ge ρ1 h1 A (fun _ _ => False) else N h1) (fun _ _ => False)) →
    acc.length + ds.length ≤ sizeLine → Q (acc ++ (ds.filter p).map f) h → compD t gt ge vs ck ds acc ρ h Q
  | [], acc, Q, _, _, q => ⟨hk, by simpa using q⟩
  | d :: ds, acc, Q, w, hl, q => by
    simp only [List.length_cons] at hl
    refine ⟨hk, w d List.mem_cons_self _ _ (fun e => ⟨by omega, ?_⟩) (fun e => ?_)⟩
    · rw [List.filter_cons_of_pos e, List.map_cons] at q
      exact lc_fm0 p f hk ds (acc ++ [f d]) (fun d' m => w d' (List.mem_cons_of_mem _ m)) (by simp only [List.length_append, List.length_cons, List.length_nil]; omega) (by rw [List.append_assoc]; exact q)
    · rw [List.filter_cons_of_neg (by rw [e]; exact Bool.false_ne_true)] at q
      exact lc_fm0 p f hk ds acc (fun d' m => w d' (List.mem_cons_of_mem _ m)) (by omega) q
theorem lc_fm {t : TD} {gt : DT} {ge : DE} {vs : List Nat} {ρ : Rho} {ck : AH → Prop} {h : AH} (p : D → Bool) (f : D → D) (ds : List D) {Q : List D → AH → Prop}
    (w : ∀ d, d ∈ ds → ∀ (A : D → AH → Prop) (N : AH → Prop), (p d = true → A (f d) h) → (p d = false → N h) → t d (wipeR ρ vs) fun ρ1 => gt ρ1 h (fun b h1 => if b = true then ge ρ1 h1 A (fun _ _ => False) else N h1) (fun _ _ => False))
    (hl : ds.length ≤ sizeLine) (q : Q ((ds.filter p).map f) h) (hk : ck h := by trivial) : compD t gt ge vs ck ds [] ρ h Q := lc_fm0 p f hk ds [] w (by simpa using hl) q
theorem lc_map {t : TD} {ge : DE} {vs : List Nat} {ρ : Rho} {ck : AH → Prop} {h : AH} (f : D → D) (ds : List D) {Q : List D → AH → Prop} (w : ∀ d, d ∈ ds → ∀ (A : D → AH → Prop), A (f d) h → t d (wipeR ρ vs) fun ρ1 => ge ρ1 h A (fun _ _ => False)) (hl : ds.length ≤ sizeLine) (q : Q (ds.map f) h) (hk : ck h := by trivial) : compD t bYes ge vs ck ds [] ρ h Q :=
  lc_fm0 (fun _ => true) f hk ds [] (fun d m A N h1 _ => w d m A (h1 rfl)) (by simpa using hl) (by rw [List.filter_eq_self.mpr (fun _ _ => rfl)]; simpa using q)
/-- a comprehension, each element of which may change what J keeps -/
theorem lc_inv {t : TD} {ge : DE} {vs : List Nat} {ρ : Rho} {ck : AH → Prop} (J : AH → Prop) (Y : D → Prop) (hk : ∀ h, J h → ck h) : ∀ (ds acc : List D) {h : AH} {Q : List D → AH → Prop},
    (∀ d, d ∈ ds → ∀ h (A : D → AH → Prop), J h → (∀ y h', Y y → J h' → A y h') → t d (wipeR ρ vs) fun ρ1 => ge ρ1 h A (fun _ _ => False)) → acc.length + ds.length ≤ sizeLine → J h → (∀ y ∈ acc, Y y) →
    (∀ ys h', (∀ y ∈ ys, Y y) → ys.length = acc.length + ds.length → J h' → Q ys h') → compD t bYes ge vs ck ds acc ρ h Q
  | [], acc, h, Q, _, _, j, ya, q => ⟨hk h j, q acc h ya (by simp) j⟩
  | d :: ds, acc, h, Q, w, hl, j, ya, q => by
    simp only [List.length_cons] at hl
    refine ⟨hk h j, w d List.mem_cons_self h _ j fun y h' yy j' => ⟨by omega, ?_⟩⟩
    refine lc_inv J Y hk ds (acc ++ [y]) (fun d' m => w d' (List.mem_cons_of_mem _ m)) (by simp only [List.length_append, List.length_cons, List.length_nil]; omega) j' (fun z m => ?_) fun ys h2 y2 l2 j2 => q ys h2 y2 (by simp only [List.length_append, List.length_cons, List.length_nil] at l2 ⊢; omega) j2
    rcases List.mem_append.mp m with m | m
    · exact ya z m
    · rw [List.mem_singleton.mp m]; exact yy
theorem sizeLine_ge {n : Nat} (h : n ≤ 16777216) : n ≤ sizeLine := by rw [sizeLine_eq]; exact h
/-! ### words -/
def isLet (c : Nat) : Bool := decide (97 ≤ c) && decide (c ≤ 122)
def resD : List Str := ["all", "none", "some", "and", "each", "is"]
def wordS (s : Str) : Bool := decide (1 ≤ s.length) && decide (s.length ≤ 10) && !resD.contains s && s.cps.toList.all isLet
def wordD : D → Bool
  | .str s => wordS s
  | _ => false
theorem let_mem (c : Nat) : decide (c ∈ ("abcdefghijklmnopqrstuvwxyz" : Str).cps.toList) = isLet c := by
  have e : ("abcdefghijklmnopqrstuvwxyz" : Str).cps.toList = (List.range 26).map (· + 97) := by decide +kernel
  rw [e]
  unfold isLet
  by_cases h : 97 ≤ c ∧ c ≤ 122
  · rw [decide_eq_true h.1, decide_eq_true h.2]
    exact decide_eq_true (List.mem_map.mpr ⟨c - 97, List.mem_range.mpr (by omega), by omega⟩)
  · have : ¬ c ∈ (List.range 26).map (· + 97) := fun m => by
      obtain ⟨k, hk, e⟩ := List.mem_map.mp m
      have := List.mem_range.mp hk
      omega
    rw [decide_eq_false this]
    by_cases h1 : 97 ≤ c
    · rw [decide_eq_true h1, decide_eq_false (by omega)]; rfl
    · rw [decide_eq_false h1]; rfl
theorem res_any (s : Str) : (resD.map D.str).any (fun z => eqD z (.str s)) = resD.contains s := by
  rw [List.any_map]
  induction resD with
  | nil => rfl
  | cons x xs ih =>
    rw [List.any_cons, List.contains_cons, ih]
    simp only [Function.comp, eqD_str]
    rw [show (x == s) = (s == x) from by
      by_cases e : x = s
      · subst e; rfl
      · rw [beq_eq_false_iff_ne.mpr e, beq_eq_false_iff_ne.mpr (fun q => e q.symm)]]
theorem good_res : good (.tup (resD.map D.str)) := by
  refine (good_tup (fun x m => ?_) 1 (fun x m => ?_)).1
  · obtain ⟨s, hs, rfl⟩ := List.mem_map.mp m
    have k : (resD.all fun s => PyData.strOk s && decide (s.length ≤ 16777216)) = true := by decide +kernel
    have k2 := List.all_eq_true.mp k s hs
    rw [Bool.and_eq_true, decide_eq_true_eq] at k2
    exact good_str k2.1 k2.2
  · obtain ⟨s, hs, rfl⟩ := List.mem_map.mp m
    simp [dep, D.py, PyData.depth]
theorem sgn_one (c : Nat) : sgn ⟨#[c]⟩ = some c := rfl
theorem blsOf_of {ds : List D} {f : D → Bool} : blsOf (ds.map fun d => .bl (f d)) = some (ds.map f) := by
  have := blsOf_map (ds.map f)
  rw [List.map_map] at this
  exact this
theorem signs_len (s : Str) : (signs s).length = s.length := by simp [signs, Str.length]

theorem sign_good {s : Str} (h : PyData.strOk s = true) {d : D} (m : d ∈ signs s) : ∃ c, d = .str ⟨#[c]⟩ ∧ c ∈ s.cps.toList ∧ good d := by
  obtain ⟨c, hc, rfl⟩ := List.mem_map.mp m
  refine ⟨c, rfl, hc, good_str ?_ (by simp [Str.length])⟩
  have h2 : s.cps.toList.all (fun x => decide (x < 0x110000)) = true := by simpa [PyData.strOk] using h
  have := List.all_eq_true.mp h2 c hc
  simpa [PyData.strOk] using this
theorem ltS_le_a (c : Nat) : (!ltS ⟨#[c]⟩ "a") = decide (97 ≤ c) := by
  have e : ("a" : Str).cps.toList = [97] := by decide +kernel
  unfold ltS
  rw [e]
  by_cases h : 97 ≤ c
  · rw [decide_eq_true h, decide_eq_false (by simp [List.cons_lt_cons_iff]; omega)]; rfl
  · rw [decide_eq_false h, decide_eq_true (by simp [List.cons_lt_cons_iff]; omega)]; rfl
theorem ltS_le_z (c : Nat) : (!ltS "z" ⟨#[c]⟩) = decide (c ≤ 122) := by
  have e : ("z" : Str).cps.toList = [122] := by decide +kernel
  unfold ltS
  rw [e]
  by_cases h : c ≤ 122
  · rw [decide_eq_true h, decide_eq_false (by simp [List.cons_lt_cons_iff]; omega)]; rfl
  · rw [decide_eq_false h, decide_eq_true (by simp [List.cons_lt_cons_iff]; omega)]; rfl
/-- wordS by its three questions -/
theorem wordS_eq (s : Str) : wordS s = ((decide (1 ≤ s.length) && decide (s.length ≤ 10)) && (!resD.contains s && s.cps.toList.all isLet)) := by
  unfold wordS
  rw [Bool.and_assoc]
def letD : D → D
  | .str s => .bl ((sgn s).any isLet)
  | _ => .bl false
theorem letD_all {s : Str} {Q : D → Prop} (q : Q (.bl (s.cps.toList.all isLet))) : fAll [.lst ((NL.signs s).map letD)] Q := by
  have e : (NL.signs s).map letD = (s.cps.toList.map isLet).map D.bl := by
    unfold NL.signs
    rw [List.map_map]; rw [List.map_map]
    rfl
  rw [e]
  show ofO (blsOf _) _
  rw [blsOf_map]
  show Q (.bl ((s.cps.toList.map isLet).all id))
  rw [List.all_map]
  exact q
def conD : D → Bool
  | .tup [.str s] => s == "all" || s == "none"
  | .tup [.str s, x] => s == "word" && wordD x
  | .tup [.str s, x, y] => (s == "and" && (conD x && conD y)) || (s == "some" && (wordD x && conD y))
  | _ => false
termination_by d => sizeOf d
theorem dep_mem {xs : List D} {x : D} (m : x ∈ xs) : dep x + 1 ≤ dep (.tup xs) := by
  have := depth_pys xs x m
  simp only [dep, D.py, PyData.depth]
  omega
theorem dep_good {d : D} (h : good d) : dep d ≤ 64 := (good_iff.mp h).2.2
def senD : D → Bool
  | .tup [l, r] => conD l && conD r
  | _ => false
def bookD : D → Bool
  | .tup xs => xs.all senD
  | _ => false
theorem strl (s : String) (h : (PyData.strOk (Str.ofString s) && decide ((Str.ofString s).length ≤ 16777216)) = true := by decide +kernel) : good (.str (Str.ofString s)) := by
  rw [Bool.and_eq_true] at h; rw [decide_eq_true_eq] at h
  exact good_str h.1 h.2
theorem kind_true {d : D} {w : Str} {n : Int} (h : kindD d w n = true) : ∃ xs : List D, d = .tup (.str w :: xs) ∧ ((xs.length : Int) + 1 = n) := by
  cases d with
  | tup ys =>
    cases ys with
    | nil => cases h
    | cons y ys =>
      cases y with
      | str s =>
        have h' : ((((D.str s :: ys).length : Int) == n) && s == w) = true := h
        rw [Bool.and_eq_true, beq_iff_eq, beq_iff_eq] at h'
        refine ⟨ys, by rw [h'.2], ?_⟩
        have := h'.1
        simp only [List.length_cons, id] at this
        omega
      | _ => cases h
  | _ => cases h
theorem len1 {xs : List D} (h : (xs.length : Int) + 1 = 2) : ∃ x, xs = [x] := by
  match xs, h with
  | [x], _ => exact ⟨x, rfl⟩
  | [], h => simp at h
  | _ :: _ :: _, h => simp only [List.length_cons] at h; omega
theorem len2 {xs : List D} (h : (xs.length : Int) + 1 = 3) : ∃ x y, xs = [x, y] := by
  match xs, h with
  | [x, y], _ => exact ⟨x, y, rfl⟩
  | [], h => simp at h
  | [_], h => simp only [List.length_cons, List.length_nil] at h; omega
  | _ :: _ :: _ :: _, h => simp only [List.length_cons] at h; omega
theorem len0 {xs : List D} (h : (xs.length : Int) + 1 = 1) : xs = [] := by
  match xs, h with
  | [], _ => rfl
  | _ :: _, h => simp only [List.length_cons] at h; omega
theorem conD_all : conD (.tup [.str "all"]) = true := by
  rw [conD]
  decide +kernel
theorem conD_none : conD (.tup [.str "none"]) = true := by
  rw [conD]
  decide +kernel
theorem conD_word (x : D) : conD (.tup [.str "word", x]) = wordD x := by
  unfold conD
  rw [show (("word" : Str) == "word") = true from by decide +kernel, Bool.true_and]
theorem conD_and (x y : D) : conD (.tup [.str "and", x, y]) = (conD x && conD y) := by
  rw [conD]
  rw [show (("and" : Str) == "and") = true from by decide +kernel, show (("and" : Str) == "some") = false from by decide +kernel, Bool.true_and, Bool.false_and, Bool.or_false]
theorem conD_some (x y : D) : conD (.tup [.str "some", x, y]) = (wordD x && conD y) := by
  rw [conD]
  rw [show (("some" : Str) == "some") = true from by decide +kernel, show (("some" : Str) == "and") = false from by decide +kernel, Bool.true_and, Bool.false_and, Bool.false_or]
theorem conD_no {d : D} (h1 : kindD d "all" 1 = false) (h2 : kindD d "none" 1 = false) (h3 : kindD d "word" 2 = false) (h4 : kindD d "and" 3 = false) (h5 : kindD d "some" 3 = false) : conD d = false := by
  match d with
  | .tup [.str s] =>
    simp only [kindD, List.length_cons, List.length_nil] at h1 h2
    simp only [conD]
    simpa using And.intro h1 h2
  | .tup [.str s, x] =>
    simp only [kindD, List.length_cons, List.length_nil] at h3
    simp only [conD]
    have : (s == "word") = false := by simpa using h3
    rw [this]; rfl
  | .tup [.str s, x, y] =>
    simp only [kindD, List.length_cons, List.length_nil] at h4 h5
    rw [conD]
    have e1 : (s == "and") = false := by simpa using h4
    have e2 : (s == "some") = false := by simpa using h5
    rw [e1, e2]; rfl
  | .tup [] => rw [conD] <;> (intros; simp_all)
  | .tup (.str _ :: _ :: _ :: _ :: _) => rw [conD] <;> (intros; simp_all)
  | .tup (.non :: _) => rw [conD] <;> (intros; simp_all)
  | .tup (.bl _ :: _) => rw [conD] <;> (intros; simp_all)
  | .tup (.int _ :: _) => rw [conD] <;> (intros; simp_all)
  | .tup (.tup _ :: _) => rw [conD] <;> (intros; simp_all)
  | .tup (.lst _ :: _) => rw [conD] <;> (intros; simp_all)
  | .tup (.obj _ :: _) => rw [conD] <;> (intros; simp_all)
  | .non => rw [conD] <;> (intros; simp_all)
  | .bl _ => rw [conD] <;> (intros; simp_all)
  | .int _ => rw [conD] <;> (intros; simp_all)
  | .str _ => rw [conD] <;> (intros; simp_all)
  | .lst _ => rw [conD] <;> (intros; simp_all)
  | .obj _ => rw [conD] <;> (intros; simp_all)
  | .dic _ _ => rw [conD] <;> (intros; simp_all)
  | .tup (.dic _ _ :: _) => rw [conD] <;> (intros; simp_all)
  | .scr _ => rw [conD] <;> (intros; simp_all)
  | .tup (.scr _ :: _) => rw [conD] <;> (intros; simp_all)

end NL
set_option Elab.async false
set_option linter.all false
set_option maxRecDepth 100000
set_option maxHeartbeats 2300000
/-! N18: reckoning. -/
namespace NL
open PyProof.Rows L2 PySem PySem.Spec
theorem fAdd_t {xs ys : List D} {Q : D → Prop} : fAdd (.tup xs) (.tup ys) Q = (xs.length + ys.length ≤ sizeLine ∧ Q (.tup (xs ++ ys))) := rfl
theorem fAdd_l {xs ys : List D} {Q : D → Prop} : fAdd (.lst xs) (.lst ys) Q = (xs.length + ys.length ≤ sizeLine ∧ Q (.lst (xs ++ ys))) := rfl
theorem fAdd_s {xs ys : Str} {Q : D → Prop} : fAdd (.str xs) (.str ys) Q = (xs.length + ys.length ≤ sizeLine ∧ Q (.str (xs ++ ys))) := rfl
theorem fAdd_i {xs ys : Int} {Q : D → Prop} : fAdd (.int xs) (.int ys) Q = Q (.int (xs + ys)) := rfl
theorem fLstOf_t {xs : List D} {Q : D → Prop} : fLstOf [.tup xs] Q = Q (.lst xs) := rfl
theorem fLstOf_l {xs : List D} {Q : D → Prop} : fLstOf [.lst xs] Q = Q (.lst xs) := rfl
theorem fTupOf_t {xs : List D} {Q : D → Prop} : fTupOf [.tup xs] Q = Q (.tup xs) := rfl
theorem fTupOf_l {xs : List D} {Q : D → Prop} : fTupOf [.lst xs] Q = Q (.tup xs) := rfl
theorem fLen_t {xs : List D} {Q : D → Prop} : fLen [.tup xs] Q = Q (.int xs.length) := rfl
theorem fLen_l {xs : List D} {Q : D → Prop} : fLen [.lst xs] Q = Q (.int xs.length) := rfl
theorem bneF (x : Bool) : (x != false) = x := by cases x <;> rfl
theorem bneT (x : Bool) : (x != true) = !x := by cases x <;> rfl
/-! ### lists without repetition -/
def inD (xs : List D) (a : D) : Bool := xs.any fun z => eqD z a
theorem fIn_t {neg : Bool} {x : D} {ys : List D} {Q : Bool → Prop} (h1 : good x) (h2 : good (.tup ys)) (h : Q (inD ys x != neg)) : fIn neg x (.tup ys) Q := by
  cases x <;> exact ⟨h1, h2, h⟩
theorem fIn_l {neg : Bool} {x : D} {ys : List D} {Q : Bool → Prop} (h1 : good x) (h2 : good (.lst ys)) (h : Q (inD ys x != neg)) : fIn neg x (.lst ys) Q := by
  cases x <;> exact ⟨h1, h2, h⟩
structure Ax (n : Nat) (xs : List D) : Prop where
  len : xs.length ≤ n
  each : ∀ a ∈ xs, good a ∧ dep a ≤ 60
theorem Ax.good {n : Nat} {xs : List D} (h : Ax n xs) : good (.tup xs) ∧ good (.lst xs) := good_tup (fun x m => (h.each x m).1) 60 (fun x m => (h.each x m).2)
theorem Ax.filter {n : Nat} {xs : List D} (h : Ax n xs) (p : D → Bool) : Ax n (xs.filter p) := ⟨Nat.le_trans (List.length_filter_le _ _) h.len, fun a m => h.each a (List.mem_filter.mp m).1⟩
theorem Ax.app {n m : Nat} {xs ys : List D} (h : Ax n xs) (k : Ax m ys) : Ax (n + m) (xs ++ ys) := ⟨by rw [List.length_append]; have := h.len; have := k.len; omega, fun a mm => (List.mem_append.mp mm).elim (h.each a) (k.each a)⟩
theorem Ax.mono {n m : Nat} {xs : List D} (h : Ax n xs) (k : n ≤ m) : Ax m xs := ⟨Nat.le_trans h.len k, h.each⟩
theorem Ax.nil : Ax 0 [] := ⟨Nat.le_refl _, fun a m => by cases m⟩
theorem Ax.one {a : D} (h : NL.good a) (k : dep a ≤ 60) : Ax 1 [a] := ⟨Nat.le_refl _, fun b m => by rw [List.mem_singleton.mp m]; exact ⟨h, k⟩⟩
section
variable {ρ : Rho} {h : AH} {Q : QD} {E : QX} {i j : Nat}
theorem dVar_set {x : D} (l : j < ρ.length) : dVar j (ρ.set j (some (.d x))) h Q E = Q x h := by
  unfold dVar
  rw [List.getElem?_set_self l]
theorem dOwn_set {x : Option SV} (n : i ≠ j) : dOwn i (ρ.set j x) h Q E = dOwn i ρ h Q E := by
  unfold dOwn
  rw [List.getElem?_set_ne (fun z => n z.symm)]
theorem dOwn_at {xs : List D} (e : ρ[i]? = some (some (.l xs))) : dOwn i ρ h Q E = Q (.lst xs) h := by
  unfold dOwn
  rw [e]
theorem dVar_at {x : D} (e : ρ[i]? = some (some (.d x))) : dVar i ρ h Q E = Q x h := by
  unfold dVar
  rw [e]
theorem dVar_ne {x : Option SV} (n : i ≠ j) : dVar i (ρ.set j x) h Q E = dVar i ρ h Q E := by
  unfold dVar
  rw [List.getElem?_set_ne (fun z => n z.symm)]
end
def dedD (acc xs : List D) : List D := xs.foldl (fun acc a => if inD acc a then acc else acc ++ [a]) acc
/-- for a in ds: if a not in own: own.append(a) -/
theorem loop_ded {i j : Nat} (hij : i ≠ j) {E : DEnds} {ck : AH → Prop} {h : AH} (hk : ck h) {n : Nat} : ∀ (m : Nat) (ds acc : List D) (ρ : Rho), Ax m ds → Ax n acc → n + m ≤ 16777216 → ρ[i]? = some (some (.l acc)) → j < ρ.length →
    (∀ ρ' : Rho, ρ'[i]? = some (some (.l (dedD acc ds))) → (∀ k, k ≠ i → k ≠ j → ρ'[k]? = ρ[k]?) → E.nx ρ' h) → loopD (tName j) (sIf (bCmp (fIn true) (dVar j) (dOwn i)) (sApp i (dVar j)) sNext) ck ds E ρ h := by
  intro m ds
  induction ds generalizing n m with
  | nil => intro acc ρ _ _ _ e _ q; exact ⟨hk, q ρ e fun _ _ _ => rfl⟩
  | cons d ds ih =>
    intro acc ρ ad aa hl ha hj q
    have hi : i < ρ.length := (List.getElem?_eq_some_iff.mp ha).1
    have ad' : Ax (m - 1) ds := ⟨by have := ad.len; simp at this; omega, fun a mm => ad.each a (List.mem_cons_of_mem _ mm)⟩
    have hm : 1 ≤ m := by have := ad.len; simp at this; omega
    have e1 : (ρ.set j (some (SV.d d)))[i]? = some (some (.l acc)) := by rw [List.getElem?_set_ne (Ne.symm hij)]; exact ha
    refine ⟨hk, ?_⟩
    simp only [tName, sIf, bCmp, dVar_set hj, dOwn_at e1]
    refine fIn_l (ad.each d List.mem_cons_self).1 aa.good.2 ?_
    rw [bneT]
    have q' : dedD acc (d :: ds) = dedD (if inD acc d then acc else acc ++ [d]) ds := rfl
    rw [q'] at q
    cases e2 : inD acc d
    · rw [e2] at q
      simp only [sApp, ownOf, e1, dVar_set hj, Bool.not_false, if_true]
      refine ⟨by rw [sizeLine_eq]; have := aa.len; omega, ?_⟩
      refine ih (n := n + 1) (m - 1) (acc ++ [d]) _ ad' (aa.app (Ax.one (ad.each d List.mem_cons_self).1 (ad.each d List.mem_cons_self).2)) (by omega) (List.getElem?_set_self (by simpa using hi)) (by simpa using hj) fun ρ' g1 g2 => q ρ' g1 fun x y z => ?_
      rw [g2 x y z, List.getElem?_set_ne (Ne.symm y), List.getElem?_set_ne (Ne.symm z)]
    · rw [e2] at q
      refine ih (n := n) (m - 1) acc _ ad' aa (by omega) e1 (by simpa using hj) fun ρ' g1 g2 => q ρ' g1 fun x y z => ?_
      rw [g2 x y z, List.getElem?_set_ne (Ne.symm z)]
theorem fEq_s {a b : Str} {v : Bool} {Q : Bool → Prop} (h1 : good (.str a)) (h2 : good (.str b)) (e : (a == b) = v) (q : Q v) : fEq (.str a) (.str b) Q := ⟨h1, h2, by rw [eqD_str, e]; exact q⟩
theorem fNe_s {a b : Str} {v : Bool} {Q : Bool → Prop} (h1 : good (.str a)) (h2 : good (.str b)) (e : (a == b) = v) (q : Q (!v)) : fNe (.str a) (.str b) Q := ⟨h1, h2, by rw [eqD_str, e]; exact q⟩
theorem cut_take {xs : List D} (i : Nat) (h1 : i ≤ xs.length) : NL.cutD xs none (some (i : Int)) = xs.take i := by
  unfold NL.cutD
  rw [HT.sIx_nat, HT.sIx_none, Nat.min_eq_left h1]
  simp
theorem cut_drop {xs : List D} (i : Nat) : NL.cutD xs (some (i : Int)) none = xs.drop i := by
  unfold NL.cutD
  rw [HT.sIx_nat, HT.sIx_none]
  by_cases h : i ≤ xs.length
  · rw [Nat.min_eq_left h, List.take_of_length_le (by rw [List.length_drop]; exact Nat.le_refl _)]
  · rw [Nat.min_eq_right (by omega), Nat.sub_self, List.take_zero, List.drop_eq_nil_of_le (by omega)]
theorem fIs_t {xs : List D} {Q : Bool → Prop} : fIs (.tup xs) .non Q = Q false := rfl
theorem fIs_n {Q : Bool → Prop} : fIs .non .non Q = Q true := rfl
theorem fIsNot_t {xs : List D} {Q : Bool → Prop} : fIsNot (.tup xs) .non Q = Q true := rfl
theorem fIsNot_n {Q : Bool → Prop} : fIsNot .non .non Q = Q false := rfl
theorem fEq_ss {a b : Str} {Q : Bool → Prop} (h1 : good (.str a)) (h2 : good (.str b)) : fEq (.str a) (.str b) Q = Q (a == b) := propext ⟨fun h => by have := h.2.2; rwa [eqD_str] at this, fun h => ⟨h1, h2, by rw [eqD_str]; exact h⟩⟩
theorem fEq_ii {i j : Int} {Q : Bool → Prop} : fEq (.int i) (.int j) Q = Q (i == j) := propext ⟨fun h => by have := h.2.2; rwa [eqD_int] at this, fun h => ⟨good_int _, good_int _, by rw [eqD_int]; exact h⟩⟩
theorem fNe_ii {i j : Int} {Q : Bool → Prop} : fNe (.int i) (.int j) Q = Q (!(i == j)) := propext ⟨fun h => by have := h.2.2; rwa [eqD_int] at this, fun h => ⟨good_int _, good_int _, by rw [eqD_int]; exact h⟩⟩
theorem fOrd_ii {p : Int → Int → Bool} {q : Str → Str → Bool} {i j : Int} {Q : Bool → Prop} : fOrd p q (.int i) (.int j) Q = Q (p i j) := rfl
theorem fOrd_ss {p : Int → Int → Bool} {q : Str → Str → Bool} {i j : Str} {Q : Bool → Prop} : fOrd p q (.str i) (.str j) Q = Q (q i j) := rfl
theorem fIsi_of {T n : String} {d : D} {b : Bool} {Q : D → Prop} (h1 : tyN d = some n) (h2 : kitB n T = some b) : fIsi T (d) Q = Q (.bl b) := by
  show ofO (tyN d) _ = _
  rw [h1]
  show ofO (kitB n T) _ = _
  rw [h2]
  rfl
theorem fIsi_tt {xs : List D} {Q : D → Prop} : fIsi "tuple" (.tup xs) Q = Q (.bl true) := fIsi_of rfl (by decide +kernel)
theorem fIsi_ss {s : Str} {Q : D → Prop} : fIsi "str" (.str s) Q = Q (.bl true) := fIsi_of rfl (by decide +kernel)
theorem fIsi_st {xs : List D} {Q : D → Prop} : fIsi "str" (.tup xs) Q = Q (.bl false) := fIsi_of rfl (by decide +kernel)
theorem fIsi_si {i : Int} {Q : D → Prop} : fIsi "str" (.int i) Q = Q (.bl false) := fIsi_of rfl (by decide +kernel)
/-! ### statements, one by one -/
theorem skip_if {gt : DT} {g1 rest : DS} {E : DEnds} {ρ : Rho} {h : AH} (t : ∀ (Q : Bool → AH → Prop) (X : QX), Q false h → gt ρ h Q X) (k : rest E ρ h) : sSeq (sIf gt g1 sNext) rest E ρ h := t _ _ k
theorem take_if {gt : DT} {g1 g2 rest : DS} {E : DEnds} {ρ : Rho} {h : AH} (t : ∀ (Q : Bool → AH → Prop) (X : QX), Q true h → gt ρ h Q X) (k : g1 { E with nx := rest E } ρ h) : sSeq (sIf gt g1 g2) rest E ρ h := t _ _ k
theorem seqD {g1 g2 : DS} {E : DEnds} {ρ : Rho} {h : AH} (P : Rho → AH → Prop) (h1 : ∀ N : Rho → AH → Prop, (∀ ρ' h', P ρ' h' → N ρ' h') → g1 { E with nx := N } ρ h) (h2 : ∀ ρ' h', P ρ' h' → g2 E ρ' h') : sSeq g1 g2 E ρ h := h1 _ h2
theorem seqP {g1 g2 : DS} {E : DEnds} {ρ : Rho} {h : AH} (P : Rho → Prop) (h1 : ∀ N : Rho → AH → Prop, (∀ ρ', P ρ' → N ρ' h) → g1 { E with nx := N } ρ h) (h2 : ∀ ρ', P ρ' → g2 E ρ' h) : sSeq g1 g2 E ρ h := h1 _ fun ρ' p => h2 ρ' p
theorem lL1 {a : D} : (((([a] : List D).length : Nat)) : Int) = 1 := rfl
theorem lL2 {a b : D} : (((([a, b] : List D).length : Nat)) : Int) = 2 := rfl
theorem lL3 {a b c : D} : (((([a, b, c] : List D).length : Nat)) : Int) = 3 := rfl
theorem i22 : ((2 : Int) == 2) = true := rfl
theorem i33 : ((3 : Int) == 3) = true := rfl
theorem i23 : ((2 : Int) == 3) = false := rfl
theorem i32 : ((3 : Int) == 2) = false := rfl
theorem cut1 {x : D} {xs : List D} : NL.cutD (x :: xs) (some 1) none = xs := cut_drop (xs := x :: xs) 1

end NL
set_option Elab.async false
set_option linter.all false
set_option maxRecDepth 100000
set_option maxHeartbeats 2300000
/-! N19: dicts of pairs, sorted pairs, a module's dict, join. -/
namespace NL
open PyProof.Rows L2 LamX PySem PySem.Spec
section
variable {X : Cx} {pn : List (Addr × Obj)} {sg : L2.St} {H : Hp} {s : Shared}
theorem plainT {a : Addr} {xs : List V} (iv : Inv X pn sg H s) (h : TupAt X.K H a xs) : ∃ cells : List Value, Vals xs cells ∧ PlainSeq "tuple" s.heap a cells.toArray ∧ xs.length ≤ sizeLine := by
  obtain ⟨h, p⟩ := h
  obtain ⟨cells, r, ⟨o, ho, hc, n, hd⟩, hz⟩ := iv.tuple h
  refine ⟨cells, r, ⟨o, n, ho, hc, ?_, hd⟩, hz⟩
  rcases p with ⟨o', u, e, d⟩ | ⟨o', e, d⟩
  · have := (iv.hok a _ e).1
    rw [ho] at this
    cases this
    exact d
  · have := iv.kIn a o' e
    rw [ho] at this
    cases this
    exact d
theorem pairs_of' (iv : Inv X pn sg H s) : ∀ {ps : List Addr} {kvs : List (Key × V)}, Paired (fun p kv => SqT X.K H p [kV kv.1, kv.2]) ps kvs →
    ∃ (prs : List (Key × Value)) (vps : List (Value × Value)), KV kvs prs ∧ prs.length = ps.length ∧ vps.length = ps.length ∧ ∀ (j : Nat) (k v : Value), vps[j]? = some (k, v) → ∃ (b : Addr) (key : Key), ps[j]? = some b ∧ IsTup s.heap b #[k, v] ∧ prs[j]? = some (key, v) ∧ (mixKind X.prog X.w).is key k = true
  | _, _, .nil => ⟨[], [], .nil, rfl, rfl, fun j k v e => by simp at e⟩
  | _, _, .cons (a := p) (b := kv) hd t => by
    obtain ⟨prs, vps, r, hl, hl2, hpp⟩ := pairs_of' iv t
    obtain ⟨cells, rdv, ht, _⟩ := iv.tuple hd
    obtain ⟨u, y, ei, ru, ry⟩ := vals2 rdv
    subst ei
    refine ⟨(kv.1, y) :: prs, (u, y) :: vps, .cons ⟨rfl, ry⟩ r, by simp [hl], by simp [hl2], fun j k v e => ?_⟩
    cases j with
    | zero =>
      have e' : (u, y) = (k, v) := Option.some.inj e
      cases e'
      exact ⟨p, kv.1, rfl, ht, rfl, kV_is (P := X.prog) (w := X.w) ru⟩
    | succ j =>
      obtain ⟨b, key, e1, e2, e3, e4⟩ := hpp j k v (by simpa using e)
      exact ⟨b, key, by simpa using e1, e2, by simpa using e3, e4⟩
/-- dict(t) of a plain tuple of pairs -/
def rDictT (K : PySem.W.Frag) : List V → Hp → VK → Prop := fun xs H Q => ∃ (a : Addr) (ps : List Addr) (kvs : List (Key × V)), xs = [.ref a] ∧ TupAt K H a (ps.map V.ref) ∧ Paired (fun p kv => SqT K H p [kV kv.1, kv.2]) ps kvs ∧
    ∀ p, H p = none → Q (.ref p) (upd H p (.dK (mergeK [] kvs)))
theorem call_dictT (hcalm : X.calm = true) : CallR X (.type "dict") (rDictT X.K) := by
  intro pn s sg H xs us Q iv r q
  obtain ⟨a, ps, kvs, ex, hq, hpp, q⟩ := q
  subst ex
  obtain ⟨u, eu, rx⟩ := vals1 r
  subst eu
  cases rx
  obtain ⟨cells, rdv, pl, hz⟩ := plainT iv hq
  have ei := refs_at rdv
  subst ei
  rw [List.length_map] at hz
  obtain ⟨prs, vps, rel, hl, hl2, hpr⟩ := pairs_of' iv hpp
  refine PySem.call_dict_pairs (knd := mixKind X.prog X.w) (kvs := prs) (PairArg.tuple a (ps.map Value.ref).toArray (fun j => ps.getD j 0) vps) (iv.ok.hd hcalm) ⟨pl, by simp [hl2], fun j k v e => ?_⟩ ⟨by rw [hl, hl2], fun j k v e => ?_⟩ (by rw [hl2]; exact hz) fun h' tk hd' k => ?_
  · obtain ⟨b, key, e1, e2, _, _⟩ := hpr j k v e
    refine ⟨by simp [e1], .inl ?_⟩
    show IsTup s.heap (ps.getD j 0) _
    rw [List.getD_eq_getElem?_getD, e1]
    exact e2
  · obtain ⟨b, key, e1, e2, e3, e4⟩ := hpr j k v e
    exact ⟨key, e3, e4⟩
  · have hmm : (s.heap.objs.size == sysModules) = false := beq_eq_false_iff_ne.mpr (Nat.ne_of_gt iv.big)
    have lenle : (mergeK [] kvs).length ≤ sizeLine := by
      refine Nat.le_trans (length_mergeK kvs []) ?_; rw [List.length_nil, Nat.zero_add, rel.length, hl]
      exact hz
    exact ⟨.ref s.heap.objs.size, upd H s.heap.objs.size (.dK (mergeK [] kvs)), iv.laid (t' := tk) (fun b o e => k b o (by simp) e) (Nat.le_refl _) (show ObjOk X.prog X.w _ _ _ (.dK (mergeK [] kvs)) from ⟨lenle, hmm, merged [] prs, KV.merge rel .nil, hd'⟩), rfl, q _ (iv.hok.fresh (Nat.le_refl _))⟩
end
/-! ### sorted(l) of pairs (text, x), the texts apart -/
theorem ltS_swo {α : Type} (k : α → Str) : SrtO.Swo fun v u : α => ltS (k v) (k u) := by
  refine ⟨fun x y hh => ?_, fun x y z h1 h2 => ?_⟩
  · unfold ltS at hh ⊢
    have hh := of_decide_eq_true hh
    exact decide_eq_false (List.lt_asymm hh)
  · unfold ltS at h1 h2 ⊢
    have h1 : ¬ (k y).cps.toList < (k x).cps.toList := of_decide_eq_false h1
    have h2 : ¬ (k z).cps.toList < (k y).cps.toList := of_decide_eq_false h2
    exact decide_eq_false (List.not_lt.mpr (List.le_trans (List.not_lt.mp h1) (List.not_lt.mp h2)))
def wdOf (h : Heap) : Value → Str
  | .ref p => match h.get? p with
    | some o => match o.data with
      | .seq xs _ => match xs[0]? with
        | some (Value.str w _) => w
        | _ => ""
      | _ => ""
    | none => ""
  | _ => ""
theorem wdOf_tup {h : Heap} {p : Addr} {w : Str} {t : Tok} {y : Value} (x : IsTup h p #[.str w t, y]) : wdOf h (.ref p) = w := by
  obtain ⟨o, ho, _, n, hd⟩ := x
  simp [wdOf, ho, hd]
theorem perm_of_map {α β : Type} (f : α → β) {a b : List β} (p : a.Perm b) : ∀ l : List α, a = l.map f → ∃ l' : List α, l'.Perm l ∧ b = l'.map f := by
  induction p with
  | nil => intro l e; exact ⟨l, .refl _, e⟩
  | cons x _ ih =>
    intro l e
    cases l with
    | nil => cases e
    | cons y l =>
      injection e with e1 e2
      obtain ⟨l', p', e'⟩ := ih l e2
      exact ⟨y :: l', .cons _ p', by rw [e1, e']; rfl⟩
  | swap x y r =>
    intro l e
    match l, e with
    | u :: v :: l, e =>
      injection e with e1 e2
      injection e2 with e2 e3
      exact ⟨v :: u :: l, .swap _ _ _, by rw [e1, e2, e3]; rfl⟩
  | trans _ _ ih1 ih2 =>
    intro l e
    obtain ⟨l1, p1, e1⟩ := ih1 l e
    obtain ⟨l2, p2, e2⟩ := ih2 l1 e1
    exact ⟨l2, p2.trans p1, e2⟩
/-- v is a pair (text w, x) -/
def WP (h : Heap) (v : Value) (w : Str) : Prop := ∃ p t y, v = .ref p ∧ IsTup h p #[.str w t, y]
theorem WP.wd {h : Heap} {v : Value} {w : Str} (x : WP h v w) : wdOf h v = w := by
  obtain ⟨p, t, y, rfl, x⟩ := x
  exact wdOf_tup x
section
variable {w : World} {prog : Program} {A : Around} {s : Shared} {E : Value → Shared → Prop}
theorem word_cmp {h0 : Heap} {vs : List Value} (hpp : ∀ v ∈ vs, WP s.heap v (wdOf h0 v)) (hi : ∀ v ∈ vs, ∀ u ∈ vs, wdOf h0 v = wdOf h0 u → v = u) : SrtO.Cmp prog w A s (tuples' true) (fun p => p.1 ∈ vs) (SrtO.lt2 fun v u => ltS (wdOf h0 v) (wdOf h0 u)) := by
  intro p q hmm hm'
  have h1 := hpp _ hmm
  have h2 := hpp _ hm'
  have hi := hi _ hmm _ hm'
  show wpAny (model prog w) A (keyLt' (tuples' true) p.1 q.1) (fun r s' => s' = s ∧ r = ltS (wdOf h0 p.1) (wdOf h0 q.1)) (fun _ _ => False) s
  generalize wdOf h0 p.1 = x at h1 hi ⊢
  generalize wdOf h0 q.1 = x' at h2 hi ⊢
  generalize p.1 = v at h1 hi ⊢
  generalize q.1 = u at h2 hi ⊢
  obtain ⟨a, t, y, e, o, ho, hc, n, hd⟩ := h1
  obtain ⟨a', t', y', e', o', ho', hc', n', hd'⟩ := h2
  rw [e, e'] at hi ⊢; refine PySem.W.kat_lt ho hd ho' hd' ?_
  show PySem.W.KatLex prog w A true (decide (2 < 2)) _ [(.str x t, .str x' t'), (y, y')] 0 s
  refine PySem.W.kat_cons (SeqAt.EqAt.str_str x t x' t' prog w _ _ ?_); refine PySem.W.kat_go (fun e1 => ?_) (fun e1 => ?_)
  · have exx : x = x' := by simpa using e1
    have ea : a = a' := by
      have := hi exx
      cases this
      rfl
    subst ea
    rw [ho] at ho'
    cases ho'
    rw [hd] at hd'
    injection hd' with hd' _
    have ey : y = y' := by
      have := congrArg Array.toList hd'
      simp at this
      exact this.2
    subst ey
    refine PySem.W.kat_yes (PySem.W.kat_cons (SeqAt.EqAt.same y prog w _ _ ?_))
    refine PySem.W.kat_yes (PySem.W.kat_nil ⟨rfl, ?_⟩)
    subst exx
    show decide (2 < 2) = ltS x x
    unfold ltS
    rw [decide_eq_false (List.lt_irrefl _)]
    rfl
  · exact PySem.W.kat_no (oneLt_str ⟨rfl, rfl⟩)
theorem firsts_w {h : Heap} : ∀ {vs : List Value}, (∀ v ∈ vs, ∃ w, WP h v w) → ∃ fs : List Value, PySem.W.KatTups h vs fs ∧ fs.length = vs.length ∧ ∀ f ∈ fs, ∃ (w : Str) (t : Tok), f = .str w t
  | [], _ => ⟨[], PySem.W.KatTups.nil, rfl, fun _ h => by cases h⟩
  | v :: vs, hv => by
    obtain ⟨fs, k, l, q⟩ := firsts_w fun u m => hv u (List.mem_cons_of_mem _ m)
    obtain ⟨w, p, t, y, rfl, o, ho, hc, n, hd⟩ := hv v List.mem_cons_self
    exact ⟨.str w t :: fs, PySem.W.KatTups.cons ho hc hd rfl k, by simp [l], fun f m => by
      rcases List.mem_cons.mp m with m | m
      · exact ⟨w, t, m⟩
      · exact q f m⟩
theorem word_sortable {h0 : Heap} {a : Addr} {vs : List Value} (h1 : 0 < vs.length) (hpp : ∀ v ∈ vs, WP s.heap v (wdOf h0 v)) (hi : ∀ v ∈ vs, ∀ u ∈ vs, wdOf h0 v = wdOf h0 u → v = u) (ha : ∀ o, s.heap.get? a = some o → o.cls ≠ .type "tuple") :
    SrtO.SortableO prog w A s a vs fun v u => ltS (wdOf h0 v) (wdOf h0 u) := by
  intro h' keep
  have hp' : ∀ v ∈ vs, WP h' v (wdOf h0 v) := fun v hmm => by
    obtain ⟨p, t, y, e, o, ho, hc, r⟩ := hpp v hmm
    exact ⟨p, t, y, e, o, keep p o (fun z => by subst z; exact ha o ho hc) ho, hc, r⟩
  obtain ⟨fs, k1, k2, k3⟩ := firsts_w fun v hmm => ⟨_, hp' v hmm⟩
  refine ⟨tuples' true, fun Q E hq => ?_, word_cmp hp' hi⟩
  refine PySem.W.kat_kind (T := .type "str") k1 (by omega) (fun f hmm => ?_) (by rfl) ?_
  · obtain ⟨x, t, rfl⟩ := k3 f hmm; exact PySem.W.Looks.of_pure rfl
  · have e : (Value.type "str" != Value.type "tuple") = true := by first | decide +kernel | rfl | decide
    rw [e]
    exact hq
end
abbrev TP := Addr × Str × V
def rSortP (K : PySem.W.Frag) : List V → Hp → VK → Prop := fun xs H Q => ∃ (a : Addr) (bs : List TP), xs = [.ref a] ∧ SqL K H a (bs.map fun b => .ref b.1) ∧ (∀ b ∈ bs, SqT K H b.1 [.str b.2.1, b.2.2]) ∧ (bs.map (·.2.1)).Nodup ∧
  ∀ out : List TP, out.Perm bs → out.Pairwise (fun p q => ltS q.2.1 p.2.1 = false) → ∀ l, H l = none → Q (.ref l) (upd H l (.lst (out.map fun b => .ref b.1)))
theorem nodup_inj {α β : Type} {f : α → β} : ∀ {l : List α}, (l.map f).Nodup → ∀ a ∈ l, ∀ b ∈ l, f a = f b → a = b
  | [], _, a, ha, _, _, _ => by cases ha
  | x :: l, h, a, ha, b, hbb, e => by
    rw [List.map_cons] at h; rw [List.nodup_cons] at h
    rcases List.mem_cons.mp ha with ha | ha
    · rcases List.mem_cons.mp hbb with hbb | hbb
      · rw [ha, hbb]
      · exact absurd (by rw [← ha, e]; exact List.mem_map_of_mem hbb) h.1
    · rcases List.mem_cons.mp hbb with hbb | hbb
      · exact absurd (by rw [← hbb, ← e]; exact List.mem_map_of_mem ha) h.1
      · exact nodup_inj h.2 a ha b hbb e
theorem call_sortP {X : Cx} : CallR X (.builtin "sorted") (rSortP X.K) := by
  intro pn s sg H xs us Q iv r q
  obtain ⟨a, bs, ex, hq, hpp, nd, q⟩ := q
  subst ex
  obtain ⟨u, eu, rx⟩ := vals1 r
  subst eu
  cases rx
  obtain ⟨cells, rdv, pl, hz⟩ := iv.list hq
  have e1 : (bs.map fun b => V.ref b.1) = (bs.map (·.1)).map V.ref := by rw [List.map_map]; rfl
  rw [e1] at rdv
  have ei := refs_at rdv
  have ei : cells = bs.map fun b => Value.ref b.1 := by rw [ei, List.map_map]; rfl
  subst ei
  have hz : (bs.map fun b => Value.ref b.1).length ≤ sizeLine := by simpa using hz
  have wp : ∀ b ∈ bs, WP s.heap (.ref b.1) b.2.1 := fun b m => by
    obtain ⟨cells, r, t, _⟩ := iv.tuple (hpp b m)
    obtain ⟨u, y, ei, ru, ry⟩ := vals2 r
    subst ei
    obtain ⟨t1, rfl⟩ := (show ∃ t, u = Value.str b.2.1 t from ru)
    exact ⟨b.1, t1, y, rfl, t⟩
  have wv : ∀ v ∈ (bs.map fun b => Value.ref b.1), WP s.heap v (wdOf s.heap v) := fun v m => by
    obtain ⟨b, mb, rfl⟩ := List.mem_map.mp m
    rw [(wp b mb).wd]
    exact wp b mb
  have hi : ∀ v ∈ (bs.map fun b => Value.ref b.1), ∀ u ∈ (bs.map fun b => Value.ref b.1), wdOf s.heap v = wdOf s.heap u → v = u := fun v mv u mu e => by
    obtain ⟨b, mb, rfl⟩ := List.mem_map.mp mv
    obtain ⟨c, mc, rfl⟩ := List.mem_map.mp mu
    rw [(wp b mb).wd, (wp c mc).wd] at e
    rw [nodup_inj nd b mb c mc e]
  refine SrtO.sorted_ord (ltS_swo (wdOf s.heap)) pl.isList hz (fun h2 h₁ l ho kk => ?_) fun out hs hbb => ?_
  · refine word_sortable (s := { s with heap := h₁ }) (by omega) (fun v m => ?_) hi (fun o e => ?_)
    · obtain ⟨p, t, y, e, o, ho, r⟩ := wv v m
      exact ⟨p, t, y, e, o, (kk p o ho).2, r⟩
    · have e' : some o = some (seqObj "list" _ 0) := e.symm.trans ho
      cases e'
      intro c
      nomatch (show False from absurd (Value.type.inj c) (by decide))
  · obtain ⟨bs', pm, rfl⟩ := perm_of_map (fun b : TP => Value.ref b.1) hbb.perm.symm bs rfl
    obtain ⟨c, hc⟩ := sortedAll_at s.heap (bs.map fun b => Value.ref b.1) (bs'.map fun b => Value.ref b.1).toArray
    have hl : bs'.length ≤ sizeLine := by rw [pm.length_eq]; simpa using hz
    refine ⟨.ref (s.heap.objs.size + 1), upd H (s.heap.objs.size + 1) (.lst (bs'.map fun b => V.ref b.1)), iv.laid (t' := s.toks) (fun b o e => sortedAll_old e) (Nat.le_succ _) ⟨by simpa using hl, bs'.map fun b => Value.ref b.1, c, ?_, hc⟩, rfl, q bs' pm ?_ _ (iv.hok.fresh (Nat.le_succ _))⟩
    · clear hs hbb pm hc hl
      induction bs' with
      | nil => exact .nil
      | cons b bs' ih => exact .cons rfl ih
    · rw [SrtO.Srtd, List.pairwise_map] at hs
      refine hs.imp_of_mem fun {x y} mx my h => ?_
      rw [(wp x (pm.mem_iff.mp mx)).wd, (wp y (pm.mem_iff.mp my)).wd] at h
      exact h
/-! ### sorted(l, key=lambda x: x[0]) of pairs (text, y), the texts apart -/
/-- the lambda's shape -/
structure Key0 (x : Str) (params : Arguments) (body : Expr) (scope : Scope) : Prop where
  bod : ∃ (p1 p2 p3 : Pos) (j : Nat), body = .Subscript (.Name x p1) (.Constant (.int 0) j p2) p3
  kind : scope.kind = .function
  (co : scope.isCoroutine = false)
  (gen : scope.isGenerator = false)
  noc : ∀ y ∈ scope.names, y.2 ≠ .cell
  nof : ∀ y ∈ scope.names, y.2 ≠ .free
  (loc : scope.names.lookup x = some .local)
  nd : (x == ("__debug__" : Str)) = false
  bind : ∀ (q : Str) (pm cv ctv : Value) (v : Value), bindArgs (PySem.W.kla_fn "<lambda>" q params body scope [] pm cv ctv) ⟨[v], []⟩ = pure [(x, v)]
section
variable {w : World} {prog : Program} {s : Shared} {A : Around}
theorem lam_key {x q : Str} {params : Arguments} {body : Expr} {scope : Scope} (k0 : Key0 x params body scope) {f c' : Addr} {pm ctv v : Value} {wd : Str} (hroom : A.depth < recursionLimit) (lim : s.heap.NoLimit) (hcode : s.heap.CodeRec (.ref c') q)
    (hf : s.heap.get? f = some (PySem.W.kla_obj "<lambda>" q params body scope [] pm c' ctv)) (hv : WP s.heap v wd) : wpAny (model prog w) A (call (.ref f) [v]) (PySem.W.KeyPure (.str wd) s) (fun _ _ => False) s := by
  obtain ⟨p1, p2, p3, j, rfl⟩ := k0.bod
  obtain ⟨a, t, y, rfl, ht⟩ := hv
  refine wpAny_call (PySem.W.kla_callFunE hroom hf rfl k0.co k0.gen rfl hcode ?_)
  rw [k0.bind]
  refine wpAny_pure (wpAny_newFunctionEnv k0.noc (fun z hz => by rw [List.mem_singleton.mp hz]; exact k0.loc) (fun h₁ hns hsb => ⟨lim.fresh _ hsb, ?_⟩) k0.kind)
  have kp : ∀ b o, s.heap.get? b = some o → h₁.get? b = some o := fun b o e => hsb.extBut b o (Nat.ne_of_lt (Heap.lt_size e)) (Heap.get?_push_of_some _ e); refine PySem.W.kla_codeExpr (Subscript_ (wpAny_Name (wpAny_loadName_local k0.kind k0.loc hns (v := .ref a) (by simp) ?_) k0.nd))
  refine wpAny_Constant_int ?_
  have ht' : IsTup h₁ a #[.str wd t, y] := ht.keeps kp
  refine subscriptTail_builtinR (x := .str wd t) ht'.typeIs slot_tuple_getitem.lookup (getItem_tuple (j := 0) ht' (by decide) (by decide) rfl rfl ⟨rfl, ?_⟩) (by rfl)
  exact ⟨h₁, _, rfl, kp, .str wd t⟩
end
/-- the table at P got one more code object, or nothing happened -/
inductive TbS (P : Addr) (H : Hp) : Hp → Prop
  | no : TbS P H H
  | yes {ps ps' : Array Value} {c : Addr} {q : Str} (hP : H P = some (.tbl ps)) (hc : H c = none) : TbS P H (upd (upd H P (.tbl ps')) c (CodeO c q))
section
variable {X : Cx} {pn : List (Addr × Obj)} {sg : L2.St} {H : Hp} {s : Shared}
/-- the lambda is made: cells code object is new, or found in the table; told with the step itself -/
theorem lam_make3 {T : List (Addr × Str)} {c P : Addr} {params : Arguments} {body : Expr} {scope : Scope} {pos : Pos} {E : Value → Shared → Prop} {Q : Value → Shared → Prop} {q : Str} (hq : q = X.env.qual ++ "<lambda>") (iv : Inv X pn sg H s) (B : TabB X.base X.mg c P) (hcode : X.env.code = .ref c)
    (hmm : (P, q) ∈ T) (hu : ∀ p ∈ T, p.1 = P → p.2 = q) (hT : Tabs T H) (hdef : defaultsOf params X.env = ([], [])) (hfree : ∀ y ∈ scope.names, y.2 = .free → ∃ c, X.env.cells.lookup y.1 = some c)
    (h : ∀ (f c' : Addr) (pm ctv : Value) (H1 : Hp) (s' : Shared), Inv X pn sg H1 s' → TbS P H H1 → Tabs T H1 → s'.heap.get? f = some (PySem.W.kla_obj "<lambda>" q params body scope (cloFrom X.env.cells scope.names []) pm c' ctv) → H1 f = none → f ∉ frs X.stack → H1 c' = some (CodeO c' q) → Q (.ref f) s') : wpAny (model X.prog X.w) X.A (eval (.Lambda params body scope pos) X.env) Q E s := by
  subst hq
  obtain ⟨ps, tP, tok, tin⟩ := hT _ hmm
  have tP2 : s.heap.get? P = some { cls := .none, data := .fields ps } := iv.hok P _ tP
  have off : ∀ f, s.heap.objs.size ≤ f → f ∉ frs X.stack := fun f hf z => by
    cases List.mem_cons.mp (iv.stkSub _ z) with
    | inl e => exact Nat.lt_irrefl _ (Nat.lt_of_lt_of_le (by have := iv.lt; rw [← e] at this; exact this) hf)
    | inr e => exact iv.nofs hf e
  have gl := iv.mod.glob.keeps iv.bk
  have bt := B.bm.keeps iv.bk
  have cd := B.code.keeps iv.bk
  apply PySem.W.kla_eval hdef
  match hc : codeAmong pos ps.toList with
  | some cv =>
    obtain ⟨d, rfl, hd⟩ := tin pos cv hc
    apply PySem.W.kla_makeFunctionHit (closure_ok hfree) iv.ok.glob gl hcode cd tP2 tok hc bt
    intro ctv h' tk kp sz
    exact h _ d _ ctv H _ (iv.kept fun b o e => Heap.get?_push_of_some _ (kp b o e)) .no hT (Heap.get?_push_size _ rfl) (iv.hok.fresh sz) (off _ sz) hd
  | none =>
    apply PySem.W.kla_makeFunction (closure_ok hfree) iv.ok.glob gl hcode cd tP2 tok hc B.gP bt
    intro d ctv h' tk ex ge lt rec tb
    obtain ⟨_, oc, vs, t, e, ho, hdat, hv⟩ := rec
    cases e
    have sz : s.heap.objs.size ≤ h'.objs.size := by omega
    have nd : H d = none := iv.hok.fresh ge
    have Pd : P ≠ d := ne_of_none tP nd
    have iv1 := inv_table (q := X.env.qual ++ "<lambda>") (t' := tk) (more := #[rawInt pos.line, rawInt pos.col, .ref d]) (h' := h'.push (PySem.W.kla_obj "<lambda>" (X.env.qual ++ "<lambda>") params body scope (cloFrom X.env.cells scope.names []) ((X.mg "__name__").getD .none) d ctv)) iv tP
      (fun b o hbb e => Heap.get?_push_of_some _ (ex b o hbb e)) (Heap.get?_push_of_some _ tb) ge ⟨oc, vs, t, Heap.get?_push_of_some _ ho, hdat, hv⟩
    refine h _ d _ ctv _ _ iv1 (.yes tP nd) (fun p hpp => ?_) (Heap.get?_push_size _ rfl) ?_ (off _ sz) upd_same
    · obtain ⟨ps2, a1, a2, a3⟩ := hT p hpp
      have code : ∀ c0 q0, H c0 = some (CodeO c0 q0) → upd (upd H P (.tbl (ps ++ #[rawInt pos.line, rawInt pos.col, .ref d]))) d (CodeO d (X.env.qual ++ "<lambda>")) c0 = some (CodeO c0 q0) := fun c0 q0 e => by
        rw [upd_ne (ne_of_none e nd), upd_ne (fun z => by subst z; rw [tP] at e; exact codeO_ne ps (Option.some.inj e).symm)]
        exact e
      by_cases e : p.1 = P
      · rw [e, tP] at a1
        cases a1
        rw [hu p hpp e] at a3 ⊢
        rw [e]
        have el : (ps ++ #[rawInt pos.line, rawInt pos.col, .ref d]).toList = ps.toList ++ [rawInt pos.line, rawInt pos.col, .ref d] := by simp
        refine ⟨_, by rw [upd_ne Pd, upd_same], ?_, fun p' cv hcv => ?_⟩
        · rw [el]
          exact PySem.TriplesOk_snoc _ _ _ _ tok
        · rw [el] at hcv
          cases among_app _ tok hcv with
          | inl z =>
            obtain ⟨c0, e1, e2⟩ := a3 p' cv z
            exact ⟨c0, e1, code _ _ e2⟩
          | inr z => exact ⟨d, z, upd_same⟩
      · refine ⟨ps2, by rw [upd_ne (ne_of_none a1 nd), upd_ne e]; exact a1, a2, fun p' cv hcv => ?_⟩
        obtain ⟨c0, e1, e2⟩ := a3 p' cv hcv; exact ⟨c0, e1, code _ _ e2⟩
    · rw [upd_ne (Nat.ne_of_gt lt), upd_ne (Nat.ne_of_gt (Nat.lt_of_lt_of_le (Heap.lt_size tP2) sz))]
      exact iv.hok.fresh sz
theorem each_of {α β : Type} {R : α → β → Prop} (f : β → α) : ∀ {l : List β}, (∀ b ∈ l, R (f b) b) → PySem.W.EachIs R (l.map f) l
  | [], _ => .nil
  | b :: l, h => .cons (h b List.mem_cons_self) (each_of f fun b m => h b (List.mem_cons_of_mem _ m))
theorem map_of_each {α β : Type} (f : β → α) : ∀ {as : List α} {bs : List β}, PySem.W.EachIs (fun a b => a = f b) as bs → as = bs.map f
  | _, _, .nil => rfl
  | _, _, .cons h t => by rw [h, map_of_each f t]; rfl
def tSortK (K : PySem.W.Frag) (T : List (Addr × Str)) (P : Addr) (tl : TA) : TE := fun sg H Q => tl sg H fun xs H1 => Tabs T H1 ∧ ∀ H2, TbS P H1 H2 → Tabs T H2 → rSortP K xs H2 Q
theorem pe_sortKey {T : List (Addr × Str)} {c P : Addr} {q x : Str} {e : Expr} {params : Arguments} {body : Expr} {scope : Scope} {lpos kpos p pos : Pos} {tl : TA} {k : Nat} (hr : Room (k + 3) X.A) (hg : Gl X "sorted") (hmg : X.mg "sorted" = none) (hl : PA X [e] tl) (K0 : Key0 x params body scope)
    (hq : q = X.env.qual ++ "<lambda>") (B : TabB X.base X.mg c P) (hcode : X.env.code = .ref c) (hmm : (P, q) ∈ T) (hu : ∀ p ∈ T, p.1 = P → p.2 = q) (hdef : defaultsOf params X.env = ([], []))
    (he : backTo pos (starEach [e] X.env) = (false, eval e X.env) :: backTo pos (starEach [] X.env) := by rfl) (hpl : (backTo pos (starEach [e] X.env)).any (·.1) = false := by rfl) :
    PE X (.Call (.Name "sorted" p) [e] [⟨some "key", .Lambda params body scope lpos, kpos⟩] pos) (tSortK X.K T P tl) := by
  refine ⟨fun pn s sg H Q iv h => ?_⟩
  refine wpAny_Call_Name_kw (ld_blt iv hg hmg (by decide +kernel : bootBuiltins "sorted" = some (.builtin "sorted")) ?_ (by decide) (by decide))
  refine PyProof.Rows.callWith_kw (thn (hl.run pos pn s sg H _ iv h) fun us s1 ⟨vs, H1, iv1, r1, hT, q1⟩ => ?_) he hpl (by rfl) (by rfl)
  show wpAny _ _ (evalAll ((do let v ← eval (.Lambda params body scope lpos) X.env; standAt pos; pure v) :: [])) _ _ s1
  refine wpAny_evalAll_cons (wpAny_bind (lam_make3 hq iv1 B hcode hmm hu hT hdef (fun y hy z => absurd z (K0.nof y hy)) fun f c' pm ctv H2 s2 I2 tb T2 hf hfn hfr hco => wpAny_bind (wpAny_standAt (wpAny_pure ?_))))
  refine wpAny_evalAll_nil ?_
  obtain ⟨a, bs, ex, hq2, hpp, nd, q2⟩ := q1 H2 tb T2
  subst ex
  obtain ⟨u, eu, rx⟩ := vals1 r1
  subst eu
  cases rx
  show wpAny _ _ (call (.builtin "sorted") [.ref a] [(Str.ofString "key", .ref f)]) _ _ s2
  have hcl : cloFrom X.env.cells scope.names [] = [] := by
    cases hc : cloFrom X.env.cells scope.names [] with
    | nil => rfl
    | cons y r =>
      have hy : y ∈ cloFrom X.env.cells scope.names [] := by rw [hc]; exact List.mem_cons_self
      rcases cloFrom_mem (n := y.1) (c := y.2) hy with h1 | ⟨h1, _⟩
      · cases h1
      · exact absurd rfl (K0.nof _ h1)
  rw [hcl] at hf
  obtain ⟨cells, rdv, pl, hz⟩ := I2.list hq2
  have e1 : (bs.map fun b => V.ref b.1) = (bs.map (·.1)).map V.ref := by rw [List.map_map]; rfl
  rw [e1] at rdv
  have ei := refs_at rdv
  have ei : cells = bs.map fun b => Value.ref b.1 := by rw [ei, List.map_map]; rfl
  subst ei
  have hz : bs.length ≤ sizeLine := by simpa using hz
  have wp : ∀ b ∈ bs, WP s2.heap (.ref b.1) b.2.1 := fun b m => by
    obtain ⟨cells, r, t, _⟩ := I2.tuple (hpp b m)
    obtain ⟨u, y, ei, ru, ry⟩ := vals2 r
    subst ei
    obtain ⟨t1, rfl⟩ := (show ∃ t, u = Value.str b.2.1 t from ru)
    exact ⟨b.1, t1, y, rfl, t⟩
  obtain ⟨⟨oc, cs, t, ho, hdat, hv⟩, _, _⟩ := I2.hok c' _ hco
  refine PySem.W.sorted_key_data (b := false) (R := fun v (b : TP) => v = .ref b.1) (bs := bs) (fun b : TP => .str b.2.1) pl.isList (each_of (fun b : TP => Value.ref b.1) fun b m => rfl) ?_ ?_ hz (fun b m => ?_) (PyProof.Rows.ksk_s1 _ _) (fun _ => PyProof.Rows.ksk_l1 _ _) (fun _ => PyProof.Rows.ksk_t1 _ _) (fun v b hvb hbb h tk kp => ?_) fun out cc h' tk kp fresh hD lenle eo => ?_
  · exact PySem.W.AllAlike.of fun _ _ => by simp [PySem.W.alike]
  · exact .inr fun d hd => by
      obtain ⟨b, _, rfl⟩ := List.mem_map.mp hd; exact ⟨(fun z => by cases z), fun _ z => by cases z⟩
  · have := hr.un
    simp only [PyData.depth]
    omega
  · subst hvb
    refine lam_key K0 (hr.in1.in1.depth) (I2.nolimit.keeps kp) ⟨c', oc, cs, t, rfl, kp _ _ ho, hdat, hv⟩ (kp _ _ hf) ?_
    obtain ⟨p, t1, y, e, o, ho, r⟩ := wp b hbb
    exact ⟨p, t1, y, e, o, kp _ _ ho, r⟩
  · have eo2 := map_of_each (fun b : TP => Value.ref b.1) eo
    subst eo2
    have pm : (bs.mergeSort (PySem.W.dataLe false fun b : TP => .str b.2.1)).Perm bs := List.mergeSort_perm _ _
    have so : (bs.mergeSort (PySem.W.dataLe false fun b : TP => .str b.2.1)).Pairwise (fun p q => ltS q.2.1 p.2.1 = false) := by
      rw [PySem.W.dataLe_str]
      refine (List.pairwise_mergeSort (le := fun a b : TP => decide (a.2.1.cps.toList ≤ b.2.1.cps.toList)) (fun a b c h1 h2 => ?_) (fun a b => ?_) bs).imp fun {p q} h => ?_
      · exact decide_eq_true (List.le_trans (of_decide_eq_true h1) (of_decide_eq_true h2))
      · rcases List.le_total a.2.1.cps.toList b.2.1.cps.toList with h | h
        · rw [decide_eq_true h]; rfl
        · rw [decide_eq_true h, Bool.or_true]
      · unfold ltS
        exact decide_eq_false (List.not_lt.mpr (of_decide_eq_true h))
    generalize bs.mergeSort (PySem.W.dataLe false fun b : TP => .str b.2.1) = ord at *
    have hl2 : ord.length ≤ sizeLine := by rw [pm.length_eq]; exact hz
    refine ⟨.ref (s2.heap.objs.size + 1), _, I2.laid (t' := tk) (a := s2.heap.objs.size + 1) (o := .lst (ord.map fun b => V.ref b.1)) kp (Nat.le_succ _) ⟨by simpa using hl2, _, cc, ?_, hD⟩, rfl, q2 ord pm so _ (I2.hok.fresh (Nat.le_succ _))⟩
    clear pm so hl2 hD eo lenle
    induction ord with
    | nil => exact .nil
    | cons b bs' ih => exact .cons rfl ih
end
/-! ### over data -/
def wpD (p : Str × D) : D := .tup [.str p.1, p.2]
def lookD (ps : List (Str × D)) (w : Str) : Option D := (ps.find? fun p => decide (p.1 = w)).map (·.2)
section
variable {K : PySem.W.Frag} {M M' : Addr → Prop} {B : Addr → Prop} {as : List Addr} {h : AH} {H H' : Hp}
/-- pairs in the heap, and as data -/
def Prs (K : PySem.W.Frag) (M : Addr → Prop) (H : Hp) (zs : List (TP × (Str × D))) : Prop := ∀ z ∈ zs, TupAt K H z.1.1 [.str z.1.2.1, z.1.2.2] ∧ z.1.2.1 = z.2.1 ∧ Fz K M H z.1.2.2 z.2.2
theorem prs_of : ∀ {vs : List V} {ps : List (Str × D)}, FzL K M H vs (ps.map wpD) → ∃ zs : List (TP × (Str × D)), vs = zs.map (fun z => V.ref z.1.1) ∧ ps = zs.map (·.2) ∧ Prs K M H zs
  | vs, [], h => by
    cases h
    exact ⟨[], rfl, rfl, fun z m => by cases m⟩
  | vs, p :: ps, h => by
    cases h with
    | @cons v vs _ _ h t =>
      obtain ⟨zs, e1, e2, q⟩ := prs_of t
      unfold wpD at h
      cases h with
      | @tup a xs _ hs ha =>
        cases ha with
        | @cons v1 vs1 _ _ h1 t1 =>
          cases h1
          cases t1 with
          | @cons v2 vs2 _ _ h2 t2 =>
            cases t2
            refine ⟨((a, p.1, v2), p) :: zs, by rw [e1]; rfl, by rw [e2]; rfl, fun z m => ?_⟩
            rcases List.mem_cons.mp m with m | m
            · subst m
              exact ⟨hs, rfl, h2⟩
            · exact q z m
theorem Prs.fz {zs : List (TP × (Str × D))} (h : Prs K M H zs) : FzL K M H (zs.map fun z => V.ref z.1.1) ((zs.map (·.2)).map wpD) := by
  induction zs with
  | nil => exact .nil
  | cons z zs ih =>
    obtain ⟨h1, h2, h3⟩ := h z List.mem_cons_self
    refine .cons (.tup h1 (.cons ?_ (.cons h3 .nil))) (ih fun y m => h y (List.mem_cons_of_mem _ m))
    rw [h2]
    exact .str _
theorem Prs.keeps {zs : List (TP × (Str × D))} (p : Prs K M H zs) (x : Keeps M H H') (n : ∀ a o, H a = some o → M' a → M a) : Prs K M' H' zs := fun z m => ⟨x.tupAt (p z m).1, (p z m).2.1, (p z m).2.2.keeps x n⟩
theorem Prs.words {zs : List (TP × (Str × D))} (h : Prs K M H zs) : (zs.map (·.1)).map (·.2.1) = (zs.map (·.2)).map (·.1) := by
  rw [List.map_map]
  rw [List.map_map]
  exact List.map_congr_left fun z m => (h z m).2.1
theorem Prs.paired : ∀ {zs : List (TP × (Str × D))}, Prs K M H zs → Paired (fun p (kv : Key × V) => SqT K H p [kV kv.1, kv.2]) (zs.map (·.1.1)) (zs.map (fun z => ((.inr z.1.2.1 : Key), z.1.2.2)))
  | [], _ => .nil
  | z :: zs, h => .cons (h z List.mem_cons_self).1.1 (Prs.paired fun y m => h y (List.mem_cons_of_mem _ m))
/-- sorted(l): l a list of pairs (text, x), the texts apart -/
def fSortD : List D → (D → Prop) → Prop
  | [.lst xs], Q => ∃ ps : List (Str × D), xs = ps.map wpD ∧ (ps.map (·.1)).Nodup ∧ ∀ ps' : List (Str × D), ps'.Perm ps → ps'.Pairwise (fun p q => ltS q.1 p.1 = false) → Q (.lst (ps'.map wpD))
  | _, _ => False
theorem d_sorted : CallD K (rSortP K) fSortD := by
  intro B as h H vs ds Q Qd hr dm fs w k
  match ds, w with
  | [.lst xs], w =>
    obtain ⟨v, rfl, f⟩ := one_of fs
    obtain ⟨p, vs, rfl, h1, f1⟩ := f.lst
    obtain ⟨ps, rfl, nd, w⟩ := w
    obtain ⟨zs, rfl, rfl, pr⟩ := prs_of f1
    refine ⟨p, zs.map (·.1), rfl, by rw [List.map_map]; exact SqL.of h1, fun b m => ?_, by rw [pr.words]; exact nd, fun out pm so l hl => ?_⟩
    · obtain ⟨z, mz, rfl⟩ := List.mem_map.mp m
      exact (pr z mz).1.1
    · obtain ⟨zs', pm', e⟩ := perm_of_map (fun z : TP × (Str × D) => z.1) pm.symm zs rfl
      subst e
      have pr' : Prs K (Mx B as h) H zs' := fun z m => pr z (pm'.mem_iff.mp m)
      have g : Go K B as h H h (upd H l (.lst ((zs'.map (·.1)).map fun b => V.ref b.1))) := .new hr hl
      have f2 := (pr'.keeps g.kw g.mx).fz
      rw [show (zs'.map fun z => V.ref z.1.1) = (zs'.map (·.1)).map fun b => V.ref b.1 by rw [List.map_map]; rfl] at f2
      refine k _ _ _ g (.lst (fun m => dm _ m hl) upd_same f2) (w _ (pm'.map _) ?_)
      rw [List.pairwise_map] at so ⊢
      refine so.imp_of_mem fun {x y} mx my z => ?_
      rw [← (pr' x mx).2.1, ← (pr' y my).2.1]
      exact z
/-- a code table's step -/
theorem TbS.go {P : Addr} {q : Str} (x : TbS P H H') (hr : HR K (Mx B as h) h H) (e : h P = some (.tb q)) (t : TabS H' P q) : Go K B as h H h H' := by
  cases x with
  | no => exact .refl hr
  | @yes ps ps' c q' hP hc =>
    have key : ∀ a o, H a = some o → a ≠ P → upd (upd H P (.tbl ps')) c (CodeO c q') a = some o := fun a o z n => by rw [upd_ne (ne_of_none z hc), upd_ne n]; exact z
    have off : ∀ {a o}, H a = some o → (∀ ps, o ≠ .tbl ps) → a ≠ P := fun {a o} z n y => by rw [y, hP] at z; cases z; exact n _ rfl
    have kp : Keeps (Dom h) H (upd (upd H P (.tbl ps')) c (CodeO c q')) := ⟨fun a xs z => key a _ z (off z fun _ y => by cases y), fun a o u z => key a _ z (off z fun _ y => by cases y), fun a o z n => key a _ z (fun y => n (by rw [y]; show h P ≠ none; rw [e]; exact fun w => by cases w)), fun a φ z => key a _ z (off z fun _ y => by cases y)⟩
    refine ⟨kp, fun _ m => m, fun _ _ _ m => m, fun a o z => ?_⟩
    rcases Classical.em (a = P) with y | y
    · subst y
      rw [e] at z
      cases z
      exact t
    · exact (hr a o z).keeps (kp.weak fun _ _ _ m => .inr (.inr m)) (fun _ _ _ m => m) (fun u w => key a u w y) fun b w => key b _ w (off w fun _ y => by cases y)
end
section
variable {X : Cx} {W : WX} {e a b o : Expr} {es : List Expr} {g ga gb go ge : DE} {gs : DA} {pos : Pos}
theorem c_sorted {p : Pos} (F : Fr X.mg) (ha : PA X (e :: es) (uv X.K W gs)) (hg : Gl X "sorted" := by rfl) (he : starEach (e :: es) X.env = (false, eval e X.env) :: starEach es X.env := by rfl) (hpl : (backTo pos (starEach es X.env)).any (·.1) = false := by rfl) :
    PE X (.Call (.Name "sorted" p) (e :: es) [] pos) (up X.K W (dCall fSortD gs)) := e_blt call_sortP d_sorted hg F.sorted (by decide +kernel) ha (by decide) (by decide) he hpl
/-- sorted(l, key=lambda p: p[0]); P: the table of the def's code objects -/
def dSortK (P : Addr) (q : Str) (gs : DA) : DE := fun ρ h Q E => gs ρ h (fun ds h1 => h1 P = some (.tb q) ∧ fSortD ds fun d => Q d h1) E
theorem e_sortKey {c P : Addr} {q x : Str} {params : Arguments} {body : Expr} {scope : Scope} {lpos kpos p : Pos} {k : Nat} (F : Fr X.mg) (hr : Room (k + 3) X.A) (hl : PA X [e] (uv X.K W gs)) (B : TabB X.base X.mg c P) (hcode : X.env.code = .ref c)
    (K0 : Key0 x params body scope) (hq : q = X.env.qual ++ "<lambda>") (hdef : defaultsOf params X.env = ([], [])) (hg : Gl X "sorted" := by rfl)
    (he : backTo pos (starEach [e] X.env) = (false, eval e X.env) :: backTo pos (starEach [] X.env) := by rfl) (hpl : (backTo pos (starEach [e] X.env)).any (·.1) = false := by rfl) :
    PE X (.Call (.Name "sorted" p) [e] [⟨some "key", .Lambda params body scope lpos, kpos⟩] pos) (up X.K W (dSortK P q gs)) :=
  (pe_sortKey (T := [(P, q)]) hr hg F.sorted hl K0 hq B hcode List.mem_cons_self (fun p m _ => by rw [List.mem_singleton.mp m]) hdef he hpl).to fun σ H Q ⟨B, as, h, ρ, Qd, Ed, rp, w, kk, xx⟩ => ⟨B, as, h, ρ, _, Ed, rp, w, fun vs ds h1 H1 x fs ⟨eP, qq⟩ => ⟨fun p m => by
    rw [List.mem_singleton.mp m]
    exact x.hr P _ eP, fun H2 tb T2 => by
    have y := tb.go x.hr eP (T2 (P, q) List.mem_cons_self)
    exact d_sorted B as h1 H2 vs ds Q _ y.hr (rp.go (x.trans y)).dm (fs.go y).ws qq fun v d H3 z f q => kk v d h1 H3 ((x.trans y).trans z) f q⟩, xx⟩
/-- dict(m).get(w): m a tuple of pairs -/
def ofStr : D → (Str → Prop) → Prop
  | .str w, Q => Q w
  | _, _ => False
def ofPairs : D → (List (Str × D) → Prop) → Prop
  | .tup xs, Q => ∃ ps : List (Str × D), xs = ps.map wpD ∧ (ps.map (·.1)).Nodup ∧ Q ps
  | _, _ => False
def dPget (ga gb : DE) : DE := fun ρ h Q E => ga ρ h (fun d h1 => ofPairs d fun ps => gb ρ h1 (fun y h2 => ofStr y fun w => Q ((lookD ps w).getD .non) h2) E) E
theorem mergeK_nodup : ∀ (more acc : List (Key × V)), ((acc ++ more).map (·.1)).Nodup → mergeK acc more = acc ++ more
  | [], acc, _ => by simp [mergeK]
  | p :: more, acc, h => by
    have e : putK acc p.1 p.2 = acc ++ [p] := by
      unfold putK
      have : (acc.any fun kv => decide (kv.1 = p.1)) = false := by
        rw [List.any_eq_false]
        intro x hx hd
        have e := of_decide_eq_true hd
        rw [List.map_append, List.map_cons, List.nodup_append] at h
        exact h.2.2 _ (List.mem_map_of_mem hx) _ List.mem_cons_self e
      rw [if_neg (by rw [this]; exact Bool.false_ne_true)]
    show mergeK (putK acc p.1 p.2) more = _
    rw [e, mergeK_nodup more (acc ++ [p]) (by rw [List.append_assoc]; exact h), List.append_assoc]
    rfl
theorem look_fz {K : PySem.W.Frag} {M : Addr → Prop} {H : Hp} {w : Str} : ∀ {zs : List (TP × (Str × D))}, Prs K M H zs → Fz K M H ((valV (zs.map fun z => ((.inr z.1.2.1 : Key), z.1.2.2)) (.inr w)).getD .non) ((lookD (zs.map (·.2)) w).getD .non)
  | [], _ => .non
  | z :: zs, h => by
    have ih := look_fz (w := w) fun y m => h y (List.mem_cons_of_mem _ m)
    obtain ⟨_, e, f⟩ := h z List.mem_cons_self
    unfold valV lookD at ih ⊢
    rw [List.map_cons, List.map_cons, List.find?_cons, List.find?_cons, ← e]
    by_cases hw : z.1.2.1 = w
    · subst hw
      simpa using f
    · have h1 : (decide ((.inr z.1.2.1 : Key) = .inr w)) = false := decide_eq_false fun q => hw (by injection q)
      have h2 : decide (z.1.2.1 = w) = false := decide_eq_false hw
      rw [h1, h2]
      exact ih
theorem e_pget {apos p : Pos} {pos2 : Pos} (F : Fr X.mg) (C : CxN X W) (hu : X.A.units + 1 < cLine) (ha : PE X a (uw X.K W ga)) (hb : PE X b (uw X.K W gb)) (m : M1 X (.Call (.Name "dict" p) [a] [] pos2) "get" apos b pos) (hg : Gl X "dict" := by rfl)
    (he : starEach [a] X.env = (false, eval a X.env) :: starEach [] X.env := by rfl) (hpl : (backTo pos2 (starEach ([] : List Expr) X.env)).any (·.1) = false := by rfl) :
    PE X (.Call (.Attribute (.Call (.Name "dict" p) [a] [] pos2) "get" apos) [b] [] pos) (up X.K W (dPget ga gb)) := by
  refine (pe_dget1 hu (pe_callTy (call_dictT C.cm) hg F.dict (by decide +kernel) (pa_cons ha pa_nil he) (by decide) (by decide) he hpl) hb m).to fun σ H Q ⟨B, as, h, ρ, Qd, Ed, rp, w, k, xx⟩ => ⟨B, as, h, ρ, _, Ed, rp, w, fun v d h1 H1 x f q => ?_, xx⟩
  cases d with
  | tup xs =>
    obtain ⟨ps, e, nd, q2⟩ := (show ∃ ps : List (Str × D), xs = ps.map wpD ∧ (ps.map (·.1)).Nodup ∧ gb ρ h1 _ _ from q)
    subst e
    obtain ⟨a, vs, rfl, t1, f1⟩ := f.tup
    obtain ⟨zs, rfl, rfl, pr⟩ := prs_of f1
    refine ⟨a, zs.map (·.1.1), zs.map (fun z => ((.inr z.1.2.1 : Key), z.1.2.2)), rfl, by rw [List.map_map]; exact t1, pr.paired, fun p hp => ?_⟩
    have nd2 : ((([] : List (Key × V)) ++ zs.map (fun z => ((.inr z.1.2.1 : Key), z.1.2.2))).map (·.1)).Nodup := by
      rw [List.nil_append]
      rw [List.map_map] at nd ⊢
      have e : (zs.map ((fun p : Key × V => p.1) ∘ fun z : TP × (Str × D) => ((.inr z.1.2.1 : Key), z.1.2.2))) = (zs.map ((fun p : Str × D => p.1) ∘ fun z : TP × (Str × D) => z.2)).map Sum.inr := by
        rw [List.map_map]
        exact List.map_congr_left fun z m => by
          show (Sum.inr z.1.2.1 : Key) = Sum.inr z.2.1
          rw [(pr z m).2.1]
      rw [e]
      exact List.pairwise_map.mpr (nd.imp fun h e => h (by injection e))
    rw [mergeK_nodup _ [] nd2, List.nil_append]
    have y : Go X.K B as h1 H1 h1 (upd H1 p (.dK (zs.map (fun z => ((.inr z.1.2.1 : Key), z.1.2.2))))) := .new x.hr hp
    refine ⟨p, rfl, .inl ⟨_, .inl upd_same⟩, B, as, h1, ρ, _, Ed, rp.go (x.trans y), q2, fun v d h2 H2 z f q => ?_, xx.go (x.trans y)⟩
    cases d with
    | str s =>
      rw [f.str]
      have hd : H2 p = some (.dK (zs.map (fun z => ((.inr z.1.2.1 : Key), z.1.2.2)))) := z.k.ke _ _ upd_same (fun m => x.hr.dom m hp)
      have yz := y.trans z
      exact ⟨_, DGet.k (k := .inr s) hd, k _ _ h2 H2 (x.trans yz) (look_fz (pr.keeps yz.kw yz.mx)) q⟩
    | _ => exact q.elim
  | _ => exact q.elim
/-- a dict of the module: texts to ints -/
def MD (K : PySem.W.Frag) (w : World) (mg : Str → Option Value) (x : Str) (kvs : List (Str × Int)) : Prop := ∃ (d : Addr) (es : Array DictEntry) (n : Nat), mg x = some (.ref d) ∧ KDict K w d es n ∧ ∀ z : Str, (∀ i, kvs.lookup z = some i → ∃ t, PySem.W.nsIn K d z = some (some (.int i t))) ∧ (kvs.lookup z = none → PySem.W.nsIn K d z = some none)
def bMdNot (kvs : List (Str × Int)) (ga : DE) : DT := fun ρ h Q E => ga ρ h (fun d h1 => ofStr d fun s => Q (!(kvs.lookup s).isSome) h1) E
def dMdIx (kvs : List (Str × Int)) (ga : DE) : DE := fun ρ h Q E => ga ρ h (fun d h1 => ofStr d fun s => ofO (kvs.lookup s) fun i => Q (.int i) h1) E
theorem t_mdNot {x : Str} {p : Pos} {kvs : List (Str × Int)} (M : MD X.K X.w X.mg x kvs) (ha : PE X a (uw X.K W ga)) (hg : Gl X x := by rfl) (hd : (x == ("__debug__" : Str)) = false := by decide) (hm : behindInMarks .NotIn (.Name x p) = false := by first | exact nomark _ | rfl) :
    PT X (.Compare a [.NotIn] [.Name x p] pos) (ut X.K W (bMdNot kvs ga)) := by
  obtain ⟨d, es, n, hmg, hk, hz⟩ := M
  refine (pt_cmpR (op_notIn_kd hk) ha (pe_glob (v := .ref d) hg hmg rfl hd) hm).to fun σ H Q ⟨B, as, h, ρ, Qd, Ed, rp, w, k, xx⟩ => ⟨B, as, h, ρ, _, Ed, rp, w, fun v y h1 H1 x f q => ?_, xx⟩
  cases y with
  | str s =>
    have q : Qd (!(kvs.lookup s).isSome) h1 := q
    obtain ⟨z1, z2⟩ := hz s
    cases e : kvs.lookup s with
    | some i =>
      obtain ⟨t, e2⟩ := z1 i e
      rw [e] at q
      exact ⟨s, _, f.str, rfl, e2, _, rfl, k _ h1 H1 x q⟩
    | none =>
      rw [e] at q
      exact ⟨s, _, f.str, rfl, z2 e, _, rfl, k _ h1 H1 x q⟩
  | _ => exact q.elim
theorem e_mdIx {x : Str} {p : Pos} {kvs : List (Str × Int)} (M : MD X.K X.w X.mg x kvs) (ha : PE X a (uw X.K W ga)) (hg : Gl X x := by rfl) (hd : (x == ("__debug__" : Str)) = false := by decide) (hs : PlainIx a := by intro _ _; rfl) :
    PE X (.Subscript (.Name x p) a pos) (up X.K W (dMdIx kvs ga)) := by
  obtain ⟨d, es, n, hmg, hk, hz⟩ := M
  refine (pe_ix ix_kdict (pe_glob (v := .ref d) hg hmg rfl hd) ha hs).to fun σ H Q ⟨B, as, h, ρ, Qd, Ed, rp, w, k, xx⟩ => ⟨B, as, h, ρ, _, Ed, rp, w, fun v y h1 H1 x f q => ?_, xx⟩
  cases y with
  | str s =>
    obtain ⟨i, e, q⟩ := ofO_ok (show ofO (kvs.lookup s) (fun i => Qd (.int i) h1) from q)
    obtain ⟨t, e2⟩ := (hz s).1 i e
    exact ⟨d, s, .int i, rfl, f.str, ⟨es, n, _, hk.at_, hk.lit, e2, ⟨t, rfl⟩⟩, k _ _ h1 H1 x (.int i) q⟩
  | _ => exact q.elim
/-- -1 -/
theorem c_neg {i : Int} {j : Nat} {p : Pos} : PE X (.UnaryOp .USub (.Constant (.int i) j p) pos) (up X.K W (dC (.int (-i)))) :=
  (pe_un un_neg pe_int).to fun σ H Q ⟨B, as, h, ρ, Qd, Ed, rp, w, k, xx⟩ => ⟨i, rfl, k _ _ h H (.refl rp.hr) (.int _) w⟩
/-- sep.join(l) -/
def dJoin (go ge : DE) : DE := fun ρ h Q E => go ρ h (fun x h1 => ofStr x fun s => ge ρ h1 (fun y h2 => match y with
  | .lst xs => ∃ ys : List Str, xs = ys.map D.str ∧ (ys.map (·.length)).sum + ys.length * s.length ≤ 16777216 ∧ Q (.str (Txt.join s ys)) h2
  | _ => False) E) E
theorem e_join {apos : Pos} (ho : PE X o (uw X.K W go)) (he : PE X e (uw X.K W ge)) (hs : starEach [e] X.env = [(false, eval e X.env)] := by rfl) (hbase : attributeBase o "join" X.env (eval o X.env) = eval o X.env := by rfl) (hline : (apos.endLine == pos.line) = true := by rfl) :
    PE X (.Call (.Attribute o "join" apos) [e] [] pos) (up X.K W (dJoin go ge)) :=
  (pe_join ho he hs hbase hline).to fun σ H Q ⟨B, as, h, ρ, Qd, Ed, rp, w, k, xx⟩ => ⟨B, as, h, ρ, _, Ed, rp, w, fun v d h1 H1 x f q => by
    cases d with
    | str s =>
      refine ⟨⟨s, f.str⟩, B, as, h1, ρ, _, Ed, rp.go x, q, fun v2 d2 h2 H2 y f2 q2 => ?_, xx.go x⟩
      cases d2 with
      | lst xs =>
        obtain ⟨ys, e, hz, q2⟩ := q2
        subst e
        obtain ⟨p, vs, rfl, l1, f3⟩ := f2.lst
        have e2 := f3.ofStrs rfl
        subst e2
        exact ⟨s, p, ys, f.str, rfl, .inl (SqL.of l1), hz, k _ _ h2 H2 (x.trans y) (.str _) q2⟩
      | _ => exact q2.elim
    | _ => exact q.elim, xx⟩
end
/-! ### defs that make a lambda -/
/-- where such a def stands; its code objects' table is at P0 -/
def LamA (K : PySem.W.Frag) (mg : Str → Option Value) (base : Heap) (x : Str) (P0 : Addr) (st : Stmt) : Prop := ∃ f fd c, DefP K x st f fd ∧ mg x = some (.ref f) ∧ fd.code = .ref c ∧ TabB base mg c P0
/-- a promise by data, where the table stands -/
def tab1 (P0 : Addr) (q : Str) (G : List D → (D → Prop) → Prop) : SG := fun ds h Q _ => h P0 = some (.tb q) ∧ G ds fun d => Q d h
theorem Dn.ofC {P : Program} {w : World} {K : PySem.W.Frag} {mg : Str → Option Value} {base : Heap} {x : Str} {st : Stmt} {N ps : List Str} {k : Nat} {G : SG} {P0 : Addr} {g : DS} (L : LamA K mg base x P0 st) (S : FnScope N ps (defScope st)) (hl : ∀ {f : Addr} {fd : FuncData}, DefP K x st f fd → Binds K fd ps [])
    (hb : ∀ (f c : Addr) (A : Around) (outer : List Env) (s : Shared) (H : Hp) (E : XK), TabB base mg c P0 → Room k (A.deeper (envOfC x (defScope st) s.heap.objs.size f (.ref c))) → CxN (cxN P w K mg base N x (defScope st) f (.ref c) A outer s H E) (wE E) →
      PSs (cxN P w K mg base N x (defScope st) f (.ref c) A outer s H E) (defBody st) (us K (wE E) g)) (i : ∀ ds h Q E, G ds h Q E → ds.length = ps.length ∧ run (lenN N) g ds h Q E) : Dn P w K mg base (k + 1) x ps G := by
  obtain ⟨f, fd, c, F, hm, hc, tB⟩ := L
  exact ⟨f, fd, (FnN.made F S fun cdv A outer s H E e r C => by
    obtain rfl : .ref c = cdv := hc.symm.trans e
    exact hb f c A outer s H E tB r C).imp fun ds h Q E q => by rw [← lenN_eq N]; exact i ds h Q E q, hm, F.kp, hl F⟩
end NL
set_option Elab.async false
set_option linter.all false
set_option maxRecDepth 100000
set_option maxHeartbeats 2300000
/-! N20: int(x), max(x, y); loops with an invariant; a law's deck. -/
namespace NL
open PyProof.Rows L2 PySem PySem.Spec
/-- int(i) -/
def fInt : List D → (D → Prop) → Prop
  | [.int i], Q => Q (.int i)
  | _, _ => False
abbrev rInt : List V → Hp → VK → Prop := fun xs H Q => (∃ i, xs = [.int i] ∧ Q (.int i) H) ∨ ∃ k, xs = [.bl k] ∧ Q (.int (if k then 1 else 0)) H
theorem d_int {K : PySem.W.Frag} : CallD K rInt fInt := by
  intro B as h H vs ds Q Qd hr dm fs w k
  match ds, w with
  | [.int i], w =>
    obtain ⟨v, rfl, f⟩ := one_of fs
    exact .inl ⟨i, by rw [f.int], k _ _ H (.refl hr) (.int i) w⟩
/-- max(i, j) -/
def fMax : List D → (D → Prop) → Prop
  | [.int i, .int j], Q => Q (.int (if j > i then j else i))
  | _, _ => False
abbrev rMax : List V → Hp → VK → Prop := fun xs H Q => ∃ i j, xs = [.int i, .int j] ∧ Q (.int (if j > i then j else i)) H
theorem d_max {K : PySem.W.Frag} : CallD K rMax fMax := by
  intro B as h H vs ds Q Qd hr dm fs w k
  match ds, w with
  | [.int i, .int j], w =>
    obtain ⟨v, u, rfl, f, g⟩ := two_of fs
    exact ⟨i, j, by rw [f.int, g.int], k _ _ H (.refl hr) (.int _) w⟩
section
variable {X : Cx} {W : WX} {e : Expr} {es : List Expr} {gs : DA} {p pos : Pos}
theorem c_toint (F : Fr X.mg) (ha : PA X (e :: es) (uv X.K W gs)) (hg : Gl X "int" := by rfl) (he : starEach (e :: es) X.env = (false, eval e X.env) :: starEach es X.env := by rfl) (hpl : (backTo pos (starEach es X.env)).any (·.1) = false := by rfl) :
    PE X (.Call (.Name "int" p) (e :: es) [] pos) (up X.K W (dCall fInt gs)) := e_ty call_int1 d_int hg F.int (by decide +kernel) ha (by decide) (by decide) he hpl
theorem c_max (F : Fr X.mg) (c : CxN X W) (ha : PA X (e :: es) (uv X.K W gs)) (hg : Gl X "max" := by rfl) (he : starEach (e :: es) X.env = (false, eval e X.env) :: starEach es X.env := by rfl) (hpl : (backTo pos (starEach es X.env)).any (·.1) = false := by rfl) :
    PE X (.Call (.Name "max" p) (e :: es) [] pos) (up X.K W (dCall fMax gs)) := e_blt (call_max2 c.cm) d_max hg F.max (by decide +kernel) ha (by decide) (by decide) he hpl
end
/-! ### x, y = e, [..], y a list of one's own -/
section
variable {X : Cx} {W : WX} {a b tg : Expr} {ga : DE} {gs : DA} {pos pt2 : Pos} {i j k2 : Nat}
theorem st_asgO (ha : PE X a (up X.K W ga)) (hb : PE X b (un X.K W gs)) (hg : PG X tg (gTup X.K 2 (gCons (gName i) (gCons (gName j) gNil))))
    (s1 : starEach [a, b] X.env = (false, eval a X.env) :: starEach [b] X.env := by rfl) (s2 : starEach [b] X.env = (false, eval b X.env) :: starEach [] X.env := by rfl)
    (hs : swapsWithSole [tg] (.Tuple [a, b] k2 pt2) pos.line X.env = pure false := by rfl) (hw : swappedStores [tg] (.Tuple [a, b] k2 pt2) X.env = pure none := by rfl)
    (hm : (assignEach [tg] X.env).map (·.2) = [assign tg X.env] := by rfl) : PS X (.Assign [tg] (.Tuple [a, b] k2 pt2) pos) (us X.K W (sAsgO i j ga gs)) :=
  (ps_asg (pe_fresh (pa_cons ha (pa_cons hb pa_nil s2) s1)) hg hs hw hm).to fun D σ H ⟨B, as, h, ρ, E, rp, w, k⟩ => ⟨B, as, h, ρ, _, _, rp, w, fun v d h1 H1 x f q => ⟨B, as, h1, ρ, _, _, rp.go x, q, fun p vs ds h2 H2 y n e m r fs q2 => ⟨by rw [sizeLine_eq]; show 2 ≤ _; decide, fun t ob ht hd => by
    have z : Go X.K B as h2 H2 h2 (upd H2 t (.frz ob (.tup [v, .ref p]))) := .new y.hr ht
    refine ⟨t, [v, .ref p], rfl, .inl (.inr ⟨_, upd_same⟩), rfl, v, [.ref p], rfl, .ref p, [], rfl, rfl, ?_⟩
    have t1 := To.setD (i := i) rp x f
    exact k.nx _ _ _ _ _ (t1.trans (To.new (i := j) t1.rp (y.trans z) n (by rw [upd_ne (ne_of_none e ht)]; exact e) m (r.new ht) (fs.keeps (.new ht) fun _ _ _ m => m))) q2⟩, (k.to (.go rp x)).xc (rp.go x)⟩, k.xc rp⟩
end
/-! ### loops -/
theorem loop_inv {t : TD} {gb : DS} {ck : AH → Prop} {E : DEnds} (I : Nat → Rho → AH → Prop) (hk : ∀ i ρ h, I i ρ h → ck h) : ∀ (ds : List D) (i : Nat) (ρ : Rho) (h : AH), I i ρ h →
    (∀ (j : Nat) (d : D) (ρ : Rho) (h : AH) (N : Rho → AH → Prop), ds[j - i]? = some d → i ≤ j → I j ρ h → (∀ ρ' h', I (j + 1) ρ' h' → N ρ' h') → t d ρ fun ρ1 => gb { nx := N, ct := N, bk := E.nx, rt := E.rt, ex := E.ex } ρ1 h) → (∀ ρ h, I (i + ds.length) ρ h → E.nx ρ h) → loopD t gb ck ds E ρ h
  | [], i, ρ, h, v, _, k => ⟨hk i ρ h v, k ρ h v⟩
  | d :: ds, i, ρ, h, v, st, k => by
    refine ⟨hk i ρ h v, st i d ρ h _ (by simp) (Nat.le_refl _) v fun ρ' h' v' => ?_⟩
    refine loop_inv I hk ds (i + 1) ρ' h' v' (fun j d ρ h N hm hj => st j d ρ h N ?_ (by omega)) fun ρ h q => k ρ h ?_
    · rw [show j - i = (j - (i + 1)) + 1 by omega, List.getElem?_cons_succ]
      exact hm
    · rw [List.length_cons, show i + (ds.length + 1) = i + 1 + ds.length by omega]
      exact q
/-! ### the deck -/
def deckK (c : Addr) (m k : Int) : List (Key × D) := [(.inr "cells", .obj c), (.inr "mixed", .int m), (.inr "draws", .int k)]
/-- a deck at d, its cells at c -/
structure Dk (d c : Addr) (h : AH) : Prop where
  ne : d ≠ c
  at_ : ∃ (cs : List Int) (m k : Int), h d = some (.dK (deckK c m k)) ∧ h c = some (.lst (cs.map D.int)) ∧ cs.length ≤ 1000
/-- a deck was drawn from -/
structure Dr (d c : Addr) (h h' : AH) : Prop where
  off : ∀ a, a ≠ d → a ≠ c → h' a = h a
  dk : Dk d c h'
theorem Dr.refl {d c : Addr} {h : AH} (x : Dk d c h) : Dr d c h h := ⟨fun _ _ _ => rfl, x⟩
theorem Dr.trans {d c : Addr} {h h1 h2 : AH} (x : Dr d c h h1) (y : Dr d c h1 h2) : Dr d c h h2 := ⟨fun a m n => (y.off a m n).trans (x.off a m n), y.dk⟩
theorem Dk.cut {d c : Addr} {h h' : AH} (x : Dk d c h) (e : ∀ a, a ≠ d → a ≠ c → h' a = h a) (y : Dk d c h') : cutH h h' = h' := by
  obtain ⟨cs, m, k, e1, e2, _⟩ := x.at_
  funext a
  unfold cutH
  split
  · rename_i z
    rw [e a (fun w => by rw [w, e1] at z; cases z) (fun w => by rw [w, e2] at z; cases z), z]
  · rfl
theorem Dr.setD {d c : Addr} {h : AH} {cs : List Int} {m' k' : Int} (ne : d ≠ c) (e : h c = some (.lst (cs.map D.int))) (l : cs.length ≤ 1000) : Dr d c h (put h d (.dK (deckK c m' k'))) :=
  ⟨fun a n _ => put_off n, ne, cs, m', k', put_at, (put_off ne.symm).trans e, l⟩
theorem Dr.setC {d c : Addr} {h : AH} {m k : Int} (cs : List Int) (ne : d ≠ c) (e : h d = some (.dK (deckK c m k))) (l : cs.length ≤ 1000) : Dr d c h (put h c (.lst (cs.map D.int))) :=
  ⟨fun a _ n => put_off n, ne, cs, m, k, (put_off ne).trans e, put_at, l⟩
theorem val_c {c : Addr} {m k : Int} : valD (deckK c m k) (.inr "cells") = some (.obj c) := by rfl
theorem val_m {c : Addr} {m k : Int} : valD (deckK c m k) (.inr "mixed") = some (.int m) := by rfl
theorem val_k {c : Addr} {m k : Int} : valD (deckK c m k) (.inr "draws") = some (.int k) := by rfl
theorem put_dk {c : Addr} {m k j : Int} : putKD (deckK c m k) (.inr "draws") (.int j) = deckK c m j := by rfl
theorem atDic_at {a : Addr} {h : AH} {kvs : List (Key × D)} {Q : List (Key × D) → Prop} (e : h a = some (.dK kvs)) : atDic (.obj a) h Q = Q kvs := by simp only [atDic, e]
theorem atDicO_at {a : Addr} {h : AH} {kvs : List (Key × D)} {Q : Addr → List (Key × D) → Prop} (e : h a = some (.dK kvs)) : atDicO (.obj a) h Q = Q a kvs := by simp only [atDicO, e]
theorem look_at {a : Addr} {h : AH} {xs : List D} {Q : D → Prop} (e : h a = some (.lst xs)) : look h (.obj a) Q = Q (.lst xs) := by simp only [look, e]
theorem look_lst {h : AH} {xs : List D} {Q : D → Prop} : look h (.lst xs) Q = Q (.lst xs) := rfl
theorem good_ints (cs : List Int) : good (.lst (cs.map D.int)) := (good_tup (fun x m => by
  obtain ⟨i, _, rfl⟩ := List.mem_map.mp m
  exact good_int i) 0 (fun x m => by
  obtain ⟨i, _, rfl⟩ := List.mem_map.mp m
  simp [dep, D.py, PyData.depth])).2
theorem good_nil : good (.lst []) := good_ints []
theorem eqD_nil (xs : List D) : eqD (.lst xs) (.lst []) = xs.isEmpty := by cases xs <;> simp [eqDs]
theorem fNe_nil {xs : List D} {Q : Bool → Prop} (g : good (.lst xs)) (q : Q (!xs.isEmpty)) : fNe (.lst xs) (.lst []) Q := ⟨g, good_nil, by rw [eqD_nil]; exact q⟩
/-- a draw: any number below many may come -/
def G_draw : SG := fun ds h Q _ => match ds with
  | [.obj d, .int n] => ∃ c, Dk d c h ∧ 1 ≤ n ∧ n < 1000000 ∧ ∀ (i : Int) h', 0 ≤ i → i < n → Dr d c h h' → Q (.int i) h'
  | _ => False
theorem cut_last (s : Str) : (cutS s none (some (-1))).cps.toList = s.cps.toList.dropLast := by
  unfold cutS
  rw [HT.sIx_none]
  have e : HT.sIx s.length s.length (some (-1)) = s.length - 1 := by
    have e0 : HT.sIx s.length s.length (some (-1)) = if (-1 : Int) < 0 then ((-1 : Int) + (s.length : Int)).toNat else min (-1 : Int).toNat s.length := rfl
    rw [e0, if_pos (by decide)]
    omega
  rw [e]
  simp [List.dropLast_eq_take, Str.length]
theorem join_nil (ys : List Str) : (Txt.join "" ys).cps.toList = (ys.map fun y => y.cps.toList).flatten := by
  rw [TL.join_eq]
  have e := TL.tl_join "" ys
  have e0 : TL.tl "" = [] := by rfl
  rw [e0] at e
  have key : ∀ l : List (List Nat), TL.joinL [] l = l.flatten := fun l => by
    induction l with
    | nil => rfl
    | cons p r ih =>
      cases r with
      | nil => simp [TL.joinL]
      | cons q r =>
        show p ++ ([] ++ TL.joinL [] (q :: r)) = _
        rw [ih]
        simp
  rw [key] at e
  exact e
end NL
set_option Elab.async false
set_option linter.all false
set_option maxRecDepth 100000
set_option maxHeartbeats 2300000
/-! N21: methods, __init__, defs without parameters. -/
namespace NL
open PyProof.Rows L2 PySem PySem.Spec
/-- a method of the text, no defaults -/
abbrev DefM (K : PySem.W.Frag) (m q : Str) (st : Stmt) (f : Addr) (fd : FuncData) : Prop := FunD K m q (defArgs st) (defBody st) (defScope st) [] [] f fd
/-- where a method stands -/
def AtM (K : PySem.W.Frag) (C : Addr) (m q : Str) (st : Stmt) : Prop := ∃ f fd, DefM K m q st f fd ∧ Cls K C ∧ Meth K C m f
/-- where a class's __init__ stands; x: the class's name -/
def AtK (K : PySem.W.Frag) (mg : Str → Option Value) (x : Str) (C : Addr) (q : Str) (st : Stmt) : Prop := ∃ f fd, DefM K "__init__" q st f fd ∧ mg x = some (.ref C) ∧ Mk K C f
section
variable {P : Program} {w : World} {K : PySem.W.Frag} {mg : Str → Option Value} {base : Heap} {C : Addr} {x m q : Str} {st : Stmt} {N ps : List Str} {k : Nat} {G : SG}
theorem Mn.of {g : DS} (A : AtM K C m q st) (S : FnScope N ps (defScope st)) (hl : ∀ {f : Addr} {fd : FuncData}, DefM K m q st f fd → Binds K fd ps [])
    (hb : ∀ (f : Addr) (cdv : Value) (A : Around) (outer : List Env) (s : Shared) (H : Hp) (E : XK), Room k (A.deeper (envOfC q (defScope st) s.heap.objs.size f cdv)) → CxN (cxN P w K mg base N q (defScope st) f cdv A outer s H E) (wE E) →
      PSs (cxN P w K mg base N q (defScope st) f cdv A outer s H E) (defBody st) (us K (wE E) g)) (i : ∀ ds h Q E, G ds h Q E → ds.length = ps.length ∧ run (lenN N) g ds h Q E) : Mn P w K mg base (k + 1) C m ps G := by
  obtain ⟨f, fd, F, cl, hm⟩ := A
  exact ⟨f, fd, (FnN.made F S fun cdv A outer s H E _ r c => hb f cdv A outer s H E r c).imp fun ds h Q E q => by rw [← lenN_eq N]; exact i ds h Q E q, cl, hm, hl F⟩
theorem Kn.of {g : DS} (A : AtK K mg x C q st) (S : FnScope N ps (defScope st)) (hl : ∀ {f : Addr} {fd : FuncData}, DefM K "__init__" q st f fd → Binds K fd ps [])
    (hb : ∀ (f : Addr) (cdv : Value) (A : Around) (outer : List Env) (s : Shared) (H : Hp) (E : XK), Room k (A.deeper (envOfC q (defScope st) s.heap.objs.size f cdv)) → CxN (cxN P w K mg base N q (defScope st) f cdv A outer s H E) (wE E) →
      PSs (cxN P w K mg base N q (defScope st) f cdv A outer s H E) (defBody st) (us K (wE E) g)) (i : ∀ ds h Q E, G ds h Q E → ds.length = ps.length ∧ run (lenN N) g ds h Q E) : Kn P w K mg base (k + 1) x C ps G := by
  obtain ⟨f, fd, F, hm, M⟩ := A
  exact ⟨f, fd, (FnN.made F S fun cdv A outer s H E _ r c => hb f cdv A outer s H E r c).imp fun ds h Q E q => by rw [← lenN_eq N]; exact i ds h Q E q, hm, M, hl F⟩
theorem Mn.imp {G' : SG} (d : Mn P w K mg base k C m ps G) (i : ∀ ds h Q E, G' ds h Q E → G ds h Q E) : Mn P w K mg base k C m ps G' := by
  obtain ⟨f, fd, F, r⟩ := d
  exact ⟨f, fd, F.imp i, r⟩
theorem Mn.up {j : Nat} (d : Mn P w K mg base j C m ps G) (le : j ≤ k) : Mn P w K mg base k C m ps G := by
  obtain ⟨f, fd, F, r⟩ := d
  exact ⟨f, fd, F.up le, r⟩
end
end NL
set_option Elab.async false
set_option linter.all false
set_option maxRecDepth 100000
set_option maxHeartbeats 2300000
/-! N22: targets that are fields, entries of dicts. -/
namespace NL
open PyProof.Rows L2 PySem PySem.Spec
/-- a target that may change the heap -/
abbrev TH := D → Rho → AH → (Rho → AH → Prop) → QX → Prop
def ug (K : PySem.W.Frag) (W : WX) (t : TH) : TG := fun v σ H Q => ∃ B as h ρ d Qr Ed, Rep K B as h H σ ρ ∧ Fz K (Mx B as h) H v d ∧ t d ρ h Qr Ed ∧ (∀ h' H' σ' ρ', To K B as h H as h' H' σ' ρ' → Qr ρ' h' → Q σ' H') ∧ (∀ x h' H' σ' ρ' cls dd, To K B as h H as h' H' σ' ρ' → ER K (Mx B as h') H' cls dd x → Ed x h' → W cls dd σ' H')
abbrev THs := List D → Rho → AH → (Rho → AH → Prop) → QX → Prop
def ugs (K : PySem.W.Frag) (W : WX) (t : THs) : TGs := fun vs σ H Q => ∃ B as h ρ ds Qr Ed, Rep K B as h H σ ρ ∧ FzL K (Mx B as h) H vs ds ∧ t ds ρ h Qr Ed ∧ (∀ h' H' σ' ρ', To K B as h H as h' H' σ' ρ' → Qr ρ' h' → Q σ' H') ∧ (∀ x h' H' σ' ρ' cls dd, To K B as h H as h' H' σ' ρ' → ER K (Mx B as h') H' cls dd x → Ed x h' → W cls dd σ' H')
section
variable {X : Cx} {W : WX} {e o i : Expr} {es : List Expr} {g go gi : DE} {t : TH} {ts : THs} {pos : Pos} {C : Addr} {f : Str} {n k : Nat}
theorem _root_.L2.PG.to {t t' : TG} (r : PG X e t) (i : ∀ v σ H Q, t' v σ H Q → t v σ H Q) : PG X e t' := ⟨fun pins s σ H v u Q iv rv w => r.run pins s σ H v u Q iv rv (i _ _ _ _ w)⟩
theorem _root_.L2.PGs.to {t t' : TGs} (r : PGs X es t) (i : ∀ v σ H Q, t' v σ H Q → t v σ H Q) : PGs X es t' := ⟨fun pins s σ H v u Q iv rv w => r.run pins s σ H v u Q iv rv (i _ _ _ _ w)⟩
def hName (j : Nat) : TH := fun d ρ h Q _ => Q (ρ.set j (some (.d d))) h
theorem h_name {j : Nat} {x : Str} (hN : X.N.Nodup) (hi : X.N[j]? = some x) (hx : Loc X.env.scope x) (hf : X.fn x = true ∨ X.env.scope.names.lookup x = some .local := by first | exact .inl rfl | exact .inr rfl | assumption) : PG X (.Name x pos) (ug X.K W (hName j)) :=
  (pg_name hN hi hx hf).to fun v σ H Q ⟨B, as, h, ρ, d, Qr, Ed, rp, fz, w, k, _⟩ => k h H _ _ ⟨rp.setD fz, .refl⟩ w
/-- o.f = .. -/
def hFld (C : Addr) (f : Str) (go : DE) : TH := fun d ρ h Q E => go ρ h (fun o h1 => atIns C o h1 fun a fs => fs.length < 1000 ∧ Q ρ (put h1 a (.ins C (putD f d fs)))) E
def gFld (K : PySem.W.Frag) (to : TE) (f : Str) : TG := fun v σ H Q => to σ H fun x H1 => ∃ a C dx fs, x = .ref a ∧ H1 a = some (.ins C dx fs) ∧ Cls K C ∧ NoAttr K C f ∧ fs.length < 1000 ∧ Q σ (upd H1 a (.ins C dx (putF f v fs)))
theorem pg_field {to : TE} (ho : PE X o to) (ha : ∀ v, assign (.Attribute o f pos) X.env v = (do
      let ov ← holding [v] (eval o X.env); standAt pos.atName
      holding [v, ov] (setAttr ov f v)
      release [v, ov] []) := by intro _; rfl) : PG X (.Attribute o f pos) (gFld X.K to f) := by
  refine ⟨fun pins s σ H v u Q iv rv w => ?_⟩
  rw [ha]
  refine wpAny_bind (wpAny_holding (thn (ho.run pins s σ H _ iv w) fun ov s1 ⟨x, H1, J, rx, a, C, dx, fs, ex, ea, cl, na, lt, q⟩ => ?_))
  subst ex; obtain rfl : ov = Value.ref a := rx
  exact wpAny_bind (wpAny_standAt (wpAny_bind (wpAny_holding (setattr_ok J ea cl na lt rv fun s2 J2 => wpAny_release ⟨σ, _, J2, q⟩))))
theorem h_fld (cl : Cls X.K C) (na : NoAttr X.K C f) (ho : PE X o (up X.K W go)) : PG X (.Attribute o f pos) (ug X.K W (hFld C f go)) :=
  (pg_field ho).to fun v σ H Q ⟨B, as, h, ρ, d, Qr, Ed, rp, fz, w, k, xx⟩ => ⟨B, as, h, ρ, _, Ed, rp, w, fun u o h1 H1 g fo q => by
    obtain ⟨a, fs, rfl, ea, lt, q⟩ := atIns_ok q
    obtain ⟨dx, gs, e1, e2, sf⟩ := g.hr a _ ea
    cases fo
    exact ⟨a, C, dx, gs, rfl, e1, cl, na, by rw [sf.length]; exact lt, k _ _ _ _ (.go rp (g.trans (Go.wr g.hr ea (OR.insPut g.hr ea e1 e2 (sf.wr (f := f) (fz.go g)))))) q⟩, fun x h' H' cls dd g r q => xx x h' H' σ ρ cls dd (.go rp g) r q⟩
/-- o[i] = .., o a dict of the heap -/
def hSub (go gi : DE) : TH := fun d ρ h Q E => go ρ h (fun o h1 => gi ρ h1 (fun i h2 => atDicO o h2 fun a kvs => ofO (keyD i) fun k => kvs.length < sizeLine ∧ Q ρ (put h2 a (.dK (putKD kvs k d)))) E) E
theorem h_sub {j : Nat} (hr : Room j X.A) (ho : PE X o (up X.K W go)) (hi : PE X i (up X.K W gi)) (ha : ∀ v, assign (.Subscript o i pos) X.env v = (do
      let ov ← holding [v] (eval o X.env); let iv ← holding [v, ov] (eval i X.env)
      standAt pos; holding [v, ov, iv] (setItem ov iv v)
      release [v, ov, iv] []) := by intro _; rfl) : PG X (.Subscript o i pos) (ug X.K W (hSub go gi)) :=
  (pg_sub ho hi (set_dict hr.u1) ha).to fun v σ H Q ⟨B, as, h, ρ, d, Qr, Ed, rp, fz, w, k, xx⟩ => ⟨B, as, h, ρ, _, Ed, rp, w, fun u o h1 H1 g fo q => ⟨B, as, h1, ρ, _, Ed, rp.go g, q, fun y c h2 H2 g2 fi q2 => by
    obtain ⟨a, kvs, rfl, ea, q2⟩ : ∃ a kvs, o = .obj a ∧ h2 a = some (.dK kvs) ∧ ofO (keyD c) fun k => kvs.length < sizeLine ∧ Qr ρ (put h2 a (.dK (putKD kvs k d))) := by
      unfold atDicO at q2
      split at q2
      · split at q2
        · rename_i a _ kvs e
          exact ⟨a, kvs, rfl, e, q2⟩
        · exact q2.elim
      · exact q2.elim
    obtain ⟨key, ek, lt, q2⟩ := ofO_ok q2
    obtain ⟨kws, e1, kf⟩ := g2.hr a _ ea
    cases fo
    have fd := (fz.go g).go g2
    have ma : Mx B as h2 a := .inr (.inr (by rw [ea]; exact fun z => by cases z))
    have kp : Keeps (Mx B as h2) H2 (upd H2 a (.dK (putK kws key v))) := .chg ma (by rw [e1]; trivial)
    have gp := Go.wr (o' := .dK (putKD kvs key d)) g2.hr ea ⟨_, upd_same, (kf.wr fd).keeps kp fun _ _ _ m => m⟩
    refine ⟨a, _, rfl, ?_, k _ _ _ _ (.go rp ((g.trans g2).trans gp)) q2⟩
    rw [keyD_ok fi ek]
    exact .k e1 (by rw [kf.len]; exact lt), fun x h' H' cls dd g3 r q => xx x h' H' σ ρ cls dd (.go rp (g.trans g3)) r q⟩, fun x h' H' cls dd g r q => xx x h' H' σ ρ cls dd (.go rp g) r q⟩
def hNil : THs := fun ds ρ h Q _ => match ds with
  | [] => Q ρ h
  | _ => False
def hCons (t : TH) (u : THs) : THs := fun ds ρ h Q E => match ds with
  | d :: ds => t d ρ h (fun ρ1 h1 => u ds ρ1 h1 Q E) E
  | _ => False
theorem hs_nil : PGs X [] (ugs X.K W hNil) := pgs_nil.to fun vs σ H Q ⟨B, as, h, ρ, ds, Qr, Ed, rp, fz, w, k, _⟩ => by
  cases fz with
  | nil => exact ⟨rfl, k h H σ ρ (.refl rp) w⟩
  | cons f t => exact w.elim
theorem hs_cons (h1 : PG X e (ug X.K W t)) (h2 : PGs X es (ugs X.K W ts)) (hs : (assignEach (e :: es) X.env).map (·.2) = assign e X.env :: (assignEach es X.env).map (·.2) := by rfl) : PGs X (e :: es) (ugs X.K W (hCons t ts)) :=
  (pgs_cons h1 h2 hs).to fun vs σ H Q ⟨B, as, h, ρ, ds, Qr, Ed, rp, fz, w, k, xx⟩ => by
    cases fz with
    | nil => exact w.elim
    | @cons v vs d ds f r => exact ⟨v, vs, rfl, B, as, h, ρ, d, _, Ed, rp, f, w, fun h' H' σ' ρ' t q => ⟨B, as, h', ρ', ds, Qr, Ed, t.rp, r.mv t.mv, q, fun h2 H2 σ2 ρ2 t2 q2 => k h2 H2 σ2 ρ2 (t.trans t2) q2, fun x h2 H2 σ2 ρ2 cls dd t2 rr q2 => xx x h2 H2 σ2 ρ2 cls dd (t.trans t2) rr q2⟩, xx⟩
def hTup (n : Nat) (u : THs) : TH := fun d ρ h Q E => match d with
  | .tup ds => ds.length = n ∧ u ds ρ h Q E
  | _ => False
theorem h_tup (c : CxN X W) (hg : PGs X es (ugs X.K W ts)) (hn : (assignEach es X.env).length = n := by rfl) (hst : (assignEach es X.env).findIdx? (·.1) = none := by rfl) : PG X (.Tuple es k pos) (ug X.K W (hTup n ts)) :=
  (pg_tup c.cm hg hn hst).to fun v σ H Q ⟨B, as, h, ρ, d, Qr, Ed, rp, fz, w, k, xx⟩ => by
    cases d with
    | tup ds =>
      cases fz with
      | @tup a vs _ q f => exact ⟨a, vs, rfl, q.1, by rw [f.len]; exact w.1, B, as, h, ρ, ds, Qr, Ed, rp, f, w.2, k, xx⟩
    | _ => exact w.elim
/-- target = e, the target may change the heap -/
def sAsgH (t : TH) (g : DE) : DS := fun E ρ h => g ρ h (fun d h1 => t d ρ h1 E.nx (fun _ _ => False)) (E.er ρ)
theorem st_asgH {tg : Expr} (he : PE X e (up X.K W g)) (hg : PG X tg (ug X.K W t)) (hs : swapsWithSole [tg] e pos.line X.env = pure false := by rfl) (hw : swappedStores [tg] e X.env = pure none := by rfl)
    (h1 : (assignEach [tg] X.env).map (·.2) = [assign tg X.env] := by rfl) : PS X (.Assign [tg] e pos) (us X.K W (sAsgH t g)) :=
  (ps_asg he hg hs hw h1).to fun D σ H ⟨B, as, h, ρ, E, rp, w, k⟩ => ⟨B, as, h, ρ, _, _, rp, w, fun v d h' H' x f q => ⟨B, as, h', ρ, d, E.nx, _, rp.go x, f, q, fun h2 H2 σ2 ρ2 t q2 => k.nx _ _ _ _ _ ((To.go rp x).trans t) q2, fun _ _ _ _ _ _ _ _ _ q2 => q2.elim⟩, k.xc rp⟩
end
/-- an own exception with super().__init__(x), under its name -/
structure SupX (P : Program) (K : PySem.W.Frag) (mg : Str → Option Value) (x : Str) (C : Addr) (f : Str) : Prop where
  sup : SupC P K mg C f
  mg : mg x = some (.ref C)
/-- an own exception without __init__ -/
structure BareX (K : PySem.W.Frag) (mg : Str → Option Value) (x : Str) (C : Addr) : Prop where
  ex : PySem.W.excIn K C exB "Exception.__new__" = true
  mg : mg x = some (.ref C)
  (kp : PySem.W.keepIn K (.ref C) = true)
  su : PySem.W.subIn K (.ref C) (.type "BaseException") = some true
  ty : PySem.W.typeIn K (.ref C) = some (.type "type")
section
variable {X : Cx} {W : WX} {e a : Expr} {g ga : DE} {p px pos pos2 : Pos} {k : Nat} {x : Str} {C : Addr} {f : Str}
theorem s_raise (c : CxN X W) (T : SupX X.prog X.K X.mg x C f) (hr : Room k X.A) (ha : PE X e (up X.K W g)) (le : 2 ≤ k := by omega) (hg : Gl X x := by rfl)
    (hdb : (x == ("__debug__" : Str)) = false := by decide) (he : starEach [e] X.env = (false, eval e X.env) :: starEach [] X.env := by rfl) (hpl : (backTo pos (starEach [] X.env)).any (·.1) = false := by rfl) :
    PS X (.Raise (some (.Call (.Name x p) [e] [] pos)) none pos2) (us X.K W (sRaise C f g)) := st_raise c T.sup T.mg (hr.mono le) ha hg hdb he hpl
theorem s_raise0 (c : CxN X W) (T : BareX X.K X.mg x C) (hg : Gl X x := by rfl) (hdb : (x == ("__debug__" : Str)) = false := by decide) : PS X (.Raise (some (.Call (.Name x p) [] [] pos)) none pos2) (us X.K W (sRaise0 C)) :=
  st_raise0 c F.excBase_Exception T.ex T.mg T.kp (raises_own T.su T.ty) hg hdb
/-- isinstance(x, C), C a class of the text -/
theorem c_isiK {K : PySem.W.Frag} (F : Fr X.mg) (hm : X.mg x = some (.ref C)) (ha : PE X a (uw X.K W ga)) (hK : X.K = K := by rfl) (hg : Gl X "isinstance" := by rfl) (hgT : Gl X x := by rfl) (hd : (x == ("__debug__" : Str)) = false := by decide)
    (he : starEach [a, .Name x px] X.env = (false, eval a X.env) :: starEach [.Name x px] X.env := by rfl) (he2 : starEach [.Name x px] X.env = (false, eval (.Name x px) X.env) :: starEach [] X.env := by rfl)
    (hpl : (backTo pos (starEach [.Name x px] X.env)).any (·.1) = false := by rfl) :
    PE X (.Call (.Name "isinstance" p) [a, .Name x px] [] pos) (up X.K W (dIsi K (.ref C) ga)) := by
  subst hK
  exact e_isi hg F.isinstance (pe_glob (v := .ref C) hgT hm rfl hd) (.own C) ha he he2 hpl
end
/-- list(x), a new list -/
def newL : List D → (List D → Prop) → Prop
  | [.lst xs], Q => Q xs
  | [.tup xs], Q => Q xs
  | _, _ => False
def dNewL (gs : DA) : DA := fun ρ h Q E => gs ρ h (fun ds h1 => lkL h1 ds fun ds' => newL ds' fun xs => Q xs h1) E
section
variable {X : Cx} {W : WX} {e : Expr} {es : List Expr} {gs : DA} {p pos : Pos}
theorem c_nlist (F : Fr X.mg) (ha : PA X (e :: es) (uv X.K W gs)) (hg : Gl X "list" := by rfl) (he : starEach (e :: es) X.env = (false, eval e X.env) :: starEach es X.env := by rfl) (hpl : (backTo pos (starEach es X.env)).any (·.1) = false := by rfl) :
    PE X (.Call (.Name "list" p) (e :: es) [] pos) (un X.K W (dNewL gs)) :=
  (pe_callTy k_list hg F.list (by decide +kernel) ha (by decide) (by decide) he hpl).to fun σ H Q ⟨B, as, h, ρ, Qd, Ed, rp, w, k, xx⟩ => ⟨B, as, h, ρ, _, Ed, rp, w, fun vs ds h' H' x fs q => by
    obtain ⟨ds', fs', q⟩ := lkL_ok x.hr fs.ws q
    have fin : ∀ {us : List V} {xs : List D}, FzL X.K (Mx B as h') H' us xs → Qd xs h' → ∀ l, H' l = none → Q (.ref l) (upd H' l (.lst us)) := fun {us xs} f q l hl =>
      k l us xs h' _ (x.trans (.new x.hr hl)) (x.back hl) upd_same (x.hr.off hl) ((x.hr.more hl).new hl) ((f.more hl).keeps (.new hl) fun _ _ _ m => m) q
    match ds', q with
    | [.lst xs], q =>
      obtain ⟨v, rfl, f⟩ := one_of fs'
      obtain ⟨a, us, rfl, e1, f1⟩ := f.lst
      exact ⟨a, us, rfl, .inl (SqL.of e1), fin f1 q⟩
    | [.tup xs], q =>
      obtain ⟨v, rfl, f⟩ := one_of fs'
      obtain ⟨a, us, rfl, e1, f1⟩ := f.tup
      exact ⟨a, us, rfl, .inr e1.1, fin f1 q⟩, xx⟩
end
end NL
set_option Elab.async false
set_option linter.all false
set_option maxRecDepth 100000
set_option maxHeartbeats 2300000
/-! N23: == and != of instances with an __eq__ of their own. -/
namespace NL
open PyProof.Rows L2 PySem PySem.Spec
section
variable {X : Cx} {W : WX} {pins : List (Addr × Obj)} {σ : L2.St} {H : Hp} {s : Shared} {k : Nat} {f C : Addr} {fd : FuncData} {ps : List Str} {G : SG}
/-- the callee runs one step further in, and lets nothing out -/
theorem FnN.runsIn {Q : VK} {us : List Value} {vs : List V} (A : Around) (hA : A.frames = X.A.frames) (hG : A.guards = some []) (F : FnN X.prog X.w X.K X.mg X.base k f fd ps G) (hr : Room k A) (hb : Binds X.K fd ps []) (iv : Inv X pins σ H s) (r : Vals vs us)
    (w : spN X.K G vs H Q (fun _ _ _ => False)) {E : Value → Shared → Prop} : wpAny (model X.prog X.w) A (call (.ref f) us) (EP X pins σ Q) E s := by
  have hl : us.length = ps.length := by rw [← r.length]; exact w.len F.len
  have bnd := hb s us iv.kIn (by simpa using hl)
  rw [List.append_nil] at bnd
  have e0 := iv.env0
  refine wpAny_call (codeAny_mono (F.go A X.stack s H ⟨us, []⟩ us vs Q _ hG hr ⟨by rw [hA]; exact e0.frames, e0.mod, e0.bs, e0.bsz, e0.funs, e0.frf, e0.hok, e0.bare⟩ bnd r w) fun res s' q => ?_)
  match res, q with
  | .ok (.ret u), q => exact iv.after q
  | .error ex, ⟨_, _, _, _, _, _, _, _, _, _, _, _, z⟩ => exact z.elim
  | .ok .next, q => exact q.elim
  | .ok .brk, q => exact q.elim
  | .ok .cont, q => exact q.elim
end
/-- the type of a value, as the machine looks it up -/
theorem ty_looks {X : Cx} {pins : List (Addr × Obj)} {σ : L2.St} {H : Hp} {s : Shared} {v : V} {u t : Value} (iv : Inv X pins σ H s) (r : RelV v u) (y : TyX X.K H v t) : PySem.W.Looks (model X.prog X.w) s.heap (typeOf u) t := by
  obtain ⟨P, Z, p, _⟩ := kit_of iv r y
  exact Z.ty _ _ iv.kIn p
/-- what a class with an __eq__ of its own must say -/
structure EqC (K : PySem.W.Frag) (C : Addr) : Prop where
  ne : PySem.W.findIn K (.ref C) "__ne__" = some (some (.builtin "object.__ne__"))
  ob : PySem.W.mroIn K C (.type "object") = some true
/-- x == y, x an instance of the class at C -/
def rEqI (K : PySem.W.Frag) (C : Addr) (G : SG) : R2 := fun x y H Q => ∃ a dx fs t, x = .ref a ∧ H a = some (.ins C dx fs) ∧ TyX K H y t ∧ PySem.W.notFirst K C t = true ∧ spN K G [x, y] H (fun v H' => ∃ b, v = .bl b ∧ Q v H') (fun _ _ _ => False)
/-- x != y, both instances of the class at C -/
def rNeI (K : PySem.W.Frag) (C : Addr) (G : SG) : R2 := fun x y H Q => ∃ a dx fs a' dx' fs', x = .ref a ∧ H a = some (.ins C dx fs) ∧ y = .ref a' ∧ H a' = some (.ins C dx' fs') ∧ spN K G [x, y] H (fun v H' => ∃ b, v = .bl b ∧ Q (.bl (!b)) H') (fun _ _ _ => False)
section
variable {X : Cx} {W : WX} {k : Nat} {C : Addr} {ps : List Str} {G : SG}
theorem op_eqI (d : Mn X.prog X.w X.K X.mg X.base k C "__eq__" ps G) (c : CxN X W) (hr : Room k X.A) : OpR X (compareOp .Eq) (rEqI X.K C G) := by
  obtain ⟨f, fd, F, cl, hm, hb⟩ := d
  intro pins s σ H x y v u Q iv rx ry ⟨a, dx, fs, t, ex, ea, ty, nf, w⟩
  subst ex; obtain rfl : v = Value.ref a := rx
  obtain ⟨mA, O, _⟩ := ins_get iv.hok ea
  obtain ⟨od, J, _⟩ := O.look
  obtain ⟨m, fr⟩ := iv.fr
  show wpAny (model X.prog X.w) X.A (richCompare .Eq (.ref a) u) (EP X pins σ Q) X.xe s
  refine PySem.W.cmp_K (op := .Eq) (tb := t) hr.units0 fr iv.ok.mod.kin J (ty_looks iv ry ty) nf hm.at_ hm.fn (wpAny_mono (F.runsIn X.A rfl c.gd hr hb iv (.cons (show L2.RelV (.ref a) (.ref a) from rfl) (.cons ry .nil)) w) (fun r s' q => ?_) fun _ _ e => e)
  obtain ⟨z, H', iv', rz, b, ez, q⟩ := q
  subst ez
  obtain rfl : r = Value.bool b := rz
  exact ⟨.bl b, H', iv', rfl, q⟩
section
variable {prog : Program} {w : World} {A : Around} {E : Value → Shared → Prop} {s : Shared} {K : PySem.W.Frag} {x y f : Addr} {ox : Obj} {od : Option Obj}
theorem ne_entry {Q : Fin → Shared → Prop} (KX : K.In s.heap) (I : PySem.W.InstAt s.heap x ox C od) (he : PySem.W.findIn K (.ref C) "__eq__" = some (some (.ref f))) (hf : PySem.W.isFn K (.ref f) = true) (hu : A.units < cLine)
    (h : wpAny (model prog w) A (call (.ref f) [.ref x, .ref y]) (fun v s' => ∃ b, v = .bool b ∧ Q (.done (.ret (.bool (!b)))) s') E s) : wpAny (model prog w) A (Builtin.«object.__ne__» ⟨[.ref x, .ref y], []⟩) Q E s := by
  unfold Builtin.«object.__ne__»; skip
  repeat (first
    | (with_reducible refine wpAny_cRoomFor hu ?_)
    | (refine wpAny_bind (m := callSpecialIfBound? (.ref x) (Str.ofString "__eq__") [.ref y]) (PySem.W.ifBound_K KX I he hf (wpAny_mono h (fun v s' q => ?_) fun _ _ e => e))
       obtain ⟨b, rfl, q⟩ := q
       repeat (first | exact q | exact wpAny_pure q | (refine wpAny_bind (m := truthy (.bool _)) (wpAny_truthy_bool ?_)) | wp_step))
    | wp_step)
theorem ne_call {Q : Value → Shared → Prop} (KX : K.In s.heap) (I : PySem.W.InstAt s.heap x ox C od) (hm : PySem.W.mroIn K C (.type "object") = some true) (he : PySem.W.findIn K (.ref C) "__eq__" = some (some (.ref f))) (hf : PySem.W.isFn K (.ref f) = true) (hu : A.in1.units < cLine)
    (h : wpAny (model prog w) A.in1 (call (.ref f) [.ref x, .ref y]) (fun v s' => ∃ b, v = .bool b ∧ Q (.bool (!b)) s') E s) : wpAny (model prog w) A (call (.builtin "object.__ne__") [.ref x, .ref y]) Q E s :=
  wpAny_call (codeAny_call_builtin F.cmp_object.ne.plain F.cmpEntry_ne (PySem.W.check_slot F.cmpKind_ne F.cmpSplit_ne (I.type.andThen (PySem.W.looks_mroIn KX hm)) (F.cmpArgs_ne _ _) (ne_entry (A := A.in1) KX I he hf hu h)))
theorem ne_bound {args : List Value} {Q : Option Value → Shared → Prop} {M : Model} (KX : K.In s.heap) (I : PySem.W.InstAt s.heap x ox C od) (hs : PySem.W.findIn K (.ref C) "__ne__" = some (some (.builtin "object.__ne__")))
    (h : wpAny M A (call (.builtin "object.__ne__") (.ref x :: args)) (fun v => Q (some v)) E s) : wpAny M A (callSpecialIfBound? (.ref x) "__ne__" args) Q E s := by
  unfold callSpecialIfBound? bindSpecialIfBound?
  have last : wpAny M A (call (.builtin "object.__ne__") ([.ref x] ++ args) >>= fun v => pure (some v)) Q E s := wpAny_bind (wpAny_mono h (fun v s' q => wpAny_pure q) fun _ _ q => q)
  have bound : ∀ {R : Option (Value × List Value) → Shared → Prop} {E' : Value → Shared → Prop}, R (some (.builtin "object.__ne__", [.ref x])) s → wpAny M A (bindSpecial (.builtin "object.__ne__") (.ref x) >>= fun p => pure (some p)) R E' s := fun q => wpAny_bind (wpAny_of_eq (F.cmp_object.ne.bind _) (wpAny_pure q))
  refine wpAny_holding (wpAny_bind (wpAny_bind (wpAny_bind (I.type.here ((PySem.W.looks_findIn KX hs).here (wpAny_bind (wpAny_askSetting (wpAny_ite ?_))))))))
  split
  · exact bound (by exact last)
  · exact wpAny_tryCatch (bound (by exact last))
end
theorem op_neI (d : Mn X.prog X.w X.K X.mg X.base k C "__eq__" ps G) (e : EqC X.K C) (c : CxN X W) (hr : Room (k + 1) X.A) : OpR X (compareOp .NotEq) (rNeI X.K C G) := by
  obtain ⟨f, fd, F, cl, hm, hb⟩ := d
  intro pins s σ H x y v u Q iv rx ry ⟨a, dx, fs, a', dx', fs', ex, ea, ey, ea', w⟩
  subst ex ey; obtain rfl : v = Value.ref a := rx
  obtain rfl : u = Value.ref a' := ry
  obtain ⟨mA, O, _⟩ := ins_get iv.hok ea
  obtain ⟨od, J, _⟩ := O.look
  obtain ⟨mB, O', _⟩ := ins_get iv.hok ea'
  obtain ⟨od', J', _⟩ := O'.look
  have KX := iv.kIn
  have go : wpAny (model X.prog X.w) X.A (tryCompare (.ref a) "__ne__" (.ref a')) (fun r s' => ∃ u, r = some u ∧ EP X pins σ Q u s') X.xe s := by
    unfold tryCompare
    refine wpAny_bind (ne_bound KX J e.ne (ne_call KX J e.ob hm.at_ hm.fn hr.in1.units0 (wpAny_mono (F.runsIn X.A.in1 rfl c.gd hr.in1 hb iv (.cons (show L2.RelV (.ref a) (.ref a) from rfl) (.cons (show L2.RelV (.ref a') (.ref a') from rfl) .nil)) w) (fun r s' q => ?_) fun _ _ e => e)))
    obtain ⟨z, H', iv', rz, b, ez, q⟩ := q
    subst ez
    obtain rfl : r = Value.bool b := rz
    exact ⟨b, rfl, wpAny_pure ⟨_, rfl, .bl (!b), H', iv', rfl, q⟩⟩
  show wpAny (model X.prog X.w) X.A (richCompare .NotEq (.ref a) (.ref a')) (EP X pins σ Q) X.xe s
  unfold richCompare
  simp only [oneThing_ref]
  refine wpAny_holding (wpAny_bind (wpAny_cRoomFor hr.units0 (wpAny_bind (J.type.here (wpAny_bind (J'.type.here ?_))))))
  rw [if_neg (by simp)]
  refine wpAny_bind (wpAny_pure ?_); rw [if_neg (by decide)]
  refine wpAny_bind (wpAny_mono go (fun r s' q => ?_) fun _ _ e => e)
  obtain ⟨u, rfl, q⟩ := q
  exact wpAny_pure q
end
/-! ### over data -/
def dEqI (K : PySem.W.Frag) (C : Addr) (G : SG) (ga gb : DE) : DE := fun ρ h Q E => ga ρ h (fun x h1 => gb ρ h1 (fun y h2 => atIns C x h2 fun _ _ => (∃ t, tyH h2 y = some t ∧ (∀ C', t = .ref C' → IsC K C') ∧ PySem.W.notFirst K C t = true) ∧ G [x, y] h2 (fun d h3 => ∃ b, d = .bl b ∧ Q (.bl b) h3) (fun _ _ => False)) E) E
def dNeI (C : Addr) (G : SG) (ga gb : DE) : DE := fun ρ h Q E => ga ρ h (fun x h1 => gb ρ h1 (fun y h2 => atIns C x h2 fun _ _ => atIns C y h2 fun _ _ => G [x, y] h2 (fun d h3 => ∃ b, d = .bl b ∧ Q (.bl (!b)) h3) (fun _ _ => False)) E) E
section
variable {X : Cx} {W : WX} {k j : Nat} {C : Addr} {ps : List Str} {G : SG} {a b : Expr} {ga gb : DE} {pos : Pos}
theorem e_eqI {K : PySem.W.Frag} (d : Mn X.prog X.w X.K X.mg X.base k C "__eq__" ps G) (c : CxN X W) (hr : Room j X.A) (ha : PE X a (up X.K W ga)) (hb : PE X b (up X.K W gb)) (le : k ≤ j := by omega) (hK : X.K = K := by rfl) (hm : behindInMarks .Eq b = false := by first | exact nomark _ | rfl) :
    PE X (.Compare a [.Eq] [b] pos) (up X.K W (dEqI K C G ga gb)) := by
  subst hK
  exact (pe_cmpR (op_eqI d c (hr.mono le)) ha hb hm).to fun σ H Q ⟨B, as, h, ρ, Qd, Ed, rp, w, k, xx⟩ => ⟨B, as, h, ρ, _, Ed, rp, w, fun v d1 h1 H1 g f q => ⟨B, as, h1, ρ, _, Ed, rp.go g, q, fun u d2 h2 H2 g2 f2 q2 => by
    obtain ⟨a, fs, rfl, ea, ⟨t, et, hc, nf⟩, q2⟩ := atIns_ok q2
    obtain ⟨dx, gs, e1, _⟩ := g2.hr a _ ea
    have f1 := f.go g2
    cases f1
    exact ⟨a, dx, gs, t, rfl, e1, ty_ok g2.hr (.z f2) et hc, nf, spN.at (W := W0) (rp.go (g.trans g2)) (.cons (.obj a) (.cons f2 .nil)) q2 (fun v d h3 H3 g3 fz ⟨b, eb, q3⟩ => by
      subst eb
      cases fz
      exact ⟨b, rfl, k _ _ h3 H3 ((g.trans g2).trans g3) (.bl b) q3⟩) noX⟩, xx.go g⟩, xx⟩
theorem e_neI (d : Mn X.prog X.w X.K X.mg X.base k C "__eq__" ps G) (e : EqC X.K C) (c : CxN X W) (hr : Room j X.A) (ha : PE X a (up X.K W ga)) (hb : PE X b (up X.K W gb)) (le : k + 1 ≤ j := by omega) (hm : behindInMarks .NotEq b = false := by first | exact nomark _ | rfl) :
    PE X (.Compare a [.NotEq] [b] pos) (up X.K W (dNeI C G ga gb)) :=
  (pe_cmpR (op_neI d e c (hr.mono le)) ha hb hm).to fun σ H Q ⟨B, as, h, ρ, Qd, Ed, rp, w, k, xx⟩ => ⟨B, as, h, ρ, _, Ed, rp, w, fun v d1 h1 H1 g f q => ⟨B, as, h1, ρ, _, Ed, rp.go g, q, fun u d2 h2 H2 g2 f2 q2 => by
    obtain ⟨a, fs, rfl, ea, q2⟩ := atIns_ok q2
    obtain ⟨a', fs', rfl, ea', q2⟩ := atIns_ok q2
    obtain ⟨dx, gs, e1, _⟩ := g2.hr a _ ea
    obtain ⟨dx', gs', e1', _⟩ := g2.hr a' _ ea'
    have f1 := f.go g2
    cases f1
    cases f2
    exact ⟨a, dx, gs, a', dx', gs', rfl, e1, rfl, e1', spN.at (W := W0) (rp.go (g.trans g2)) (.cons (.obj a) (.cons (.obj a') .nil)) q2 (fun v d h3 H3 g3 fz ⟨b, eb, q3⟩ => by
      subst eb
      cases fz
      exact ⟨b, rfl, k _ _ h3 H3 ((g.trans g2).trans g3) (.bl _) q3⟩) noX⟩, xx.go g⟩, xx⟩
end
/-! ### x == y, x a built-in, y an instance: x declines -/
section
variable {prog : Program} {w : World} {A : Around} {E : Value → Shared → Prop} {s : Shared} {x C dx l : Addr} {Q : Value → Shared → Prop}
theorem dec_none (q : Q .notImplemented s) : wpAny (model prog w) A (call (.builtin "NoneType.__eq__") [.none, .ref x]) Q E s :=
  call_gives F.slot_NoneType_eq rfl F.entry_NoneType_eq (F.args_NoneType_eq_2 _ _) (PySem.SeqAt.NoneType___eq___none_ref_0 x) q
theorem dec_int {i : Int} {t : Tok} (hx : s.heap.get? x = some (PySem.W.instObj C dx)) (q : Q .notImplemented s) : wpAny (model prog w) A (call (.builtin "int.__eq__") [.int i t, .ref x]) Q E s := by
  refine GQ.call_here F.slot_int_eq (typeIs_int s i t) F.entry_int_eq (F.args_int_eq_2 _ _) ?_
  have hx2 : s.heap.get? x = some { cls := .ref C, dict := some dx, data := .plain, slots := #[] } := hx; obtain ⟨hp, g, d, tk, os⟩ := s
  wp_walk using wpAny_loadPart' hx2, wpAny_load hx2
  exact q
theorem dec_str {i : Str} {t : Tok} (hx : s.heap.get? x = some (PySem.W.instObj C dx)) (q : Q .notImplemented s) : wpAny (model prog w) A (call (.builtin "str.__eq__") [.str i t, .ref x]) Q E s := by
  refine GQ.call_here F.slot_str_eq (typeIs_str s i t) F.entry_str_eq (F.args_str_eq_2 _ _) ?_
  have hx2 : s.heap.get? x = some { cls := .ref C, dict := some dx, data := .plain, slots := #[] } := hx; obtain ⟨hp, g, d, tk, os⟩ := s
  wp_walk using wpAny_loadPart' hx2, wpAny_load hx2
  exact q
theorem dec_tup {items : Array Value} {n : Nat} {dd : Option Addr} {sl : Array (Option Value)} (hl : s.heap.get? l = some { cls := .type "tuple", dict := dd, data := .seq items n, slots := sl })
    (hi : PySem.W.Looks (model prog w) s.heap (isInstance (.ref x) (.type "tuple")) false) (q : Q .notImplemented s) : wpAny (model prog w) A (call (.builtin "tuple.__eq__") [.ref l, .ref x]) Q E s := by
  refine GQ.call_here F.slot_tuple_eq ⟨_, hl, rfl⟩ F.entry_tuple_eq (F.args_tuple_eq_2 _ _) ?_; obtain ⟨hp, g, d, tk, os⟩ := s
  wp_walk using wpAny_loadPart' hl, hi.at
  exact q
theorem dec_lst {items : Array Value} {n : Nat} {dd : Option Addr} {sl : Array (Option Value)} (hl : s.heap.get? l = some { cls := .type "list", dict := dd, data := .seq items n, slots := sl })
    (hi : PySem.W.Looks (model prog w) s.heap (isInstance (.ref x) (.type "list")) false) (q : Q .notImplemented s) : wpAny (model prog w) A (call (.builtin "list.__eq__") [.ref l, .ref x]) Q E s := by
  refine GQ.call_here F.slot_list_eq ⟨_, hl, rfl⟩ F.entry_list_eq (F.args_list_eq_2 _ _) ?_; obtain ⟨hp, g, d, tk, os⟩ := s
  wp_walk using wpAny_loadPart' hl, hi.at
  exact q
end
section
variable {prog : Program} {w : World} {A : Around} {E : Value → Shared → Prop} {s : Shared} {K : PySem.W.Frag} {x f C : Addr} {ox : Obj} {od : Option Obj}
theorem rc_right {u : Value} {Ta ida : String} {Q : Value → Shared → Prop} (ha : s.TypeIs u Ta) (KX : K.In s.heap) (I : PySem.W.InstAt s.heap x ox C od) (hsub : PySem.W.subIn K (.ref C) (.type Ta) = some false) (h1 : Slot Ta (cmpInfo .Eq).2.1 ida)
    (hc : ∀ Q' : Value → Shared → Prop, Q' .notImplemented s → wpAny (model prog w) A (call (.builtin ida) [u, .ref x]) Q' E s) (he : PySem.W.findIn K (.ref C) "__eq__" = some (some (.ref f))) (hf : PySem.W.isFn K (.ref f) = true) (hu : A.units < cLine)
    (h : wpAny (model prog w) A (call (.ref f) [.ref x, u]) (fun v s' => ∃ b, v = .bool b ∧ Q v s') E s) : wpAny (model prog w) A (richCompare .Eq u (.ref x)) Q E s := by
  have right : wpAny (model prog w) A (tryCompare (.ref x) "__eq__" u) (fun r s' => ∃ v, r = some v ∧ Q v s') E s := by
    unfold tryCompare
    refine wpAny_bind (PySem.W.ifBound_K KX I he hf (wpAny_mono h (fun v s' q => ?_) fun _ _ e => e))
    obtain ⟨b, rfl, q⟩ := q
    exact wpAny_pure ⟨_, rfl, q⟩
  rcases hi : cmpInfo CmpOp.Eq with ⟨sym, g, r⟩
  have e1 : g = "__eq__" := by
    have := congrArg (·.2.1) hi
    exact this.symm
  have e2 : r = "__eq__" := by
    have := congrArg (·.2.2) hi
    exact this.symm
  rw [hi] at h1; simp only [richCompare, hi, ha.oneThing_none]
  refine wpAny_holding (wpAny_bind (wpAny_cRoomFor hu (wpAny_bind (wpAny_typeOf ha (wpAny_bind (I.type.here ?_))))))
  rw [if_pos (show (Value.type Ta != Value.ref C) = true from rfl)]
  refine wpAny_bind ((PySem.W.looks_subIn KX hsub).here ?_); simp only [Bool.false_eq_true, if_false, Bool.not_false, if_true]
  refine wpAny_bind (m := tryCompare u _ (.ref x)) (wpAny_tryCompare_declines ha h1 (hc _ ⟨rfl, ?_⟩))
  subst e2
  refine wpAny_bind (m := tryCompare (.ref x) _ u) (wpAny_mono right (fun r s' q => ?_) fun _ _ e => e)
  obtain ⟨v, rfl, q⟩ := q
  exact wpAny_pure q
end
/-- what the class is no subclass of -/
structure EqO (K : PySem.W.Frag) (C : Addr) : Prop where
  non : PySem.W.subIn K (.ref C) (.type "NoneType") = some false
  int : PySem.W.subIn K (.ref C) (.type "int") = some false
  str : PySem.W.subIn K (.ref C) (.type "str") = some false
  tup : PySem.W.subIn K (.ref C) (.type "tuple") = some false
  lst : PySem.W.subIn K (.ref C) (.type "list") = some false
inductive KdV (K : PySem.W.Frag) (H : Hp) : V → Prop
  | non : KdV K H .non
  | int (i : Int) : KdV K H (.int i)
  | str (s : Str) : KdV K H (.str s)
  | tup {p : Addr} {xs : List V} : SqT K H p xs → KdV K H (.ref p)
  | lst {p : Addr} {xs : List V} : SqL K H p xs → KdV K H (.ref p)
def rEqR (K : PySem.W.Frag) (C : Addr) (G : SG) : R2 := fun x y H Q => ∃ a dx fs, y = .ref a ∧ H a = some (.ins C dx fs) ∧ KdV K H x ∧ spN K G [y, x] H (fun v H' => ∃ b, v = .bl b ∧ Q v H') (fun _ _ _ => False)
section
variable {X : Cx} {W : WX} {k : Nat} {C : Addr} {ps : List Str} {G : SG}
theorem op_eqR (d : Mn X.prog X.w X.K X.mg X.base k C "__eq__" ps G) (o : EqO X.K C) (c : CxN X W) (hr : Room k X.A) : OpR X (compareOp .Eq) (rEqR X.K C G) := by
  obtain ⟨f, fd, F0, cl, hm, hb⟩ := d
  intro pins s σ H x y v u Q iv rx ry ⟨a, dx, fs, ey, ea, kd, w⟩
  subst ey; obtain rfl : u = Value.ref a := ry
  obtain ⟨_, _, _, hobj, _⟩ := (show ObjOk X.prog X.w H s.heap a (.ins C dx fs) from iv.hok a _ ea)
  obtain ⟨mA, O, _⟩ := ins_get iv.hok ea
  obtain ⟨od, J, _⟩ := O.look
  have KX := iv.kIn
  have fin : wpAny (model X.prog X.w) X.A (call (.ref f) [.ref a, v]) (fun v s' => ∃ b, v = .bool b ∧ EP X pins σ Q v s') X.xe s := by
    refine wpAny_mono (F0.runsIn X.A rfl c.gd hr hb iv (.cons (show L2.RelV (.ref a) (.ref a) from rfl) (.cons rx .nil)) w) (fun r s' q => ?_) fun _ _ e => e
    obtain ⟨z, H', iv', rz, b, ez, q⟩ := q
    subst ez
    obtain rfl : r = Value.bool b := rz
    exact ⟨b, rfl, .bl b, H', iv', rfl, q⟩
  show wpAny (model X.prog X.w) X.A (richCompare .Eq v (.ref a)) (EP X pins σ Q) X.xe s
  cases kd with
  | non =>
    obtain rfl : v = Value.none := rx
    exact rc_right rfl KX J o.non F.slot_NoneType_eq (fun _ q => dec_none q) hm.at_ hm.fn hr.units0 fin
  | int i =>
    obtain ⟨t, rfl⟩ := (show ∃ t, v = Value.int i t from rx)
    exact rc_right (typeIs_int s i t) KX J o.int F.slot_int_eq (fun _ q => dec_int hobj q) hm.at_ hm.fn hr.units0 fin
  | str z =>
    obtain ⟨t, rfl⟩ := (show ∃ t, v = Value.str z t from rx)
    exact rc_right (typeIs_str s z t) KX J o.str F.slot_str_eq (fun _ q => dec_str hobj q) hm.at_ hm.fn hr.units0 fin
  | @tup p xs sq =>
    obtain rfl : v = Value.ref p := rx; obtain ⟨cells, rv, ⟨⟨cls, dd, data, sl⟩, ho, hc, n, hd⟩, hz⟩ := iv.tuple sq
    simp only at hc hd
    subst hc hd
    exact rc_right ⟨_, ho, rfl⟩ KX J o.tup F.slot_tuple_eq (fun _ q => dec_tup ho (J.type.andThen (PySem.W.looks_subIn KX o.tup)) q) hm.at_ hm.fn hr.units0 fin
  | @lst p xs sq =>
    obtain rfl : v = Value.ref p := rx; obtain ⟨cells, rv, pl, hz⟩ := iv.list sq
    obtain ⟨⟨cls, dd, data, sl⟩, ho, hc, n, hd⟩ := pl.isList
    simp only at hc hd
    subst hc hd
    exact rc_right ⟨_, ho, rfl⟩ KX J o.lst F.slot_list_eq (fun _ q => dec_lst ho (J.type.andThen (PySem.W.looks_subIn KX o.lst)) q) hm.at_ hm.fn hr.units0 fin
end
/-- x may be asked ==, and declines -/
def kdD (h : AH) : D → Prop
  | .non | .int _ | .str _ | .tup _ | .lst _ => True
  | .obj p => ∃ xs, h p = some (.lst xs)
  | _ => False
theorem kdD_ok {K : PySem.W.Frag} {B : Addr → Prop} {as : List Addr} {h : AH} {H : Hp} {v : V} {d : D} (hr : HR K (Mx B as h) h H) (f : Fz K (Mx B as h) H v d) (w : kdD h d) : KdV K H v := by
  cases f with
  | non => exact .non
  | bl b => exact w.elim
  | int i => exact .int i
  | str s => exact .str s
  | tup q _ => exact .tup q.1
  | lst _ e _ => exact .lst (SqL.of e)
  | dic _ _ _ _ => exact w.elim
  | scr _ => exact w.elim
  | obj a =>
    obtain ⟨xs, e⟩ := w
    obtain ⟨vs, e1, _⟩ := hr a _ e
    exact .lst (SqL.of e1)
def dEqR (C : Addr) (G : SG) (ga gb : DE) : DE := fun ρ h Q E => ga ρ h (fun x h1 => gb ρ h1 (fun y h2 => kdD h2 x ∧ atIns C y h2 fun _ _ => G [y, x] h2 (fun d h3 => ∃ b, d = .bl b ∧ Q (.bl b) h3) (fun _ _ => False)) E) E
section
variable {X : Cx} {W : WX} {k j : Nat} {C : Addr} {ps : List Str} {G : SG} {a b : Expr} {ga gb : DE} {pos : Pos}
theorem e_eqR (d : Mn X.prog X.w X.K X.mg X.base k C "__eq__" ps G) (o : EqO X.K C) (c : CxN X W) (hr : Room j X.A) (ha : PE X a (up X.K W ga)) (hb : PE X b (up X.K W gb)) (le : k ≤ j := by omega) (hm : behindInMarks .Eq b = false := by first | exact nomark _ | rfl) :
    PE X (.Compare a [.Eq] [b] pos) (up X.K W (dEqR C G ga gb)) :=
  (pe_cmpR (op_eqR d o c (hr.mono le)) ha hb hm).to fun σ H Q ⟨B, as, h, ρ, Qd, Ed, rp, w, k, xx⟩ => ⟨B, as, h, ρ, _, Ed, rp, w, fun v d1 h1 H1 g f q => ⟨B, as, h1, ρ, _, Ed, rp.go g, q, fun u d2 h2 H2 g2 f2 ⟨kd, q2⟩ => by
    obtain ⟨a, fs, rfl, ea, q2⟩ := atIns_ok q2
    obtain ⟨dx, gs, e1, _⟩ := g2.hr a _ ea
    cases f2
    exact ⟨a, dx, gs, rfl, e1, kdD_ok g2.hr (f.go g2) kd, spN.at (W := W0) (rp.go (g.trans g2)) (.cons (.obj a) (.cons (f.go g2) .nil)) q2 (fun v d h3 H3 g3 fz ⟨b, eb, q3⟩ => by
      subst eb
      cases fz
      exact ⟨b, rfl, k _ _ h3 H3 ((g.trans g2).trans g3) (.bl b) q3⟩) noX⟩, xx.go g⟩, xx⟩
end
end NL
set_option Elab.async false
set_option linter.all false
set_option maxRecDepth 100000
set_option maxHeartbeats 2300000
/-! N24: repr, texts compared, is False. -/
namespace NL
open PyProof.Rows L2 PySem PySem.Spec
/-- texts -/
def fEqT : D → D → (Bool → Prop) → Prop
  | .str a, .str b, Q => Q (a == b)
  | _, _, _ => False
def fNeT : D → D → (Bool → Prop) → Prop
  | .str a, .str b, Q => Q (!(a == b))
  | _, _, _ => False
theorem ob_eqT {K : PySem.W.Frag} : OpB K rEq fEqT := by
  intro M h H x y dx dy Q Qb hr fx fy w k
  cases dx with
  | str a =>
    cases dy with
    | str b =>
      rw [fx.str, fy.str]
      exact ⟨rfl, by rw [L2.dec_str]; exact k _ w⟩
    | _ => exact w.elim
  | _ => cases dy <;> exact w.elim
theorem ob_neT {K : PySem.W.Frag} : OpB K rNe fNeT := by
  intro M h H x y dx dy Q Qb hr fx fy w k
  cases dx with
  | str a =>
    cases dy with
    | str b =>
      rw [fx.str, fy.str]
      exact ⟨rfl, by rw [L2.dec_str]; exact k _ w⟩
    | _ => exact w.elim
  | _ => cases dy <;> exact w.elim
/-- b is False, b is not False -/
def rIsB : R2 := fun x y H Q => ∃ b c, x = .bl b ∧ y = .bl c ∧ Q (.bl (b == c)) H
def rNotB : R2 := fun x y H Q => ∃ b c, x = .bl b ∧ y = .bl c ∧ Q (.bl (!(b == c))) H
theorem o_isB {X : Cx} : OpR X (compareOp .Is) rIsB := by
  intro pins s σ H x y v u Q iv rx ry ⟨b, c, ex, ey, q⟩
  subst ex ey
  obtain rfl : v = Value.bool b := rx
  obtain rfl : u = Value.bool c := ry
  show wpAny _ _ (compareOp .Is (.bool b) (.bool c)) _ _ _
  unfold compareOp
  refine wpAny_bind (wpAny_of_eq (a := (b == c)) (by cases b <;> cases c <;> rfl) (wpAny_pure ⟨.bl (b == c), H, iv, rfl, q⟩))
theorem o_notB {X : Cx} : OpR X (compareOp .IsNot) rNotB := by
  intro pins s σ H x y v u Q iv rx ry ⟨b, c, ex, ey, q⟩
  subst ex ey
  obtain rfl : v = Value.bool b := rx
  obtain rfl : u = Value.bool c := ry
  show wpAny _ _ (compareOp .IsNot (.bool b) (.bool c)) _ _ _
  unfold compareOp
  refine wpAny_bind (wpAny_of_eq (a := (b == c)) (by cases b <;> cases c <;> rfl) (wpAny_pure ⟨.bl (!(b == c)), H, iv, rfl, q⟩))
def fIsB : D → D → (Bool → Prop) → Prop
  | .bl b, .bl c, Q => Q (b == c)
  | _, _, _ => False
def fNotB : D → D → (Bool → Prop) → Prop
  | .bl b, .bl c, Q => Q (!(b == c))
  | _, _, _ => False
theorem ob_isB {K : PySem.W.Frag} : OpB K rIsB fIsB := by
  intro M h H x y dx dy Q Qb hr fx fy w k
  cases dx with
  | bl a =>
    cases dy with
    | bl b => rw [fx.bl, fy.bl]; exact ⟨a, b, rfl, rfl, k _ w⟩
    | _ => exact w.elim
  | _ => cases dy <;> exact w.elim
theorem ob_notB {K : PySem.W.Frag} : OpB K rNotB fNotB := by
  intro M h H x y dx dy Q Qb hr fx fy w k
  cases dx with
  | bl a =>
    cases dy with
    | bl b => rw [fx.bl, fy.bl]; exact ⟨a, b, rfl, rfl, k _ w⟩
    | _ => exact w.elim
  | _ => cases dy <;> exact w.elim
/-- data that repr shows -/
structure Sho (d : D) : Prop where
  ok : d.ok = true
  sh : d.py.showable = true
  nd : d.py.hasDict = false
  dp : d.py.depth ≤ 64
  len : d.py.shown.length ≤ sizeLine
/-- repr(t), t a tuple -/
def fRepr : List D → (D → Prop) → Prop
  | [.tup xs], Q => Sho (.tup xs) ∧ Q (.str (D.tup xs).py.shown)
  | _, _ => False
def rShow (K : PySem.W.Frag) : List V → Hp → VK → Prop := fun xs H Q => ∃ (a : Addr) (d : PyData), xs = [.ref a] ∧ Dp K H (.ref a) d ∧ d.showable = true ∧ d.hasDict = false ∧ d.depth ≤ 64 ∧ d.shown.length ≤ sizeLine ∧ Q (.str d.shown) H
theorem k_repr {X : Cx} {W : WX} (c : CxN X W) (hu : X.A.units + 66 < cLine) : CallR X (.builtin "repr") (rShow X.K) := by
  intro pn s sg H xs us Q iv r ⟨a, d, ex, dp, h1, h2, h3, h4, q⟩
  subst ex; obtain ⟨u, rfl, ru⟩ := vals1 r
  cases ru
  obtain ⟨as, rd⟩ := Dp.reads iv d _ _ dp rfl
  exact PySem.repr_of_reads' rd h1 (fun z => by rw [h2] at z; cases z) c.gd (by omega) (fun _ _ e => e) (fun h' u tk kp => ⟨.str d.shown, H, iv.kept (t' := tk) kp, ⟨u, rfl⟩, q⟩) h4
theorem d_repr {K : PySem.W.Frag} : CallD K (rShow K) fRepr := by
  intro B as h H vs ds Q Qd hr dm fs w k
  match ds, w with
  | [.tup xs], w =>
    obtain ⟨v, rfl, f⟩ := one_of fs
    obtain ⟨p, us, rfl, t, f1⟩ := f.tup
    exact ⟨p, _, rfl, f.dp w.1.ok, w.1.sh, w.1.nd, w.1.dp, w.1.len, k _ _ H (.refl hr) (.str _) w.2⟩
theorem c_repr {X : Cx} {W : WX} {e : Expr} {es : List Expr} {gs : DA} {p pos : Pos} {k : Nat} (F : Fr X.mg) (c : CxN X W) (hr : Room k X.A) (ha : PA X (e :: es) (uv X.K W gs)) (hg : Gl X "repr" := by rfl) (he : starEach (e :: es) X.env = (false, eval e X.env) :: starEach es X.env := by rfl) (hpl : (backTo pos (starEach es X.env)).any (·.1) = false := by rfl) :
    PE X (.Call (.Name "repr" p) (e :: es) [] pos) (up X.K W (dCall fRepr gs)) := e_blt (k_repr c hr.u66) d_repr hg F.repr (by decide +kernel) ha (by decide) (by decide) he hpl
end NL
set_option Elab.async false
set_option linter.all false
set_option maxRecDepth 100000
set_option maxHeartbeats 2300000
/-! N25: a lambda without parameters, handed to a def that tries it. -/
namespace NL
open PyProof.Rows L2 LamX PySem PySem.Spec
theorem cxn_lam {X : Cx} {A : Around} {outer : List Env} {s : Shared} {H : Hp} {E : XK} {scope : Scope} {f c' : Addr} (nd : X.N.Nodup) (g : A.guards = some []) : CxN (lamCx X A outer s H E scope f c') (wE E) :=
  ⟨passes_of (K := fun e s'' => L2.CX X.prog X.w outer H s E e s'') rfl, rfl, nd, g, takes_of rfl rfl rfl rfl⟩
/-- the lambda's body, in whatever frames it is entered -/
def LamB (X : Cx) (k : Nat) (scope : Scope) (body : Expr) (gb : DE) : Prop := ∀ (A : Around) (outer : List Env) (s : Shared) (H : Hp) (E : XK) (f c' : Addr), Room k (A.deeper (lamEnv X scope s.heap.objs.size f c')) → CxN (lamCx X A outer s H E scope f c') (wE E) →
  PE (lamCx X A outer s H E scope f c') body (up X.K (wE E) gb)
section
variable {X : Cx} {pins : List (Addr × Obj)} {σ : L2.St} {H : Hp} {s : Shared} {k i : Nat} {scope sg : Scope} {params : Arguments} {body : Expr} {f g c' : Addr} {pm ctv cdg : Value} {gb : DE} {W : WX} {Eg : XK} {Ng : List Str} {xg a : Str} {pn : List (Addr × Obj)} {xe : Value → Shared → Prop} {p1 p2 : Pos}
/-- a(), a the def's parameter that holds the lambda -/
theorem act_at (iv : Inv X pins σ H s) (L : LamS X.env.scope scope) (hf : s.heap.get? f = some (PySem.W.kla_obj "<lambda>" (X.env.qual ++ "<lambda>") params body scope (cloFrom X.env.cells scope.names []) pm c' ctv)) (hfn : H f = none) (hfr : f ∉ frs X.stack)
    (hbind : bindArgs (PySem.W.kla_fn "<lambda>" (X.env.qual ++ "<lambda>") params body scope (cloFrom X.env.cells scope.names []) pm (.ref c') ctv) ⟨[], []⟩ = pure []) (nd : X.N.Nodup) (hgd : X.A.guards = some [])
    (hr : Room (k + 1) (X.A.deeper (envOfC xg sg s.heap.objs.size g cdg))) (hb : LamB X k scope body gb) (tk : Takes ((cxN X.prog X.w X.K X.mg X.base Ng xg sg g cdg X.A X.stack s H Eg).tr pn xe) W)
    (hN : Ng[i]? = some a) (hv : Vis sg a) (hd : (a == ("__debug__" : Str)) = false) (hcd : (a == ("__classdict__" : Str)) = false) :
    PE ((cxN X.prog X.w X.K X.mg X.base Ng xg sg g cdg X.A X.stack s H Eg).tr pn xe) (.Call (.Name a p1) [] [] p2)
      (fun τ HZ Q => τ[i]? = some (some (.ref f)) ∧ HZ c' = some (CodeO c' (X.env.qual ++ "<lambda>")) ∧ up X.K (fun cls d _ H' => W cls d τ H') gb σ HZ Q) := by
  constructor
  rintro pz sz τ HZ Q iz ⟨slot, code, rd⟩
  refine wpAny_Call_Name_kw (thn ((pe_var (pos := p1) (i := i) hN hv hd hcd).run pz sz τ HZ (fun v H1 => v = .ref f ∧ H1 = HZ) iz ⟨.ref f, slot, rfl, rfl⟩) fun u s1 ⟨v, H1, iz1, rv, ev, eH⟩ => ?_)
  subst ev eH
  obtain rfl : u = Value.ref f := rv
  have still : s1.heap.get? f = some (PySem.W.kla_obj "<lambda>" (X.env.qual ++ "<lambda>") params body scope (cloFrom X.env.cells scope.names []) pm c' ctv) := iz1.base.keep f _ hf hfn hfr (fun z => nomatch (show f ∈ ([] : List Addr) from z))
  obtain ⟨⟨oc, cs, t, co1, co2, co3⟩, _, _⟩ := iz1.hok c' _ code
  refine PySem.W.callWith_F0 ⟨_, _, _, _, still⟩ (wpAny_call (codeAny_mono (R := CR (L2.CX X.prog X.w) (envOfC xg sg s.heap.objs.size g cdg :: X.stack) X.prog X.w H1 s1 Q (fun cls d H' => W cls d τ H')) ?_ fun r s2 q => ?_))
  · refine PySem.W.kla_callFunE hr.depth still rfl L.co L.gen rfl ⟨c', oc, cs, t, rfl, co1, co2, co3⟩ ?_
    show wpAny _ _ (bindArgs _ ⟨[], []⟩) _ _ _
    rw [hbind]
    refine wpAny_pure (wpAny_newFunctionEnv (fun y hy => (L.own y hy).2) (fun y hy => absurd hy (by simp)) (fun h1 ns sb => ⟨iz1.nolimit.fresh _ sb, ?_⟩) L.kind)
    have kp : ∀ b o, s1.heap.get? b = some o → h1.get? b = some o := fun b o e => sb.extBut b o (Nat.ne_of_lt (Heap.lt_size e)) (Heap.get?_push_of_some _ e)
    have J : Inv (lamCx X (X.A.deeper (envOfC xg sg s.heap.objs.size g cdg)) (envOfC xg sg s.heap.objs.size g cdg :: X.stack) s1 H1 (fun cls d H' => W cls d τ H') scope f c') [] σ H1 { s1 with heap := h1, toks := s1.toks + ([] : List (Str × Value)).length } :=
      lam_start2 iv L iz1.env0 hr.hd iz1.base ns kp
    refine PySem.W.kla_codeExpr (wpAny_mono ((hb _ _ s1 H1 _ f c' (hr.deeper _) (cxn_lam nd hgd)).run [] _ _ H1 Q J rd) (fun v s' q => ?_) fun e s' q => q)
    obtain ⟨z, H', J', rz, q⟩ := q
    exact ⟨z, H', J'.os, J'.bare, J'.base, J'.hok, rz, q⟩
  · match r, q with
    | .ok (.ret u), q => exact iz1.after q
    | .error ex, q => exact tk _ _ (XE.of_call iz1 (fun _ _ _ z => z) q)
    | .ok .next, q => exact q.elim
    | .ok .brk, q => exact q.elim
    | .ok .cont, q => exact q.elim
end
end NL
set_option Elab.async false
set_option linter.all false
set_option maxRecDepth 100000
set_option maxHeartbeats 2300000
/-! N26: a def that tries what it is handed, and tells what came of it. -/
namespace NL
open PyProof.Rows L2 LamX PySem PySem.Spec
/-- the def x: try: return (wd, a()), with the clauses cs; Ng: its names -/
def ToldN (P : Program) (w : World) (K : PySem.W.Frag) (mg : Str → Option Value) (base : Heap) (x : Str) (Ng : List Str) (wd : Str) (cs : List Cl) : Prop :=
  ∃ (st : Stmt) (a : Str) (h₀ : ExceptHandler) (hds : List ExceptHandler) (j : Nat) (n1 : Nat) (p1 p2 p3 p4 p5 p6 : Pos), At K mg x st ∧
    defBody st = [.Try [.Return (some (.Tuple [.Constant (.str wd) j p5, .Call (.Name a p1) [] [] p2] n1 p3)) p4] (h₀ :: hds) [] [] p6] ∧ FnScope Ng [a] (defScope st) ∧ Ng[0]? = some a ∧ Vis (defScope st) a ∧
    (a == ("__debug__" : Str)) = false ∧ (a == ("__classdict__" : Str)) = false ∧ (∀ f fd, DefP K x st f fd → Binds K fd [a] []) ∧
    ∀ (g : Addr) (cdv : Value) (A : Around) (outer : List Env) (s : Shared) (H : Hp) (E : XK), CxN (cxN P w K mg base Ng x (defScope st) g cdv A outer s H E) (wE E) → HdN (cxN P w K mg base Ng x (defScope st) g cdv A outer s H E) (h₀ :: hds) cs
def toldE (Q : QD) (E : QX) : DEnds := { nx := fun _ h => Q .non h, rt := Q, ex := fun x _ h => E x h }
def dTold (K : PySem.W.Frag) (P : Addr) (q : Str) (n : Nat) (wd : Str) (cs : List Cl) (gb : DE) : DE := fun ρ h Q E =>
  h P = some (.tb q) ∧ gb ρ h (fun d h1 => Q (.tup [.str wd, d]) h1) (fun x h1 => ∀ f, wTry K (toldE Q E) cs x (startN n [.obj f]) h1)
section
variable {X : Cx} {W : WX} {x wd q : Str} {Ng : List Str} {cs : List Cl} {c P : Addr} {params : Arguments} {body : Expr} {scope : Scope} {gb : DE} {k : Nat} {p lpos pos : Pos}
theorem e_told (D : ToldN X.prog X.w X.K X.mg X.base x Ng wd cs) (C : CxN X W) (hr : Room (k + 2) X.A) (B0 : TabB X.base X.mg c P) (hcode : X.env.code = .ref c) (L : LamS X.env.scope scope) (hb : LamB X k scope body gb) (hq : q = X.env.qual ++ "<lambda>" := by rfl)
    (hdef : defaultsOf params X.env = ([], []) := by rfl) (hbind : ∀ (q : Str) (cl : List (Str × Addr)) (pm cv ctv : Value), bindArgs (PySem.W.kla_fn "<lambda>" q params body scope cl pm cv ctv) ⟨[], []⟩ = pure [] := by intros; rfl)
    (hg : Gl X x := by rfl) (hdb : (x == ("__debug__" : Str)) = false := by decide) :
    PE X (.Call (.Name x p) [.Lambda params body scope lpos] [] pos) (up X.K W (dTold X.K P q Ng.length wd cs gb)) := by
  obtain ⟨st, a, h₀, hds, j, n1, p1, p2, p3, p4, p5, p6, ⟨g, fd, F, hm⟩, hbd, Sg, hN, hv, hda, hca, hbn, hh⟩ := D
  have bnd := hbn g fd F
  have kp := F.kp
  obtain ⟨oc, od, dV, kV, doc, pm, an, cdv, ct, osl, rfl, lk, hcg, _, _⟩ := F.ex
  constructor
  rintro pn s σ H Q iv ⟨B, as, h, ρ, Qd, Ed, rp, ⟨eP, w⟩, kq, kx⟩
  have T0 : Tabs [(P, q)] H := fun y m => by
    rw [List.mem_singleton.mp m]
    exact rp.hr P _ eP
  refine wpAny_Call_Name_kw (ld_glob iv hg hm ?_ hdb)
  refine PySem.W.callWith_K (h₀ := X.base) iv.ok.mod.kin kp ?_ (by rfl) (by rfl)
  show wpAny _ _ (spliced ((false, eval (.Lambda params body scope lpos) X.env) :: backTo pos (starEach [] X.env))) _ _ s; refine Calls.spliced_cons (lam_make3 hq iv B0 hcode List.mem_cons_self (fun y m _ => by rw [List.mem_singleton.mp m]) T0 hdef (L.has iv.ok) fun f c' pm' ctv H1 s1 J tb T1 hf hfn hfr hco => ?_)
  refine Calls.spliced_nil ⟨J.kIn, ?_⟩
  subst hq
  have y : Go X.K B as h H h H1 := tb.go rp.hr eP (T1 _ List.mem_cons_self)
  refine wpAny_call (codeAny_mono (R := CR (L2.CX X.prog X.w) X.stack X.prog X.w H1 s1 Q (fun cls d H' => W cls d σ H')) (LamX.run_ofS (N := Ng) (ps := [a]) (us := [.ref f]) (vs := [.ref f]) lk hcg Sg hr J.env0 (bnd s1 [.ref f] J.kIn rfl) (.cons rfl .nil) rfl fun hr' => ?_) fun r s2 z => ?_)
  · have CZ := cxn_of (P := X.prog) (w := X.w) (K := X.K) (mg := X.mg) (base := X.base) (N := Ng) (qual := x) (scope := defScope st) (f := g) (cd := cdv) (A := X.A) (outer := X.stack) (s := s1) (H := H1) (E := fun cls d H' => W cls d σ H') Sg.nd C.gd
    rw [hbd]
    refine ⟨_, pss_one (ps_tryN (tb := fun W' => tRet fun τ HZ Q' => L2.tCons (tC (.str wd)) (L2.tCons (fun τ HZ Q => τ[0]? = some (some (.ref f)) ∧ HZ c' = some (CodeO c' (X.env.qual ++ "<lambda>")) ∧ up X.K (fun cls d _ H' => W' cls d τ H') gb σ HZ Q) L2.tNil) τ HZ fun xs H2 => xs.length ≤ sizeLine ∧ FreshT H2 xs Q')
      rfl rfl Sg.nd CZ.tk (fun W' pn' xe tk po => ?_) (hh _ _ _ _ _ _ _ CZ)), ?_⟩
    · exact pss_one (ps_ret (pe_fresh (pa_cons pe_str (pa_cons (act_at J L hf hfn hfr (hbind _ _ _ _ _) C.nd C.gd hr' hb tk hN hv hda hca) pa_nil))))
    · refine ⟨rfl, hco, B, as, h, ρ, _, _, rp.go y, w, fun v d h' H' x f q => ⟨(by decide : 2 ≤ sizeLine), fun b o hp hd => ?_⟩, fun e h' H' cls dd x r q => ?_⟩
      · exact kq _ _ h' _ ((y.trans x).trans (.new x.hr hp)) (.tup (.frz upd_same hd) (.cons (.str _) (.cons (f.go (.new x.hr hp)) .nil))) q
      · have go : ∀ {as' : List Addr} {h2 : AH} {H2 : Hp}, Mv [] h' H' as' h2 H2 → HR X.K (Mx (fun b => B b ∨ b ∈ as) [] h2) h2 H2 → Go X.K B as h H h2 H2 := fun {as' h2 H2} m r =>
          (y.trans x).trans ⟨m.k.weak fun a o _ z => z.elim id fun z => (nomatch z), m.lo, fun a o e z => (m.nw a o e z).elim id fun z => (nomatch z), r.anti fun _ m => mx_flat.mpr m⟩
        have rp0 : Rep X.K (fun b => B b ∨ b ∈ as) [] h' H' (L2.start Ng [.ref f]) (startN Ng.length [.obj f]) :=
          .start (fun b m => x.th (y.th (m.elim (rp.bd b) fun m => rp.dm b (.inr (.inl m))))) (x.hr.anti fun _ m => mx_flat.mp m) (.cons (.obj f) .nil) (by
            have := congrArg List.length Sg.pre
            rw [List.length_take] at this
            simp only [List.length_cons, List.length_nil] at this ⊢
            omega)
        refine wTry_wCl (B := fun b => B b ∨ b ∈ as) (as := []) (h := h') (H := H') (E := toldE Qd Ed) ⟨?_, fun _ _ _ _ _ _ q => q.elim, fun _ _ _ _ _ _ q => q.elim, fun v d h2 H2 m r f q => kq v d h2 H2 (go m r) (f.anti fun _ m => mx_flat.mpr m) q, ?_⟩ (.refl rp0) (r.anti fun _ m => mx_flat.mp m) (q f)
        · exact fun as' h2 H2 σ' ρ' t q => kq .non .non h2 H2 (go t.mv (t.rp.hr.anti fun _ m => mx_nil m)) .non q
        · exact fun e as' h2 H2 σ' ρ' cls dd t r q => kx e h2 H2 cls dd (go t.mv (t.rp.hr.anti fun _ m => mx_nil m)) (r.anti fun _ m => mx_nil (mx_flat.mpr m)) q
  · match r, z with
    | .ok (.ret u), z => exact J.after z
    | .error ex, z => exact C.tk _ _ (XE.of_call J (fun _ _ _ z => z) z)
    | .ok .next, z => exact z.elim
    | .ok .brk, z => exact z.elim
    | .ok .cont, z => exact z.elim
end
end NL
set_option Elab.async false
set_option linter.all false
set_option maxRecDepth 100000
set_option maxHeartbeats 2300000
/-! N27: three names at once. -/
namespace NL
open PyProof.Rows L2 LamX PySem PySem.Spec
section
variable {X : Cx} {W : WX} {a b c : Expr} {gs : DA} {pos : Pos}
def sPar3 (i j l : Nat) (gs : DA) : DS := fun E ρ h => gs ρ h (fun ds h1 => match ds with
  | [x, y, z] => E.nx (((ρ.set i (some (.d x))).set j (some (.d y))).set l (some (.d z))) h1
  | _ => False) (E.er ρ)
theorem st_par3 {i j l : Nat} {x y z : Str} {px py pz pt : Pos} {kt k2 pt2} (C : CxN X W) (hi : X.N[i]? = some x) (hj : X.N[j]? = some y) (hl : X.N[l]? = some z) (hij : i ≠ j) (hil : i ≠ l) (hjl : j ≠ l)
    (hx : X.env.scope.names.lookup x = some .local) (hy : X.env.scope.names.lookup y = some .local) (hz : X.env.scope.names.lookup z = some .local) (ha : PA X [a, b, c] (ua X.K W gs)) (hw : swappedStores [.Tuple [.Name x px, .Name y py, .Name z pz] kt pt] (.Tuple [a, b, c] k2 pt2) X.env = pure (some [x, y, z])) (hs : swapsWithSole [.Tuple [.Name x px, .Name y py, .Name z pz] kt pt] (.Tuple [a, b, c] k2 pt2) pos.line X.env = pure false := by rfl) :
    PS X (.Assign [.Tuple [.Name x px, .Name y py, .Name z pz] kt pt] (.Tuple [a, b, c] k2 pt2) pos) (us X.K W (sPar3 i j l gs)) :=
  (ps_par3 C.cm C.nd hi hj hl hij hil hjl hx hy hz ha hw hs).to fun D σ H ⟨B, as, h, ρ, E, rp, w, k⟩ => ⟨B, as, h, ρ, _, _, rp, w, fun vs ds h' H' go fs q => by
    match ds, q with
    | [d1, d2, d3], q =>
      obtain _ | ⟨f1, _ | ⟨f2, _ | ⟨f3, _ | _⟩⟩⟩ := fs
      have s1 := To.setD (i := i) rp go f1
      have s2 := To.setD (i := j) s1.rp (.refl s1.rp.hr) f2
      have s3 := To.setD (i := l) s2.rp (.refl s2.rp.hr) f3
      exact ⟨_, _, _, rfl, k.nx _ _ _ _ _ ((s1.trans s2).trans s3) q⟩, k.xc rp⟩
end
section
variable {X : Cx} {W : WX} {e o : Expr} {es : List Expr} {go : DE} {gs : DA} {pos apos : Pos} {k j : Nat} {C : Addr} {ps : List Str} {G : SG} {m : Str}
/-- the same, the last argument of the look left open -/
theorem e_methX (d : Mn X.prog X.w X.K X.mg X.base k C m ps G) (c : CxN X W) (hr : Room j X.A) (ho : PE X o (up X.K W go)) (ha : PA X (e :: es) (ua X.K W gs)) (le : k ≤ j := by omega) (hst : starEach (e :: es) X.env = (false, eval e X.env) :: starEach es X.env := by rfl) (hpl : (backTo pos (starEach es X.env)).any (·.1) = false := by rfl)
    (ht : ∃ pl : Sem Bool, eval (.Call (.Attribute o m apos) (e :: es) [] pos) X.env = (do
      let ov ← eval o X.env
      standAt apos.atName; let (f, first) ← holding [ov] (getMethod ov m pl)
      callWith pos f first (backTo pos (starEach (e :: es) X.env)) (backToKw pos (keywordEach [] X.env))) := by exact ⟨_, rfl⟩) :
    PE X (.Call (.Attribute o m apos) (e :: es) [] pos) (up X.K W (dMeth C m G go gs)) := by
  obtain ⟨pl, ht⟩ := ht
  exact e_meth d c hr ho ha le hst hpl ht
theorem e_meth0X (d : Mn X.prog X.w X.K X.mg X.base k C m ps G) (c : CxN X W) (hr : Room j X.A) (ho : PE X o (up X.K W go)) (le : k ≤ j := by omega)
    (ht : ∃ pl : Sem Bool, eval (.Call (.Attribute o m apos) [] [] pos) X.env = (do
      let ov ← eval o X.env
      standAt apos.atName; let (f, first) ← holding [ov] (getMethod ov m pl)
      callWith pos f first (backTo pos (starEach [] X.env)) (backToKw pos (keywordEach [] X.env))) := by exact ⟨_, rfl⟩) :
    PE X (.Call (.Attribute o m apos) [] [] pos) (up X.K W (dMeth C m G go dNil)) := by
  obtain ⟨pl, ht⟩ := ht
  exact e_meth0 d c hr ho le ht
theorem e_toldK {K : PySem.W.Frag} {x wd q : Str} {Ng : List Str} {cs : List Cl} {c P : Addr} {params : Arguments} {body : Expr} {scope : Scope} {gb : DE} {k : Nat} {p lpos pos : Pos} (D : ToldN X.prog X.w X.K X.mg X.base x Ng wd cs) (C : CxN X W) (hr : Room (k + 2) X.A) (B0 : TabB X.base X.mg c P) (hcode : X.env.code = .ref c) (L : LamS X.env.scope scope) (hb : LamB X k scope body gb)
    (hK : X.K = K := by rfl) (hq : q = X.env.qual ++ "<lambda>" := by rfl) (hdef : defaultsOf params X.env = ([], []) := by rfl) (hbind : ∀ (q : Str) (cl : List (Str × Addr)) (pm cv ctv : Value), bindArgs (PySem.W.kla_fn "<lambda>" q params body scope cl pm cv ctv) ⟨[], []⟩ = pure [] := by intros; rfl)
    (hg : Gl X x := by rfl) (hdb : (x == ("__debug__" : Str)) = false := by decide) :
    PE X (.Call (.Name x p) [.Lambda params body scope lpos] [] pos) (up X.K W (dTold K P q Ng.length wd cs gb)) := by
  subst hK
  exact e_told D C hr B0 hcode L hb hq hdef hbind hg hdb
end
end NL
set_option Elab.async false
set_option linter.all false
set_option maxRecDepth 100000
set_option maxHeartbeats 2300000
/-! N28: o.m(k = e), C(k = e). -/
namespace NL
open PyProof.Rows L2 LamX PySem PySem.Spec
/-- a def of two parameters takes the second by the name kw -/
def Kw1 (fd : FuncData) (ps : List Str) (kw : Str) : Prop := ∀ (s : Shared) (u w : Value), BindsTo s fd ⟨[u], [(kw, w)]⟩ (ps.zip [u, w])
theorem kw1 {K : PySem.W.Frag} {x qual : Str} {params : Arguments} {body : List Stmt} {scope : Scope} {f : Addr} {fd : FuncData} {ps : List Str} {kw : Str} (F : FunD K x qual params body scope [] [] f fd)
    (h : ∀ (kV doc pm : Value) (an : Option Addr) (cdv ct u w : Value), bindArgs (PySem.W.fnOf x qual params body scope .none kV doc pm an cdv ct) ⟨[u], [(kw, w)]⟩ = pure (ps.zip [u, w])) : Kw1 fd ps kw := by
  obtain ⟨oc, od, dV, kV, doc, pm, an, cdv, ct, osl, rfl, lk, hcd, hD, hK⟩ := F.ex; rcases hD with ⟨_, rfl⟩ | ⟨e, _⟩
  · exact fun s u w => BindsTo.of_looks fun M => by
      rw [h]
      exact .of_pure rfl
  · exact absurd rfl e
def MnK (P : Program) (w : World) (K : PySem.W.Frag) (mg : Str → Option Value) (base : Heap) (k : Nat) (C : Addr) (m : Str) (ps : List Str) (kw : Str) (G : SG) : Prop := ∃ f fd, FnN P w K mg base k f fd ps G ∧ Cls K C ∧ Meth K C m f ∧ Kw1 fd ps kw
def KnK (P : Program) (w : World) (K : PySem.W.Frag) (mg : Str → Option Value) (base : Heap) (k : Nat) (x : Str) (C : Addr) (ps : List Str) (kw : Str) (G : SG) : Prop := ∃ f fd, FnN P w K mg base k f fd ps G ∧ mg x = some (.ref C) ∧ Mk K C f ∧ Kw1 fd ps kw
/-- both ways -/
def MnB (P : Program) (w : World) (K : PySem.W.Frag) (mg : Str → Option Value) (base : Heap) (k : Nat) (C : Addr) (m : Str) (ps : List Str) (kw : Str) (G : SG) : Prop := Mn P w K mg base k C m ps G ∧ MnK P w K mg base k C m ps kw G
def KnB (P : Program) (w : World) (K : PySem.W.Frag) (mg : Str → Option Value) (base : Heap) (k : Nat) (x : Str) (C : Addr) (ps : List Str) (kw : Str) (G : SG) : Prop := Kn P w K mg base k x C ps G ∧ KnK P w K mg base k x C ps kw G
section
variable {P : Program} {w : World} {K : PySem.W.Frag} {mg : Str → Option Value} {base : Heap} {C : Addr} {x m q kw : Str} {st : Stmt} {N ps : List Str} {k : Nat} {G : SG}
theorem MnB.of {g : DS} (A : AtM K C m q st) (S : FnScope N ps (defScope st)) (hl : ∀ {f : Addr} {fd : FuncData}, DefM K m q st f fd → Binds K fd ps []) (hk : ∀ {f : Addr} {fd : FuncData}, DefM K m q st f fd → Kw1 fd ps kw)
    (hb : ∀ (f : Addr) (cdv : Value) (A : Around) (outer : List Env) (s : Shared) (H : Hp) (E : XK), Room k (A.deeper (envOfC q (defScope st) s.heap.objs.size f cdv)) → CxN (cxN P w K mg base N q (defScope st) f cdv A outer s H E) (wE E) →
      PSs (cxN P w K mg base N q (defScope st) f cdv A outer s H E) (defBody st) (us K (wE E) g)) (i : ∀ ds h Q E, G ds h Q E → ds.length = ps.length ∧ run (lenN N) g ds h Q E) : MnB P w K mg base (k + 1) C m ps kw G := by
  refine ⟨Mn.of A S hl hb i, ?_⟩
  obtain ⟨f, fd, F, cl, hm⟩ := A
  exact ⟨f, fd, (FnN.made F S fun cdv A outer s H E _ r c => hb f cdv A outer s H E r c).imp fun ds h Q E z => by rw [← lenN_eq N]; exact i ds h Q E z, cl, hm, hk F⟩
theorem KnB.of {g : DS} (A : AtK K mg x C q st) (S : FnScope N ps (defScope st)) (hl : ∀ {f : Addr} {fd : FuncData}, DefM K "__init__" q st f fd → Binds K fd ps []) (hk : ∀ {f : Addr} {fd : FuncData}, DefM K "__init__" q st f fd → Kw1 fd ps kw)
    (hb : ∀ (f : Addr) (cdv : Value) (A : Around) (outer : List Env) (s : Shared) (H : Hp) (E : XK), Room k (A.deeper (envOfC q (defScope st) s.heap.objs.size f cdv)) → CxN (cxN P w K mg base N q (defScope st) f cdv A outer s H E) (wE E) →
      PSs (cxN P w K mg base N q (defScope st) f cdv A outer s H E) (defBody st) (us K (wE E) g)) (i : ∀ ds h Q E, G ds h Q E → ds.length = ps.length ∧ run (lenN N) g ds h Q E) : KnB P w K mg base (k + 1) x C ps kw G := by
  refine ⟨Kn.of A S hl hb i, ?_⟩
  obtain ⟨f, fd, F, hm, M⟩ := A
  exact ⟨f, fd, (FnN.made F S fun cdv A outer s H E _ r c => hb f cdv A outer s H E r c).imp fun ds h Q E z => by rw [← lenN_eq N]; exact i ds h Q E z, hm, M, hk F⟩
end
section
variable {X : Cx} {W : WX} {e o : Expr} {go ge : DE} {pos apos kpos p : Pos} {k j : Nat} {C f : Addr} {fd : FuncData} {ps : List Str} {G : SG} {x m kw : Str}
theorem FnN.runsK {pins : List (Addr × Obj)} {σ : L2.St} {H : Hp} {s : Shared} {Q : VK} {u u2 : Value} {vs : List V} (F : FnN X.prog X.w X.K X.mg X.base k f fd ps G) (c : CxN X W) (hr : Room k X.A) (hb : Kw1 fd ps kw) (iv : Inv X pins σ H s) (r : Vals vs [u, u2])
    (w : spN X.K G vs H Q (fun cls dd H' => W cls dd σ H')) : wpAny (model X.prog X.w) X.A (call (.ref f) [u] [(kw, u2)]) (EP X pins σ Q) X.xe s := by
  refine wpAny_call (codeAny_mono (F.go X.A X.stack s H ⟨[u], [(kw, u2)]⟩ [u, u2] vs Q _ c.gd hr iv.env0 (hb s u u2) r w) fun res s' q => ?_)
  match res, q with
  | .ok (.ret u), q => exact iv.after q
  | .error ex, q => exact c.tk _ _ (XE.of_call iv (fun _ _ _ z => z) q)
  | .ok .next, q => exact q.elim
  | .ok .brk, q => exact q.elim
  | .ok .cont, q => exact q.elim
/-- o.m(kw = e) -/
theorem e_methK (d : MnK X.prog X.w X.K X.mg X.base k C m ps kw G) (c : CxN X W) (hr : Room j X.A) (ho : PE X o (up X.K W go)) (he : PE X e (up X.K W ge)) (le : k ≤ j := by omega)
    (hall : (backToKw pos (keywordEach [⟨some kw, e, kpos⟩] X.env)).all (·.1.isSome) = true := by rfl)
    (hpl : ((backTo pos (starEach [] X.env)).any (·.1) || (backToKw pos (keywordEach [⟨some kw, e, kpos⟩] X.env)).any (·.1.isNone)) = false := by rfl)
    (hks : (backToKw pos (keywordEach [⟨some kw, e, kpos⟩] X.env)).filterMap (·.1) = [kw] := by rfl)
    (ht : ∃ pl : Sem Bool, eval (.Call (.Attribute o m apos) [] [⟨some kw, e, kpos⟩] pos) X.env = (do
      let ov ← eval o X.env
      standAt apos.atName; let (f, first) ← holding [ov] (getMethod ov m pl)
      callWith pos f first (backTo pos (starEach [] X.env)) (backToKw pos (keywordEach [⟨some kw, e, kpos⟩] X.env))) := by exact ⟨_, rfl⟩) :
    PE X (.Call (.Attribute o m apos) [] [⟨some kw, e, kpos⟩] pos) (up X.K W (dMeth C m G go (dCons ge dNil))) := by
  obtain ⟨f, fd, F, cl, hm, hb⟩ := d
  obtain ⟨pl, ht⟩ := ht
  constructor
  rintro pn s σ H Q iv ⟨B, as, h, ρ, Qd, Ed, rp, w, k, xx⟩
  refine PySem.W.methodCall_KW (pl := pl) (thn (ho.run pn s σ H (fun x H1 => ∃ a dx fs, x = .ref a ∧ H1 a = some (.ins C dx fs) ∧ fs.lookup m = none ∧ up X.K W ge σ H1 fun v H2 => spN X.K G [.ref a, v] H2 Q fun cls dd H' => W cls dd σ H') iv
    ⟨B, as, h, ρ, _, _, rp, w, fun v d h1 H1 g f q => ?_, xx⟩) fun u s1 ⟨x, H1, J, rx, a, dx, fs, ex, ea, l, q⟩ => ?_) ht
  · obtain ⟨a, fs, rfl, ea, l, q⟩ := atIns_ok q
    obtain ⟨dx, gs', e1, e2, sf⟩ := g.hr a _ ea
    cases f
    exact ⟨a, dx, gs', rfl, e1, sf.none l, B, as, h1, ρ, _, _, rp.go g, q, fun v d h2 H2 g2 f2 q2 => spN.at (rp.go (g.trans g2)) (.cons (.obj a) (.cons f2 .nil)) q2 (k.go (g.trans g2)) (xx.go (g.trans g2)), xx.go g⟩
  · subst ex; obtain rfl : u = Value.ref a := rx
    refine getmeth_ok J ea cl hm l ?_
    refine PySem.W.callWith_KW0 (first := [.ref a]) (h₀ := X.base) J.ok.mod.kin hm.kp hall (thn ((pk_cons (nm := some kw) (kpos := kpos) he pk_nil).run pos pn s1 σ H1 (fun zs H2 => ∃ v, zs = [v] ∧ spN X.K G [.ref a, v] H2 Q fun cls dd H' => W cls dd σ H') J ?_) fun ws s2 ⟨zs, H2, J2, r, v, ez, q2⟩ => ⟨J2.kIn, ?_⟩) hpl
    · obtain ⟨B, as, h, ρ, Qd, Ed, rp, w, k, xx⟩ := q
      exact ⟨B, as, h, ρ, _, _, rp, w, fun v d h' H' g f z => ⟨v, rfl, k v d h' H' g f z⟩, xx⟩
    · subst ez
      obtain ⟨u2, rfl, r2⟩ := vals1 r
      rw [hks]
      exact F.runsK (vs := [.ref a, v]) c (hr.mono le) hb J2 (.cons rfl (.cons r2 .nil)) q2
theorem FnN.makesK {pins : List (Addr × Obj)} {σ : L2.St} {H : Hp} {s : Shared} {Q : VK} {u : Value} {v : V} {fn : Addr} (F : FnN X.prog X.w X.K X.mg X.base k fn fd ps G) (M : Mk X.K C fn) (c : CxN X W) (hr : Room (k + 1) X.A) (hb : Kw1 fd ps kw) (iv : Inv X pins σ H s) (r : RelV v u)
    (w : ∀ x dx, H x = none → H dx = none → dx ≠ x → spN X.K G [.ref x, v] (upd (upd H dx (.own x)) x (.ins C dx [])) (fun v H2 => v = .non ∧ Q (.ref x) H2) (fun cls dd H' => W cls dd σ H')) : wpAny (model X.prog X.w) X.A (call (.ref C) [] [(kw, u)]) (EP X pins σ Q) X.xe s := by
  have w' := w (s.heap.objs.size + 1) s.heap.objs.size (iv.hok.fresh (Nat.le_succ _)) (iv.hok.fresh (Nat.le_refl _)) (Nat.ne_of_lt (Nat.lt_succ_self _))
  have iv2 := Inv.made (C := C) iv
  have gd : (X.A.under (.builtin "type.__call__" ⟨.ref C :: [], [(kw, u)]⟩)).guards = some [] := by
    simp [Around.under, Code.guards, Code.isGuard, guardIds, pushGuards, c.gd]
  refine wpAny_call (make_map (f := fn) iv.kIn M.makes M.init (beq_iff_eq.mp M.fn) (codeAny_mono (F.go _ X.stack _ _ ⟨[Value.ref (s.heap.objs.size + 1)], [(kw, u)]⟩ [Value.ref (s.heap.objs.size + 1), u] [V.ref (s.heap.objs.size + 1), v] _ _ gd (hr.make C [] [(kw, u)]) (iv2.env0.make C [] [(kw, u)]) (hb _ _ u) (.cons rfl (.cons r .nil)) w') fun res s' q => ?_))
  match res, q with
  | .ok (.ret u), q =>
    obtain ⟨v, H', iv3, rv, ev, q3⟩ := iv2.after q
    subst ev
    exact ⟨rv, ⟨V.ref (s.heap.objs.size + 1), H', iv3, rfl, q3⟩⟩
  | .error ex, q => exact c.tk _ _ (XE.of_call iv2 (fun _ _ _ z => z) q)
  | .ok .next, q => exact q.elim
  | .ok .brk, q => exact q.elim
  | .ok .cont, q => exact q.elim
/-- C(kw = e) -/
theorem e_makeK (d : KnK X.prog X.w X.K X.mg X.base k x C ps kw G) (c : CxN X W) (hr : Room j X.A) (he : PE X e (up X.K W ge)) (le : k + 1 ≤ j := by omega) (hg : Gl X x := by rfl) (hdb : (x == ("__debug__" : Str)) = false := by decide)
    (hall : (backToKw pos (keywordEach [⟨some kw, e, kpos⟩] X.env)).all (·.1.isSome) = true := by rfl)
    (hpl : ((backTo pos (starEach [] X.env)).any (·.1) || (backToKw pos (keywordEach [⟨some kw, e, kpos⟩] X.env)).any (·.1.isNone)) = false := by rfl)
    (hks : (backToKw pos (keywordEach [⟨some kw, e, kpos⟩] X.env)).filterMap (·.1) = [kw] := by rfl) :
    PE X (.Call (.Name x p) [] [⟨some kw, e, kpos⟩] pos) (up X.K W (dMake C G (dCons ge dNil))) := by
  obtain ⟨fn, fd, F, hm, M, hb⟩ := d
  constructor
  rintro pn s σ H Q iv ⟨B, as, h, ρ, Qd, Ed, rp, w, k, xx⟩
  apply wpAny_Call_Name_kw (ld_glob iv hg hm ?_ hdb)
  refine PySem.W.callWith_KW0 (h₀ := X.base) iv.ok.mod.kin M.kp hall (thn ((pk_cons (nm := some kw) (kpos := kpos) he pk_nil).run pos pn s σ H (fun zs H1 => ∃ v, zs = [v] ∧ ∀ x dx, H1 x = none → H1 dx = none → dx ≠ x → spN X.K G [.ref x, v] (upd (upd H1 dx (.own x)) x (.ins C dx [])) (fun v H2 => v = .non ∧ Q (.ref x) H2) (fun cls dd H' => W cls dd σ H')) iv
    ⟨B, as, h, ρ, _, _, rp, w, fun v d h1 H1 g f q => ⟨v, rfl, fun x dx nx ndx ne => ?_⟩, xx⟩) fun ws s1 ⟨zs, H1, J, r, v, ez, q⟩ => ⟨J.kIn, ?_⟩) hpl
  · have g1 : Go X.K B as h1 H1 h1 (upd H1 dx (.own x)) := .new g.hr ndx
    have nx' : upd H1 dx (HO.own x) x = none := by rw [upd_ne ne.symm]; exact nx
    have g2 : Go X.K B as h1 (upd H1 dx (.own x)) (put h1 x (.ins C [])) (upd (upd H1 dx (.own x)) x (.ins C dx [])) :=
      .made (.new g1.hr nx') nx' (g1.hr.off nx') ⟨dx, [], upd_same, by rw [upd_ne ne]; exact upd_same, .nil⟩ (g1.hr.put_new nx')
    have gg := (g.trans g1).trans g2
    exact spN.at (rp.go gg) (.cons (.obj x) (.cons (f.go (g1.trans g2)) .nil)) (q x (g.hr.off nx)) (fun v d h' H' g3 fz q3 => by
      obtain ⟨rfl, q3⟩ := q3
      cases fz
      exact ⟨rfl, k _ _ h' H' (gg.trans g3) (.obj x) q3⟩) (xx.go gg)
  · subst ez
    obtain ⟨u, rfl, r1⟩ := vals1 r
    rw [hks]
    exact F.makesK M c (hr.mono le) hb J r1 q
end
end NL
set_option Elab.async false
set_option linter.all false
set_option maxRecDepth 100000
set_option maxHeartbeats 2300000
/-! N29: l[::-1]. -/
namespace NL
open PyProof.Rows L2 LamX PySem PySem.Spec
theorem FzL.rev {K : PySem.W.Frag} {M : Addr → Prop} {H : Hp} : ∀ {vs : List V} {ds : List D}, FzL K M H vs ds → FzL K M H vs.reverse ds.reverse
  | _, _, .nil => .nil
  | _, _, .cons h t => by
    rw [List.reverse_cons, List.reverse_cons]; exact t.rev.snoc h
def dRevL (g : DE) : DA := fun ρ h Q E => g ρ h (fun d h1 => match d with
  | .lst xs => Q xs.reverse h1
  | _ => False) E
section
variable {X : Cx} {W : WX} {e : Expr} {g : DE}
theorem e_revL {k : Nat} {p1 p2 p3 pos : Pos} (he : PE X e (up X.K W g)) : PE X (.Subscript e (.Slice none none (some (.UnaryOp .USub (.Constant (.int 1) k p1) p2)) p3) pos) (un X.K W (dRevL g)) :=
  (pe_revL he).to fun σ H Q ⟨B, as, h, ρ, Qd, Ed, rp, w, kq, xx⟩ => ⟨B, as, h, ρ, _, Ed, rp, w, fun v d h' H' x f q => by
    cases d with
    | lst xs =>
      obtain ⟨p, vs, rfl, h1, f1⟩ := (Fs.z (B := B) (as := as) (h := h') f).ws.lst
      exact ⟨p, vs, rfl, SqL.of h1, fun l hl => kq l vs.reverse xs.reverse h' _ (x.trans (.new x.hr hl)) (x.back hl) upd_same (x.hr.off hl) ((x.hr.more hl).new hl) ((f1.more hl).keeps (.new hl) fun _ _ _ m => m).rev q⟩
    | _ => exact q.elim, xx⟩
end
end NL
set_option Elab.async false
set_option linter.all false
set_option maxRecDepth 100000
set_option maxHeartbeats 2300000
/-! N30: what the head is looked at for: defs, methods, tables, and an __init__ with the cell __class__. -/
namespace NL
open PyProof.Rows L2 PySem PySem.Spec
/-- the part that is looked at: no lists, no empty tables -/
def isList (o : Obj) : Bool := match o.cls with
  | .type c => decide (c = "list")
  | _ => false
def seeK (n : Nat) (g : Addr → Option Obj) : PySem.W.Frag := (He.frG g (cStatics :: He.asD g n)).filter fun q => !(He.emptyTab q.2 || isList q.2)
theorem seeK_at {n : Nat} {g : Addr → Option Obj} {a : Addr} {o : Obj} (h : (seeK n g).lookup a = some o) : g a = some o ∧ He.emptyTab o = false ∧ isList o = false := by
  obtain ⟨h1, h2⟩ := List.mem_filter.mp (He.lookup_mem h)
  refine ⟨He.frG_mem h1, ?_⟩
  simpa using h2
theorem seeK_in {n : Nat} {h : Heap} : (seeK n h.get?).In h := fun _ _ e => (seeK_at e).1
/-- an own exception's __init__ -/
structure DefC where
  cls : Str
  name : Str
  qual : Str
  params : Arguments
  body : List Stmt
  scope : Scope
abbrev FnC : Type := Option (Str × Str × Arguments × FuncBody × Scope × Addr × List Str × Addr)
def iniAt (K : PySem.W.Frag) (c : Str) : Addr := He.ma K (He.ga K c) "__init__"
def fnC (K : PySem.W.Frag) (c : Str) : FnC := match K.lookup (iniAt K c) with
  | some ⟨_, _, .func fd, _⟩ => some (fd.name, fd.qualname, fd.params, fd.body, fd.scope, fd.globals, fd.closure.map (·.1), fd.builtins)
  | _ => none
def DefC.val (d : DefC) : FnC := some (d.name, d.qual, d.params, .stmts d.body, d.scope, mainGlobals, ["__class__"], builtinsNs)
def cellB (K : PySem.W.Frag) (C : Addr) : List (Str × Addr) → Bool
  | [(_, cc)] => (match K.lookup cc with
    | some ⟨_, _, .cell (some (.ref D)), _⟩ => decide (D = C)
    | _ => false)
  | _ => false
def fileB (K : PySem.W.Frag) (file : Str) : Value → Bool
  | .ref cd => (match K.lookup cd with
    | some ⟨_, _, .fields vs, _⟩ => (match (vs[2]? : Option Value) with
      | some (.str f _) => file == f
      | _ => false)
    | _ => false)
  | _ => false
def isNone : Value → Bool
  | .none => true
  | _ => false
def DefC.ok (K : PySem.W.Frag) (file : Str) (d : DefC) : Bool := match K.lookup (iniAt K d.cls) with
  | some ⟨_, _, .func fd, _⟩ => isNone fd.defaults && (isNone fd.kwdefaults && (PySem.W.codeIn K fd.code d.qual && (cellB K (He.ga K d.cls) fd.closure && fileB K file fd.code)))
  | _ => false
theorem cellB_ok {K : PySem.W.Frag} {C : Addr} {cl : List (Str × Addr)} (h : cellB K C cl = true) (e : cl.map (·.1) = ([("__class__" : Str)] : List Str)) : ∃ cc, cl = [(("__class__" : Str), cc)] ∧ ∃ u d sl, K.lookup cc = some ⟨u, d, .cell (some (.ref C)), sl⟩ := by
  match cl, h, e with
  | [(x, cc)], h, e =>
    simp only [List.map_cons, List.map_nil, List.cons.injEq, and_true] at e
    subst e
    refine ⟨cc, rfl, ?_⟩
    have h : (match K.lookup cc with
      | some ⟨_, _, .cell (some (.ref D)), _⟩ => decide (D = C)
      | _ => false) = true := h
    split at h
    · rename_i u d D sl q
      exact ⟨_, _, _, by rw [q, of_decide_eq_true h]⟩
    · cases h
theorem fileB_ok {K : PySem.W.Frag} {file : Str} {v : Value} (h : fileB K file v = true) : ∃ c, v = .ref c ∧ ∃ u d vs sl f tf, K.lookup c = some ⟨u, d, .fields vs, sl⟩ ∧ vs[2]? = some (.str f tf) ∧ (file == f) = true := by
  cases v with
  | ref c =>
    refine ⟨c, rfl, ?_⟩
    have h : (match K.lookup c with
      | some ⟨_, _, .fields vs, _⟩ => (match (vs[2]? : Option Value) with
        | some (.str f _) => file == f
        | _ => false)
      | _ => false) = true := h
    split at h
    · rename_i u d vs sl q
      split at h
      · rename_i f tf q2
        exact ⟨_, _, _, _, _, _, q, q2, h⟩
      · cases h
    · cases h
  | _ => cases h
theorem isNone_ok {v : Value} (h : isNone v = true) : v = .none := by
  cases v with
  | none => rfl
  | _ => cases h
theorem DefC.fn {K : PySem.W.Frag} {file : Str} {d : DefC} (e : fnC K d.cls = d.val) (c : d.ok K file = true) : ∃ cc cda oc od osl doc pm an ct, K.lookup (iniAt K d.cls) = some ⟨oc, od, .func (PySem.W.ksFn d.name d.qual d.params d.body d.scope .none .none doc pm an (.ref cda) ct cc), osl⟩ ∧
    PySem.W.codeIn K (.ref cda) d.qual = true ∧ (∃ u dd sl, K.lookup cc = some ⟨u, dd, .cell (some (.ref (He.ga K d.cls))), sl⟩) ∧ ∃ u dd vs sl f tf, K.lookup cda = some ⟨u, dd, .fields vs, sl⟩ ∧ vs[2]? = some (.str f tf) ∧ (file == f) = true := by
  unfold fnC at e
  unfold DefC.ok at c
  cases q : K.lookup (iniAt K d.cls) with
  | none => rw [q] at c; cases c
  | some o =>
    obtain ⟨oc, od, dt, osl⟩ := o
    rw [q] at c e
    cases dt with
    | func fd =>
      obtain ⟨a1, a2, a3, a4, a5, a6, a7, a8, a9, b1, b2, b3, b4, b5, b6⟩ := fd
      have e2 : (some (a1, a2, a3, a4, a5, a6, a7.map (·.1), b6) : FnC) = some (d.name, d.qual, d.params, FuncBody.stmts d.body, d.scope, mainGlobals, [("__class__" : Str)], builtinsNs) := e; simp only [Option.some.injEq, Prod.mk.injEq] at e2; obtain ⟨h1, h2, h3, h4, h5, h6, h7, h8⟩ := e2
      have c3 : (isNone a8 && (isNone a9 && (PySem.W.codeIn K b4 d.qual && (cellB K (He.ga K d.cls) a7 && fileB K file b4)))) = true := c
      simp only [Bool.and_eq_true] at c3
      obtain ⟨k1, k2, k3, k4, k5⟩ := c3
      obtain ⟨cc, rfl, kc⟩ := cellB_ok k4 h7
      obtain ⟨cda, rfl, kf⟩ := fileB_ok k5
      obtain rfl := isNone_ok k1
      obtain rfl := isNone_ok k2
      subst h1 h2 h3 h4 h5 h6 h8
      exact ⟨cc, cda, oc, od, osl, b1, b2, b3, b5, rfl, k3, kc, kf⟩
    | _ => cases c
/-- what is said of such a class -/
def cdB (K : PySem.W.Frag) (C : Addr) : Bool := match PySem.W.clsIn K C with
  | some cd => (match cd.mro with
    | .ref D :: bm => decide (D = C) && (cd.hasDict && decide (PySem.W.alongIn K "__init__" bm = some (some (.builtin "Exception.__init__"))))
    | _ => false)
  | _ => false
theorem cdB_ok {K : PySem.W.Frag} {C : Addr} (h : cdB K C = true) : ∃ cd bm, PySem.W.clsIn K C = some cd ∧ cd.mro = .ref C :: bm ∧ cd.hasDict = true ∧ PySem.W.alongIn K "__init__" bm = some (some (.builtin "Exception.__init__")) := by
  unfold cdB at h
  split at h
  · rename_i cd q
    split at h
    · rename_i D bm e; simp only [Bool.and_eq_true, decide_eq_true_eq] at h
      obtain ⟨rfl, h2, h3⟩ := h
      exact ⟨cd, bm, q, e, h2, h3⟩
    · cases h
  · cases h
def eqV (a b : Option (Option Value)) : Bool := decide (a = b)
def eqB (a b : Option Bool) : Bool := decide (a = b)
def supB (K : PySem.W.Frag) (x f : Str) : Bool := PySem.W.excInitIn K (He.ga K x) exB "Exception.__new__" && (PySem.W.excOver K (He.ga K x) exB && (cdB K (He.ga K x) && (eqV (PySem.W.findIn K (.ref (He.ga K x)) "__setattr__") (some (some (.builtin "object.__setattr__"))) &&
  (eqV (PySem.W.findIn K (.ref (He.ga K x)) f) (some none) && (eqB (PySem.W.subIn K (.ref (He.ga K x)) (.type "Exception")) (some true) && (eqB (PySem.W.subIn K (.ref (He.ga K x)) (.type "BaseException")) (some true) && (decide (PySem.W.typeIn K (.ref (He.ga K x)) = some (.type "type")) &&
  (PySem.W.keepIn K (.ref (He.ga K x)) && (eqB (PySem.W.mroIn K (He.ga K x) (.ref (He.ga K x))) (some true) && (eqV (PySem.W.nsIn K cStatics "thirdparty.any") (some none) && (eqV (PySem.W.findIn K (.ref (He.ga K x)) "__init__") (some (some (.ref (iniAt K x)))) && decide (PySem.W.typeIn K (.ref (iniAt K x)) = some (.type "function")))))))))))))
theorem supC_of {P : Program} {K : PySem.W.Frag} {mg : Str → Option Value} {d : DefC} {a f : Str} (h : supB K d.cls f = true) (e : fnC K d.cls = d.val) (c : d.ok K P.main.file = true) (T : SupT d.body d.params d.scope a f)
    (hb : ∀ (doc pm : Value) (an : Option Addr) (cdv ct x y : Value) (cc : Addr), bindArgs (PySem.W.ksFn d.name d.qual d.params d.body d.scope .none .none doc pm an cdv ct cc) ⟨[x, y], []⟩ = pure [(("self" : Str), x), (a, y)])
    (gl : mg "super" = none) (top : (P.main.scope.names.lookup ("super" : Str)).isSome = false) : SupC P K mg (He.ga K d.cls) f := by
  unfold supB eqV eqB at h; simp only [Bool.and_eq_true, decide_eq_true_eq] at h
  obtain ⟨h1, h2, h3, h4, h5, h6, h7, h8, h9, h10, h11, h12, h13⟩ := h
  obtain ⟨cc, cda, oc, od, osl, doc, pm, an, ct, lk, hcd, hc, u, dd, vs, sl, ff, tf, k1, k2, k3⟩ := d.fn e c
  exact ⟨h1, h2, cdB_ok h3, h4, h5, h6, h7, h8, h9, h10, h11, gl, top, _, cc, cda, oc, od, osl, d.name, d.qual, d.params, d.body, d.scope, .none, .none, doc, pm, an, ct, a, h12, h13, lk, hcd, T, fun x y => hb doc pm an _ ct x y cc, hc, u, dd, vs, sl, ff, tf, k1, k2, k3⟩
/-- an own exception without __init__ -/
def bareB (K : PySem.W.Frag) (x : Str) : Bool := PySem.W.excIn K (He.ga K x) exB "Exception.__new__" && (PySem.W.keepIn K (.ref (He.ga K x)) && (eqB (PySem.W.subIn K (.ref (He.ga K x)) (.type "BaseException")) (some true) && decide (PySem.W.typeIn K (.ref (He.ga K x)) = some (.type "type"))))
theorem bareX_of {K : PySem.W.Frag} {mg : Str → Option Value} {x : Str} (h : bareB K x = true) (g : mg x = some (.ref (He.ga K x))) : BareX K mg x (He.ga K x) := by
  unfold bareB eqB at h; simp only [Bool.and_eq_true, decide_eq_true_eq] at h
  exact ⟨h.1, g, h.2.1, h.2.2.1, h.2.2.2⟩
/-- a class that isinstance is asked about -/
def iscB (K : PySem.W.Frag) (x : Str) : Bool := eqV (PySem.W.findIn K (.ref (He.ga K x)) "__class__") (some (some (.builtin "object.__class__"))) && (eqV (PySem.W.specialIn K (.builtin "object.__class__") "__get__") (some (some (.builtin "getset_descriptor.__get__"))) &&
  (eqB (PySem.W.takesIn K (.builtin "object.__class__")) (some true) && eqB (PySem.W.mroIn K (He.ga K x) (.type "object")) (some true)))
theorem isC_of {K : PySem.W.Frag} {x : Str} (cl : Cls K (He.ga K x)) (h : iscB K x = true) : IsC K (He.ga K x) := by
  unfold iscB eqV eqB at h; simp only [Bool.and_eq_true, decide_eq_true_eq] at h
  exact ⟨cl, h.1, h.2.1, h.2.2.1, h.2.2.2⟩
/-- a class with an own __eq__ -/
def eqcB (K : PySem.W.Frag) (x : Str) : Bool := eqV (PySem.W.findIn K (.ref (He.ga K x)) "__ne__") (some (some (.builtin "object.__ne__"))) && (eqB (PySem.W.mroIn K (He.ga K x) (.type "object")) (some true) &&
  ((["NoneType", "int", "str", "tuple", "list"] : List String).all fun n => eqB (PySem.W.subIn K (.ref (He.ga K x)) (.type n)) (some false) && PySem.W.notFirst K (He.ga K x) (.type n)))
theorem eqC_of {K : PySem.W.Frag} {x : Str} (h : eqcB K x = true) : EqC K (He.ga K x) ∧ EqO K (He.ga K x) ∧ (∀ n ∈ (["NoneType", "int", "str", "tuple", "list"] : List String), PySem.W.notFirst K (He.ga K x) (.type n) = true) ∧ PySem.W.notFirst K (He.ga K x) (.ref (He.ga K x)) = true := by
  unfold eqcB eqV eqB at h
  simp only [Bool.and_eq_true, decide_eq_true_eq, List.all_eq_true] at h
  obtain ⟨h1, h2, h3⟩ := h
  refine ⟨⟨h1, h2⟩, ⟨(h3 _ (by simp)).1, (h3 _ (by simp)).1, (h3 _ (by simp)).1, (h3 _ (by simp)).1, (h3 _ (by simp)).1⟩, fun n m => (h3 n m).2, ?_⟩
  unfold PySem.W.notFirst
  rw [Bool.or_eq_true]
  exact .inl (beq_self_eq_true _)
/-- a module's tuple of texts, without an own dict -/
def bareO (K : PySem.W.Frag) (x : Str) : Bool := match K.lookup (He.ga K x) with
  | some ⟨_, none, _, _⟩ => true
  | _ => false
def tupGB (K : PySem.W.Frag) (x : Str) (ss : List Str) : Bool := He.tupB K x (ss.map He.Dv.str) && bareO K x
theorem tupG_of {K : PySem.W.Frag} {mg : Str → Option Value} {x : Str} {ss : List Str} (h : tupGB K x ss = true) (g : mg x = some (.ref (He.ga K x))) : TupG K mg x ss := by
  obtain ⟨h1, h2⟩ := Bool.and_eq_true_iff.mp h
  refine ⟨_, g, fun H => ⟨?_, .inr ?_⟩⟩
  · have := He.tupB_ok h1 H
    rw [List.map_map] at this
    exact this
  · unfold bareO at h2
    split at h2
    · rename_i u dt sl q
      exact ⟨_, q, rfl⟩
    · cases h2
/-- a module's dict of ints with text keys -/
def mdB (K : PySem.W.Frag) (x : Str) (kvs : List (Str × Int)) : Bool := He.valsB K (He.ga K x) (kvs.map fun p => (p.1, He.Dv.int p.2))
theorem keyOf_str {e : DictEntry} {k : Str × Int} (h : He.keyOf e = some k) : ∃ t, e.key = .str k.1 t := by
  unfold He.keyOf at h
  split at h
  · rename_i x t q
    exact ⟨t, by rw [q, ← Option.some.inj h]⟩
  · cases h
theorem none_of_keys {P : Params} {z : Str} : ∀ {l : List DictEntry} {ks : List Str}, l.map He.keyOf = He.keysIn P ks → z ∉ ks → l.find? (·.key.isStr z) = none ∧ l.any (·.refKey) = false
  | [], _, _, _ => ⟨rfl, rfl⟩
  | e :: l, [], h, _ => by cases h
  | e :: l, k :: ks, h, n => by
    have h0 : He.keyOf e :: l.map He.keyOf = some (k, PyData.keyHash P k) :: He.keysIn P ks := h
    injection h0 with h1 h2
    obtain ⟨i1, i2⟩ := none_of_keys h2 fun m => n (List.mem_cons_of_mem _ m)
    obtain ⟨t, ek⟩ := keyOf_str h1
    have nk : ¬ k = z := fun w => n (by rw [w]; exact List.mem_cons_self)
    constructor
    · rw [List.find?_cons_of_neg, i1]
      rw [ek, PySem.W.isStr_of]
      simpa [Value.isStrOf] using nk
    · rw [List.any_cons, i2, Bool.or_false]
      simp [DictEntry.refKey, ek]
theorem nsIn_no {P : Params} {K : PySem.W.Frag} {a : Addr} {ks : List Str} {z : Str} (h : He.dicW K a = some (He.keysIn P ks)) (n : z ∉ ks) : PySem.W.nsIn K a z = some none := by
  unfold He.dicW at h
  split at h
  · rename_i c es m sl q
    split at h
    · obtain ⟨i1, i2⟩ := none_of_keys (Option.some.inj h) n
      unfold PySem.W.nsIn
      rw [q]
      show (match es.toList.find? (·.key.isStr z) with | some e => some (some e.val) | none => if es.toList.any (·.refKey) then none else some none) = some none
      rw [i1]
      show (if es.toList.any (·.refKey) = true then none else some none) = some none
      rw [i2, if_neg (by decide)]
    · cases h
  · cases h
theorem lookup_keys {z : Str} : ∀ {kvs : List (Str × Int)} {i : Int}, kvs.lookup z = some i → (z, i) ∈ kvs
  | [], _, h => by cases h
  | (k, j) :: r, i, h => by
    have h2 : (match z == k with | true => some j | false => r.lookup z) = some i := h
    cases e : z == k with
    | true =>
      rw [e] at h2
      have e2 : j = i := Option.some.inj h2
      rw [beq_iff_eq.mp e, e2]
      exact List.mem_cons_self
    | false =>
      rw [e] at h2
      exact List.mem_cons_of_mem _ (lookup_keys h2)
theorem lookup_off {z : Str} : ∀ {kvs : List (Str × Int)}, kvs.lookup z = none → z ∉ kvs.map (·.1)
  | [], _, m => by cases m
  | (k, j) :: r, h, m => by
    have h2 : (match z == k with | true => some j | false => r.lookup z) = none := h
    cases e : z == k with
    | true => rw [e] at h2; cases h2
    | false =>
      rw [e] at h2
      rcases List.mem_cons.mp m with m | m
      · rw [m, beq_self_eq_true] at e; cases e
      · exact lookup_off h2 m
theorem md_of {w : World} {K : PySem.W.Frag} {mg : Str → Option Value} {x : Str} {kvs : List (Str × Int)} (h : He.dicW K (He.ga K x) = some (He.keysIn w.params (kvs.map (·.1)))) (hv : mdB K x kvs = true) (g : mg x = some (.ref (He.ga K x))) : MD K w mg x kvs := by
  obtain ⟨es, n, kd⟩ := He.dicW_ok h
  refine ⟨_, es, n, g, kd, fun z => ⟨fun i hi => ?_, fun hn => nsIn_no h (lookup_off hn)⟩⟩
  obtain ⟨u, e, t, r⟩ := He.valsB_ok hv (q := (z, He.Dv.int i)) (List.mem_map_of_mem (f := fun p : Str × Int => (p.1, He.Dv.int p.2)) (lookup_keys hi))
  exact ⟨t, by rw [← r]; exact e⟩

/-! ### the Hook -/
abbrev AlY : Type := He.AlT × List FnC × Bool
def obsK (file : Str) (fa : List He.Fa) (fn : List He.DefD) (ts : List He.Tab) (tf : List He.Defn) (cs : List DefC) (ex : PySem.W.Frag → Bool) (g : Addr → Option Obj) (K : PySem.W.Frag) : AlY :=
  (He.obsT fa fn ts K, cs.map fun d => fnC K d.cls, (cs.all fun d => d.ok K file) && (ex K && He.tabsB g tf K))
def obsY (n : Nat) (file : Str) (fa : List He.Fa) (fn : List He.DefD) (ts : List He.Tab) (tf : List He.Defn) (cs : List DefC) (ex : PySem.W.Frag → Bool) (g : Addr → Option Obj) : AlY := obsK file fa fn ts tf cs ex g (seeK n g)
def valY (fn : List He.DefD) (ts : List He.Tab) (cs : List DefC) (w : World) : AlY := (He.valT fn ts w, cs.map DefC.val, true)
/-- what the head tells -/
structure SaysY (file : Str) (fa : List He.Fa) (fn : List He.DefD) (ts : List He.Tab) (tf : List He.Defn) (cs : List DefC) (ex : PySem.W.Frag → Bool) (w : World) (h : Heap) (K : PySem.W.Frag) : Prop where
  t : He.SaysT fa fn ts w K
  c : cs.map (fun d => fnC K d.cls) = cs.map DefC.val
  cok : ∀ d ∈ cs, d.ok K file = true
  more : ex K = true
  nl : ∀ a o, K.lookup a = some o → isList o = false
  hd : ∀ p ∈ tf, PySem.W.codeHdIn K (He.cT K p).1 (He.cT K p).2 = true
  out : ∀ p ∈ tf, K.lookup (He.cT K p).2 = none
  empty : ∀ p ∈ tf, h.get? (He.cT K p).2 = some { cls := .none, data := .fields #[] }
theorem tabs_of {n : Nat} {g : Addr → Option Obj} {tf : List He.Defn} (h : He.tabsB g tf (seeK n g) = true) {p : He.Defn} (m : p ∈ tf) : PySem.W.codeHdIn (seeK n g) (He.cT (seeK n g) p).1 (He.cT (seeK n g) p).2 = true ∧ (seeK n g).lookup (He.cT (seeK n g) p).2 = none ∧ g (He.cT (seeK n g) p).2 = some { cls := .none, data := .fields #[] } := by
  obtain ⟨h1, h2⟩ := Bool.and_eq_true_iff.mp (List.all_eq_true.mp h p m)
  refine ⟨h1, ?_⟩
  split at h2
  · rename_i o q
    refine ⟨?_, by rw [q, He.emptyTab_eq h2]⟩
    cases e : (seeK n g).lookup (He.cT (seeK n g) p).2 with
    | none => rfl
    | some u =>
      obtain ⟨k1, k2, _⟩ := seeK_at e
      rw [q] at k1
      rw [← Option.some.inj k1, h2] at k2
      cases k2
  · cases h2
theorem saysY_of {n : Nat} {file : Str} {fa : List He.Fa} {fn : List He.DefD} {ts : List He.Tab} {tf : List He.Defn} {cs : List DefC} {ex : PySem.W.Frag → Bool} {w : World} {h : Heap} (e : obsY n file fa fn ts tf cs ex h.get? = valY fn ts cs w) : SaysY file fa fn ts tf cs ex w h (seeK n h.get?) := by
  have e3 : ((cs.all fun d => d.ok (seeK n h.get?) file) && (ex (seeK n h.get?) && He.tabsB h.get? tf (seeK n h.get?))) = true := congrArg (fun z : AlY => z.2.2) e; simp only [Bool.and_eq_true] at e3
  obtain ⟨k1, k2, k3⟩ := e3
  exact ⟨congrArg (fun z : AlY => z.1) e, congrArg (fun z : AlY => z.2.1) e, fun d m => List.all_eq_true.mp k1 d m, k2, fun a o q => (seeK_at q).2.2, fun p m => (tabs_of k3 m).1, fun p m => (tabs_of k3 m).2.1, fun p m => (tabs_of k3 m).2.2⟩
def hookY (n : Nat) (file : Str) (fa : List He.Fa) (fn : List He.DefD) (ts : List He.Tab) (tf : List He.Defn) (cs : List DefC) (ex : PySem.W.Frag → Bool) : PySem.W.Hook where
  α := AlY
  obs := fun s => obsY n file fa fn ts tf cs ex s.heap.get?
  val := fun w => valY fn ts cs w
  says := fun w h => ∃ K : PySem.W.Frag, K.In h ∧ SaysY file fa fn ts tf cs ex w h K
  of := fun _ _ e => ⟨_, seeK_in, saysY_of e⟩
  keeps := fun _ _ _ ⟨K, hK, c⟩ k => ⟨K, PySem.W.Frag.In.keeps hK k, ⟨c.t, c.c, c.cok, c.more, c.nl, c.hd, c.out, fun p m => k _ _ (c.empty p m)⟩⟩
theorem obsY_eq {n : Nat} {file : Str} {fa : List He.Fa} {fn : List He.DefD} {ts : List He.Tab} {tf : List He.Defn} {cs : List DefC} {ex : PySem.W.Frag → Bool} {g : Addr → Option Obj} {s : Shared} (h : ∀ a, g a = s.heap.get? a) : obsY n file fa fn ts tf cs ex g = (hookY n file fa fn ts tf cs ex).obs s := by
  show obsY n file fa fn ts tf cs ex g = obsY n file fa fn ts tf cs ex s.heap.get?
  rw [show g = s.heap.get? from funext h]
section
variable {file : Str} {fa : List He.Fa} {fn : List He.DefD} {ts : List He.Tab} {tf : List He.Defn} {cs : List DefC} {ex : PySem.W.Frag → Bool} {w : World} {h : Heap} {K : PySem.W.Frag} {mg : Str → Option Value}
theorem SaysY.glo (c : SaysY file fa fn ts tf cs ex w h K) (X : K.In h) (G : h.Ns mainGlobals mg) (x : Str) (m : He.Fa.glo x ∈ fa) : mg x = some (.ref (He.ga K x)) := He.glo_ok X G (c.t.d.facts m)
theorem SaysY.free (c : SaysY file fa fn ts tf cs ex w h K) (X : K.In h) (G : h.Ns mainGlobals mg) (x : Str) (m : He.Fa.free x ∈ fa) : mg x = none := He.free_ok X G (c.t.d.facts m)
theorem SaysY.ini (c : SaysY file fa fn ts tf cs ex w h K) {d : DefC} (m : d ∈ cs) : fnC K d.cls = d.val := List.map_inj_left.mp c.c d m
theorem SaysY.dic (c : SaysY file fa fn ts tf cs ex w h K) {t : He.Tab} (m : t ∈ ts) : He.dicW K (t.1 K) = some (He.keysIn w.params t.2) := List.map_inj_left.mp (show ts.map (fun t => He.dicW K (t.1 K)) = ts.map fun t => some (He.keysIn w.params t.2) from congrArg (fun z : He.AlT => z.2) c.t) t m
end
/-- a def of the text as the head is asked for it -/
def dGlo (x : Str) (st : Stmt) : He.DefD := ⟨(x, none), x, x, defArgs st, defBody st, defScope st, [], []⟩
def dMet (c m q : Str) (st : Stmt) : He.DefD := ⟨(c, some m), m, q, defArgs st, defBody st, defScope st, [], []⟩
section
variable {file : Str} {fa : List He.Fa} {fn : List He.DefD} {ts : List He.Tab} {tf : List He.Defn} {cs : List DefC} {ex : PySem.W.Frag → Bool} {w : World} {h : Heap} {K : PySem.W.Frag} {mg : Str → Option Value}
theorem SaysY.at (c : SaysY file fa fn ts tf cs ex w h K) (X : K.In h) (G : h.Ns mainGlobals mg) (x : Str) (st : Stmt) (m : He.Fa.glo x ∈ fa) (d : dGlo x st ∈ fn) : At K mg x st := by
  obtain ⟨fd, F⟩ := c.t.d.defs d
  exact ⟨_, fd, F, c.glo X G x m⟩
theorem SaysY.atM (c : SaysY file fa fn ts tf cs ex w h K) (x m q : Str) (st : Stmt) (hc : He.Fa.cls x ∈ fa) (hm : He.Fa.meth x m ∈ fa) (d : dMet x m q st ∈ fn) : AtM K (He.ga K x) m q st := by
  obtain ⟨fd, F⟩ := c.t.d.defs d
  exact ⟨_, fd, F, He.cls_ok (c.t.d.facts hc), He.meth_ok (c.t.d.facts hm)⟩
theorem SaysY.atK (c : SaysY file fa fn ts tf cs ex w h K) (X : K.In h) (G : h.Ns mainGlobals mg) (x q : Str) (st : Stmt) (hg : He.Fa.glo x ∈ fa) (hm : He.Fa.mkr x ∈ fa) (d : dMet x "__init__" q st ∈ fn) : AtK K mg x (He.ga K x) q st := by
  obtain ⟨fd, F⟩ := c.t.d.defs d
  exact ⟨_, fd, F, c.glo X G x hg, He.mkr_ok (c.t.d.facts hm)⟩
theorem SaysY.lam (c : SaysY file fa fn ts tf cs ex w h K) (X : K.In h) (G : h.Ns mainGlobals mg) (x : Str) (st : Stmt) (m : He.Fa.glo x ∈ fa) (d : dGlo x st ∈ fn) {base : Heap} (B : LamX.TabB base mg (He.cT K (x, none)).1 (He.cT K (x, none)).2) : LamA K mg base x (He.cT K (x, none)).2 st := by
  obtain ⟨fd, F⟩ := c.t.d.defs d
  obtain ⟨oc, od, dV, kV, doc, pm, an, cdv, ct, osl, e, lk, hcd, hD, hK⟩ := F.ex
  obtain ⟨cc, ec⟩ := He.codeIn_ref hcd
  subst e
  subst ec
  have e1 : He.codeOf K (x, none) = cc := He.codeOf_eq lk rfl
  refine ⟨_, _, cc, F, c.glo X G x m, rfl, ?_⟩
  rw [← e1]
  exact B
end
end NL
set_option Elab.async false
set_option linter.all false
set_option maxRecDepth 100000
set_option maxHeartbeats 2300000
/-! N31: the end: the law called where no repr is under way; the script is tracked as a frozen list, each code table as an empty one. -/
namespace NL
open PyProof.Rows L2 LamX PySem PySem.Spec
/-- what is tracked at the call -/
def atCall (ts : List Addr) (a : Addr) (o : Obj) (xs : List V) : Hp := fun b => if b = a then some (.frz o (.lst xs)) else if b ∈ ts then some (.tbl #[]) else none
/-- what is known at the call -/
structure Site (K : PySem.W.Frag) (mg mb : Str → Option Value) (s : Shared) (a : Addr) (vs : List Value) (ns : List Int) (cs : List (Addr × Addr)) : Prop where
  kin : K.In s.heap
  off : K.lookup a = none
  glob : s.heap.Ns mainGlobals mg
  blt : s.heap.Ns builtinsNs mb
  boot : ∀ x : Str, x ≠ "__name__" → mb x = bootBuiltins x
  lim : s.heap.NoLimit
  gens : s.gens = #[]
  tab : ∀ p ∈ cs, s.heap.get? p.2 = some { cls := .none, data := .fields #[] }
  noK : ∀ p ∈ cs, K.lookup p.2 = none
  code : ∀ p ∈ cs, PySem.W.CodeHd s.heap p.1 p.2
  bm : ∃ (b : Addr) (ob : Obj), mg "__builtins__" = some (.ref b) ∧ b ≠ builtinsNs ∧ s.heap.get? b = some ob ∧ ob.cls = .type "module" ∧ ob.dict = some builtinsNs ∧ ob.data = .plain
  scr : s.heap.get? a = some { cls := .type "list", data := .seq vs.toArray }
  nums : IntsAre vs ns
  few : ns.length ≤ sizeLine
abbrev scrO (vs : List Value) : Obj := { cls := .type "list", data := .seq vs.toArray }
section
variable {P : Program} {w : World} {K : PySem.W.Frag} {mg mb : Str → Option Value} {s : Shared} {a b : Addr} {vs : List Value} {ns : List Int} {cs : List (Addr × Addr)} {ob : Obj}
abbrev Site.H (_ : Site K mg mb s a vs ns cs) : Hp := atCall (cs.map (·.2)) a (scrO vs) (ns.map V.int)
theorem Site.tabs (S : Site K mg mb s a vs ns cs) (m : b ∈ cs.map (·.2)) : s.heap.get? b = some { cls := .none, data := .fields #[] } := by
  obtain ⟨p, hp, e⟩ := List.mem_map.mp m; rw [← e]
  exact S.tab p hp
theorem Site.apart (S : Site K mg mb s a vs ns cs) (m : b ∈ cs.map (·.2)) : b ≠ a := fun z => by
  have h1 := S.tabs m
  rw [z, S.scr] at h1
  cases h1
theorem Site.atScr (S : Site K mg mb s a vs ns cs) : S.H a = some (.frz (scrO vs) (.lst (ns.map V.int))) := if_pos rfl
theorem Site.atTab (S : Site K mg mb s a vs ns cs) (m : b ∈ cs.map (·.2)) : S.H b = some (.tbl #[]) := (if_neg (S.apart m)).trans (if_pos m)
theorem Site.ways (S : Site K mg mb s a vs ns cs) (b : Addr) : b = a ∨ b ∈ cs.map (·.2) ∨ S.H b = none := by
  by_cases h1 : b = a
  · exact .inl h1
  · by_cases h2 : b ∈ cs.map (·.2)
    · exact .inr (.inl h2)
    · exact .inr (.inr ((if_neg h1).trans (if_neg h2)))
/-- neither a list nor an empty table -/
theorem Site.idle (S : Site K mg mb s a vs ns cs) (e : s.heap.get? b = some ob) (n1 : ob.cls ≠ .type "list") (n2 : ob.data ≠ .fields #[]) : S.H b = none := by
  rcases S.ways b with z | z | z
  · rw [z, S.scr] at e
    exact absurd (by rw [← Option.some.inj e]) n1
  · rw [S.tabs z] at e
    exact absurd (by rw [← Option.some.inj e]) n2
  · exact z
theorem Site.still (S : Site K mg mb s a vs ns cs) (e : s.heap.get? b = some ob) (n : S.H b = none) : (hidT s.heap S.H).get? b = some ob := hidT_get e n
theorem Site.dicts (S : Site K mg mb s a vs ns cs) {es : Array DictEntry} {m : Nat} (e : s.heap.get? b = some ob) (d : ob.data = .dict es m) : S.H b = none := by
  rcases S.ways b with z | z | z
  · rw [z, S.scr] at e
    rw [← Option.some.inj e] at d
    cases d
  · rw [S.tabs z] at e
    rw [← Option.some.inj e] at d
    cases d
  · exact z
theorem Site.space (S : Site K mg mb s a vs ns cs) {m : Str → Option Value} (h : s.heap.Ns b m) : (hidT s.heap S.H).Ns b m := by
  obtain ⟨o, es, ep, e, d, r⟩ := h
  exact ⟨o, es, ep, S.still e (S.dicts e d), d, r⟩
theorem Site.seen (S : Site K mg mb s a vs ns cs) : K.In (hidT s.heap S.H) := fun b o e => S.still (S.kin b o e) (by
  rcases S.ways b with z | z | z
  · rw [z, S.off] at e; cases e
  · obtain ⟨p, hp, q⟩ := List.mem_map.mp z
    rw [← q, S.noK p hp] at e; cases e
  · exact z)
theorem Site.mod (S : Site K mg mb s a vs ns cs) : L2.Mod K mg (hidT s.heap S.H) := by
  obtain ⟨mc, h1, h2⟩ := S.lim
  exact ⟨S.seen, S.space S.glob, ⟨mb, S.space S.blt, S.boot⟩, mc, S.space h1, h2⟩
theorem Site.tabB (S : Site K mg mb s a vs ns cs) {p : Addr × Addr} (m : p ∈ cs) : TabB (hidT s.heap S.H) mg p.1 p.2 := by
  have isT := S.tab p m
  constructor
  · obtain ⟨o, us, file, tf, flags, tg, inF, text, tt, e1, r1, r2, r3, rest⟩ := S.code p m
    refine ⟨o, us, file, tf, flags, tg, inF, text, tt, S.still e1 ?_, r1, r2, r3, rest⟩
    rcases S.ways p.1 with z | z | z
    · rw [z, S.scr] at e1
      rw [← Option.some.inj e1] at r2
      cases r2
    · rw [S.tabs z] at e1
      rw [← Option.some.inj e1] at r2
      cases r2
      simp at r3
    · exact z
  · obtain ⟨b, ob, h1, h2, h3, h4, h5, h6⟩ := S.bm
    have ng : b ≠ mainGlobals := fun z => by
      obtain ⟨o, es, ep, e, hd, _⟩ := S.glob
      rw [z, e] at h3
      rw [← Option.some.inj h3, hd] at h6
      cases h6
    have np : b ≠ p.2 := fun z => by
      rw [z, isT] at h3
      rw [← Option.some.inj h3] at h6
      cases h6
    exact ⟨b, ob, h1, h2, ng, np, S.still h3 (S.idle h3 (by rw [h4]; decide) (by rw [h6]; exact fun z => by cases z)), h4, h5, h6⟩
  · intro z
    obtain ⟨o, es, ep, e, hd, _⟩ := S.glob
    rw [z, isT] at e
    rw [← Option.some.inj e] at hd
    cases hd
theorem Site.hok (S : Site K mg mb s a vs ns cs) : HOk P w S.H s.heap := fun b u e => by
  rcases S.ways b with z | z | z
  · have e2 := e
    rw [z, S.atScr] at e2
    rw [← Option.some.inj e2, z]
    exact ⟨S.scr, by rw [List.length_map]; exact S.few, vs, _, vals_ints S.nums, S.scr⟩
  · have e2 := e
    rw [S.atTab z] at e2
    rw [← Option.some.inj e2]
    exact S.tabs z
  · rw [z] at e; cases e
theorem Site.env (S : Site K mg mb s a vs ns cs) : Env0 P w K mg (hidT s.heap S.H) callerA [] s S.H :=
  ⟨rfl, S.mod, fun b o e => of_hidT e, Nat.le_of_eq (hidT_size _ _), trivial, fun b hb => (List.not_mem_nil hb).elim, S.hok, .of_eq S.gens⟩
/-- the tables' heap of data -/
def tqH (tq : List (Addr × Str)) : AH := fun b => (tq.lookup b).map AO.tb
theorem mem_of_look {α : Type} {z : Addr} {y : α} : ∀ {l : List (Addr × α)}, l.lookup z = some y → (z, y) ∈ l
  | [], h => by cases h
  | (k, j) :: r, h => by
    have h2 : (match z == k with | true => some j | false => r.lookup z) = some y := h
    cases e : z == k with
    | true =>
      rw [e] at h2
      have e2 : j = y := Option.some.inj h2
      rw [beq_iff_eq.mp e, e2]
      exact List.mem_cons_self
    | false =>
      rw [e] at h2
      exact List.mem_cons_of_mem _ (mem_of_look h2)
theorem Site.wish (S : Site K mg mb s a vs ns cs) {G : SG} {tq : List (Addr × Str)} (ht : ∀ q ∈ tq, q.1 ∈ cs.map (·.2)) (hG : G [.scr ns] (tqH tq) (fun d _ => d = .bl true) (fun _ _ => False)) :
    spN K G [.ref a] S.H (fun v _ => v = .bl true) fun _ _ _ => False := by
  refine ⟨fun _ => False, tqH tq, [.scr ns], _, _, fun _ z => z.elim, fun b o e => ?_, .cons (.scr S.atScr) .nil, hG, fun v d h' H' _ f z => ?_, fun _ _ _ _ _ _ _ z => z.elim⟩
  · obtain ⟨q, e1, rfl⟩ := Option.map_eq_some_iff.mp e
    exact ⟨#[], S.atTab (ht _ (mem_of_look e1)), by simp [TriplesOk], fun pos cv z => by simp [codeAmong] at z⟩
  · subst z
    cases f
    rfl
theorem end_callN {k : Nat} {fa : Addr} {x nm : Str} {G : SG} {tq : List (Addr × Str)} (S : Site K mg mb s a vs ns cs) (hr : Room k callerA) (F : ∀ base : Heap, K.In base → base.Ns mainGlobals mg → (∀ p ∈ cs, TabB base mg p.1 p.2) → Dn P w K mg base k nm [x] G)
    (hm : mg nm = some (.ref fa)) (ht : ∀ q ∈ tq, q.1 ∈ cs.map (·.2)) (hG : G [.scr ns] (tqH tq) (fun d _ => d = .bl true) (fun _ _ => False)) :
    codeAny (model P w) callerA (.call (.ref fa) ⟨[.ref a], []⟩) (fun r s' => r = .ok (.ret (.bool true)) ∧ OldK s.heap s'.heap ∧ s'.os = s.os ∧ AllBare s'.gens) s := by
  obtain ⟨f, fd, FN, hf, _, bn⟩ := F _ S.seen (S.space S.glob) fun p m => S.tabB m
  obtain rfl : f = fa := by
    rw [hf] at hm
    cases hm
    rfl
  apply codeAny_mono (FN.go callerA [] s S.H ⟨[.ref a], []⟩ [.ref a] [.ref a] _ _ rfl hr S.env (by simpa using bn s [.ref a] S.kin rfl) (.cons rfl .nil) (S.wish ht hG))
  intro r s' q
  match r, q with
  | .error e, ⟨_, _, _, _, _, _, _, _, _, _, _, _, z⟩ => exact z.elim
  | .ok .next, q => exact q.elim
  | .ok .brk, q => exact q.elim
  | .ok .cont, q => exact q.elim
  | .ok (.ret u), ⟨v, H', os, bare, un, hok', ru, ev⟩ =>
    subst ev
    obtain rfl : u = Value.bool true := ru
    have same : ∀ b ob, b ∉ cs.map (·.2) → s.heap.get? b = some ob → s'.heap.get? b = some ob := fun b ob nb e => by
      rcases S.ways b with z | z | z
      · have f2 := (hok' b _ (un.frzs b _ _ (by rw [z]; exact S.atScr))).1
        rw [z, S.scr] at e
        rw [f2, ← Option.some.inj e]
      · exact absurd z nb
      · exact un.keep b ob e z List.not_mem_nil List.not_mem_nil
    have more : ∀ b, b ∈ cs.map (·.2) → ∃ xs : Array Value, s'.heap.get? b = some { cls := .none, data := .fields xs } := fun b m => by
      obtain ⟨xs, z⟩ := un.tbls b #[] (S.atTab m)
      exact ⟨_, hok' b _ z⟩
    refine ⟨rfl, ⟨fun b ob e => ?_, fun b ob e => ?_⟩, os, bare⟩
    · by_cases m : b ∈ cs.map (·.2)
      · obtain ⟨xs, hx⟩ := more b m
        obtain ⟨p, hp, ep⟩ := List.mem_map.mp m
        have e2 := S.tabs m
        rw [e] at e2
        rw [Option.some.inj e2]
        refine .inr (.inl ⟨?_, rfl, #[], xs, rfl, by rw [Array.empty_append]; exact hx⟩)
        rw [← ep]
        exact ((S.code p hp).tab (S.tab p hp)).isCodeTable
      · exact .inl (same b ob m e)
    · by_cases m : b ∈ cs.map (·.2)
      · obtain ⟨xs, hx⟩ := more b m
        exact ⟨_, hx⟩
      · exact ⟨ob, same b ob m e⟩
end
/-- the def under the law, its tables -/
def LawN (l : PySem.W.OpenLaw) (w : World) (K : PySem.W.Frag) (k n : Nat) (nm x : Str) (mg : Str → Option Value) (fa : Addr) (h : Heap) : Prop :=
  ∃ (cs : List (Addr × Addr)) (tq : List (Addr × Str)) (G : SG), (∀ b o, K.lookup b = some o → isList o = false) ∧ (∀ p ∈ cs, h.get? p.2 = some { cls := .none, data := .fields #[] }) ∧ (∀ p ∈ cs, K.lookup p.2 = none) ∧ (∀ p ∈ cs, PySem.W.CodeHd h p.1 p.2) ∧
    mg nm = some (.ref fa) ∧ (∀ q ∈ tq, q.1 ∈ cs.map (·.2)) ∧ (∀ ns : List Int, ns.length ≤ n → G [.scr ns] (tqH tq) (fun d _ => d = .bl true) (fun _ _ => False)) ∧
    ∀ base : Heap, K.In base → base.Ns mainGlobals mg → (∀ p ∈ cs, TabB base mg p.1 p.2) → Dn l.prog w K mg base k nm [x] G
theorem walk_N {l : PySem.W.OpenLaw} {n k : Nat} {q : Program} {loose : List Str} {XP : (Str → Option Value) → Heap → Prop} {YP : World → Heap → Prop} {d : DefRec} {nm x : Str} (hn : l.most = some n) (hn2 : n ≤ sizeLine) (hdf : d.params.defaults = []) (hr : Room k callerA)
    (F : ∀ (w : World) (mg : Str → Option Value) (fa : Addr) (h : Heap), YP w h → h.Ns mainGlobals mg → mg d.name = some (.ref fa) → ∃ K : PySem.W.Frag, K.In h ∧ LawN l w K k n nm x mg fa h) : PySem.W.WalkO q loose XP YP l.row.toRowW d [] (fun f vs => PySem.call f vs) := by
  apply Att.attach_callB hn hdf
  intro w s0 s1 mg mb fa o pm cd doc a vs ns G Y _ _ _ hmg hobj hints hlen _ hg
  obtain ⟨K, KX, cs, tq, GG, nl, t1, t2, t3, hm, ht, hG, hF⟩ := F w mg fa _ Y G.T.g hmg
  have off : K.lookup a = none := by
    cases e : K.lookup a with
    | none => rfl
    | some ob =>
      have h1 := nl a ob e
      have h2 := KX a ob e
      rw [hobj] at h2
      rw [← Option.some.inj h2] at h1
      cases h1
  exact end_callN ⟨KX, off, G.T.g, G.T.b, G.T.builtins, G.T.nolimit, hg, t1, t2, t3, G.T.bmain, hobj, hints, Nat.le_trans hlen hn2⟩ hr hF hm ht (hG ns hlen)
end NL
set_option Elab.async false
set_option linter.all false
set_option maxRecDepth 100000
set_option maxHeartbeats 4300000
namespace T69
open PySem PySem.Spec PyProof.Rows L2 NL
def top (i : Nat) : Stmt := PySem.Challenge.pw_tellalike_k69_whole_desks_under_any_deed.main.body.getD i (.Pass ⟨0, 0, 0, 0⟩)
structure Txt (mg : Str → Option Value) (K : PySem.W.Frag) : Prop where
  b : Fr mg
  LETTERS : ∃ t, mg "LETTERS" = some (.str "abcdefghijklmnopqrstuvwxyz" t)
  MOST_LETTERS : ∃ t, mg "MOST_LETTERS" = some (.int 10 t)
  RESERVED : TupG K mg "RESERVED" ["all", "none", "some", "and", "each", "is"]
  WORD : ∃ t, mg "WORD" = some (.str "word" t)
  AND : ∃ t, mg "AND" = some (.str "and" t)
  SOME : ∃ t, mg "SOME" = some (.str "some" t)
section
variable {base : Heap} {mg : Str → Option Value} {K : PySem.W.Frag} {P : Program} {w : World}
abbrev st_is_integer : Stmt := top 2
theorem sc_is_integer : FnScope ["thing"] ["thing"] (defScope st_is_integer) := ⟨rfl, rfl, rfl, by decide +kernel, rfl, by decide +kernel, by decide +kernel⟩

def G_is_integer : List D → (D → Prop) → Prop
  | [d], Q => noO d = true ∧ Q (.bl (isI d))
  | _, _ => False
theorem dn_is_integer (T : Txt mg K) (A : At K mg "is_integer" st_is_integer) : Dn P w K mg base 1 "is_integer" ["thing"] (pure1 G_is_integer) := by
  refine Dn.of A sc_is_integer (fun F => F.bindsN fun _ _ _ _ _ _ us hl => match us, hl with | [_], _ => rfl) (fun f cdv A outer s H E hr c => (ss_one (st_ret (e_and (wk (c_isi (T := "int") T.b T.b.int (wk (nm 0)))) (e_one (e_not (wk (c_isi (T := "bool") T.b T.b.bool (wk (nm 0)))))))))) (fun ds h Q E w => ?_)
  match ds, w with
  | [d], ⟨hd, q⟩ =>
    refine ⟨rfl, ?_⟩
    simp only [pure1, tab1, dAnd, dOr, dNot, dIf, dCall, dFn, dCons, dNil, dVar, dOwn, dC, dFz, dBin, dCmp, dChn, dIsiB, bCmp, bChn, bVal, bAnd, bOr, bNot, bYes, dSortK, dPget, dGet, sDput, sExp, dLm, keyD, bCmpL, lk2, fI0, fI, sSeq, sIf, sRet, sRetL, sSet, sPar, sOwn, sFor, sNext, tName, NL.tCons, NL.tNil, tTups, dTup, dLst, dSl, oNo, oIs, fIx, fSl, iA, fAdd_t, fAdd_l, fAdd_s, fAdd_i, fLstOf_t, fLstOf_l, fTupOf_t, fTupOf_l, fLen_t, fLen_l, ofO_some, at0, at1, at2, NL.run, lenN, startN, DEnds.er, List.getElem?_cons_zero, List.getElem?_cons_succ, List.set_cons_zero, List.set_cons_succ, Bool.false_eq_true, if_true, if_false, reduceIte]
    refine isi_int hd ?_
    cases d <;> first
      | exact q
      | exact isi_bool rfl q
abbrev st_is_between : Stmt := top 3
theorem sc_is_between : FnScope ["thing", "least", "most"] ["thing", "least", "most"] (defScope st_is_between) := ⟨rfl, rfl, rfl, by decide +kernel, rfl, by decide +kernel, by decide +kernel⟩

def G_is_between : List D → (D → Prop) → Prop
  | [d, .int lo, .int hi], Q => noO d = true ∧ Q (.bl (btw d lo hi))
  | _, _ => False
theorem dn_is_between (T : Txt mg K) (A : At K mg "is_between" st_is_between) (h_is_integer : Dn P w K mg base 1 "is_integer" ["thing"] (pure1 G_is_integer)) : Dn P w K mg base 2 "is_between" ["thing", "least", "most"] (pure1 G_is_between) := by
  refine Dn.of A sc_is_between (fun F => F.bindsN fun _ _ _ _ _ _ us hl => match us, hl with | [_, _, _], _ => rfl) (fun f cdv A outer s H E hr c => (ss_one (st_ret (e_and (wk (e_fn h_is_integer c hr (a_cons (nm 0) a_nil))) (e_one (e_chn o_le o_le ob_ord ob_ord (wk (nm 1)) (wk (nm 0)) (wk (nm 2)))))))) (fun ds h Q E w => ?_)
  match ds, w with
  | [d, .int lo, .int hi], ⟨hd, q⟩ =>
    refine ⟨rfl, ?_⟩
    refine ⟨hd, ?_⟩
    cases d with
    | int i =>
      simp only [pure1, tab1, dAnd, dOr, dNot, dIf, dCall, dFn, dCons, dNil, dVar, dOwn, dC, dFz, dBin, dCmp, dChn, dIsiB, bCmp, bChn, bVal, bAnd, bOr, bNot, bYes, dSortK, dPget, dGet, sDput, sExp, dLm, keyD, bCmpL, lk2, fI0, fI, sSeq, sIf, sRet, sRetL, sSet, sPar, sOwn, sFor, sNext, tName, NL.tCons, NL.tNil, tTups, dTup, dLst, dSl, oNo, oIs, fIx, fSl, iA, fAdd_t, fAdd_l, fAdd_s, fAdd_i, fLstOf_t, fLstOf_l, fTupOf_t, fTupOf_l, fLen_t, fLen_l, ofO_some, at0, at1, at2, NL.run, lenN, startN, DEnds.er, List.getElem?_cons_zero, List.getElem?_cons_succ, List.set_cons_zero, List.set_cons_succ, Bool.false_eq_true, if_true, if_false, reduceIte]
      show if decide (lo ≤ i) = true then Q (.bl (decide (i ≤ hi))) h else Q (.bl false) h
      have q' : Q (.bl (decide (lo ≤ i) && decide (i ≤ hi))) h := q
      cases h1 : decide (lo ≤ i) <;> simpa [h1] using q'
    | _ => first | exact q | cases hd
abbrev st_is_row : Stmt := top 4
theorem sc_is_row : FnScope ["thing", "many"] ["thing", "many"] (defScope st_is_row) := ⟨rfl, rfl, rfl, by decide +kernel, rfl, by decide +kernel, by decide +kernel⟩

def G_is_row : List D → (D → Prop) → Prop
  | [d, .int n], Q => noO d = true ∧ Q (.bl (rowD d n))
  | _, _ => False
theorem dn_is_row (T : Txt mg K) (A : At K mg "is_row" st_is_row) : Dn P w K mg base 1 "is_row" ["thing", "many"] (pure1 G_is_row) := by
  refine Dn.of A sc_is_row (fun F => F.bindsN fun _ _ _ _ _ _ us hl => match us, hl with | [_, _], _ => rfl) (fun f cdv A outer s H E hr c => (ss_one (st_ret (e_and (wk (c_isi (T := "tuple") T.b T.b.tuple (wk (nm 0)))) (e_one (e_cmp (op_eqD hr.u64) ob_eq (wk (c_len T.b (v_cons (wk (nm 0)) v_nil))) (wk (nm 1)))))))) (fun ds h Q E w => ?_)
  match ds, w with
  | [d, .int n], ⟨hd, q⟩ =>
    refine ⟨rfl, ?_⟩
    simp only [pure1, tab1, dAnd, dOr, dNot, dIf, dCall, dFn, dCons, dNil, dVar, dOwn, dC, dFz, dBin, dCmp, dChn, dIsiB, bCmp, bChn, bVal, bAnd, bOr, bNot, bYes, dSortK, dPget, dGet, sDput, sExp, dLm, keyD, bCmpL, lk2, fI0, fI, sSeq, sIf, sRet, sRetL, sSet, sPar, sOwn, sFor, sNext, tName, NL.tCons, NL.tNil, tTups, dTup, dLst, dSl, oNo, oIs, fIx, fSl, iA, fAdd_t, fAdd_l, fAdd_s, fAdd_i, fLstOf_t, fLstOf_l, fTupOf_t, fTupOf_l, fLen_t, fLen_l, ofO_some, at0, at1, at2, NL.run, lenN, startN, DEnds.er, List.getElem?_cons_zero, List.getElem?_cons_succ, List.set_cons_zero, List.set_cons_succ, Bool.false_eq_true, if_true, if_false, reduceIte]
    refine isi_tuple hd ?_
    cases d with
    | tup xs => exact ⟨good_int _, good_int _, by rw [eqD_int]; exact q⟩
    | _ => exact q
abbrev st_is_kind : Stmt := top 5
theorem sc_is_kind : FnScope ["thing", "word", "many"] ["thing", "word", "many"] (defScope st_is_kind) := ⟨rfl, rfl, rfl, by decide +kernel, rfl, by decide +kernel, by decide +kernel⟩

def G_is_kind : List D → (D → Prop) → Prop
  | [d, .str w, .int n], Q => good d ∧ good (.str w) ∧ 1 ≤ n ∧ Q (.bl (kindD d w n))
  | _, _ => False
theorem dn_is_kind (T : Txt mg K) (A : At K mg "is_kind" st_is_kind) (h_is_row : Dn P w K mg base 1 "is_row" ["thing", "many"] (pure1 G_is_row)) : Dn P w K mg base 2 "is_kind" ["thing", "word", "many"] (pure1 G_is_kind) := by
  refine Dn.of A sc_is_kind (fun F => F.bindsN fun _ _ _ _ _ _ us hl => match us, hl with | [_, _, _], _ => rfl) (fun f cdv A outer s H E hr c => (ss_one (st_ret (e_and (wk (e_fn h_is_row c hr (a_cons (nm 0) (a_cons (nm 2) a_nil)))) (e_and (wk (c_isi (T := "str") T.b T.b.str (wk (e_ix (wk (nm 0)) (wk c_int))))) (e_one (e_cmp (op_eqD hr.u64) ob_eq (wk (e_ix (wk (nm 0)) (wk c_int))) (wk (nm 1))))))))) (fun ds h Q E w => ?_)
  match ds, w with
  | [d, .str w, .int n], ⟨hd, hw, hn, q⟩ =>
    refine ⟨rfl, ?_⟩
    simp only [pure1, tab1, dAnd, dOr, dNot, dIf, dCall, dFn, dCons, dNil, dVar, dOwn, dC, dFz, dBin, dCmp, dChn, dIsiB, bCmp, bChn, bVal, bAnd, bOr, bNot, bYes, dSortK, dPget, dGet, sDput, sExp, dLm, keyD, bCmpL, lk2, fI0, fI, sSeq, sIf, sRet, sRetL, sSet, sPar, sOwn, sFor, sNext, tName, NL.tCons, NL.tNil, tTups, dTup, dLst, dSl, oNo, oIs, fIx, fSl, iA, fAdd_t, fAdd_l, fAdd_s, fAdd_i, fLstOf_t, fLstOf_l, fTupOf_t, fTupOf_l, fLen_t, fLen_l, ofO_some, at0, at1, at2, NL.run, lenN, startN, DEnds.er, List.getElem?_cons_zero, List.getElem?_cons_succ, List.set_cons_zero, List.set_cons_succ, Bool.false_eq_true, if_true, if_false, reduceIte]
    refine ⟨noO_of hd, ?_⟩
    cases d with
    | tup xs =>
      cases xs with
      | nil =>
        have e : (((0 : Nat) : Int) == n) = false := by simp; omega
        simp only [rowD, List.length_nil, e, Bool.false_eq_true, if_false]
        exact q
      | cons x xs =>
        have hx : good x := good_mem (.inl hd) List.mem_cons_self
        cases e : (((x :: xs).length : Int) == n)
        · simp only [rowD, e, Bool.false_eq_true, if_false]
          have q' : kindD (.tup (x :: xs)) w n = false := by
            unfold kindD
            split
            · rename_i e1
              cases e1
              rw [e]; rfl
            · rfl
          rw [q'] at q
          exact q
        · simp only [rowD, e, if_true, pure1, tab1, dAnd, dOr, dNot, dIf, dCall, dFn, dCons, dNil, dVar, dOwn, dC, dFz, dBin, dCmp, dChn, dIsiB, bCmp, bChn, bVal, bAnd, bOr, bNot, bYes, dSortK, dPget, dGet, sDput, sExp, dLm, keyD, bCmpL, lk2, fI0, fI, sSeq, sIf, sRet, sRetL, sSet, sPar, sOwn, sFor, sNext, tName, NL.tCons, NL.tNil, tTups, dTup, dLst, dSl, oNo, oIs, fIx, fSl, iA, fAdd_t, fAdd_l, fAdd_s, fAdd_i, fLstOf_t, fLstOf_l, fTupOf_t, fTupOf_l, fLen_t, fLen_l, ofO_some, at0, at1, at2, NL.run, lenN, startN, DEnds.er, List.getElem?_cons_zero, List.getElem?_cons_succ, List.set_cons_zero, List.set_cons_succ, Bool.false_eq_true, if_true, if_false, reduceIte]
          refine isi_str (noO_of hx) ?_
          cases x with
          | str s =>
            refine ⟨hx, hw, ?_⟩
            simp only [kindD] at q
            rw [e, Bool.true_and] at q
            rw [eqD_str]
            exact q
          | _ => exact q
    | _ => exact q
abbrev st_is_word_value : Stmt := top 19
theorem sc_is_word_value : FnScope ["thing", "letter"] ["thing"] (defScope st_is_word_value) := ⟨rfl, rfl, rfl, by decide +kernel, rfl, by decide +kernel, by decide +kernel⟩

def G_is_word_value : List D → (D → Prop) → Prop
  | [d], Q => good d ∧ Q (.bl (wordD d))
  | _, _ => False
theorem dn_is_word_value (T : Txt mg K) (A : At K mg "is_word_value" st_is_word_value) : Dn P w K mg base 1 "is_word_value" ["thing"] (pure1 G_is_word_value) := by
  refine Dn.of A sc_is_word_value (fun F => F.bindsN fun _ _ _ _ _ _ us hl => match us, hl with | [_], _ => rfl) (fun f cdv A outer s H E hr c => (ss_cons (st_if (PW.pt (w_or (t_not (t_val (wk (c_isi (T := "str") T.b T.b.str (wk (nm 0)))))) (w_or (t_not (t_chn o_le o_le ob_ord ob_ord (wk c_int) (wk (c_len T.b (v_cons (wk (nm 0)) v_nil))) (wk (g_int T.MOST_LETTERS)))) (w_or1 (t_cmp (o_in hr.u65) ob_in (wk (nm 0)) (wk (g_tup T.RESERVED)))))))
      (ss_one (st_ret c_bl))
      ss_nil)
      (ss_one (st_ret (c_all T.b c (v_cons (wk (fzn (e_lc c (i_any (nm 0)) (blkOk_by (own := [("letter", 1)]) (N := ["thing", "letter"]) (sc := defScope st_is_word_value) (by decide +kernel)) gd_name (by decide) (fun _ _ _ _ _ => (pg_name (i := 1) sc_is_word_value.nd rfl (by first | exact Or.inl rfl | exact Or.inr rfl))) (fun _ _ _ _ _ => ts_nil) (fun _ _ _ _ _ => (e_cmp (o_in hr.u65) ob_in (wk (nm 1)) (wk (g_str T.LETTERS))))))) v_nil)))))) (fun ds h Q E w => ?_)
  match ds, w with
  | [d], ⟨hd, q⟩ =>
    refine ⟨rfl, ?_⟩
    simp only [pure1, tab1, dAnd, dOr, dNot, dIf, dCall, dFn, dCons, dNil, dVar, dOwn, dC, dFz, dBin, dCmp, dChn, dIsiB, bCmp, bChn, bVal, bAnd, bOr, bNot, bYes, dSortK, dPget, dGet, sDput, sExp, dLm, keyD, bCmpL, lk2, fI0, fI, sSeq, sIf, sRet, sRetL, sSet, sPar, sOwn, sFor, sNext, tName, NL.tCons, NL.tNil, tTups, dTup, dLst, dSl, oNo, oIs, fIx, fSl, iA, fAdd_t, fAdd_l, fAdd_s, fAdd_i, fLstOf_t, fLstOf_l, fTupOf_t, fTupOf_l, fLen_t, fLen_l, ofO_some, at0, at1, at2, NL.run, lenN, startN, DEnds.er, List.getElem?_cons_zero, List.getElem?_cons_succ, List.set_cons_zero, List.set_cons_succ, Bool.false_eq_true, if_true, if_false, reduceIte]
    refine isi_str (noO_of hd) ?_
    cases d with
    | str s =>
      simp only [isT, beq_self_eq_true, Bool.not_true, pure1, tab1, dAnd, dOr, dNot, dIf, dCall, dFn, dCons, dNil, dVar, dOwn, dC, dFz, dBin, dCmp, dChn, dIsiB, bCmp, bChn, bVal, bAnd, bOr, bNot, bYes, dSortK, dPget, dGet, sDput, sExp, dLm, keyD, bCmpL, lk2, fI0, fI, sSeq, sIf, sRet, sRetL, sSet, sPar, sOwn, sFor, sNext, tName, NL.tCons, NL.tNil, tTups, dTup, dLst, dSl, oNo, oIs, fIx, fSl, iA, fAdd_t, fAdd_l, fAdd_s, fAdd_i, fLstOf_t, fLstOf_l, fTupOf_t, fTupOf_l, fLen_t, fLen_l, ofO_some, at0, at1, at2, NL.run, lenN, startN, DEnds.er, List.getElem?_cons_zero, List.getElem?_cons_succ, List.set_cons_zero, List.set_cons_succ, Bool.false_eq_true, if_true, if_false, reduceIte]
      have hs := str_of_good hd
      refine ⟨len_of_good hd, ?_⟩
      rw [show wordD (.str s) = wordS s from rfl, wordS_eq] at q
      simp only [fOrd]
      by_cases h1 : (1 : Int) ≤ s.length
      · have h1' : 1 ≤ s.length := by omega
        simp only [decide_eq_true h1, if_true]
        rw [decide_eq_true h1', Bool.true_and] at q
        by_cases h2 : (s.length : Int) ≤ 10
        · have h2' : s.length ≤ 10 := by omega
          simp only [decide_eq_true h2, Bool.not_true, Bool.false_eq_true, if_false]
          rw [decide_eq_true h2', Bool.true_and] at q
          refine ⟨hd, good_res, ?_⟩
          rw [show (["all", "none", "some", "and", "each", "is"] : List Str) = resD from rfl, res_any]
          cases h3 : resD.contains s
          · rw [h3, Bool.not_false, Bool.true_and] at q
            simp only [if_false, Bool.false_eq_true, bne_self_eq_false]
            refine lc_map letD (NL.signs s) (fun d m A a => ?_) (by rw [signs_len]; exact len_of_good hd) (letD_all q)
            obtain ⟨c, rfl, hc, hg⟩ := sign_good hs m
            simp only [wipeR, List.map_cons, List.map_nil, pure1, tab1, dAnd, dOr, dNot, dIf, dCall, dFn, dCons, dNil, dVar, dOwn, dC, dFz, dBin, dCmp, dChn, dIsiB, bCmp, bChn, bVal, bAnd, bOr, bNot, bYes, dSortK, dPget, dGet, sDput, sExp, dLm, keyD, bCmpL, lk2, fI0, fI, sSeq, sIf, sRet, sRetL, sSet, sPar, sOwn, sFor, sNext, tName, NL.tCons, NL.tNil, tTups, dTup, dLst, dSl, oNo, oIs, fIx, fSl, iA, fAdd_t, fAdd_l, fAdd_s, fAdd_i, fLstOf_t, fLstOf_l, fTupOf_t, fTupOf_l, fLen_t, fLen_l, ofO_some, at0, at1, at2, NL.run, lenN, startN, DEnds.er, List.getElem?_cons_zero, List.getElem?_cons_succ, List.set_cons_zero, List.set_cons_succ, Bool.false_eq_true, if_true, if_false, reduceIte]
            show match sgn ⟨#[c]⟩ with | some c => _ | none => False
            rw [sgn_one]
            show A (.bl (decide (c ∈ ("abcdefghijklmnopqrstuvwxyz" : Str).cps.toList) != false)) h
            rw [let_mem]
            have e : (isLet c != false) = isLet c := by cases isLet c <;> rfl
            rw [e]
            exact a
          · rw [h3] at q
            exact q
        · have h2' : ¬ s.length ≤ 10 := by omega
          simp only [decide_eq_false h2, Bool.not_false, if_true]
          rw [decide_eq_false h2', Bool.false_and] at q
          exact q
      · have h1' : ¬ 1 ≤ s.length := by omega
        simp only [decide_eq_false h1, Bool.false_eq_true, if_false, Bool.not_false, if_true]
        rw [decide_eq_false h1', Bool.false_and, Bool.false_and] at q
        exact q
    | _ => exact q
abbrev st_is_concept_value : Stmt := top 20
theorem sc_is_concept_value : FnScope ["thing"] ["thing"] (defScope st_is_concept_value) := ⟨rfl, rfl, rfl, by decide +kernel, rfl, by decide +kernel, by decide +kernel⟩

def G_con (n : Nat) : List D → (D → Prop) → Prop
  | [d], Q => (good d ∧ dep d < n) ∧ Q (.bl (conD d))
  | _, _ => False
theorem dn_con (T : Txt mg K) (A : At K mg "is_concept_value" st_is_concept_value) (h_is_kind : Dn P w K mg base 2 "is_kind" ["thing", "word", "many"] (pure1 G_is_kind)) (h_is_word_value : Dn P w K mg base 1 "is_word_value" ["thing"] (pure1 G_is_word_value)) :
    ∀ n, Dn P w K mg base (n + 2) "is_concept_value" ["thing"] (pure1 (G_con n)) := by
  intro n
  induction n with
  | zero => exact Dn.no A (fun F => F.bindsN fun _ _ _ _ _ _ us hl => match us, hl with | [_], _ => rfl) fun ds h Q E w => match ds, w with | [d], w => by have := w.1.2; omega
  | succ n h_is_concept_value =>
  refine Dn.of A sc_is_concept_value (fun F => F.bindsN fun _ _ _ _ _ _ us hl => match us, hl with | [_], _ => rfl) (fun f cdv A outer s H E hr c => (ss_cons (st_if (PW.pt (w_or (t_val (wk (e_fn h_is_kind c hr (a_cons (nm 0) (a_cons c_str (a_cons c_int a_nil)))))) (w_or1 (t_val (wk (e_fn h_is_kind c hr (a_cons (nm 0) (a_cons c_str (a_cons c_int a_nil)))))))))
      (ss_one (st_ret c_bl))
      ss_nil)
      (ss_cons (st_if (t_val (wk (e_fn h_is_kind c hr (a_cons (nm 0) (a_cons (g_str T.WORD) (a_cons c_int a_nil))))))
      (ss_one (st_ret (e_fn h_is_word_value c hr (a_cons (e_ix (wk (nm 0)) (wk c_int)) a_nil))))
      ss_nil)
      (ss_cons (st_if (t_val (wk (e_fn h_is_kind c hr (a_cons (nm 0) (a_cons (g_str T.AND) (a_cons c_int a_nil))))))
      (ss_one (st_ret (e_and (wk (e_fn h_is_concept_value c hr (a_cons (e_ix (wk (nm 0)) (wk c_int)) a_nil))) (e_one (e_fn h_is_concept_value c hr (a_cons (e_ix (wk (nm 0)) (wk c_int)) a_nil))))))
      ss_nil)
      (ss_one (st_ret (e_and (wk (e_fn h_is_kind c hr (a_cons (nm 0) (a_cons (g_str T.SOME) (a_cons c_int a_nil))))) (e_and (wk (e_fn h_is_word_value c hr (a_cons (e_ix (wk (nm 0)) (wk c_int)) a_nil))) (e_one (e_fn h_is_concept_value c hr (a_cons (e_ix (wk (nm 0)) (wk c_int)) a_nil))))))))))) (fun ds h Q E w => ?_)
  match ds, w with
  | [d], ⟨⟨hd, hn⟩, q⟩ =>
    refine ⟨rfl, ?_⟩
    simp only [pure1, tab1, dAnd, dOr, dNot, dIf, dCall, dFn, dCons, dNil, dVar, dOwn, dC, dFz, dBin, dCmp, dChn, dIsiB, bCmp, bChn, bVal, bAnd, bOr, bNot, bYes, dSortK, dPget, dGet, sDput, sExp, dLm, keyD, bCmpL, lk2, fI0, fI, sSeq, sIf, sRet, sRetL, sSet, sPar, sOwn, sFor, sNext, tName, NL.tCons, NL.tNil, tTups, dTup, dLst, dSl, oNo, oIs, fIx, fSl, iA, fAdd_t, fAdd_l, fAdd_s, fAdd_i, fLstOf_t, fLstOf_l, fTupOf_t, fTupOf_l, fLen_t, fLen_l, ofO_some, at0, at1, at2, NL.run, lenN, startN, DEnds.er, List.getElem?_cons_zero, List.getElem?_cons_succ, List.set_cons_zero, List.set_cons_succ, Bool.false_eq_true, if_true, if_false, reduceIte]
    refine ⟨hd, strl "all", by decide, ?_⟩
    cases h1 : kindD d "all" 1
    · simp only [if_false, Bool.false_eq_true]
      refine ⟨hd, strl "none", by decide, ?_⟩
      cases h2 : kindD d "none" 1
      · simp only [if_false, Bool.false_eq_true]
        refine ⟨hd, strl "word", by decide, ?_⟩
        cases h3 : kindD d "word" 2
        · simp only [if_false, Bool.false_eq_true]
          refine ⟨hd, strl "and", by decide, ?_⟩
          cases h4 : kindD d "and" 3
          · simp only [if_false, Bool.false_eq_true]
            refine ⟨hd, strl "some", by decide, ?_⟩
            cases h5 : kindD d "some" 3
            · rw [conD_no h1 h2 h3 h4 h5] at q
              exact q
            · obtain ⟨xs, rfl, hl⟩ := kind_true h5
              obtain ⟨x, y, rfl⟩ := len2 hl
              rw [conD_some] at q
              simp only [if_true, pure1, tab1, dAnd, dOr, dNot, dIf, dCall, dFn, dCons, dNil, dVar, dOwn, dC, dFz, dBin, dCmp, dChn, dIsiB, bCmp, bChn, bVal, bAnd, bOr, bNot, bYes, dSortK, dPget, dGet, sDput, sExp, dLm, keyD, bCmpL, lk2, fI0, fI, sSeq, sIf, sRet, sRetL, sSet, sPar, sOwn, sFor, sNext, tName, NL.tCons, NL.tNil, tTups, dTup, dLst, dSl, oNo, oIs, fIx, fSl, iA, fAdd_t, fAdd_l, fAdd_s, fAdd_i, fLstOf_t, fLstOf_l, fTupOf_t, fTupOf_l, fLen_t, fLen_l, ofO_some, at0, at1, at2, NL.run, lenN, startN, DEnds.er, List.getElem?_cons_zero, List.getElem?_cons_succ, List.set_cons_zero, List.set_cons_succ, Bool.false_eq_true, if_true, if_false, reduceIte]
              refine ⟨good_mem (.inl hd) (by simp), ?_⟩
              cases hx : wordD x
              · rw [hx] at q
                exact q
              · rw [hx] at q
                simp only [if_true]
                exact ⟨⟨good_mem (.inl hd) (by simp), by have := dep_mem (xs := [.str "some", x, y]) (x := y) (by simp); omega⟩, q⟩
          · obtain ⟨xs, rfl, hl⟩ := kind_true h4
            obtain ⟨x, y, rfl⟩ := len2 hl
            rw [conD_and] at q
            simp only [if_true, pure1, tab1, dAnd, dOr, dNot, dIf, dCall, dFn, dCons, dNil, dVar, dOwn, dC, dFz, dBin, dCmp, dChn, dIsiB, bCmp, bChn, bVal, bAnd, bOr, bNot, bYes, dSortK, dPget, dGet, sDput, sExp, dLm, keyD, bCmpL, lk2, fI0, fI, sSeq, sIf, sRet, sRetL, sSet, sPar, sOwn, sFor, sNext, tName, NL.tCons, NL.tNil, tTups, dTup, dLst, dSl, oNo, oIs, fIx, fSl, iA, fAdd_t, fAdd_l, fAdd_s, fAdd_i, fLstOf_t, fLstOf_l, fTupOf_t, fTupOf_l, fLen_t, fLen_l, ofO_some, at0, at1, at2, NL.run, lenN, startN, DEnds.er, List.getElem?_cons_zero, List.getElem?_cons_succ, List.set_cons_zero, List.set_cons_succ, Bool.false_eq_true, if_true, if_false, reduceIte]
            refine ⟨⟨good_mem (.inl hd) (by simp), by have := dep_mem (xs := [.str "and", x, y]) (x := x) (by simp); omega⟩, ?_⟩
            cases hx : conD x
            · rw [hx] at q
              exact q
            · rw [hx] at q
              simp only [if_true]
              exact ⟨⟨good_mem (.inl hd) (by simp), by have := dep_mem (xs := [.str "and", x, y]) (x := y) (by simp); omega⟩, q⟩
        · obtain ⟨xs, rfl, hl⟩ := kind_true h3
          obtain ⟨x, rfl⟩ := len1 hl
          rw [conD_word] at q
          simp only [if_true, pure1, tab1, dAnd, dOr, dNot, dIf, dCall, dFn, dCons, dNil, dVar, dOwn, dC, dFz, dBin, dCmp, dChn, dIsiB, bCmp, bChn, bVal, bAnd, bOr, bNot, bYes, dSortK, dPget, dGet, sDput, sExp, dLm, keyD, bCmpL, lk2, fI0, fI, sSeq, sIf, sRet, sRetL, sSet, sPar, sOwn, sFor, sNext, tName, NL.tCons, NL.tNil, tTups, dTup, dLst, dSl, oNo, oIs, fIx, fSl, iA, fAdd_t, fAdd_l, fAdd_s, fAdd_i, fLstOf_t, fLstOf_l, fTupOf_t, fTupOf_l, fLen_t, fLen_l, ofO_some, at0, at1, at2, NL.run, lenN, startN, DEnds.er, List.getElem?_cons_zero, List.getElem?_cons_succ, List.set_cons_zero, List.set_cons_succ, Bool.false_eq_true, if_true, if_false, reduceIte]
          exact ⟨good_mem (.inl hd) (by simp), q⟩
      · obtain ⟨xs, rfl, hl⟩ := kind_true h2
        cases len0 hl
        rw [conD_none] at q
        exact q
    · obtain ⟨xs, rfl, hl⟩ := kind_true h1
      cases len0 hl
      rw [conD_all] at q
      exact q
def G_is_concept_value : List D → (D → Prop) → Prop
  | [d], Q => good d ∧ Q (.bl (conD d))
  | _, _ => False
theorem dn_is_concept_value (T : Txt mg K) (A : At K mg "is_concept_value" st_is_concept_value) (h_is_kind : Dn P w K mg base 2 "is_kind" ["thing", "word", "many"] (pure1 G_is_kind)) (h_is_word_value : Dn P w K mg base 1 "is_word_value" ["thing"] (pure1 G_is_word_value)) :
    Dn P w K mg base 67 "is_concept_value" ["thing"] (pure1 G_is_concept_value) :=
  (dn_con T A h_is_kind h_is_word_value 65).imp fun ds h Q E w => match ds, w with | [d], ⟨hd, q⟩ => ⟨⟨hd, by have := dep_good hd; omega⟩, q⟩
abbrev st_is_sentence_value : Stmt := top 21
theorem sc_is_sentence_value : FnScope ["thing"] ["thing"] (defScope st_is_sentence_value) := ⟨rfl, rfl, rfl, by decide +kernel, rfl, by decide +kernel, by decide +kernel⟩

def G_is_sentence_value : List D → (D → Prop) → Prop
  | [d], Q => good d ∧ Q (.bl (senD d))
  | _, _ => False
theorem dn_is_sentence_value (T : Txt mg K) (A : At K mg "is_sentence_value" st_is_sentence_value) (h_is_row : Dn P w K mg base 1 "is_row" ["thing", "many"] (pure1 G_is_row)) (h_is_concept_value : Dn P w K mg base 67 "is_concept_value" ["thing"] (pure1 G_is_concept_value)) :
    Dn P w K mg base 68 "is_sentence_value" ["thing"] (pure1 G_is_sentence_value) := by
  refine Dn.of A sc_is_sentence_value (fun F => F.bindsN fun _ _ _ _ _ _ us hl => match us, hl with | [_], _ => rfl) (fun f cdv A outer s H E hr c => (ss_one (st_ret (e_and (wk (e_fn h_is_row c hr (a_cons (nm 0) (a_cons c_int a_nil)))) (e_and (wk (e_fn h_is_concept_value c hr (a_cons (e_ix (wk (nm 0)) (wk c_int)) a_nil))) (e_one (e_fn h_is_concept_value c hr (a_cons (e_ix (wk (nm 0)) (wk c_int)) a_nil)))))))) (fun ds h Q E w => ?_)
  match ds, w with
  | [d], ⟨hd, q⟩ =>
    refine ⟨rfl, ?_⟩
    simp only [pure1, tab1, dAnd, dOr, dNot, dIf, dCall, dFn, dCons, dNil, dVar, dOwn, dC, dFz, dBin, dCmp, dChn, dIsiB, bCmp, bChn, bVal, bAnd, bOr, bNot, bYes, dSortK, dPget, dGet, sDput, sExp, dLm, keyD, bCmpL, lk2, fI0, fI, sSeq, sIf, sRet, sRetL, sSet, sPar, sOwn, sFor, sNext, tName, NL.tCons, NL.tNil, tTups, dTup, dLst, dSl, oNo, oIs, fIx, fSl, iA, fAdd_t, fAdd_l, fAdd_s, fAdd_i, fLstOf_t, fLstOf_l, fTupOf_t, fTupOf_l, fLen_t, fLen_l, ofO_some, at0, at1, at2, NL.run, lenN, startN, DEnds.er, List.getElem?_cons_zero, List.getElem?_cons_succ, List.set_cons_zero, List.set_cons_succ, Bool.false_eq_true, if_true, if_false, reduceIte]
    refine ⟨noO_of hd, ?_⟩
    match d, hd, q with
    | .tup [l, r], hd, q =>
      simp only [rowD, List.length_cons, List.length_nil, beq_self_eq_true, if_true, pure1, tab1, dAnd, dOr, dNot, dIf, dCall, dFn, dCons, dNil, dVar, dOwn, dC, dFz, dBin, dCmp, dChn, dIsiB, bCmp, bChn, bVal, bAnd, bOr, bNot, bYes, dSortK, dPget, dGet, sDput, sExp, dLm, keyD, bCmpL, lk2, fI0, fI, sSeq, sIf, sRet, sRetL, sSet, sPar, sOwn, sFor, sNext, tName, NL.tCons, NL.tNil, tTups, dTup, dLst, dSl, oNo, oIs, fIx, fSl, iA, fAdd_t, fAdd_l, fAdd_s, fAdd_i, fLstOf_t, fLstOf_l, fTupOf_t, fTupOf_l, fLen_t, fLen_l, ofO_some, at0, at1, at2, NL.run, lenN, startN, DEnds.er, List.getElem?_cons_zero, List.getElem?_cons_succ, List.set_cons_zero, List.set_cons_succ, Bool.false_eq_true, if_true, if_false, reduceIte]
      refine ⟨good_mem (.inl hd) (by simp), ?_⟩
      simp only [senD] at q
      cases hx : conD l
      · rw [hx] at q
        exact q
      · rw [hx] at q
        simp only [if_true]
        exact ⟨good_mem (.inl hd) (by simp), q⟩
    | .tup [], hd, q => exact q
    | .tup [_], hd, q => exact q
    | .tup (_ :: _ :: _ :: xs), hd, q =>
      have e : (((xs.length + 1 + 1 + 1 : Nat) : Int) == 2) = false := by simp; omega
      simp only [rowD, List.length_cons, e, Bool.false_eq_true, if_false]
      exact q
    | .non, hd, q => exact q
    | .bl _, hd, q => exact q
    | .int _, hd, q => exact q
    | .str _, hd, q => exact q
    | .lst _, hd, q => exact q
    | .obj _, hd, q => exact q
abbrev st_is_book_value : Stmt := top 22
theorem sc_is_book_value : FnScope ["thing", "axiom"] ["thing"] (defScope st_is_book_value) := ⟨rfl, rfl, rfl, by decide +kernel, rfl, by decide +kernel, by decide +kernel⟩

def G_is_book_value : List D → (D → Prop) → Prop
  | [d], Q => good d ∧ (∀ xs, d = .tup xs → xs.length ≤ 1000) ∧ Q (.bl (bookD d))
  | _, _ => False
theorem dn_is_book_value (T : Txt mg K) (A : At K mg "is_book_value" st_is_book_value) (h_is_sentence_value : Dn P w K mg base 68 "is_sentence_value" ["thing"] (pure1 G_is_sentence_value)) :
    Dn P w K mg base 69 "is_book_value" ["thing"] (pure1 G_is_book_value) := by
  refine Dn.of A sc_is_book_value (fun F => F.bindsN fun _ _ _ _ _ _ us hl => match us, hl with | [_], _ => rfl) (fun f cdv A outer s H E hr c => (ss_one (st_ret (e_and (wk (c_isi (T := "tuple") T.b T.b.tuple (wk (nm 0)))) (e_one (c_all T.b c (v_cons (wk (fzn (e_lc c (i_any (nm 0)) (blkOk_by (own := [("axiom", 1)]) (N := ["thing", "axiom"]) (sc := defScope st_is_book_value) (by decide +kernel)) gd_name (by decide) (fun _ _ _ _ _ => (pg_name (i := 1) sc_is_book_value.nd rfl (by first | exact Or.inl rfl | exact Or.inr rfl))) (fun _ _ _ _ _ => ts_nil) (fun _ _ _ _ _ => (e_fn h_is_sentence_value (c.blk) hr (a_cons (nm 1) a_nil)))))) v_nil))))))) (fun ds h Q E w => ?_)
  match ds, w with
  | [d], ⟨hd, hl, q⟩ =>
    refine ⟨rfl, ?_⟩
    simp only [pure1, tab1, dAnd, dOr, dNot, dIf, dCall, dFn, dCons, dNil, dVar, dOwn, dC, dFz, dBin, dCmp, dChn, dIsiB, bCmp, bChn, bVal, bAnd, bOr, bNot, bYes, dSortK, dPget, dGet, sDput, sExp, dLm, keyD, bCmpL, lk2, fI0, fI, sSeq, sIf, sRet, sRetL, sSet, sPar, sOwn, sFor, sNext, tName, NL.tCons, NL.tNil, tTups, dTup, dLst, dSl, oNo, oIs, fIx, fSl, iA, fAdd_t, fAdd_l, fAdd_s, fAdd_i, fLstOf_t, fLstOf_l, fTupOf_t, fTupOf_l, fLen_t, fLen_l, ofO_some, at0, at1, at2, NL.run, lenN, startN, DEnds.er, List.getElem?_cons_zero, List.getElem?_cons_succ, List.set_cons_zero, List.set_cons_succ, Bool.false_eq_true, if_true, if_false, reduceIte]
    refine isi_tuple (noO_of hd) ?_
    cases d with
    | tup xs =>
      simp only [isT, beq_self_eq_true, if_true, dLc, pure1, tab1, dAnd, dOr, dNot, dIf, dCall, dFn, dCons, dNil, dVar, dOwn, dC, dFz, dBin, dCmp, dChn, dIsiB, bCmp, bChn, bVal, bAnd, bOr, bNot, bYes, dSortK, dPget, dGet, sDput, sExp, dLm, keyD, bCmpL, lk2, fI0, fI, sSeq, sIf, sRet, sRetL, sSet, sPar, sOwn, sFor, sNext, tName, NL.tCons, NL.tNil, tTups, dTup, dLst, dSl, oNo, oIs, fIx, fSl, iA, fAdd_t, fAdd_l, fAdd_s, fAdd_i, fLstOf_t, fLstOf_l, fTupOf_t, fTupOf_l, fLen_t, fLen_l, ofO_some, at0, at1, at2, NL.run, lenN, startN, DEnds.er, List.getElem?_cons_zero, List.getElem?_cons_succ, List.set_cons_zero, List.set_cons_succ, Bool.false_eq_true, if_true, if_false, reduceIte]
      have hl' := hl xs rfl
      refine lc_map (fun x => .bl (senD x)) xs (fun x m A a => ?_) (sizeLine_ge (by omega)) ?_
      · simp only [wipeR, pure1, tab1, dAnd, dOr, dNot, dIf, dCall, dFn, dCons, dNil, dVar, dOwn, dC, dFz, dBin, dCmp, dChn, dIsiB, bCmp, bChn, bVal, bAnd, bOr, bNot, bYes, dSortK, dPget, dGet, sDput, sExp, dLm, keyD, bCmpL, lk2, fI0, fI, sSeq, sIf, sRet, sRetL, sSet, sPar, sOwn, sFor, sNext, tName, NL.tCons, NL.tNil, tTups, dTup, dLst, dSl, oNo, oIs, fIx, fSl, iA, fAdd_t, fAdd_l, fAdd_s, fAdd_i, fLstOf_t, fLstOf_l, fTupOf_t, fTupOf_l, fLen_t, fLen_l, ofO_some, at0, at1, at2, NL.run, lenN, startN, DEnds.er, List.getElem?_cons_zero, List.getElem?_cons_succ, List.set_cons_zero, List.set_cons_succ, Bool.false_eq_true, if_true, if_false, reduceIte]
        exact ⟨good_mem (.inl hd) m, a⟩
      · show ofO (blsOf _) _
        rw [blsOf_of]
        show Q (.bl ((xs.map senD).all id)) h
        rw [List.all_map]
        exact q
    | _ => exact q
end
end T69
set_option Elab.async false
set_option linter.all false
set_option maxRecDepth 100000
set_option maxHeartbeats 4300000
namespace T69
open PySem PySem.Spec PyProof.Rows L2 NL
/-! ### joined -/
def joinD (base left right : List D) : List D := dedD [] ((base.filter fun a => inD left a && inD right a) ++ (left ++ right).filter fun a => !inD base a)
section
variable {base : Heap} {mg : Str → Option Value} {K : PySem.W.Frag} {P : Program} {w : World}
abbrev st_joined : Stmt := top 24
theorem sc_joined : FnScope ["base", "left", "right", "kept", "added", "found", "axiom"] ["base", "left", "right"] (defScope st_joined) := ⟨rfl, rfl, rfl, by decide +kernel, rfl, by decide +kernel, by decide +kernel⟩

def G_joined : List D → (D → Prop) → Prop
  | [.tup b, .tup l, .tup r], Q => Ax 1000 b ∧ Ax 1000 l ∧ Ax 1000 r ∧ Q (.tup (joinD b l r))
  | _, _ => False
theorem dn_joined (T : Txt mg K) (A : At K mg "joined" st_joined) : Dn P w K mg base 1 "joined" ["base", "left", "right"] (pure1 G_joined) := by
  refine Dn.of A sc_joined (fun F => F.bindsN fun _ _ _ _ _ _ us hl => match us, hl with | [_, _, _], _ => rfl) (fun f cdv A outer s H E hr c => (ss_cons (st_setLc (i := 3) c rfl rfl (sw_true rfl rfl rfl (by decide +kernel)) (i_any (nm 0)) (blkOk_by (own := [("axiom", 6)]) (N := ["base", "left", "right", "kept", "added", "found", "axiom"]) (sc := defScope st_joined) (by decide +kernel)) gd_name (by decide) (fun _ _ _ _ _ => (pg_name (i := 6) sc_joined.nd rfl (by first | exact Or.inl rfl | exact Or.inr rfl))) (fun _ _ _ _ _ => ts_one (PW.pt (w_and (t_cmp (o_in hr.u65) ob_in (wk (nm 6)) (wk (nm 1))) (w_and1 (t_cmp (o_in hr.u65) ob_in (wk (nm 6)) (wk (nm 2))))))) (fun _ _ _ _ _ => (nm 6)))
      (ss_cons (st_setLc (i := 4) c rfl rfl (sw_true rfl rfl rfl (by decide +kernel)) (i_any (e_bin op_plus od_add (wk (nm 1)) (wk (nm 2)))) (blkOk_by (own := [("axiom", 6)]) (N := ["base", "left", "right", "kept", "added", "found", "axiom"]) (sc := defScope st_joined) (by decide +kernel)) gd_name (by decide) (fun _ _ _ _ _ => (pg_name (i := 6) sc_joined.nd rfl (by first | exact Or.inl rfl | exact Or.inr rfl))) (fun _ _ _ _ _ => ts_one (t_cmp (o_off hr.u65) ob_off (wk (nm 6)) (wk (nm 0)))) (fun _ _ _ _ _ => (nm 6)))
      (ss_cons (st_own (i := 5) c rfl (by first | exact Or.inl rfl | exact Or.inr rfl) (e_lst a_nil))
      (ss_cons (st_for c (i_any (e_bin op_plus od_add (wk (nm 3)) (wk (nm 4)))) (pg_name (i := 6) sc_joined.nd rfl (by first | exact Or.inl rfl | exact Or.inr rfl)) gd_name
      (ss_one (st_if (t_cmp (o_off hr.u65) ob_off (wk (nm 6)) (ow 5))
      (ss_one (st_app (i := 5) rfl (by first | exact Or.inl rfl | exact Or.inr (Or.inl rfl)) (nm 6)))
      ss_nil)))
      (ss_one (st_ret (c_tuple T.b (v_cons (ow 5) v_nil))))))))) (fun ds h Q E w => ?_)
  match ds, w with
  | [.tup b, .tup l, .tup r], ⟨hb, hl, hr, q⟩ =>
    refine ⟨rfl, ?_⟩
    simp only [dLc, pure1, tab1, dAnd, dOr, dNot, dIf, dCall, dFn, dCons, dNil, dVar, dOwn, dC, dFz, dBin, dCmp, dChn, dIsiB, bCmp, bChn, bVal, bAnd, bOr, bNot, bYes, dSortK, dPget, dGet, sDput, sExp, dLm, keyD, bCmpL, lk2, fI0, fI, sSeq, sIf, sRet, sRetL, sSet, sPar, sOwn, sFor, sNext, tName, NL.tCons, NL.tNil, tTups, dTup, dLst, dSl, oNo, oIs, fIx, fSl, iA, fAdd_t, fAdd_l, fAdd_s, fAdd_i, fLstOf_t, fLstOf_l, fTupOf_t, fTupOf_l, fLen_t, fLen_l, ofO_some, at0, at1, at2, NL.run, lenN, startN, DEnds.er, List.getElem?_cons_zero, List.getElem?_cons_succ, List.set_cons_zero, List.set_cons_succ, Bool.false_eq_true, if_true, if_false, reduceIte]
    refine lc_fm (fun a => inD l a && inD r a) id b (fun d m A N h1 h2 => ?_) (sizeLine_ge (by have := hb.len; simp; omega)) ?_
    · simp only [wipeR, List.map_cons, List.map_nil, pure1, tab1, dAnd, dOr, dNot, dIf, dCall, dFn, dCons, dNil, dVar, dOwn, dC, dFz, dBin, dCmp, dChn, dIsiB, bCmp, bChn, bVal, bAnd, bOr, bNot, bYes, dSortK, dPget, dGet, sDput, sExp, dLm, keyD, bCmpL, lk2, fI0, fI, sSeq, sIf, sRet, sRetL, sSet, sPar, sOwn, sFor, sNext, tName, NL.tCons, NL.tNil, tTups, dTup, dLst, dSl, oNo, oIs, fIx, fSl, iA, fAdd_t, fAdd_l, fAdd_s, fAdd_i, fLstOf_t, fLstOf_l, fTupOf_t, fTupOf_l, fLen_t, fLen_l, ofO_some, at0, at1, at2, NL.run, lenN, startN, DEnds.er, List.getElem?_cons_zero, List.getElem?_cons_succ, List.set_cons_zero, List.set_cons_succ, Bool.false_eq_true, if_true, if_false, reduceIte]
      refine fIn_t (hb.each d m).1 hl.good.1 ?_
      rw [bneF]
      cases e1 : inD l d
      · exact h2 (by rw [e1]; rfl)
      · rw [if_pos rfl]
        refine fIn_t (hb.each d m).1 hr.good.1 ?_
        rw [bneF]
        cases e2 : inD r d
        · exact h2 (by rw [e1, e2]; rfl)
        · exact h1 (by rw [e1, e2]; rfl)
    · refine ⟨sizeLine_ge (by have := hl.len; have := hr.len; omega), ?_⟩
      refine lc_fm (fun a => !inD b a) id (l ++ r) (fun d m A N h1 h2 => ?_) (sizeLine_ge (by have := hl.len; have := hr.len; simp; omega)) ?_
      · simp only [wipeR, List.map_cons, List.map_nil, pure1, tab1, dAnd, dOr, dNot, dIf, dCall, dFn, dCons, dNil, dVar, dOwn, dC, dFz, dBin, dCmp, dChn, dIsiB, bCmp, bChn, bVal, bAnd, bOr, bNot, bYes, dSortK, dPget, dGet, sDput, sExp, dLm, keyD, bCmpL, lk2, fI0, fI, sSeq, sIf, sRet, sRetL, sSet, sPar, sOwn, sFor, sNext, tName, NL.tCons, NL.tNil, tTups, dTup, dLst, dSl, oNo, oIs, fIx, fSl, iA, fAdd_t, fAdd_l, fAdd_s, fAdd_i, fLstOf_t, fLstOf_l, fTupOf_t, fTupOf_l, fLen_t, fLen_l, ofO_some, at0, at1, at2, NL.run, lenN, startN, DEnds.er, List.getElem?_cons_zero, List.getElem?_cons_succ, List.set_cons_zero, List.set_cons_succ, Bool.false_eq_true, if_true, if_false, reduceIte]
        refine fIn_t ((hl.app hr).each d m).1 hb.good.1 ?_
        rw [bneT]
        cases e1 : inD b d
        · exact h1 (by rw [e1]; rfl)
        · exact h2 (by rw [e1]; rfl)
      · have k1 := hb.filter fun a => inD l a && inD r a
        have k2 := (hl.app hr).filter fun a => !inD b a
        simp only [List.map_id, List.nil_append]
        refine ⟨Nat.zero_le _, sizeLine_ge (by have := k1.len; have := k2.len; omega), ?_⟩
        refine loop_ded (by decide) trivial _ _ [] _ (k1.app k2) .nil (by omega) rfl (by simp) fun ρ' g1 _ => ?_
        simp only [sRet, dCall, NL.dCons, NL.dNil]
        rw [dOwn_at g1]
        exact q
/-! ### marks -/
abbrev Mk := List (Str × D)
structure MkOk (ms : Mk) : Prop where
  len : ms.length ≤ 1000
  nd : (ms.map (·.1)).Nodup
  so : ms.Pairwise (fun p q => ltS q.1 p.1 = false)
  wd : ∀ p ∈ ms, good (.str p.1) ∧ wordS p.1 = true
  bk : ∀ p ∈ ms, ∃ b, p.2 = .tup b ∧ Ax 1000 b
abbrev st_marked : Stmt := top 28
theorem sc_marked : FnScope ["marks", "thing"] ["marks", "thing"] (defScope st_marked) := ⟨rfl, rfl, rfl, by decide +kernel, rfl, by decide +kernel, by decide +kernel⟩

def markD (ms : Mk) : D → D
  | .str s => (lookD ms s).getD .non
  | _ => .non
def G_marked : List D → (D → Prop) → Prop
  | [.tup m, d], Q => ∃ ms : Mk, m = ms.map wpD ∧ MkOk ms ∧ good d ∧ Q (markD ms d)
  | _, _ => False
theorem look_none {ms : Mk} {s : Str} (h : ∀ p ∈ ms, p.1 ≠ s) : lookD ms s = none := by
  unfold lookD
  rw [List.find?_eq_none.mpr fun p m => by simpa using h p m]
  rfl
theorem dn_marked (T : Txt mg K) (A : At K mg "marked" st_marked) (h_is_word_value : Dn P w K mg base 1 "is_word_value" ["thing"] (pure1 G_is_word_value)) : Dn P w K mg base 2 "marked" ["marks", "thing"] (pure1 G_marked) := by
  refine Dn.of A sc_marked (fun F => F.bindsN fun _ _ _ _ _ _ us hl => match us, hl with | [_, _], _ => rfl) (fun f cdv A outer s H E hr c => (ss_one (st_ret (e_if (t_val (wk (e_fn h_is_word_value c hr (a_cons (nm 1) a_nil)))) (e_pget T.b c hr.u1 (wk (nm 0)) (wk (nm 1)) ⟨rfl, rfl, rfl, rfl⟩) c_non)))) (fun ds h Q E w => ?_)
  match ds, w with
  | [.tup m, d], ⟨ms, e, ok, gd, q⟩ =>
    refine ⟨rfl, ?_⟩
    subst e
    simp only [dPget, pure1, tab1, dAnd, dOr, dNot, dIf, dCall, dFn, dCons, dNil, dVar, dOwn, dC, dFz, dBin, dCmp, dChn, dIsiB, bCmp, bChn, bVal, bAnd, bOr, bNot, bYes, dSortK, dPget, dGet, sDput, sExp, dLm, keyD, bCmpL, lk2, fI0, fI, sSeq, sIf, sRet, sRetL, sSet, sPar, sOwn, sFor, sNext, tName, NL.tCons, NL.tNil, tTups, dTup, dLst, dSl, oNo, oIs, fIx, fSl, iA, fAdd_t, fAdd_l, fAdd_s, fAdd_i, fLstOf_t, fLstOf_l, fTupOf_t, fTupOf_l, fLen_t, fLen_l, ofO_some, at0, at1, at2, NL.run, lenN, startN, DEnds.er, List.getElem?_cons_zero, List.getElem?_cons_succ, List.set_cons_zero, List.set_cons_succ, Bool.false_eq_true, if_true, if_false, reduceIte]
    refine ⟨gd, ?_⟩
    cases hw : wordD d
    · simp only [if_false, Bool.false_eq_true]
      cases d with
      | str s =>
        have : lookD ms s = none := look_none fun p m e => by
          have := (ok.wd p m).2
          rw [e] at this
          have hw : wordS s = false := hw
          rw [this] at hw
          cases hw
        simp only [markD, this] at q
        exact q
      | _ => exact q
    · simp only [if_true]
      refine ⟨ms, rfl, ok.nd, ?_⟩
      cases d with
      | str s => exact q
      | _ => cases hw
abbrev st__law_join : Stmt := top 45
theorem sc__law_join : FnScope ["base", "left", "right", "found", "made", "axiom"] ["base", "left", "right"] (defScope st__law_join) := ⟨rfl, rfl, rfl, by decide +kernel, rfl, by decide +kernel, by decide +kernel⟩

theorem dn__law_join (T : Txt mg K) (A : At K mg "_law_join" st__law_join) : Dn P w K mg base 1 "_law_join" ["base", "left", "right"] (pure1 G_joined) := by
  refine Dn.of A sc__law_join (fun F => F.bindsN fun _ _ _ _ _ _ us hl => match us, hl with | [_, _, _], _ => rfl) (fun f cdv A outer s H E hr c => (ss_cons (st_setLc (i := 3) c rfl rfl (sw_true rfl rfl rfl (by decide +kernel)) (i_any (nm 0)) (blkOk_by (own := [("axiom", 5)]) (N := ["base", "left", "right", "found", "made", "axiom"]) (sc := defScope st__law_join) (by decide +kernel)) gd_name (by decide) (fun _ _ _ _ _ => (pg_name (i := 5) sc__law_join.nd rfl (by first | exact Or.inl rfl | exact Or.inr rfl))) (fun _ _ _ _ _ => ts_one (PW.pt (w_and (t_cmp (o_in hr.u65) ob_in (wk (nm 5)) (wk (nm 1))) (w_and1 (t_cmp (o_in hr.u65) ob_in (wk (nm 5)) (wk (nm 2))))))) (fun _ _ _ _ _ => (nm 5)))
      (ss_cons (st_set (i := 3) c rfl (by first | exact Or.inl rfl | exact Or.inr rfl) (e_bin op_plus od_add (wk (nm 3)) (wk (fzn (e_lc c (i_any (e_bin op_plus od_add (wk (c_list T.b (v_cons (wk (nm 1)) v_nil))) (wk (c_list T.b (v_cons (wk (nm 2)) v_nil))))) (blkOk_by (own := [("axiom", 5)]) (N := ["base", "left", "right", "found", "made", "axiom"]) (sc := defScope st__law_join) (by decide +kernel)) gd_name (by decide) (fun _ _ _ _ _ => (pg_name (i := 5) sc__law_join.nd rfl (by first | exact Or.inl rfl | exact Or.inr rfl))) (fun _ _ _ _ _ => ts_one (t_cmp (o_off hr.u65) ob_off (wk (nm 5)) (wk (nm 0)))) (fun _ _ _ _ _ => (nm 5)))))))
      (ss_cons (st_own (i := 4) c rfl (by first | exact Or.inl rfl | exact Or.inr rfl) (e_lst a_nil))
      (ss_cons (st_for c (i_any (nm 3)) (pg_name (i := 5) sc__law_join.nd rfl (by first | exact Or.inl rfl | exact Or.inr rfl)) gd_name
      (ss_one (st_if (t_cmp (o_off hr.u65) ob_off (wk (nm 5)) (ow 4))
      (ss_one (st_app (i := 4) rfl (by first | exact Or.inl rfl | exact Or.inr (Or.inl rfl)) (nm 5)))
      ss_nil)))
      (ss_one (st_ret (c_tuple T.b (v_cons (ow 4) v_nil))))))))) (fun ds h Q E w => ?_)
  match ds, w with
  | [.tup b, .tup l, .tup r], ⟨hb, hl, hr, q⟩ =>
    refine ⟨rfl, ?_⟩
    simp only [dLc, pure1, tab1, dAnd, dOr, dNot, dIf, dCall, dFn, dCons, dNil, dVar, dOwn, dC, dFz, dBin, dCmp, dChn, dIsiB, bCmp, bChn, bVal, bAnd, bOr, bNot, bYes, dSortK, dPget, dGet, sDput, sExp, dLm, keyD, bCmpL, lk2, fI0, fI, sSeq, sIf, sRet, sRetL, sSet, sPar, sOwn, sFor, sNext, tName, NL.tCons, NL.tNil, tTups, dTup, dLst, dSl, oNo, oIs, fIx, fSl, iA, fAdd_t, fAdd_l, fAdd_s, fAdd_i, fLstOf_t, fLstOf_l, fTupOf_t, fTupOf_l, fLen_t, fLen_l, ofO_some, at0, at1, at2, NL.run, lenN, startN, DEnds.er, List.getElem?_cons_zero, List.getElem?_cons_succ, List.set_cons_zero, List.set_cons_succ, Bool.false_eq_true, if_true, if_false, reduceIte]
    refine lc_fm (fun a => inD l a && inD r a) id b (fun d m A N h1 h2 => ?_) (sizeLine_ge (by have := hb.len; simp; omega)) ?_
    · simp only [wipeR, List.map_cons, List.map_nil, pure1, tab1, dAnd, dOr, dNot, dIf, dCall, dFn, dCons, dNil, dVar, dOwn, dC, dFz, dBin, dCmp, dChn, dIsiB, bCmp, bChn, bVal, bAnd, bOr, bNot, bYes, dSortK, dPget, dGet, sDput, sExp, dLm, keyD, bCmpL, lk2, fI0, fI, sSeq, sIf, sRet, sRetL, sSet, sPar, sOwn, sFor, sNext, tName, NL.tCons, NL.tNil, tTups, dTup, dLst, dSl, oNo, oIs, fIx, fSl, iA, fAdd_t, fAdd_l, fAdd_s, fAdd_i, fLstOf_t, fLstOf_l, fTupOf_t, fTupOf_l, fLen_t, fLen_l, ofO_some, at0, at1, at2, NL.run, lenN, startN, DEnds.er, List.getElem?_cons_zero, List.getElem?_cons_succ, List.set_cons_zero, List.set_cons_succ, Bool.false_eq_true, if_true, if_false, reduceIte]
      refine fIn_t (hb.each d m).1 hl.good.1 ?_
      rw [bneF]
      cases e1 : inD l d
      · exact h2 (by rw [e1]; rfl)
      · rw [if_pos rfl]
        refine fIn_t (hb.each d m).1 hr.good.1 ?_
        rw [bneF]
        cases e2 : inD r d
        · exact h2 (by rw [e1, e2]; rfl)
        · exact h1 (by rw [e1, e2]; rfl)
    · refine ⟨sizeLine_ge (by have := hl.len; have := hr.len; omega), ?_⟩
      refine lc_fm (fun a => !inD b a) id (l ++ r) (fun d m A N h1 h2 => ?_) (sizeLine_ge (by have := hl.len; have := hr.len; simp; omega)) ?_
      · simp only [wipeR, List.map_cons, List.map_nil, pure1, tab1, dAnd, dOr, dNot, dIf, dCall, dFn, dCons, dNil, dVar, dOwn, dC, dFz, dBin, dCmp, dChn, dIsiB, bCmp, bChn, bVal, bAnd, bOr, bNot, bYes, dSortK, dPget, dGet, sDput, sExp, dLm, keyD, bCmpL, lk2, fI0, fI, sSeq, sIf, sRet, sRetL, sSet, sPar, sOwn, sFor, sNext, tName, NL.tCons, NL.tNil, tTups, dTup, dLst, dSl, oNo, oIs, fIx, fSl, iA, fAdd_t, fAdd_l, fAdd_s, fAdd_i, fLstOf_t, fLstOf_l, fTupOf_t, fTupOf_l, fLen_t, fLen_l, ofO_some, at0, at1, at2, NL.run, lenN, startN, DEnds.er, List.getElem?_cons_zero, List.getElem?_cons_succ, List.set_cons_zero, List.set_cons_succ, Bool.false_eq_true, if_true, if_false, reduceIte]
        refine fIn_t ((hl.app hr).each d m).1 hb.good.1 ?_
        rw [bneT]
        cases e1 : inD b d
        · exact h1 (by rw [e1]; rfl)
        · exact h2 (by rw [e1]; rfl)
      · have k1 := hb.filter fun a => inD l a && inD r a
        have k2 := (hl.app hr).filter fun a => !inD b a
        simp only [List.map_id, List.nil_append]
        refine ⟨sizeLine_ge (by have := k1.len; have := k2.len; omega), Nat.zero_le _, ?_⟩
        refine loop_ded (by decide) trivial _ _ [] _ (k1.app k2) .nil (by omega) rfl (by simp) fun ρ' g1 _ => ?_
        simp only [sRet, dCall, NL.dCons, NL.dNil]
        rw [dOwn_at g1]
        exact q
/-! ### axioms -/
inductive AxDeed where
  | add (x : D) | drop (x : D) | put (x y : D)
def AxDeed.enc : AxDeed → List D
  | .add x => [.str "add", x]
  | .drop x => [.str "drop", x]
  | .put x y => [.str "put", x, y]
def plcD : D → Nat → Option Nat
  | .int i, n => if 0 ≤ i ∧ i < n then some i.toNat else none
  | _, _ => none
def axM (b : List D) : AxDeed → Option (List D)
  | .add x => if senD x = true then some (b ++ [x]) else none
  | .drop x => (plcD x b.length).map fun i => b.take i ++ b.drop (i + 1)
  | .put x y => (plcD x b.length).bind fun i => if senD y = true then some ((b.take i ++ [y]) ++ b.drop (i + 1)) else none
def encO (m : List D) : Option (List D) → D
  | some b => .tup [.tup b, .tup m]
  | none => .non
abbrev st_after_axiom : Stmt := top 29
theorem sc_after_axiom : FnScope ["now", "deed", "book", "marks"] ["now", "deed"] (defScope st_after_axiom) := ⟨rfl, rfl, rfl, by decide +kernel, rfl, by decide +kernel, by decide +kernel⟩

def G_after_axiom : List D → (D → Prop) → Prop
  | [.tup [.tup b, .tup m], .tup ds], Q => Ax 1000 b ∧ ∃ d : AxDeed, ds = d.enc ∧ (∀ x ∈ ds, good x) ∧ Q (encO m (axM b d))
  | _, _ => False
theorem dn_after_axiom (T : Txt mg K) (A : At K mg "after_axiom" st_after_axiom) (h_is_sentence_value : Dn P w K mg base 68 "is_sentence_value" ["thing"] (pure1 G_is_sentence_value)) (h_is_between : Dn P w K mg base 2 "is_between" ["thing", "least", "most"] (pure1 G_is_between)) : Dn P w K mg base 69 "after_axiom" ["now", "deed"] (pure1 G_after_axiom) := by
  refine Dn.of A sc_after_axiom (fun F => F.bindsN fun _ _ _ _ _ _ us hl => match us, hl with | [_, _], _ => rfl) (fun f cdv A outer s H E hr c => (ss_cons (st_asg (nm 0) (pg_tup (n := 2) rfl (pgs_cons (pg_name (i := 2) sc_after_axiom.nd rfl (by first | exact Or.inl rfl | exact Or.inr rfl)) (pgs_cons (pg_name (i := 3) sc_after_axiom.nd rfl (by first | exact Or.inl rfl | exact Or.inr rfl)) pgs_nil))) (gd_tup (n := 2) (gds_cons gd_name (gds_cons gd_name gds_nil))))
      (ss_cons (st_if (t_cmp (op_eqD hr.u64) ob_eq (wk (e_ix (wk (nm 1)) (wk c_int))) (wk c_str))
      (ss_one (st_ret (e_if (t_val (wk (e_fn h_is_sentence_value c hr (a_cons (e_ix (wk (nm 1)) (wk c_int)) a_nil)))) (e_tup (a_cons (e_bin op_plus od_add (wk (nm 2)) (wk (e_tup (a_cons (e_ix (wk (nm 1)) (wk c_int)) a_nil)))) (a_cons (nm 3) a_nil))) c_non)))
      ss_nil)
      (ss_cons (st_if (t_not (t_val (wk (e_fn h_is_between c hr (a_cons (e_ix (wk (nm 1)) (wk c_int)) (a_cons c_int (a_cons (e_bin op_sub od_I0 (wk (c_len T.b (v_cons (wk (nm 2)) v_nil))) (wk c_int)) a_nil)))))))
      (ss_one (st_ret c_non))
      ss_nil)
      (ss_cons (st_if (t_cmp (op_eqD hr.u64) ob_eq (wk (e_ix (wk (nm 1)) (wk c_int))) (wk c_str))
      (ss_one (st_ret (e_tup (a_cons (e_bin op_plus od_add (wk (e_sl (wk (nm 2)) p_no (p_is (wk (e_ix (wk (nm 1)) (wk c_int)))))) (wk (e_sl (wk (nm 2)) (p_is (wk (e_bin op_plus od_add (wk (e_ix (wk (nm 1)) (wk c_int))) (wk c_int)))) p_no))) (a_cons (nm 3) a_nil)))))
      ss_nil)
      (ss_one (st_ret (e_if (t_val (wk (e_fn h_is_sentence_value c hr (a_cons (e_ix (wk (nm 1)) (wk c_int)) a_nil)))) (e_tup (a_cons (e_bin op_plus od_add (wk (e_bin op_plus od_add (wk (e_sl (wk (nm 2)) p_no (p_is (wk (e_ix (wk (nm 1)) (wk c_int)))))) (wk (e_tup (a_cons (e_ix (wk (nm 1)) (wk c_int)) a_nil))))) (wk (e_sl (wk (nm 2)) (p_is (wk (e_bin op_plus od_add (wk (e_ix (wk (nm 1)) (wk c_int))) (wk c_int)))) p_no))) (a_cons (nm 3) a_nil))) c_non)))))))) (fun ds h Q E w => ?_)
  match ds, w with
  | [.tup [.tup b, .tup m], .tup ds], ⟨hb, d, e, hd, q⟩ =>
    refine ⟨rfl, ?_⟩
    subst e
    cases d with
    | add x =>
      simp only [AxDeed.enc, dLc, pure1, tab1, dAnd, dOr, dNot, dIf, dCall, dFn, dCons, dNil, dVar, dOwn, dC, dFz, dBin, dCmp, dChn, dIsiB, bCmp, bChn, bVal, bAnd, bOr, bNot, bYes, dSortK, dPget, dGet, sDput, sExp, dLm, keyD, bCmpL, lk2, fI0, fI, sSeq, sIf, sRet, sRetL, sSet, sPar, sOwn, sFor, sNext, tName, NL.tCons, NL.tNil, tTups, dTup, dLst, dSl, oNo, oIs, fIx, fSl, iA, fAdd_t, fAdd_l, fAdd_s, fAdd_i, fLstOf_t, fLstOf_l, fTupOf_t, fTupOf_l, fLen_t, fLen_l, ofO_some, at0, at1, at2, NL.run, lenN, startN, DEnds.er, List.getElem?_cons_zero, List.getElem?_cons_succ, List.set_cons_zero, List.set_cons_succ, Bool.false_eq_true, if_true, if_false, reduceIte]
      refine ⟨rfl, fEq_s (v := true) (strl "add") (strl "add") (by decide +kernel) ?_⟩
      rw [if_pos rfl]
      refine ⟨hd x (by simp [AxDeed.enc]), ?_⟩
      simp only [axM] at q
      cases hx : senD x
      · rw [hx] at q
        exact q
      · rw [hx] at q
        exact ⟨sizeLine_ge (by simp), sizeLine_ge (by have := hb.len; simp; omega), sizeLine_ge (by simp), q⟩
    | drop x =>
      simp only [AxDeed.enc, dLc, pure1, tab1, dAnd, dOr, dNot, dIf, dCall, dFn, dCons, dNil, dVar, dOwn, dC, dFz, dBin, dCmp, dChn, dIsiB, bCmp, bChn, bVal, bAnd, bOr, bNot, bYes, dSortK, dPget, dGet, sDput, sExp, dLm, keyD, bCmpL, lk2, fI0, fI, sSeq, sIf, sRet, sRetL, sSet, sPar, sOwn, sFor, sNext, tName, NL.tCons, NL.tNil, tTups, dTup, dLst, dSl, oNo, oIs, fIx, fSl, iA, fAdd_t, fAdd_l, fAdd_s, fAdd_i, fLstOf_t, fLstOf_l, fTupOf_t, fTupOf_l, fLen_t, fLen_l, ofO_some, at0, at1, at2, NL.run, lenN, startN, DEnds.er, List.getElem?_cons_zero, List.getElem?_cons_succ, List.set_cons_zero, List.set_cons_succ, Bool.false_eq_true, if_true, if_false, reduceIte]
      refine ⟨rfl, fEq_s (v := false) (strl "drop") (strl "add") (by decide +kernel) ?_⟩
      rw [if_neg (by decide)]
      refine ⟨noO_of (hd x (by simp [AxDeed.enc])), ?_⟩
      simp only [axM] at q
      cases x with
      | int i =>
        simp only [plcD] at q
        by_cases h : 0 ≤ i ∧ i < b.length
        · rw [if_pos h] at q
          have e1 : btw (.int i) 0 ((b.length : Int) - 1) = true := by simp [btw]; omega
          show if (!btw (.int i) 0 ((b.length : Int) - 1)) = true then _ else _
          rw [e1, if_neg (by decide)]
          refine fEq_s (v := true) (strl "drop") (strl "drop") (by decide +kernel) ?_
          rw [if_pos rfl]
          obtain ⟨n, rfl⟩ := Int.eq_ofNat_of_zero_le h.1
          have hn : n < b.length := by omega
          dsimp only
          rw [fAdd_i]
          dsimp only
          rw [show ((n : Int) + 1) = ((n + 1 : Nat) : Int) from rfl, cut_take n (by omega), cut_drop]
          refine ⟨sizeLine_ge (by have := hb.len; simp; omega), sizeLine_ge (by simp), ?_⟩
          exact q
        · rw [if_neg h] at q
          have e1 : btw (.int i) 0 ((b.length : Int) - 1) = false := by simp [btw]; omega
          show if (!btw (.int i) 0 ((b.length : Int) - 1)) = true then _ else _
          rw [e1]
          exact q
      | _ => exact q
    | put x y =>
      simp only [AxDeed.enc, dLc, pure1, tab1, dAnd, dOr, dNot, dIf, dCall, dFn, dCons, dNil, dVar, dOwn, dC, dFz, dBin, dCmp, dChn, dIsiB, bCmp, bChn, bVal, bAnd, bOr, bNot, bYes, dSortK, dPget, dGet, sDput, sExp, dLm, keyD, bCmpL, lk2, fI0, fI, sSeq, sIf, sRet, sRetL, sSet, sPar, sOwn, sFor, sNext, tName, NL.tCons, NL.tNil, tTups, dTup, dLst, dSl, oNo, oIs, fIx, fSl, iA, fAdd_t, fAdd_l, fAdd_s, fAdd_i, fLstOf_t, fLstOf_l, fTupOf_t, fTupOf_l, fLen_t, fLen_l, ofO_some, at0, at1, at2, NL.run, lenN, startN, DEnds.er, List.getElem?_cons_zero, List.getElem?_cons_succ, List.set_cons_zero, List.set_cons_succ, Bool.false_eq_true, if_true, if_false, reduceIte]
      refine ⟨rfl, fEq_s (v := false) (strl "put") (strl "add") (by decide +kernel) ?_⟩
      rw [if_neg (by decide)]
      refine ⟨noO_of (hd x (by simp [AxDeed.enc])), ?_⟩
      simp only [axM] at q
      cases x with
      | int i =>
        simp only [plcD] at q
        by_cases h : 0 ≤ i ∧ i < b.length
        · rw [if_pos h] at q
          have e1 : btw (.int i) 0 ((b.length : Int) - 1) = true := by simp [btw]; omega
          show if (!btw (.int i) 0 ((b.length : Int) - 1)) = true then _ else _
          rw [e1, if_neg (by decide)]
          refine fEq_s (v := false) (strl "put") (strl "drop") (by decide +kernel) ?_
          rw [if_neg (by decide)]
          refine ⟨hd y (by simp [AxDeed.enc]), ?_⟩
          simp only [Option.bind_some] at q
          cases hy : senD y
          · rw [hy] at q
            exact q
          · rw [hy] at q
            obtain ⟨n, rfl⟩ := Int.eq_ofNat_of_zero_le h.1
            have hn : n < b.length := by omega
            dsimp only
            rw [if_pos rfl]
            refine ⟨sizeLine_ge (by simp), ?_⟩
            rw [fAdd_i]
            dsimp only
            rw [show ((n : Int) + 1) = ((n + 1 : Nat) : Int) from rfl, cut_take n (by omega), cut_drop]
            refine ⟨sizeLine_ge (by have := hb.len; simp; omega), sizeLine_ge (by have := hb.len; simp; omega), sizeLine_ge (by simp), ?_⟩
            exact q
        · rw [if_neg h] at q
          have e1 : btw (.int i) 0 ((b.length : Int) - 1) = false := by simp [btw]; omega
          show if (!btw (.int i) 0 ((b.length : Int) - 1)) = true then _ else _
          rw [e1]
          exact q
      | _ => exact q
/-! ### marks made -/
def insM (ms : Mk) (w : Str) (b : D) : Mk := ((ms.filter fun p => !(p.1 == w)) ++ [(w, b)]).mergeSort fun p q => !ltS q.1 p.1
theorem ltS_tot {s t : Str} (h1 : ltS s t = false) (h2 : ltS t s = false) : s = t := by
  unfold ltS at h1 h2
  have h1 : ¬ s.cps.toList < t.cps.toList := of_decide_eq_false h1
  have h2 : ¬ t.cps.toList < s.cps.toList := of_decide_eq_false h2
  have e : s.cps.toList = t.cps.toList := List.le_antisymm (List.not_lt.mp h2) (List.not_lt.mp h1)
  obtain ⟨a⟩ := s
  obtain ⟨b⟩ := t
  congr
  exact Array.toList_inj.mp e
theorem ltS_trn {a b c : Str} (h1 : ltS b a = false) (h2 : ltS c b = false) : ltS c a = false := by
  unfold ltS at *
  have h1 : ¬ b.cps.toList < a.cps.toList := of_decide_eq_false h1
  have h2 : ¬ c.cps.toList < b.cps.toList := of_decide_eq_false h2
  exact decide_eq_false (List.not_lt.mpr (List.le_trans (List.not_lt.mp h1) (List.not_lt.mp h2)))
theorem ltS_or (a b : Str) : ltS a b = false ∨ ltS b a = false := by
  unfold ltS
  by_cases h : a.cps.toList < b.cps.toList
  · exact .inr (decide_eq_false (List.lt_asymm h))
  · exact .inl (decide_eq_false h)
theorem insM_perm (ms : Mk) (w : Str) (b : D) : (insM ms w b).Perm ((ms.filter fun p => !(p.1 == w)) ++ [(w, b)]) := List.mergeSort_perm _ _
theorem insM_so (ms : Mk) (w : Str) (b : D) : (insM ms w b).Pairwise (fun p q => ltS q.1 p.1 = false) := by
  refine (List.pairwise_mergeSort (le := fun p q : Str × D => !ltS q.1 p.1) (fun a b c h1 h2 => ?_) (fun a b => ?_) _).imp fun {p q} h => by simpa using h
  · simp only [Bool.not_eq_true'] at *
    exact ltS_trn h1 h2
  · rcases ltS_or b.1 a.1 with h | h <;> rw [h] <;> simp
theorem ins_nd {ms : Mk} {w : Str} {b : D} (h : (ms.map (·.1)).Nodup) : (((ms.filter fun p => !(p.1 == w)) ++ [(w, b)]).map (·.1)).Nodup := by
  rw [List.map_append]; rw [List.nodup_append]
  refine ⟨h.sublist (List.filter_sublist.map _), by simp, fun x hx y hy => ?_⟩
  obtain ⟨p, hp, rfl⟩ := List.mem_map.mp hx
  have := (List.mem_filter.mp hp).2
  simp only [List.mem_singleton, List.map_nil, List.map_cons] at hy
  subst hy
  simpa using this
theorem so_uniq {l l' : Mk} (p : l.Perm l') (nd : (l.map (·.1)).Nodup) (h1 : l.Pairwise (fun p q => ltS q.1 p.1 = false)) (h2 : l'.Pairwise (fun p q => ltS q.1 p.1 = false)) : l = l' :=
  List.Perm.eq_of_pairwise (fun a b ha hb e1 e2 => nodup_inj nd a ha b (p.mem_iff.mpr hb) (ltS_tot e2 e1)) h1 h2 p
/-- the rows that have another word -/
def othD (w : Str) : D → Bool
  | .tup (.str s :: _) => !(s == w)
  | _ => true
theorem oth_map (ms : Mk) (w : Str) : (ms.map wpD).filter (othD w) = (ms.filter fun p => !(p.1 == w)).map wpD := by
  rw [List.filter_map]
  rfl
theorem wp_mem {ms : Mk} {d : D} (m : d ∈ ms.map wpD) : ∃ p ∈ ms, d = .tup [.str p.1, p.2] := by
  obtain ⟨p, hp, rfl⟩ := List.mem_map.mp m
  exact ⟨p, hp, rfl⟩
abbrev st_with_mark : Stmt := top 27
theorem sc_with_mark : FnScope ["marks", "word", "book", "pair"] ["marks", "word", "book"] (defScope st_with_mark) := ⟨rfl, rfl, rfl, by decide +kernel, rfl, by decide +kernel, by decide +kernel⟩

def G_with_mark : List D → (D → Prop) → Prop
  | [.tup m, .str w, .tup b], Q => ∃ ms : Mk, m = ms.map wpD ∧ MkOk ms ∧ good (.str w) ∧ Q (.tup ((insM ms w (.tup b)).map wpD))
  | _, _ => False
theorem dn_with_mark {P0 : Addr} (T : Txt mg K) (A : LamA K mg base "with_mark" P0 st_with_mark) : Dn P w K mg base 4 "with_mark" ["marks", "word", "book"] (tab1 P0 "with_mark.<locals>.<lambda>" G_with_mark) := by
  refine Dn.ofC A sc_with_mark (fun F => F.bindsN fun _ _ _ _ _ _ us hl => match us, hl with | [_, _, _], _ => rfl) (fun f c0 A outer s H E tB hr c => (ss_one (st_ret (c_tuple T.b (v_cons (wk (e_sortKey (q := "with_mark.<locals>.<lambda>") T.b hr (v_cons (wk (e_bin op_plus od_add (wk (fzn (e_lc c (i_any (nm 0)) (blkOk_by (own := [("pair", 3)]) (N := ["marks", "word", "book", "pair"]) (sc := defScope st_with_mark) (by decide +kernel)) gd_name (by decide) (fun _ _ _ _ _ => (pg_name (i := 3) sc_with_mark.nd rfl (by first | exact Or.inl rfl | exact Or.inr rfl))) (fun _ _ _ _ _ => ts_one (t_cmp (op_neD hr.u64) ob_ne (wk (e_ix (wk (nm 3)) (wk c_int))) (wk (nm 1)))) (fun _ _ _ _ _ => (nm 3))))) (wk (fzn (e_lst (a_cons (e_tup (a_cons (nm 1) (a_cons (nm 2) a_nil))) a_nil)))))) v_nil) tB rfl ⟨⟨_, _, _, _, rfl⟩, rfl, rfl, rfl, by decide, by decide, rfl, by decide, fun _ _ _ _ _ => rfl⟩ rfl rfl)) v_nil))))) (fun ds h Q E w => ?_)
  match ds, w with
  | [.tup m, .str w, .tup b], ⟨t, ms, e, ok, gw, q⟩ =>
    refine ⟨rfl, ?_⟩
    subst e
    simp only [dLc, pure1, tab1, dAnd, dOr, dNot, dIf, dCall, dFn, dCons, dNil, dVar, dOwn, dC, dFz, dBin, dCmp, dChn, dIsiB, bCmp, bChn, bVal, bAnd, bOr, bNot, bYes, dSortK, dPget, dGet, sDput, sExp, dLm, keyD, bCmpL, lk2, fI0, fI, sSeq, sIf, sRet, sRetL, sSet, sPar, sOwn, sFor, sNext, tName, NL.tCons, NL.tNil, tTups, dTup, dLst, dSl, oNo, oIs, fIx, fSl, iA, fAdd_t, fAdd_l, fAdd_s, fAdd_i, fLstOf_t, fLstOf_l, fTupOf_t, fTupOf_l, fLen_t, fLen_l, ofO_some, at0, at1, at2, NL.run, lenN, startN, DEnds.er, List.getElem?_cons_zero, List.getElem?_cons_succ, List.set_cons_zero, List.set_cons_succ, Bool.false_eq_true, if_true, if_false, reduceIte]
    refine lc_fm (othD w) id (ms.map wpD) (fun d m A N h1 h2 => ?_) (sizeLine_ge (by have := ok.len; simp; omega)) ?_
    · obtain ⟨p, hp, rfl⟩ := wp_mem m
      simp only [wipeR, List.map_cons, List.map_nil, pure1, tab1, dAnd, dOr, dNot, dIf, dCall, dFn, dCons, dNil, dVar, dOwn, dC, dFz, dBin, dCmp, dChn, dIsiB, bCmp, bChn, bVal, bAnd, bOr, bNot, bYes, dSortK, dPget, dGet, sDput, sExp, dLm, keyD, bCmpL, lk2, fI0, fI, sSeq, sIf, sRet, sRetL, sSet, sPar, sOwn, sFor, sNext, tName, NL.tCons, NL.tNil, tTups, dTup, dLst, dSl, oNo, oIs, fIx, fSl, iA, fAdd_t, fAdd_l, fAdd_s, fAdd_i, fLstOf_t, fLstOf_l, fTupOf_t, fTupOf_l, fLen_t, fLen_l, ofO_some, at0, at1, at2, NL.run, lenN, startN, DEnds.er, List.getElem?_cons_zero, List.getElem?_cons_succ, List.set_cons_zero, List.set_cons_succ, Bool.false_eq_true, if_true, if_false, reduceIte]
      refine fNe_s (v := p.1 == w) (ok.wd p hp).1 gw rfl ?_
      cases e : p.1 == w
      · exact h1 (by simp [othD, e])
      · exact h2 (by simp [othD, e])
    · rw [oth_map]
      simp only [List.map_id, List.nil_append]
      have hl := List.length_filter_le (fun p : Str × D => !(p.1 == w)) ms
      refine ⟨sizeLine_ge (by simp), sizeLine_ge (by simp), sizeLine_ge (by have := ok.len; simp only [List.length_map, List.length_cons, List.length_nil]; omega), ?_⟩
      refine ⟨t, (ms.filter fun p => !(p.1 == w)) ++ [(w, .tup b)], by rw [List.map_append]; rfl, ins_nd ok.nd, fun ps' pm so => ?_⟩
      have e : ps' = insM ms w (.tup b) := so_uniq (pm.trans (insM_perm ms w _).symm) ((pm.map (·.1)).nodup_iff.mpr (ins_nd ok.nd)) so (insM_so ms w _)
      rw [e]
      exact q
end
end T69
set_option Elab.async false
set_option linter.all false
set_option maxRecDepth 100000
set_option maxHeartbeats 4300000
namespace T69
open PySem PySem.Spec PyProof.Rows L2 NL
inductive MkDeed where
  | mark (x : D) | unmark (x : D) | back (x : D) | join (x y : D)
def MkDeed.enc : MkDeed → List D
  | .mark x => [.str "mark", x]
  | .unmark x => [.str "unmark", x]
  | .back x => [.str "back", x]
  | .join x y => [.str "join", x, y]
abbrev St := List D × Mk
def lookB (ms : Mk) (x : D) : Option (List D) := match markD ms x with
  | .tup b => some b
  | _ => none
def wOf : D → Str
  | .str w => w
  | _ => ""
def mkM (b : List D) (ms : Mk) : MkDeed → Option St
  | .mark x => if wordD x = true then some (b, insM ms (wOf x) (.tup b)) else none
  | .unmark x => (lookB ms x).map fun _ => (b, ms.filter fun p => !(p.1 == wOf x))
  | .back x => (lookB ms x).map fun k => (k, ms)
  | .join x y => (lookB ms x).bind fun k => (lookB ms y).map fun z => (joinD k b z, ms)
def encS : St → D := fun s => .tup [.tup s.1, .tup (s.2.map wpD)]
def encT : Option St → D
  | some s => encS s
  | none => .non
theorem look_some {ms : Mk} {w : Str} {d : D} (h : lookD ms w = some d) : ∃ p ∈ ms, p.1 = w ∧ p.2 = d := by
  unfold lookD at h
  obtain ⟨p, hp, e⟩ := Option.map_eq_some_iff.mp h
  exact ⟨p, List.mem_of_find?_eq_some hp, by simpa using List.find?_some hp, e⟩
theorem markD_is {ms : Mk} (ok : MkOk ms) (x : D) : (markD ms x = .non ∧ lookB ms x = none) ∨ ∃ b w, markD ms x = .tup b ∧ lookB ms x = some b ∧ Ax 1000 b ∧ x = .str w := by
  cases x with
  | str w =>
    cases e : lookD ms w with
    | none => exact .inl ⟨by simp [markD, e], by simp [lookB, markD, e]⟩
    | some d =>
      obtain ⟨p, hp, e1, e2⟩ := look_some e
      obtain ⟨b, e3, a⟩ := ok.bk p hp
      rw [e2] at e3
      subst e3
      exact .inr ⟨b, w, by simp [markD, e], by simp [lookB, markD, e], a, rfl⟩
  | _ => exact .inl ⟨rfl, rfl⟩
section
variable {base : Heap} {mg : Str → Option Value} {K : PySem.W.Frag} {P : Program} {w : World}
abbrev st_after_mark : Stmt := top 30
theorem sc_after_mark : FnScope ["now", "deed", "known", "side", "book", "marks", "pair"] ["now", "deed"] (defScope st_after_mark) := ⟨rfl, rfl, rfl, by decide +kernel, rfl, by decide +kernel, by decide +kernel⟩

def G_after_mark : List D → (D → Prop) → Prop
  | [.tup [.tup b, .tup m], .tup ds], Q => Ax 1000 b ∧ ∃ ms : Mk, m = ms.map wpD ∧ MkOk ms ∧ ∃ d : MkDeed, ds = d.enc ∧ (∀ x ∈ ds, good x) ∧ Q (encT (mkM b ms d))
  | _, _ => False
theorem dn_after_mark {P0 : Addr} (T : Txt mg K) (A : At K mg "after_mark" st_after_mark) (h_is_word_value : Dn P w K mg base 1 "is_word_value" ["thing"] (pure1 G_is_word_value)) (h_marked : Dn P w K mg base 2 "marked" ["marks", "thing"] (pure1 G_marked))
    (h_joined : Dn P w K mg base 1 "joined" ["base", "left", "right"] (pure1 G_joined)) (h_with_mark : Dn P w K mg base 4 "with_mark" ["marks", "word", "book"] (tab1 P0 "with_mark.<locals>.<lambda>" G_with_mark)) : Dn P w K mg base 5 "after_mark" ["now", "deed"] (tab1 P0 "with_mark.<locals>.<lambda>" G_after_mark) := by
  refine Dn.of A sc_after_mark (fun F => F.bindsN fun _ _ _ _ _ _ us hl => match us, hl with | [_, _], _ => rfl) (fun f cdv A outer s H E hr c => (ss_cons (st_asg (nm 0) (pg_tup (n := 2) rfl (pgs_cons (pg_name (i := 4) sc_after_mark.nd rfl (by first | exact Or.inl rfl | exact Or.inr rfl)) (pgs_cons (pg_name (i := 5) sc_after_mark.nd rfl (by first | exact Or.inl rfl | exact Or.inr rfl)) pgs_nil))) (gd_tup (n := 2) (gds_cons gd_name (gds_cons gd_name gds_nil))))
      (ss_cons (st_if (t_cmp (op_eqD hr.u64) ob_eq (wk (e_ix (wk (nm 1)) (wk c_int))) (wk c_str))
      (ss_one (st_ret (e_if (t_val (wk (e_fn h_is_word_value c hr (a_cons (e_ix (wk (nm 1)) (wk c_int)) a_nil)))) (e_tup (a_cons (nm 4) (a_cons (e_fn h_with_mark c hr (a_cons (nm 5) (a_cons (e_ix (wk (nm 1)) (wk c_int)) (a_cons (nm 4) a_nil)))) a_nil))) c_non)))
      ss_nil)
      (ss_cons (st_set (i := 2) c rfl (by first | exact Or.inl rfl | exact Or.inr rfl) (e_fn h_marked c hr (a_cons (nm 5) (a_cons (e_ix (wk (nm 1)) (wk c_int)) a_nil))))
      (ss_cons (st_if (t_cmp o_is ob_is (wk (nm 2)) (wk c_non))
      (ss_one (st_ret c_non))
      ss_nil)
      (ss_cons (st_if (t_cmp (op_eqD hr.u64) ob_eq (wk (e_ix (wk (nm 1)) (wk c_int))) (wk c_str))
      (ss_one (st_ret (e_tup (a_cons (nm 4) (a_cons (c_tuple T.b (v_cons (wk (fzn (e_lc c (i_any (nm 5)) (blkOk_by (own := [("pair", 6)]) (N := ["now", "deed", "known", "side", "book", "marks", "pair"]) (sc := defScope st_after_mark) (by decide +kernel)) gd_name (by decide) (fun _ _ _ _ _ => (pg_name (i := 6) sc_after_mark.nd rfl (by first | exact Or.inl rfl | exact Or.inr rfl))) (fun _ _ _ _ _ => ts_one (t_cmp (op_neD hr.u64) ob_ne (wk (e_ix (wk (nm 6)) (wk c_int))) (wk (e_ix (wk (nm 1)) (wk c_int))))) (fun _ _ _ _ _ => (nm 6))))) v_nil)) a_nil)))))
      ss_nil)
      (ss_cons (st_if (t_cmp (op_eqD hr.u64) ob_eq (wk (e_ix (wk (nm 1)) (wk c_int))) (wk c_str))
      (ss_one (st_ret (e_tup (a_cons (nm 2) (a_cons (nm 5) a_nil)))))
      ss_nil)
      (ss_cons (st_set (i := 3) c rfl (by first | exact Or.inl rfl | exact Or.inr rfl) (e_fn h_marked c hr (a_cons (nm 5) (a_cons (e_ix (wk (nm 1)) (wk c_int)) a_nil))))
      (ss_one (st_ret (e_if (t_cmp o_isnt ob_isnt (wk (nm 3)) (wk c_non)) (e_tup (a_cons (e_fn h_joined c hr (a_cons (nm 2) (a_cons (nm 4) (a_cons (nm 3) a_nil)))) (a_cons (nm 5) a_nil))) c_non))))))))))) (fun ds h Q E w => ?_)
  match ds, w with
  | [.tup [.tup b, .tup m], .tup ds], ⟨t, hb, ms, e, ok, d, e2, hd, q⟩ =>
    refine ⟨rfl, ?_⟩
    subst e e2
    cases d with
    | mark x =>
      simp only [MkDeed.enc, dLc, pure1, tab1, dAnd, dOr, dNot, dIf, dCall, dFn, dCons, dNil, dVar, dOwn, dC, dFz, dBin, dCmp, dChn, dIsiB, bCmp, bChn, bVal, bAnd, bOr, bNot, bYes, dSortK, dPget, dGet, sDput, sExp, dLm, keyD, bCmpL, lk2, fI0, fI, sSeq, sIf, sRet, sRetL, sSet, sPar, sOwn, sFor, sNext, tName, NL.tCons, NL.tNil, tTups, dTup, dLst, dSl, oNo, oIs, fIx, fSl, iA, fAdd_t, fAdd_l, fAdd_s, fAdd_i, fLstOf_t, fLstOf_l, fTupOf_t, fTupOf_l, fLen_t, fLen_l, ofO_some, at0, at1, at2, NL.run, lenN, startN, DEnds.er, List.getElem?_cons_zero, List.getElem?_cons_succ, List.set_cons_zero, List.set_cons_succ, Bool.false_eq_true, if_true, if_false, reduceIte]
      refine ⟨rfl, fEq_s (v := true) (strl "mark") (strl "mark") (by decide +kernel) ?_⟩
      rw [if_pos rfl]
      refine ⟨hd x (by simp [MkDeed.enc]), ?_⟩
      simp only [mkM] at q
      cases hx : wordD x
      · rw [hx] at q
        exact q
      · rw [hx] at q
        cases x with
        | str w => exact ⟨t, ms, rfl, ok, hd _ (by simp [MkDeed.enc]), sizeLine_ge (by simp), q⟩
        | _ => cases hx
    | unmark x =>
      simp only [MkDeed.enc, dLc, pure1, tab1, dAnd, dOr, dNot, dIf, dCall, dFn, dCons, dNil, dVar, dOwn, dC, dFz, dBin, dCmp, dChn, dIsiB, bCmp, bChn, bVal, bAnd, bOr, bNot, bYes, dSortK, dPget, dGet, sDput, sExp, dLm, keyD, bCmpL, lk2, fI0, fI, sSeq, sIf, sRet, sRetL, sSet, sPar, sOwn, sFor, sNext, tName, NL.tCons, NL.tNil, tTups, dTup, dLst, dSl, oNo, oIs, fIx, fSl, iA, fAdd_t, fAdd_l, fAdd_s, fAdd_i, fLstOf_t, fLstOf_l, fTupOf_t, fTupOf_l, fLen_t, fLen_l, ofO_some, at0, at1, at2, NL.run, lenN, startN, DEnds.er, List.getElem?_cons_zero, List.getElem?_cons_succ, List.set_cons_zero, List.set_cons_succ, Bool.false_eq_true, if_true, if_false, reduceIte]
      refine ⟨rfl, fEq_s (v := false) (strl "unmark") (strl "mark") (by decide +kernel) ?_⟩
      rw [if_neg (by decide)]
      have gx := hd x (by simp [MkDeed.enc])
      refine ⟨ms, rfl, ok, gx, ?_⟩
      simp only [mkM] at q
      rcases markD_is ok x with ⟨e1, e2⟩ | ⟨k, w, e1, e2, hk, ex⟩
      · rw [e2] at q
        rw [e1]
        exact q
      · rw [e2] at q
        subst ex
        rw [e1, fIs_t, if_neg (by decide)]
        refine fEq_s (v := true) (strl "unmark") (strl "unmark") (by decide +kernel) ?_
        rw [if_pos rfl]
        refine lc_fm (othD w) id (ms.map wpD) (fun d m A N h1 h2 => ?_) (sizeLine_ge (by have := ok.len; simp; omega)) ?_
        · obtain ⟨p, hp, rfl⟩ := wp_mem m
          simp only [wipeR, List.map_cons, List.map_nil, pure1, tab1, dAnd, dOr, dNot, dIf, dCall, dFn, dCons, dNil, dVar, dOwn, dC, dFz, dBin, dCmp, dChn, dIsiB, bCmp, bChn, bVal, bAnd, bOr, bNot, bYes, dSortK, dPget, dGet, sDput, sExp, dLm, keyD, bCmpL, lk2, fI0, fI, sSeq, sIf, sRet, sRetL, sSet, sPar, sOwn, sFor, sNext, tName, NL.tCons, NL.tNil, tTups, dTup, dLst, dSl, oNo, oIs, fIx, fSl, iA, fAdd_t, fAdd_l, fAdd_s, fAdd_i, fLstOf_t, fLstOf_l, fTupOf_t, fTupOf_l, fLen_t, fLen_l, ofO_some, at0, at1, at2, NL.run, lenN, startN, DEnds.er, List.getElem?_cons_zero, List.getElem?_cons_succ, List.set_cons_zero, List.set_cons_succ, Bool.false_eq_true, if_true, if_false, reduceIte]
          refine fNe_s (v := p.1 == w) (ok.wd p hp).1 gx rfl ?_
          cases e : p.1 == w
          · exact h1 (by simp [othD, e])
          · exact h2 (by simp [othD, e])
        · rw [oth_map]
          simp only [List.map_id, List.nil_append]
          exact ⟨sizeLine_ge (by simp), q⟩
    | back x =>
      simp only [MkDeed.enc, dLc, pure1, tab1, dAnd, dOr, dNot, dIf, dCall, dFn, dCons, dNil, dVar, dOwn, dC, dFz, dBin, dCmp, dChn, dIsiB, bCmp, bChn, bVal, bAnd, bOr, bNot, bYes, dSortK, dPget, dGet, sDput, sExp, dLm, keyD, bCmpL, lk2, fI0, fI, sSeq, sIf, sRet, sRetL, sSet, sPar, sOwn, sFor, sNext, tName, NL.tCons, NL.tNil, tTups, dTup, dLst, dSl, oNo, oIs, fIx, fSl, iA, fAdd_t, fAdd_l, fAdd_s, fAdd_i, fLstOf_t, fLstOf_l, fTupOf_t, fTupOf_l, fLen_t, fLen_l, ofO_some, at0, at1, at2, NL.run, lenN, startN, DEnds.er, List.getElem?_cons_zero, List.getElem?_cons_succ, List.set_cons_zero, List.set_cons_succ, Bool.false_eq_true, if_true, if_false, reduceIte]
      refine ⟨rfl, fEq_s (v := false) (strl "back") (strl "mark") (by decide +kernel) ?_⟩
      rw [if_neg (by decide)]
      refine ⟨ms, rfl, ok, hd x (by simp [MkDeed.enc]), ?_⟩
      simp only [mkM] at q
      rcases markD_is ok x with ⟨e1, e2⟩ | ⟨k, w, e1, e2, hk, ex⟩
      · rw [e2] at q
        rw [e1]
        exact q
      · rw [e2] at q
        rw [e1, fIs_t, if_neg (by decide)]
        refine fEq_s (v := false) (strl "back") (strl "unmark") (by decide +kernel) ?_
        rw [if_neg (by decide)]
        refine fEq_s (v := true) (strl "back") (strl "back") (by decide +kernel) ?_
        rw [if_pos rfl]
        exact ⟨sizeLine_ge (by simp), q⟩
    | join x y =>
      simp only [MkDeed.enc, dLc, pure1, tab1, dAnd, dOr, dNot, dIf, dCall, dFn, dCons, dNil, dVar, dOwn, dC, dFz, dBin, dCmp, dChn, dIsiB, bCmp, bChn, bVal, bAnd, bOr, bNot, bYes, dSortK, dPget, dGet, sDput, sExp, dLm, keyD, bCmpL, lk2, fI0, fI, sSeq, sIf, sRet, sRetL, sSet, sPar, sOwn, sFor, sNext, tName, NL.tCons, NL.tNil, tTups, dTup, dLst, dSl, oNo, oIs, fIx, fSl, iA, fAdd_t, fAdd_l, fAdd_s, fAdd_i, fLstOf_t, fLstOf_l, fTupOf_t, fTupOf_l, fLen_t, fLen_l, ofO_some, at0, at1, at2, NL.run, lenN, startN, DEnds.er, List.getElem?_cons_zero, List.getElem?_cons_succ, List.set_cons_zero, List.set_cons_succ, Bool.false_eq_true, if_true, if_false, reduceIte]
      refine ⟨rfl, fEq_s (v := false) (strl "join") (strl "mark") (by decide +kernel) ?_⟩
      rw [if_neg (by decide)]
      refine ⟨ms, rfl, ok, hd x (by simp [MkDeed.enc]), ?_⟩
      simp only [mkM] at q
      rcases markD_is ok x with ⟨e1, e2⟩ | ⟨k, w, e1, e2, hk, ex⟩
      · rw [e2] at q
        rw [e1]
        exact q
      · rw [e2] at q
        rw [e1, fIs_t, if_neg (by decide)]
        refine fEq_s (v := false) (strl "join") (strl "unmark") (by decide +kernel) ?_
        rw [if_neg (by decide)]
        refine fEq_s (v := false) (strl "join") (strl "back") (by decide +kernel) ?_
        rw [if_neg (by decide)]
        refine ⟨ms, rfl, ok, hd y (by simp [MkDeed.enc]), ?_⟩
        simp only [Option.bind_some] at q
        rcases markD_is ok y with ⟨e3, e4⟩ | ⟨k2, w2, e3, e4, hk2, ex2⟩
        · rw [e4] at q
          rw [e3]
          exact q
        · rw [e4] at q
          rw [e3]
          exact ⟨hk, hb, hk2, sizeLine_ge (by simp), q⟩
abbrev st_after_deed : Stmt := top 31
theorem sc_after_deed : FnScope ["now", "thing"] ["now", "thing"] (defScope st_after_deed) := ⟨rfl, rfl, rfl, by decide +kernel, rfl, by decide +kernel, by decide +kernel⟩

def manyK : List (Str × Int) := [("add", 2), ("drop", 2), ("put", 3), ("mark", 2), ("unmark", 2), ("back", 2), ("join", 3)]
def deedOf : D → Option (AxDeed ⊕ MkDeed)
  | .tup [.str w, x] => if w == "add" then some (.inl (.add x)) else if w == "drop" then some (.inl (.drop x)) else if w == "mark" then some (.inr (.mark x)) else if w == "unmark" then some (.inr (.unmark x)) else if w == "back" then some (.inr (.back x)) else none
  | .tup [.str w, x, y] => if w == "put" then some (.inl (.put x y)) else if w == "join" then some (.inr (.join x y)) else none
  | _ => none
def aft (b : List D) (ms : Mk) (x : D) : Option St := match deedOf x with
  | some (.inl d) => (axM b d).map fun k => (k, ms)
  | some (.inr d) => mkM b ms d
  | none => none
theorem abc_good : ∀ x ∈ ([.str "add", .str "drop", .str "put"] : List D), good x := fun x m => by
  simp only [List.mem_cons, List.not_mem_nil, or_false] at m
  rcases m with rfl | rfl | rfl
  · exact strl "add"
  · exact strl "drop"
  · exact strl "put"
theorem abc_dep : ∀ x ∈ ([.str "add", .str "drop", .str "put"] : List D), dep x ≤ 0 := fun x m => by
  simp only [List.mem_cons, List.not_mem_nil, or_false] at m
  rcases m with rfl | rfl | rfl <;> simp [dep, D.py, PyData.depth]
theorem seven (w : Str) : (w = "add" ∨ w = "drop" ∨ w = "put" ∨ w = "mark" ∨ w = "unmark" ∨ w = "back" ∨ w = "join") ∨ (manyK.lookup w = none ∧ (w == "add") = false ∧ (w == "drop") = false ∧ (w == "put") = false ∧ (w == "mark") = false ∧ (w == "unmark") = false ∧ (w == "back") = false ∧ (w == "join") = false) := by
  by_cases h0 : w = "add"
  · exact .inl (by simp [h0])
  by_cases h1 : w = "drop"
  · exact .inl (by simp [h1])
  by_cases h2 : w = "put"
  · exact .inl (by simp [h2])
  by_cases h3 : w = "mark"
  · exact .inl (by simp [h3])
  by_cases h4 : w = "unmark"
  · exact .inl (by simp [h4])
  by_cases h5 : w = "back"
  · exact .inl (by simp [h5])
  by_cases h6 : w = "join"
  · exact .inl (by simp [h6])
  have e : ∀ k : Str, w ≠ k → (w == k) = false := fun k h => beq_eq_false_iff_ne.mpr h
  have e0 := e _ h0
  have e1 := e _ h1
  have e2 := e _ h2
  have e3 := e _ h3
  have e4 := e _ h4
  have e5 := e _ h5
  have e6 := e _ h6
  exact .inr ⟨by simp only [manyK, List.lookup, e0, e1, e2, e3, e4, e5, e6], e0, e1, e2, e3, e4, e5, e6⟩
theorem many_add : manyK.lookup ("add" : Str) = some 2 := by decide +kernel
theorem deed_add : ∀ ys : List D, (((D.str "add" :: ys).length : Int) == 2) = false → deedOf (.tup (.str "add" :: ys)) = none
  | [], _ => rfl
  | [x], h => by first | (simp at h; done) | rfl
  | [x, y], h => by first | (simp at h; done) | rfl
  | _ :: _ :: _ :: _, _ => rfl
theorem in_add : inD [.str "add", .str "drop", .str "put"] (.str "add") = true := by decide +kernel
theorem deedk_add (y : D) : deedOf (.tup (.str "add" :: [y])) = some (.inl (.add y)) := by
  simp only [deedOf]
  rfl
theorem many_drop : manyK.lookup ("drop" : Str) = some 2 := by decide +kernel
theorem deed_drop : ∀ ys : List D, (((D.str "drop" :: ys).length : Int) == 2) = false → deedOf (.tup (.str "drop" :: ys)) = none
  | [], _ => rfl
  | [x], h => by first | (simp at h; done) | rfl
  | [x, y], h => by first | (simp at h; done) | rfl
  | _ :: _ :: _ :: _, _ => rfl
theorem in_drop : inD [.str "add", .str "drop", .str "put"] (.str "drop") = true := by decide +kernel
theorem deedk_drop (y : D) : deedOf (.tup (.str "drop" :: [y])) = some (.inl (.drop y)) := by
  simp only [deedOf]
  rfl
theorem many_put : manyK.lookup ("put" : Str) = some 3 := by decide +kernel
theorem deed_put : ∀ ys : List D, (((D.str "put" :: ys).length : Int) == 3) = false → deedOf (.tup (.str "put" :: ys)) = none
  | [], _ => rfl
  | [x], h => by first | (simp at h; done) | rfl
  | [x, y], h => by first | (simp at h; done) | rfl
  | _ :: _ :: _ :: _, _ => rfl
theorem in_put : inD [.str "add", .str "drop", .str "put"] (.str "put") = true := by decide +kernel
theorem deedk_put (y z : D) : deedOf (.tup (.str "put" :: [y, z])) = some (.inl (.put y z)) := by
  simp only [deedOf]
  rfl
theorem many_mark : manyK.lookup ("mark" : Str) = some 2 := by decide +kernel
theorem deed_mark : ∀ ys : List D, (((D.str "mark" :: ys).length : Int) == 2) = false → deedOf (.tup (.str "mark" :: ys)) = none
  | [], _ => rfl
  | [x], h => by first | (simp at h; done) | rfl
  | [x, y], h => by first | (simp at h; done) | rfl
  | _ :: _ :: _ :: _, _ => rfl
theorem in_mark : inD [.str "add", .str "drop", .str "put"] (.str "mark") = false := by decide +kernel
theorem deedk_mark (y : D) : deedOf (.tup (.str "mark" :: [y])) = some (.inr (.mark y)) := by
  simp only [deedOf]
  rfl
theorem many_unmark : manyK.lookup ("unmark" : Str) = some 2 := by decide +kernel
theorem deed_unmark : ∀ ys : List D, (((D.str "unmark" :: ys).length : Int) == 2) = false → deedOf (.tup (.str "unmark" :: ys)) = none
  | [], _ => rfl
  | [x], h => by first | (simp at h; done) | rfl
  | [x, y], h => by first | (simp at h; done) | rfl
  | _ :: _ :: _ :: _, _ => rfl
theorem in_unmark : inD [.str "add", .str "drop", .str "put"] (.str "unmark") = false := by decide +kernel
theorem deedk_unmark (y : D) : deedOf (.tup (.str "unmark" :: [y])) = some (.inr (.unmark y)) := by
  simp only [deedOf]
  rfl
theorem many_back : manyK.lookup ("back" : Str) = some 2 := by decide +kernel
theorem deed_back : ∀ ys : List D, (((D.str "back" :: ys).length : Int) == 2) = false → deedOf (.tup (.str "back" :: ys)) = none
  | [], _ => rfl
  | [x], h => by first | (simp at h; done) | rfl
  | [x, y], h => by first | (simp at h; done) | rfl
  | _ :: _ :: _ :: _, _ => rfl
theorem in_back : inD [.str "add", .str "drop", .str "put"] (.str "back") = false := by decide +kernel
theorem deedk_back (y : D) : deedOf (.tup (.str "back" :: [y])) = some (.inr (.back y)) := by
  simp only [deedOf]
  rfl
theorem many_join : manyK.lookup ("join" : Str) = some 3 := by decide +kernel
theorem deed_join : ∀ ys : List D, (((D.str "join" :: ys).length : Int) == 3) = false → deedOf (.tup (.str "join" :: ys)) = none
  | [], _ => rfl
  | [x], h => by first | (simp at h; done) | rfl
  | [x, y], h => by first | (simp at h; done) | rfl
  | _ :: _ :: _ :: _, _ => rfl
theorem in_join : inD [.str "add", .str "drop", .str "put"] (.str "join") = false := by decide +kernel
theorem deedk_join (y z : D) : deedOf (.tup (.str "join" :: [y, z])) = some (.inr (.join y z)) := by
  simp only [deedOf]
  rfl
def G_after_deed : List D → (D → Prop) → Prop
  | [.tup [.tup b, .tup m], x], Q => Ax 1000 b ∧ ∃ ms : Mk, m = ms.map wpD ∧ MkOk ms ∧ good x ∧ Q (encT (aft b ms x))
  | _, _ => False
theorem dn_after_deed {P0 : Addr} (T : Txt mg K) (TM : MD K w mg "MANY" manyK) (A : At K mg "after_deed" st_after_deed) (h_is_row : Dn P w K mg base 1 "is_row" ["thing", "many"] (pure1 G_is_row)) (h_after_axiom : Dn P w K mg base 69 "after_axiom" ["now", "deed"] (pure1 G_after_axiom)) (h_after_mark : Dn P w K mg base 5 "after_mark" ["now", "deed"] (tab1 P0 "with_mark.<locals>.<lambda>" G_after_mark)) : Dn P w K mg base 70 "after_deed" ["now", "thing"] (tab1 P0 "with_mark.<locals>.<lambda>" G_after_deed) := by
  refine Dn.of A sc_after_deed (fun F => F.bindsN fun _ _ _ _ _ _ us hl => match us, hl with | [_, _], _ => rfl) (fun f cdv A outer s H E hr c => (ss_cons (st_if (PW.pt (w_or (t_not (t_val (wk (c_isi (T := "tuple") T.b T.b.tuple (wk (nm 1)))))) (w_or (t_cmp (op_eqD hr.u64) ob_eq (wk (nm 1)) (wk (e_tup a_nil))) (w_or1 (t_not (t_val (wk (c_isi (T := "str") T.b T.b.str (wk (e_ix (wk (nm 1)) (wk c_int)))))))))))
      (ss_one (st_ret c_non))
      ss_nil)
      (ss_cons (st_if (PW.pt (w_or (t_mdNot TM (wk (e_ix (wk (nm 1)) (wk c_int)))) (w_or1 (t_not (t_val (wk (e_fn h_is_row c hr (a_cons (nm 1) (a_cons (e_mdIx TM (wk (e_ix (wk (nm 1)) (wk c_int)))) a_nil)))))))))
      (ss_one (st_ret c_non))
      ss_nil)
      (ss_one (st_ret (e_if (t_cmp (o_in hr.u65) ob_in (wk (e_ix (wk (nm 1)) (wk c_int))) (wk (e_tup (a_cons c_str (a_cons c_str (a_cons c_str a_nil)))))) (e_fn h_after_axiom c hr (a_cons (nm 0) (a_cons (nm 1) a_nil))) (e_fn h_after_mark c hr (a_cons (nm 0) (a_cons (nm 1) a_nil))))))))) (fun ds h Q E w => ?_)
  match ds, w with
  | [.tup [.tup b, .tup m], x], ⟨t, hb, ms, e, ok, gx, q⟩ =>
    refine ⟨rfl, ?_⟩
    subst e
    simp only [dLc, bMdNot, dMdIx, pure1, tab1, dAnd, dOr, dNot, dIf, dCall, dFn, dCons, dNil, dVar, dOwn, dC, dFz, dBin, dCmp, dChn, dIsiB, bCmp, bChn, bVal, bAnd, bOr, bNot, bYes, dSortK, dPget, dGet, sDput, sExp, dLm, keyD, bCmpL, lk2, fI0, fI, sSeq, sIf, sRet, sRetL, sSet, sPar, sOwn, sFor, sNext, tName, NL.tCons, NL.tNil, tTups, dTup, dLst, dSl, oNo, oIs, fIx, fSl, iA, fAdd_t, fAdd_l, fAdd_s, fAdd_i, fLstOf_t, fLstOf_l, fTupOf_t, fTupOf_l, fLen_t, fLen_l, ofO_some, at0, at1, at2, NL.run, lenN, startN, DEnds.er, List.getElem?_cons_zero, List.getElem?_cons_succ, List.set_cons_zero, List.set_cons_succ, Bool.false_eq_true, if_true, if_false, reduceIte]
    refine isi_tuple (noO_of gx) ?_
    cases x with
    | tup xs =>
      simp only [isT, beq_self_eq_true, Bool.not_true, Bool.false_eq_true, if_false]
      refine ⟨sizeLine_ge (by simp), gx, (good_tup (xs := []) (fun x m => by cases m) 0 (fun x m => by cases m)).1, ?_⟩
      cases xs with
      | nil => exact q
      | cons y ys =>
        rw [eqD_tup, show eqDs (y :: ys) [] = false from rfl, if_neg (by decide)]
        have gy : good y := good_mem (.inl gx) List.mem_cons_self
        simp only [at0, ofO_some]
        refine isi_str (noO_of gy) ?_
        cases y with
        | str w =>
          simp only [isT, beq_self_eq_true, Bool.not_true, Bool.false_eq_true, if_false]
          simp only [ofStr]
          rcases seven w with hw | ⟨h0, h1, h2, h3, h4, h5, h6, h7⟩
          · rcases hw with rfl | rfl | rfl | rfl | rfl | rfl | rfl
            · rw [many_add]
              refine ⟨noO_of gx, ?_⟩
              cases e : (((D.str "add" :: ys).length : Int) == 2)
              · rw [show rowD (.tup (D.str "add" :: ys)) 2 = false from e]
                have q' : aft b ms (.tup (.str "add" :: ys)) = none := by unfold aft; rw [deed_add ys e]
                rw [q'] at q
                exact q
              · have hl : ys.length = 1 := by simp at e; omega
                match ys, hl with
                | [y], _ =>
                  rw [show rowD (.tup (D.str _ :: _)) _ = true from e]
                  dsimp only
                  rw [Bool.not_true, if_neg (by decide)]
                  refine ⟨sizeLine_ge (by simp), fIn_t gy (good_tup (fun x m => ?_) 0 (fun x m => ?_)).1 ?_⟩
                  · exact abc_good x m
                  · exact abc_dep x m
                  · rw [in_add, bneF]
                    unfold aft at q
                    rw [deedk_add] at q
                    rw [if_pos rfl]
                    refine ⟨hb, .add y, rfl, fun x m => good_mem (.inl gx) m, ?_⟩
                    cases e3 : axM b (.add y) with
                    | none => simp only [e3] at q; exact q
                    | some k => simp only [e3] at q; exact q
            · rw [many_drop]
              refine ⟨noO_of gx, ?_⟩
              cases e : (((D.str "drop" :: ys).length : Int) == 2)
              · rw [show rowD (.tup (D.str "drop" :: ys)) 2 = false from e]
                have q' : aft b ms (.tup (.str "drop" :: ys)) = none := by unfold aft; rw [deed_drop ys e]
                rw [q'] at q
                exact q
              · have hl : ys.length = 1 := by simp at e; omega
                match ys, hl with
                | [y], _ =>
                  rw [show rowD (.tup (D.str _ :: _)) _ = true from e]
                  dsimp only
                  rw [Bool.not_true, if_neg (by decide)]
                  refine ⟨sizeLine_ge (by simp), fIn_t gy (good_tup (fun x m => ?_) 0 (fun x m => ?_)).1 ?_⟩
                  · exact abc_good x m
                  · exact abc_dep x m
                  · rw [in_drop, bneF]
                    unfold aft at q
                    rw [deedk_drop] at q
                    rw [if_pos rfl]
                    refine ⟨hb, .drop y, rfl, fun x m => good_mem (.inl gx) m, ?_⟩
                    cases e3 : axM b (.drop y) with
                    | none => simp only [e3] at q; exact q
                    | some k => simp only [e3] at q; exact q
            · rw [many_put]
              refine ⟨noO_of gx, ?_⟩
              cases e : (((D.str "put" :: ys).length : Int) == 3)
              · rw [show rowD (.tup (D.str "put" :: ys)) 3 = false from e]
                have q' : aft b ms (.tup (.str "put" :: ys)) = none := by unfold aft; rw [deed_put ys e]
                rw [q'] at q
                exact q
              · have hl : ys.length = 2 := by simp at e; omega
                match ys, hl with
                | [y, z], _ =>
                  rw [show rowD (.tup (D.str _ :: _)) _ = true from e]
                  dsimp only
                  rw [Bool.not_true, if_neg (by decide)]
                  refine ⟨sizeLine_ge (by simp), fIn_t gy (good_tup (fun x m => ?_) 0 (fun x m => ?_)).1 ?_⟩
                  · exact abc_good x m
                  · exact abc_dep x m
                  · rw [in_put, bneF]
                    unfold aft at q
                    rw [deedk_put] at q
                    rw [if_pos rfl]
                    refine ⟨hb, .put y z, rfl, fun x m => good_mem (.inl gx) m, ?_⟩
                    cases e3 : axM b (.put y z) with
                    | none => simp only [e3] at q; exact q
                    | some k => simp only [e3] at q; exact q
            · rw [many_mark]
              refine ⟨noO_of gx, ?_⟩
              cases e : (((D.str "mark" :: ys).length : Int) == 2)
              · rw [show rowD (.tup (D.str "mark" :: ys)) 2 = false from e]
                have q' : aft b ms (.tup (.str "mark" :: ys)) = none := by unfold aft; rw [deed_mark ys e]
                rw [q'] at q
                exact q
              · have hl : ys.length = 1 := by simp at e; omega
                match ys, hl with
                | [y], _ =>
                  rw [show rowD (.tup (D.str _ :: _)) _ = true from e]
                  dsimp only
                  rw [Bool.not_true, if_neg (by decide)]
                  refine ⟨sizeLine_ge (by simp), fIn_t gy (good_tup (fun x m => ?_) 0 (fun x m => ?_)).1 ?_⟩
                  · exact abc_good x m
                  · exact abc_dep x m
                  · rw [in_mark, bneF]
                    unfold aft at q
                    rw [deedk_mark] at q
                    rw [if_neg (by decide)]
                    exact ⟨t, hb, ms, rfl, ok, .mark y, rfl, fun x m => good_mem (.inl gx) m, q⟩
            · rw [many_unmark]
              refine ⟨noO_of gx, ?_⟩
              cases e : (((D.str "unmark" :: ys).length : Int) == 2)
              · rw [show rowD (.tup (D.str "unmark" :: ys)) 2 = false from e]
                have q' : aft b ms (.tup (.str "unmark" :: ys)) = none := by unfold aft; rw [deed_unmark ys e]
                rw [q'] at q
                exact q
              · have hl : ys.length = 1 := by simp at e; omega
                match ys, hl with
                | [y], _ =>
                  rw [show rowD (.tup (D.str _ :: _)) _ = true from e]
                  dsimp only
                  rw [Bool.not_true, if_neg (by decide)]
                  refine ⟨sizeLine_ge (by simp), fIn_t gy (good_tup (fun x m => ?_) 0 (fun x m => ?_)).1 ?_⟩
                  · exact abc_good x m
                  · exact abc_dep x m
                  · rw [in_unmark, bneF]
                    unfold aft at q
                    rw [deedk_unmark] at q
                    rw [if_neg (by decide)]
                    exact ⟨t, hb, ms, rfl, ok, .unmark y, rfl, fun x m => good_mem (.inl gx) m, q⟩
            · rw [many_back]
              refine ⟨noO_of gx, ?_⟩
              cases e : (((D.str "back" :: ys).length : Int) == 2)
              · rw [show rowD (.tup (D.str "back" :: ys)) 2 = false from e]
                have q' : aft b ms (.tup (.str "back" :: ys)) = none := by unfold aft; rw [deed_back ys e]
                rw [q'] at q
                exact q
              · have hl : ys.length = 1 := by simp at e; omega
                match ys, hl with
                | [y], _ =>
                  rw [show rowD (.tup (D.str _ :: _)) _ = true from e]
                  dsimp only
                  rw [Bool.not_true, if_neg (by decide)]
                  refine ⟨sizeLine_ge (by simp), fIn_t gy (good_tup (fun x m => ?_) 0 (fun x m => ?_)).1 ?_⟩
                  · exact abc_good x m
                  · exact abc_dep x m
                  · rw [in_back, bneF]
                    unfold aft at q
                    rw [deedk_back] at q
                    rw [if_neg (by decide)]
                    exact ⟨t, hb, ms, rfl, ok, .back y, rfl, fun x m => good_mem (.inl gx) m, q⟩
            · rw [many_join]
              refine ⟨noO_of gx, ?_⟩
              cases e : (((D.str "join" :: ys).length : Int) == 3)
              · rw [show rowD (.tup (D.str "join" :: ys)) 3 = false from e]
                have q' : aft b ms (.tup (.str "join" :: ys)) = none := by unfold aft; rw [deed_join ys e]
                rw [q'] at q
                exact q
              · have hl : ys.length = 2 := by simp at e; omega
                match ys, hl with
                | [y, z], _ =>
                  rw [show rowD (.tup (D.str _ :: _)) _ = true from e]
                  dsimp only
                  rw [Bool.not_true, if_neg (by decide)]
                  refine ⟨sizeLine_ge (by simp), fIn_t gy (good_tup (fun x m => ?_) 0 (fun x m => ?_)).1 ?_⟩
                  · exact abc_good x m
                  · exact abc_dep x m
                  · rw [in_join, bneF]
                    unfold aft at q
                    rw [deedk_join] at q
                    rw [if_neg (by decide)]
                    exact ⟨t, hb, ms, rfl, ok, .join y z, rfl, fun x m => good_mem (.inl gx) m, q⟩
          · rw [h0]
            have q' : aft b ms (.tup (.str w :: ys)) = none := by
              unfold aft
              match ys with
              | [] => rfl
              | [y] => simp only [deedOf, h1, h2, h4, h5, h6, Bool.false_eq_true, if_false]
              | [y, z] => simp only [deedOf, h3, h7, Bool.false_eq_true, if_false]
              | _ :: _ :: _ :: _ => rfl
            rw [q'] at q
            exact q
        | non => exact q
        | bl _ => exact q
        | int _ => exact q
        | tup _ => exact q
        | lst _ => exact q
        | obj _ => exact q
        | dic _ _ => exact q
        | scr _ => exact q
    | _ => exact q
end
end T69
set_option Elab.async false
set_option linter.all false
set_option maxRecDepth 100000
set_option maxHeartbeats 4300000
namespace T69
open PySem PySem.Spec PyProof.Rows L2 NL
section
variable {base : Heap} {mg : Str → Option Value} {K : PySem.W.Frag} {P : Program} {w : World}
abbrev st__law_dropped : Stmt := top 41
theorem sc__law_dropped : FnScope ["some", "at"] ["some", "at"] (defScope st__law_dropped) := ⟨rfl, rfl, rfl, by decide +kernel, rfl, by decide +kernel, by decide +kernel⟩

def G__law_dropped : List D → (D → Prop) → Prop
  | [.tup b, .int i], Q => Ax 1000 b ∧ ∃ n : Nat, i = n ∧ n < b.length ∧ Q (.tup (b.take n ++ b.drop (n + 1)))
  | _, _ => False
theorem dn__law_dropped (A : At K mg "_law_dropped" st__law_dropped) : Dn P w K mg base 1 "_law_dropped" ["some", "at"] (pure1 G__law_dropped) := by
  refine Dn.of A sc__law_dropped (fun F => F.bindsN fun _ _ _ _ _ _ us hl => match us, hl with | [_, _], _ => rfl) (fun f cdv A outer s H E hr c => (ss_one (st_ret (e_bin op_plus od_add (wk (e_sl (wk (nm 0)) p_no (p_is (wk (nm 1))))) (wk (e_sl (wk (nm 0)) (p_is (wk (e_bin op_plus od_add (wk (nm 1)) (wk c_int)))) p_no)))))) (fun ds h Q E w => ?_)
  match ds, w with
  | [.tup b, .int i], ⟨hb, n, e, hn, q⟩ =>
    refine ⟨rfl, ?_⟩
    subst e
    simp only [pure1, tab1, dAnd, dOr, dNot, dIf, dCall, dFn, dCons, dNil, dVar, dOwn, dC, dFz, dBin, dCmp, dChn, dIsiB, bCmp, bChn, bVal, bAnd, bOr, bNot, bYes, dSortK, dPget, dGet, sDput, sExp, dLm, keyD, bCmpL, lk2, fI0, fI, sSeq, sIf, sRet, sRetL, sSet, sPar, sOwn, sFor, sNext, tName, NL.tCons, NL.tNil, tTups, dTup, dLst, dSl, oNo, oIs, fIx, fSl, iA, fAdd_t, fAdd_l, fAdd_s, fAdd_i, fLstOf_t, fLstOf_l, fTupOf_t, fTupOf_l, fLen_t, fLen_l, ofO_some, at0, at1, at2, NL.run, lenN, startN, DEnds.er, List.getElem?_cons_zero, List.getElem?_cons_succ, List.set_cons_zero, List.set_cons_succ, Bool.false_eq_true, if_true, if_false, reduceIte]
    rw [show ((n : Int) + 1) = ((n + 1 : Nat) : Int) from rfl, cut_take n (by omega), cut_drop]
    exact ⟨sizeLine_ge (by have := hb.len; simp; omega), q⟩
abbrev st__law_is_place : Stmt := top 42
theorem sc__law_is_place : FnScope ["thing", "many"] ["thing", "many"] (defScope st__law_is_place) := ⟨rfl, rfl, rfl, by decide +kernel, rfl, by decide +kernel, by decide +kernel⟩

theorem plcD_int (i : Int) (n : Nat) : plcD (.int i) n = if 0 ≤ i ∧ i < n then some i.toNat else none := rfl
def G__law_is_place : List D → (D → Prop) → Prop
  | [d, .int n], Q => noO d = true ∧ 0 ≤ n ∧ Q (.bl (plcD d n.toNat).isSome)
  | _, _ => False
theorem dn__law_is_place (T : Txt mg K) (A : At K mg "_law_is_place" st__law_is_place) : Dn P w K mg base 1 "_law_is_place" ["thing", "many"] (pure1 G__law_is_place) := by
  refine Dn.of A sc__law_is_place (fun F => F.bindsN fun _ _ _ _ _ _ us hl => match us, hl with | [_, _], _ => rfl) (fun f cdv A outer s H E hr c => (ss_one (st_ret (e_and (wk (c_isi (T := "int") T.b T.b.int (wk (nm 0)))) (e_and (wk (e_not (wk (c_isi (T := "bool") T.b T.b.bool (wk (nm 0)))))) (e_one (e_chn o_le o_lt ob_ord ob_ord (wk c_int) (wk (nm 0)) (wk (nm 1))))))))) (fun ds h Q E w => ?_)
  match ds, w with
  | [d, .int n], ⟨hd, hn, q⟩ =>
    refine ⟨rfl, ?_⟩
    simp only [pure1, tab1, dAnd, dOr, dNot, dIf, dCall, dFn, dCons, dNil, dVar, dOwn, dC, dFz, dBin, dCmp, dChn, dIsiB, bCmp, bChn, bVal, bAnd, bOr, bNot, bYes, dSortK, dPget, dGet, sDput, sExp, dLm, keyD, bCmpL, lk2, fI0, fI, sSeq, sIf, sRet, sRetL, sSet, sPar, sOwn, sFor, sNext, tName, NL.tCons, NL.tNil, tTups, dTup, dLst, dSl, oNo, oIs, fIx, fSl, iA, fAdd_t, fAdd_l, fAdd_s, fAdd_i, fLstOf_t, fLstOf_l, fTupOf_t, fTupOf_l, fLen_t, fLen_l, ofO_some, at0, at1, at2, NL.run, lenN, startN, DEnds.er, List.getElem?_cons_zero, List.getElem?_cons_succ, List.set_cons_zero, List.set_cons_succ, Bool.false_eq_true, if_true, if_false, reduceIte]
    refine isi_int hd ?_
    cases d with
    | int i =>
      simp only [isT, beq_self_eq_true, if_true]
      refine isi_bool rfl ?_
      simp only [isT, Bool.not_false, if_true]
      show if decide (0 ≤ i) = true then Q (.bl (decide (i < n))) h else Q (.bl false) h
      by_cases h : 0 ≤ i
      · rw [decide_eq_true h, if_pos rfl]
        by_cases h2 : i < n
        · rw [show (plcD (.int i) n.toNat).isSome = true from by rw [plcD_int, if_pos (by omega)]; rfl] at q
          rw [decide_eq_true h2]
          exact q
        · rw [show (plcD (.int i) n.toNat).isSome = false from by rw [plcD_int, if_neg (by omega)]; rfl] at q
          rw [decide_eq_false h2]
          exact q
      · rw [show (plcD (.int i) n.toNat).isSome = false from by rw [plcD_int, if_neg (by omega)]; rfl] at q
        rw [decide_eq_false h]
        exact q
    | bl k =>
      simp only [isT]
      first
        | exact q
        | (rw [if_pos rfl]; exact isi_bool rfl q)
    | _ => exact q
theorem nil_eq (xs : List D) : eqDs xs [] = xs.isEmpty := by cases xs <;> rfl
theorem filter_sign (s : Str) : ((NL.signs s).filter fun d => match d with | .str z => !((sgn z).any isLet) | _ => true).isEmpty = s.cps.toList.all isLet := by
  unfold NL.signs
  rw [List.filter_map]
  induction s.cps.toList with
  | nil => rfl
  | cons c cs ih =>
    rw [List.all_cons, ← ih]
    have e : (sgn ⟨#[c]⟩).any isLet = isLet c := rfl
    cases h : isLet c
    · rw [List.filter_cons_of_pos (by simp [Function.comp, e, h])]
      rfl
    · rw [List.filter_cons_of_neg (by simp [Function.comp, e, h])]
      rfl
abbrev st__law_is_word : Stmt := top 43
theorem sc__law_is_word : FnScope ["thing", "sign"] ["thing"] (defScope st__law_is_word) := ⟨rfl, rfl, rfl, by decide +kernel, rfl, by decide +kernel, by decide +kernel⟩

theorem dn__law_is_word (T : Txt mg K) (A : At K mg "_law_is_word" st__law_is_word) : Dn P w K mg base 1 "_law_is_word" ["thing"] (pure1 G_is_word_value) := by
  refine Dn.of A sc__law_is_word (fun F => F.bindsN fun _ _ _ _ _ _ us hl => match us, hl with | [_], _ => rfl) (fun f cdv A outer s H E hr c => (ss_cons (st_if (PW.pt (w_or (t_not (t_val (wk (c_isi (T := "str") T.b T.b.str (wk (nm 0)))))) (w_or (t_not (t_chn o_le o_le ob_ord ob_ord (wk c_int) (wk (c_len T.b (v_cons (wk (nm 0)) v_nil))) (wk c_int))) (w_or1 (t_cmp (o_in hr.u65) ob_in (wk (nm 0)) (wk (e_tup (a_cons c_str (a_cons c_str (a_cons c_str (a_cons c_str (a_cons c_str (a_cons c_str a_nil)))))))))))))
      (ss_one (st_ret c_bl))
      ss_nil)
      (ss_one (st_ret (e_cmp (op_eqD hr.u64) ob_eq (wk (fzn (e_lc c (i_any (nm 0)) (blkOk_by (own := [("sign", 1)]) (N := ["thing", "sign"]) (sc := defScope st__law_is_word) (by decide +kernel)) gd_name (by decide) (fun _ _ _ _ _ => (pg_name (i := 1) sc__law_is_word.nd rfl (by first | exact Or.inl rfl | exact Or.inr rfl))) (fun _ _ _ _ _ => ts_one (t_not (t_chn o_le o_le ob_ord ob_ord (wk c_str) (wk (nm 1)) (wk c_str)))) (fun _ _ _ _ _ => (nm 1))))) (wk (fzn (e_lst a_nil)))))))) (fun ds h Q E w => ?_)
  match ds, w with
  | [d], ⟨hd, q⟩ =>
    refine ⟨rfl, ?_⟩
    simp only [dLc, pure1, tab1, dAnd, dOr, dNot, dIf, dCall, dFn, dCons, dNil, dVar, dOwn, dC, dFz, dBin, dCmp, dChn, dIsiB, bCmp, bChn, bVal, bAnd, bOr, bNot, bYes, dSortK, dPget, dGet, sDput, sExp, dLm, keyD, bCmpL, lk2, fI0, fI, sSeq, sIf, sRet, sRetL, sSet, sPar, sOwn, sFor, sNext, tName, NL.tCons, NL.tNil, tTups, dTup, dLst, dSl, oNo, oIs, fIx, fSl, iA, fAdd_t, fAdd_l, fAdd_s, fAdd_i, fLstOf_t, fLstOf_l, fTupOf_t, fTupOf_l, fLen_t, fLen_l, ofO_some, at0, at1, at2, NL.run, lenN, startN, DEnds.er, List.getElem?_cons_zero, List.getElem?_cons_succ, List.set_cons_zero, List.set_cons_succ, Bool.false_eq_true, if_true, if_false, reduceIte]
    refine isi_str (noO_of hd) ?_
    cases d with
    | str s =>
      simp only [isT, beq_self_eq_true, Bool.not_true, Bool.false_eq_true, if_false]
      have hs := str_of_good hd
      refine ⟨len_of_good hd, ?_⟩
      rw [show wordD (.str s) = wordS s from rfl, wordS_eq] at q
      have o1 : ∀ (i j : Int) (Q : Bool → Prop), fOrd (fun i j => decide (i ≤ j)) (fun s t => !ltS t s) (.int i) (.int j) Q = Q (decide (i ≤ j)) := fun _ _ _ => rfl
      rw [o1]
      by_cases h1 : (1 : Int) ≤ s.length
      · have h1' : 1 ≤ s.length := by omega
        rw [decide_eq_true h1, if_pos rfl, o1]
        rw [decide_eq_true h1', Bool.true_and] at q
        by_cases h2 : (s.length : Int) ≤ 10
        · have h2' : s.length ≤ 10 := by omega
          rw [decide_eq_true h2, Bool.not_true, if_neg (by decide)]
          rw [decide_eq_true h2', Bool.true_and] at q
          refine ⟨sizeLine_ge (by simp), ?_⟩
          refine fIn_t hd good_res ?_
          rw [bneF]
          have er : inD [D.str "all", D.str "none", D.str "some", D.str "and", D.str "each", D.str "is"] (.str s) = resD.contains s := res_any s
          rw [er]
          cases h3 : resD.contains s
          · rw [h3, Bool.not_false, Bool.true_and] at q
            rw [if_neg (by decide)]
            refine lc_fm (fun d => match d with | .str z => !((sgn z).any isLet) | _ => true) id (NL.signs s) (fun d m A N a n => ?_) (by rw [signs_len]; simpa using len_of_good hd) ?_
            · obtain ⟨c, rfl, hc, hg⟩ := sign_good hs m
              simp only [wipeR, List.map_cons, List.map_nil, pure1, tab1, dAnd, dOr, dNot, dIf, dCall, dFn, dCons, dNil, dVar, dOwn, dC, dFz, dBin, dCmp, dChn, dIsiB, bCmp, bChn, bVal, bAnd, bOr, bNot, bYes, dSortK, dPget, dGet, sDput, sExp, dLm, keyD, bCmpL, lk2, fI0, fI, sSeq, sIf, sRet, sRetL, sSet, sPar, sOwn, sFor, sNext, tName, NL.tCons, NL.tNil, tTups, dTup, dLst, dSl, oNo, oIs, fIx, fSl, iA, fAdd_t, fAdd_l, fAdd_s, fAdd_i, fLstOf_t, fLstOf_l, fTupOf_t, fTupOf_l, fLen_t, fLen_l, ofO_some, at0, at1, at2, NL.run, lenN, startN, DEnds.er, List.getElem?_cons_zero, List.getElem?_cons_succ, List.set_cons_zero, List.set_cons_succ, Bool.false_eq_true, if_true, if_false, reduceIte]
              have o2 : ∀ (i j : Str) (Q : Bool → Prop), fOrd (fun i j => decide (i ≤ j)) (fun s t => !ltS t s) (.str i) (.str j) Q = Q (!ltS j i) := fun _ _ _ => rfl
              rw [o2, ltS_le_a]
              have e : (sgn ⟨#[c]⟩).any isLet = (decide (97 ≤ c) && decide (c ≤ 122)) := rfl
              by_cases c1 : 97 ≤ c
              · rw [decide_eq_true c1, if_pos rfl, o2, ltS_le_z]
                rw [decide_eq_true c1, Bool.true_and] at e
                by_cases c2 : c ≤ 122
                · rw [decide_eq_true c2] at e ⊢
                  exact n (by show (!(sgn ⟨#[c]⟩).any isLet) = false; rw [e]; rfl)
                · rw [decide_eq_false c2] at e ⊢
                  exact a (by show (!(sgn ⟨#[c]⟩).any isLet) = true; rw [e]; rfl)
              · rw [decide_eq_false c1, if_neg (by decide)]
                rw [decide_eq_false c1, Bool.false_and] at e
                exact a (by show (!(sgn ⟨#[c]⟩).any isLet) = true; rw [e]; rfl)
            · simp only [List.map_id, List.nil_append]
              have gs : ∀ x ∈ NL.signs s, good x := fun x m => by
                obtain ⟨c, rfl, hc, hg⟩ := sign_good hs m
                exact hg
              refine ⟨sizeLine_ge (by simp), (good_tup (fun x m => gs x (List.mem_filter.mp m).1) 0 (fun x m => ?_)).2, (good_tup (xs := []) (fun x m => by cases m) 0 (fun x m => by cases m)).2, ?_⟩
              · obtain ⟨c, rfl, _, _⟩ := sign_good hs (List.mem_filter.mp m).1
                simp [dep, D.py, PyData.depth]
              · rw [eqD_lst, nil_eq, filter_sign]
                exact q
          · rw [h3] at q
            exact q
        · have h2' : ¬ s.length ≤ 10 := by omega
          rw [decide_eq_false h2, Bool.not_false, if_pos rfl]
          rw [decide_eq_false h2', Bool.false_and] at q
          exact q
      · have h1' : ¬ 1 ≤ s.length := by omega
        rw [decide_eq_false h1, if_neg (by decide)]
        rw [decide_eq_false h1', Bool.false_and, Bool.false_and] at q
        exact q
    | _ => exact q
theorem con_inv {d : D} (h : conD d = true) : d = .tup [.str "all"] ∨ d = .tup [.str "none"] ∨ (∃ x, d = .tup [.str "word", x] ∧ wordD x = true) ∨ (∃ x y, d = .tup [.str "and", x, y] ∧ conD x = true ∧ conD y = true) ∨ ∃ x y, d = .tup [.str "some", x, y] ∧ wordD x = true ∧ conD y = true := by
  cases h1 : kindD d "all" 1
  · cases h2 : kindD d "none" 1
    · cases h3 : kindD d "word" 2
      · cases h4 : kindD d "and" 3
        · cases h5 : kindD d "some" 3
          · rw [conD_no h1 h2 h3 h4 h5] at h
            cases h
          · obtain ⟨xs, rfl, hl⟩ := kind_true h5
            obtain ⟨x, y, rfl⟩ := len2 hl
            rw [conD_some, Bool.and_eq_true] at h
            exact .inr (.inr (.inr (.inr ⟨x, y, rfl, h⟩)))
        · obtain ⟨xs, rfl, hl⟩ := kind_true h4
          obtain ⟨x, y, rfl⟩ := len2 hl
          rw [conD_and, Bool.and_eq_true] at h
          exact .inr (.inr (.inr (.inl ⟨x, y, rfl, h⟩)))
      · obtain ⟨xs, rfl, hl⟩ := kind_true h3
        obtain ⟨x, rfl⟩ := len1 hl
        rw [conD_word] at h
        exact .inr (.inr (.inl ⟨x, rfl, h⟩))
    · obtain ⟨xs, rfl, hl⟩ := kind_true h2
      cases len0 hl
      exact .inr (.inl rfl)
  · obtain ⟨xs, rfl, hl⟩ := kind_true h1
    cases len0 hl
    exact .inl rfl
abbrev st__law_is_concept : Stmt := top 44
theorem sc__law_is_concept : FnScope ["thing"] ["thing"] (defScope st__law_is_concept) := ⟨rfl, rfl, rfl, by decide +kernel, rfl, by decide +kernel, by decide +kernel⟩

def G_lcon (n : Nat) : List D → (D → Prop) → Prop
  | [d], Q => (good d ∧ dep d < n) ∧ conD d = true ∧ Q (.bl true)
  | _, _ => False
theorem gt_an : good (.tup [.str "all", .str "none"]) := (good_tup (fun x m => by
  simp only [List.mem_cons, List.not_mem_nil, or_false] at m
  rcases m with rfl | rfl
  · exact strl "all"
  · exact strl "none") 0 (fun x m => by
  simp only [List.mem_cons, List.not_mem_nil, or_false] at m
  rcases m with rfl | rfl <;> simp [dep, D.py, PyData.depth])).1
theorem gt_as : good (.tup [.str "and", .str "some"]) := (good_tup (fun x m => by
  simp only [List.mem_cons, List.not_mem_nil, or_false] at m
  rcases m with rfl | rfl
  · exact strl "and"
  · exact strl "some") 0 (fun x m => by
  simp only [List.mem_cons, List.not_mem_nil, or_false] at m
  rcases m with rfl | rfl <;> simp [dep, D.py, PyData.depth])).1
theorem dn_lcon (T : Txt mg K) (A : At K mg "_law_is_concept" st__law_is_concept) (h__law_is_word : Dn P w K mg base 1 "_law_is_word" ["thing"] (pure1 G_is_word_value)) :
    ∀ n, Dn P w K mg base (n + 1) "_law_is_concept" ["thing"] (pure1 (G_lcon n)) := by
  intro n
  induction n with
  | zero => exact Dn.no A (fun F => F.bindsN fun _ _ _ _ _ _ us hl => match us, hl with | [_], _ => rfl) fun ds h Q E w => match ds, w with | [d], w => by have := w.1.2; omega
  | succ n h__law_is_concept =>
  refine Dn.of A sc__law_is_concept (fun F => F.bindsN fun _ _ _ _ _ _ us hl => match us, hl with | [_], _ => rfl) (fun f cdv A outer s H E hr c => (ss_cons (st_if (PW.pt (w_or (t_not (t_val (wk (c_isi (T := "tuple") T.b T.b.tuple (wk (nm 0)))))) (w_or (t_cmp (op_eqD hr.u64) ob_eq (wk (c_len T.b (v_cons (wk (nm 0)) v_nil))) (wk c_int)) (w_or1 (t_not (t_val (wk (c_isi (T := "str") T.b T.b.str (wk (e_ix (wk (nm 0)) (wk c_int)))))))))))
      (ss_one (st_ret c_bl))
      ss_nil)
      (ss_cons (st_if (t_cmp (o_in hr.u65) ob_in (wk (e_ix (wk (nm 0)) (wk c_int))) (wk (e_tup (a_cons c_str (a_cons c_str a_nil)))))
      (ss_one (st_ret (e_cmp (op_eqD hr.u64) ob_eq (wk (c_len T.b (v_cons (wk (nm 0)) v_nil))) (wk c_int))))
      ss_nil)
      (ss_cons (st_if (t_cmp (op_eqD hr.u64) ob_eq (wk (e_ix (wk (nm 0)) (wk c_int))) (wk c_str))
      (ss_one (st_ret (e_and (wk (e_cmp (op_eqD hr.u64) ob_eq (wk (c_len T.b (v_cons (wk (nm 0)) v_nil))) (wk c_int))) (e_one (e_fn h__law_is_word c hr (a_cons (e_ix (wk (nm 0)) (wk c_int)) a_nil))))))
      ss_nil)
      (ss_cons (st_if (PW.pt (w_or (t_cmp (op_neD hr.u64) ob_ne (wk (c_len T.b (v_cons (wk (nm 0)) v_nil))) (wk c_int)) (w_or (t_cmp (o_off hr.u65) ob_off (wk (e_ix (wk (nm 0)) (wk c_int))) (wk (e_tup (a_cons c_str (a_cons c_str a_nil))))) (w_or1 (t_not (t_val (wk (e_fn h__law_is_concept c hr (a_cons (e_ix (wk (nm 0)) (wk c_int)) a_nil)))))))))
      (ss_one (st_ret c_bl))
      ss_nil)
      (ss_one (st_ret (e_if (t_cmp (op_eqD hr.u64) ob_eq (wk (e_ix (wk (nm 0)) (wk c_int))) (wk c_str)) (e_fn h__law_is_concept c hr (a_cons (e_ix (wk (nm 0)) (wk c_int)) a_nil)) (e_fn h__law_is_word c hr (a_cons (e_ix (wk (nm 0)) (wk c_int)) a_nil)))))))))) (fun ds h Q E w => ?_)
  match ds, w with
  | [d], ⟨⟨hd, hn⟩, hc, q⟩ =>
    refine ⟨rfl, ?_⟩
    simp only [pure1, tab1, dAnd, dOr, dNot, dIf, dCall, dFn, dCons, dNil, dVar, dOwn, dC, dFz, dBin, dCmp, dChn, dIsiB, bCmp, bChn, bVal, bAnd, bOr, bNot, bYes, dSortK, dPget, dGet, sDput, sExp, dLm, keyD, bCmpL, lk2, fI0, fI, sSeq, sIf, sRet, sRetL, sSet, sPar, sOwn, sFor, sNext, tName, NL.tCons, NL.tNil, tTups, dTup, dLst, dSl, oNo, oIs, fIx, fSl, iA, fAdd_t, fAdd_l, fAdd_s, fAdd_i, fLstOf_t, fLstOf_l, fTupOf_t, fTupOf_l, fLen_t, fLen_l, ofO_some, at0, at1, at2, NL.run, lenN, startN, DEnds.er, List.getElem?_cons_zero, List.getElem?_cons_succ, List.set_cons_zero, List.set_cons_succ, Bool.false_eq_true, if_true, if_false, reduceIte]
    refine isi_tuple (noO_of hd) ?_
    have i0 : ∀ (i j : Int) (h : (i == j) = false) (Q : Bool → Prop), Q false → fEq (.int i) (.int j) Q := fun i j h Q q => ⟨good_int _, good_int _, by rw [eqD_int, h]; exact q⟩
    have i1 : ∀ (i j : Int) (h : (i == j) = true) (Q : Bool → Prop), Q true → fEq (.int i) (.int j) Q := fun i j h Q q => ⟨good_int _, good_int _, by rw [eqD_int, h]; exact q⟩
    have n1 : ∀ (i j : Int) (h : (i == j) = true) (Q : Bool → Prop), Q false → fNe (.int i) (.int j) Q := fun i j h Q q => ⟨good_int _, good_int _, by rw [eqD_int, h]; exact q⟩
    rcases con_inv hc with rfl | rfl | ⟨x, rfl, hx⟩ | ⟨x, y, rfl, hx, hy⟩ | ⟨x, y, rfl, hx, hy⟩
    · simp only [isT, beq_self_eq_true, Bool.not_true, if_false, pure1, tab1, dAnd, dOr, dNot, dIf, dCall, dFn, dCons, dNil, dVar, dOwn, dC, dFz, dBin, dCmp, dChn, dIsiB, bCmp, bChn, bVal, bAnd, bOr, bNot, bYes, dSortK, dPget, dGet, sDput, sExp, dLm, keyD, bCmpL, lk2, fI0, fI, sSeq, sIf, sRet, sRetL, sSet, sPar, sOwn, sFor, sNext, tName, NL.tCons, NL.tNil, tTups, dTup, dLst, dSl, oNo, oIs, fIx, fSl, iA, fAdd_t, fAdd_l, fAdd_s, fAdd_i, fLstOf_t, fLstOf_l, fTupOf_t, fTupOf_l, fLen_t, fLen_l, ofO_some, at0, at1, at2, NL.run, lenN, startN, DEnds.er, List.getElem?_cons_zero, List.getElem?_cons_succ, List.set_cons_zero, List.set_cons_succ, Bool.false_eq_true, if_true, if_false, reduceIte]
      refine i0 _ _ rfl _ ?_
      rw [if_neg (by decide)]
      refine isi_str rfl ?_
      simp only [isT, beq_self_eq_true, Bool.not_true, if_false, pure1, tab1, dAnd, dOr, dNot, dIf, dCall, dFn, dCons, dNil, dVar, dOwn, dC, dFz, dBin, dCmp, dChn, dIsiB, bCmp, bChn, bVal, bAnd, bOr, bNot, bYes, dSortK, dPget, dGet, sDput, sExp, dLm, keyD, bCmpL, lk2, fI0, fI, sSeq, sIf, sRet, sRetL, sSet, sPar, sOwn, sFor, sNext, tName, NL.tCons, NL.tNil, tTups, dTup, dLst, dSl, oNo, oIs, fIx, fSl, iA, fAdd_t, fAdd_l, fAdd_s, fAdd_i, fLstOf_t, fLstOf_l, fTupOf_t, fTupOf_l, fLen_t, fLen_l, ofO_some, at0, at1, at2, NL.run, lenN, startN, DEnds.er, List.getElem?_cons_zero, List.getElem?_cons_succ, List.set_cons_zero, List.set_cons_succ, Bool.false_eq_true, if_true, if_false, reduceIte]
      refine ⟨sizeLine_ge (by simp), fIn_t (strl "all") gt_an ?_⟩
      rw [show inD [D.str "all", D.str "none"] (.str "all") = true from by decide +kernel, bneF, if_pos rfl]
      exact i1 _ _ rfl _ q
    · simp only [isT, beq_self_eq_true, Bool.not_true, if_false, pure1, tab1, dAnd, dOr, dNot, dIf, dCall, dFn, dCons, dNil, dVar, dOwn, dC, dFz, dBin, dCmp, dChn, dIsiB, bCmp, bChn, bVal, bAnd, bOr, bNot, bYes, dSortK, dPget, dGet, sDput, sExp, dLm, keyD, bCmpL, lk2, fI0, fI, sSeq, sIf, sRet, sRetL, sSet, sPar, sOwn, sFor, sNext, tName, NL.tCons, NL.tNil, tTups, dTup, dLst, dSl, oNo, oIs, fIx, fSl, iA, fAdd_t, fAdd_l, fAdd_s, fAdd_i, fLstOf_t, fLstOf_l, fTupOf_t, fTupOf_l, fLen_t, fLen_l, ofO_some, at0, at1, at2, NL.run, lenN, startN, DEnds.er, List.getElem?_cons_zero, List.getElem?_cons_succ, List.set_cons_zero, List.set_cons_succ, Bool.false_eq_true, if_true, if_false, reduceIte]
      refine i0 _ _ rfl _ ?_
      rw [if_neg (by decide)]
      refine isi_str rfl ?_
      simp only [isT, beq_self_eq_true, Bool.not_true, if_false, pure1, tab1, dAnd, dOr, dNot, dIf, dCall, dFn, dCons, dNil, dVar, dOwn, dC, dFz, dBin, dCmp, dChn, dIsiB, bCmp, bChn, bVal, bAnd, bOr, bNot, bYes, dSortK, dPget, dGet, sDput, sExp, dLm, keyD, bCmpL, lk2, fI0, fI, sSeq, sIf, sRet, sRetL, sSet, sPar, sOwn, sFor, sNext, tName, NL.tCons, NL.tNil, tTups, dTup, dLst, dSl, oNo, oIs, fIx, fSl, iA, fAdd_t, fAdd_l, fAdd_s, fAdd_i, fLstOf_t, fLstOf_l, fTupOf_t, fTupOf_l, fLen_t, fLen_l, ofO_some, at0, at1, at2, NL.run, lenN, startN, DEnds.er, List.getElem?_cons_zero, List.getElem?_cons_succ, List.set_cons_zero, List.set_cons_succ, Bool.false_eq_true, if_true, if_false, reduceIte]
      refine ⟨sizeLine_ge (by simp), fIn_t (strl "none") gt_an ?_⟩
      rw [show inD [D.str "all", D.str "none"] (.str "none") = true from by decide +kernel, bneF, if_pos rfl]
      exact i1 _ _ rfl _ q
    · simp only [isT, beq_self_eq_true, Bool.not_true, if_false, pure1, tab1, dAnd, dOr, dNot, dIf, dCall, dFn, dCons, dNil, dVar, dOwn, dC, dFz, dBin, dCmp, dChn, dIsiB, bCmp, bChn, bVal, bAnd, bOr, bNot, bYes, dSortK, dPget, dGet, sDput, sExp, dLm, keyD, bCmpL, lk2, fI0, fI, sSeq, sIf, sRet, sRetL, sSet, sPar, sOwn, sFor, sNext, tName, NL.tCons, NL.tNil, tTups, dTup, dLst, dSl, oNo, oIs, fIx, fSl, iA, fAdd_t, fAdd_l, fAdd_s, fAdd_i, fLstOf_t, fLstOf_l, fTupOf_t, fTupOf_l, fLen_t, fLen_l, ofO_some, at0, at1, at2, NL.run, lenN, startN, DEnds.er, List.getElem?_cons_zero, List.getElem?_cons_succ, List.set_cons_zero, List.set_cons_succ, Bool.false_eq_true, if_true, if_false, reduceIte]
      refine i0 _ _ rfl _ ?_
      rw [if_neg (by decide)]
      refine isi_str rfl ?_
      simp only [isT, beq_self_eq_true, Bool.not_true, if_false, pure1, tab1, dAnd, dOr, dNot, dIf, dCall, dFn, dCons, dNil, dVar, dOwn, dC, dFz, dBin, dCmp, dChn, dIsiB, bCmp, bChn, bVal, bAnd, bOr, bNot, bYes, dSortK, dPget, dGet, sDput, sExp, dLm, keyD, bCmpL, lk2, fI0, fI, sSeq, sIf, sRet, sRetL, sSet, sPar, sOwn, sFor, sNext, tName, NL.tCons, NL.tNil, tTups, dTup, dLst, dSl, oNo, oIs, fIx, fSl, iA, fAdd_t, fAdd_l, fAdd_s, fAdd_i, fLstOf_t, fLstOf_l, fTupOf_t, fTupOf_l, fLen_t, fLen_l, ofO_some, at0, at1, at2, NL.run, lenN, startN, DEnds.er, List.getElem?_cons_zero, List.getElem?_cons_succ, List.set_cons_zero, List.set_cons_succ, Bool.false_eq_true, if_true, if_false, reduceIte]
      refine ⟨sizeLine_ge (by simp), fIn_t (strl "word") gt_an ?_⟩
      rw [show inD [D.str "all", D.str "none"] (.str "word") = false from by decide +kernel, bneF, if_neg (by decide)]
      refine fEq_s (v := true) (strl "word") (strl "word") (by decide +kernel) ?_
      rw [if_pos rfl]
      refine i1 _ _ rfl _ ?_
      rw [if_pos rfl]
      exact ⟨good_mem (.inl hd) (by simp), by rw [hx]; exact q⟩
    · simp only [isT, beq_self_eq_true, Bool.not_true, if_false, pure1, tab1, dAnd, dOr, dNot, dIf, dCall, dFn, dCons, dNil, dVar, dOwn, dC, dFz, dBin, dCmp, dChn, dIsiB, bCmp, bChn, bVal, bAnd, bOr, bNot, bYes, dSortK, dPget, dGet, sDput, sExp, dLm, keyD, bCmpL, lk2, fI0, fI, sSeq, sIf, sRet, sRetL, sSet, sPar, sOwn, sFor, sNext, tName, NL.tCons, NL.tNil, tTups, dTup, dLst, dSl, oNo, oIs, fIx, fSl, iA, fAdd_t, fAdd_l, fAdd_s, fAdd_i, fLstOf_t, fLstOf_l, fTupOf_t, fTupOf_l, fLen_t, fLen_l, ofO_some, at0, at1, at2, NL.run, lenN, startN, DEnds.er, List.getElem?_cons_zero, List.getElem?_cons_succ, List.set_cons_zero, List.set_cons_succ, Bool.false_eq_true, if_true, if_false, reduceIte]
      refine i0 _ _ rfl _ ?_
      rw [if_neg (by decide)]
      refine isi_str rfl ?_
      simp only [isT, beq_self_eq_true, Bool.not_true, if_false, pure1, tab1, dAnd, dOr, dNot, dIf, dCall, dFn, dCons, dNil, dVar, dOwn, dC, dFz, dBin, dCmp, dChn, dIsiB, bCmp, bChn, bVal, bAnd, bOr, bNot, bYes, dSortK, dPget, dGet, sDput, sExp, dLm, keyD, bCmpL, lk2, fI0, fI, sSeq, sIf, sRet, sRetL, sSet, sPar, sOwn, sFor, sNext, tName, NL.tCons, NL.tNil, tTups, dTup, dLst, dSl, oNo, oIs, fIx, fSl, iA, fAdd_t, fAdd_l, fAdd_s, fAdd_i, fLstOf_t, fLstOf_l, fTupOf_t, fTupOf_l, fLen_t, fLen_l, ofO_some, at0, at1, at2, NL.run, lenN, startN, DEnds.er, List.getElem?_cons_zero, List.getElem?_cons_succ, List.set_cons_zero, List.set_cons_succ, Bool.false_eq_true, if_true, if_false, reduceIte]
      refine ⟨sizeLine_ge (by simp), fIn_t (strl "and") gt_an ?_⟩
      rw [show inD [D.str "all", D.str "none"] (.str "and") = false from by decide +kernel, bneF, if_neg (by decide)]
      refine fEq_s (v := false) (strl "and") (strl "word") (by decide +kernel) ?_
      rw [if_neg (by decide)]
      refine n1 _ _ rfl _ ?_
      rw [if_neg (by decide)]
      refine ⟨sizeLine_ge (by simp), fIn_t (strl "and") gt_as ?_⟩
      rw [show inD [D.str "and", D.str "some"] (.str "and") = true from by decide +kernel, bneT, if_neg (by decide)]
      refine ⟨⟨good_mem (.inl hd) (by simp), by have := dep_mem (xs := [.str "and", x, y]) (x := y) (by simp); omega⟩, hy, ?_⟩
      dsimp only
      rw [Bool.not_true, if_neg (by decide)]
      refine fEq_s (v := true) (strl "and") (strl "and") (by decide +kernel) ?_
      rw [if_pos rfl]
      exact ⟨⟨good_mem (.inl hd) (by simp), by have := dep_mem (xs := [.str "and", x, y]) (x := x) (by simp); omega⟩, hx, q⟩
    · simp only [isT, beq_self_eq_true, Bool.not_true, if_false, pure1, tab1, dAnd, dOr, dNot, dIf, dCall, dFn, dCons, dNil, dVar, dOwn, dC, dFz, dBin, dCmp, dChn, dIsiB, bCmp, bChn, bVal, bAnd, bOr, bNot, bYes, dSortK, dPget, dGet, sDput, sExp, dLm, keyD, bCmpL, lk2, fI0, fI, sSeq, sIf, sRet, sRetL, sSet, sPar, sOwn, sFor, sNext, tName, NL.tCons, NL.tNil, tTups, dTup, dLst, dSl, oNo, oIs, fIx, fSl, iA, fAdd_t, fAdd_l, fAdd_s, fAdd_i, fLstOf_t, fLstOf_l, fTupOf_t, fTupOf_l, fLen_t, fLen_l, ofO_some, at0, at1, at2, NL.run, lenN, startN, DEnds.er, List.getElem?_cons_zero, List.getElem?_cons_succ, List.set_cons_zero, List.set_cons_succ, Bool.false_eq_true, if_true, if_false, reduceIte]
      refine i0 _ _ rfl _ ?_
      rw [if_neg (by decide)]
      refine isi_str rfl ?_
      simp only [isT, beq_self_eq_true, Bool.not_true, if_false, pure1, tab1, dAnd, dOr, dNot, dIf, dCall, dFn, dCons, dNil, dVar, dOwn, dC, dFz, dBin, dCmp, dChn, dIsiB, bCmp, bChn, bVal, bAnd, bOr, bNot, bYes, dSortK, dPget, dGet, sDput, sExp, dLm, keyD, bCmpL, lk2, fI0, fI, sSeq, sIf, sRet, sRetL, sSet, sPar, sOwn, sFor, sNext, tName, NL.tCons, NL.tNil, tTups, dTup, dLst, dSl, oNo, oIs, fIx, fSl, iA, fAdd_t, fAdd_l, fAdd_s, fAdd_i, fLstOf_t, fLstOf_l, fTupOf_t, fTupOf_l, fLen_t, fLen_l, ofO_some, at0, at1, at2, NL.run, lenN, startN, DEnds.er, List.getElem?_cons_zero, List.getElem?_cons_succ, List.set_cons_zero, List.set_cons_succ, Bool.false_eq_true, if_true, if_false, reduceIte]
      refine ⟨sizeLine_ge (by simp), fIn_t (strl "some") gt_an ?_⟩
      rw [show inD [D.str "all", D.str "none"] (.str "some") = false from by decide +kernel, bneF, if_neg (by decide)]
      refine fEq_s (v := false) (strl "some") (strl "word") (by decide +kernel) ?_
      rw [if_neg (by decide)]
      refine n1 _ _ rfl _ ?_
      rw [if_neg (by decide)]
      refine ⟨sizeLine_ge (by simp), fIn_t (strl "some") gt_as ?_⟩
      rw [show inD [D.str "and", D.str "some"] (.str "some") = true from by decide +kernel, bneT, if_neg (by decide)]
      refine ⟨⟨good_mem (.inl hd) (by simp), by have := dep_mem (xs := [.str "some", x, y]) (x := y) (by simp); omega⟩, hy, ?_⟩
      dsimp only
      rw [Bool.not_true, if_neg (by decide)]
      refine fEq_s (v := false) (strl "some") (strl "and") (by decide +kernel) ?_
      rw [if_neg (by decide)]
      exact ⟨good_mem (.inl hd) (by simp), by rw [hx]; exact q⟩
def G__law_is_concept : List D → (D → Prop) → Prop
  | [d], Q => good d ∧ conD d = true ∧ Q (.bl true)
  | _, _ => False
theorem dn__law_is_concept (T : Txt mg K) (A : At K mg "_law_is_concept" st__law_is_concept) (h__law_is_word : Dn P w K mg base 1 "_law_is_word" ["thing"] (pure1 G_is_word_value)) : Dn P w K mg base 66 "_law_is_concept" ["thing"] (pure1 G__law_is_concept) :=
  (dn_lcon T A h__law_is_word 65).imp fun ds h Q E w => match ds, w with | [d], ⟨hd, hc, q⟩ => ⟨⟨hd, by have := dep_good hd; omega⟩, hc, q⟩
abbrev st__law_is_sentence : Stmt := top 46
theorem sc__law_is_sentence : FnScope ["thing"] ["thing"] (defScope st__law_is_sentence) := ⟨rfl, rfl, rfl, by decide +kernel, rfl, by decide +kernel, by decide +kernel⟩

def G__law_is_sentence : List D → (D → Prop) → Prop
  | [d], Q => good d ∧ senD d = true ∧ Q (.bl true)
  | _, _ => False
theorem sen_inv {d : D} (h : senD d = true) : ∃ l r, d = .tup [l, r] ∧ conD l = true ∧ conD r = true := by
  match d, h with
  | .tup [l, r], h =>
    simp only [senD, Bool.and_eq_true] at h
    exact ⟨l, r, rfl, h⟩
theorem dn__law_is_sentence (T : Txt mg K) (A : At K mg "_law_is_sentence" st__law_is_sentence) (h__law_is_concept : Dn P w K mg base 66 "_law_is_concept" ["thing"] (pure1 G__law_is_concept)) : Dn P w K mg base 67 "_law_is_sentence" ["thing"] (pure1 G__law_is_sentence) := by
  refine Dn.of A sc__law_is_sentence (fun F => F.bindsN fun _ _ _ _ _ _ us hl => match us, hl with | [_], _ => rfl) (fun f cdv A outer s H E hr c => (ss_one (st_ret (e_and (wk (c_isi (T := "tuple") T.b T.b.tuple (wk (nm 0)))) (e_and (wk (e_cmp (op_eqD hr.u64) ob_eq (wk (c_len T.b (v_cons (wk (nm 0)) v_nil))) (wk c_int))) (e_and (wk (e_fn h__law_is_concept c hr (a_cons (e_ix (wk (nm 0)) (wk c_int)) a_nil))) (e_one (e_fn h__law_is_concept c hr (a_cons (e_ix (wk (nm 0)) (wk c_int)) a_nil))))))))) (fun ds h Q E w => ?_)
  match ds, w with
  | [d], ⟨hd, hs, q⟩ =>
    refine ⟨rfl, ?_⟩
    obtain ⟨l, r, rfl, hl, hr⟩ := sen_inv hs
    simp only [pure1, tab1, dAnd, dOr, dNot, dIf, dCall, dFn, dCons, dNil, dVar, dOwn, dC, dFz, dBin, dCmp, dChn, dIsiB, bCmp, bChn, bVal, bAnd, bOr, bNot, bYes, dSortK, dPget, dGet, sDput, sExp, dLm, keyD, bCmpL, lk2, fI0, fI, sSeq, sIf, sRet, sRetL, sSet, sPar, sOwn, sFor, sNext, tName, NL.tCons, NL.tNil, tTups, dTup, dLst, dSl, oNo, oIs, fIx, fSl, iA, fAdd_t, fAdd_l, fAdd_s, fAdd_i, fLstOf_t, fLstOf_l, fTupOf_t, fTupOf_l, fLen_t, fLen_l, ofO_some, at0, at1, at2, NL.run, lenN, startN, DEnds.er, List.getElem?_cons_zero, List.getElem?_cons_succ, List.set_cons_zero, List.set_cons_succ, Bool.false_eq_true, if_true, if_false, reduceIte]
    refine isi_tuple rfl ?_
    simp only [isT, beq_self_eq_true, if_true]
    refine ⟨good_int _, good_int _, ?_⟩
    rw [eqD_int, show (((([l, r] : List D).length : Nat) : Int) == 2) = true from rfl]
    dsimp only
    rw [if_pos rfl]
    exact ⟨good_mem (.inl hd) (by simp), hl, good_mem (.inl hd) (by simp), hr, q⟩
abbrev st__law_marked : Stmt := top 47
theorem sc__law_marked : FnScope ["marks", "word", "near", "book"] ["marks", "word"] (defScope st__law_marked) := ⟨rfl, rfl, rfl, by decide +kernel, rfl, by decide +kernel, by decide +kernel⟩

def G__law_marked : List D → (D → Prop) → Prop
  | [.tup m, .str w], Q => ∃ ms : Mk, m = ms.map wpD ∧ MkOk ms ∧ good (.str w) ∧ ∃ b, lookB ms (.str w) = some b ∧ Q (.tup b)
  | _, _ => False
theorem look_filter : ∀ {ms : Mk} {w : Str} {d : D}, (ms.map (·.1)).Nodup → lookD ms w = some d → ms.filter (fun p => p.1 == w) = [(w, d)]
  | [], _, _, _, hh => by cases hh
  | p :: ms, w, d, nd, h => by
    rw [List.map_cons] at nd; rw [List.nodup_cons] at nd
    unfold lookD at h
    rw [List.find?_cons] at h
    by_cases e : p.1 = w
    · rw [decide_eq_true e] at h
      have h : p.2 = d := Option.some.inj h
      rw [List.filter_cons_of_pos (by simpa using e)]
      have : ms.filter (fun q => q.1 == w) = [] := List.filter_eq_nil_iff.mpr fun q hq z => nd.1 (by rw [e, ← (by simpa using z : q.1 = w)]; exact List.mem_map_of_mem hq)
      rw [this, ← e, ← h]
    · rw [decide_eq_false e] at h
      rw [List.filter_cons_of_neg (by simpa using e)]
      exact look_filter nd.2 h
theorem look_is {ms : Mk} {w : Str} {b : List D} (ok : MkOk ms) (hb : lookB ms (.str w) = some b) : lookD ms w = some (.tup b) := by
  have e0 : lookB ms (.str w) = match (lookD ms w).getD .non with | .tup b => some b | _ => none := rfl
  rw [e0] at hb
  cases e : lookD ms w with
  | none => rw [e] at hb; cases hb
  | some d =>
    rw [e] at hb
    obtain ⟨p, hp, _, e2⟩ := look_some e
    obtain ⟨k, e3, _⟩ := ok.bk p hp
    rw [e2] at e3
    subst e3
    cases hb
    rfl
theorem dn__law_marked (T : Txt mg K) (A : At K mg "_law_marked" st__law_marked) : Dn P w K mg base 1 "_law_marked" ["marks", "word"] (pure1 G__law_marked) := by
  refine Dn.of A sc__law_marked (fun F => F.bindsN fun _ _ _ _ _ _ us hl => match us, hl with | [_, _], _ => rfl) (fun f cdv A outer s H E hr c => (ss_one (st_ret (e_ix (wk (fzn (e_lc c (i_any (nm 0)) (blkOk_by (own := [("near", 2), ("book", 3)]) (N := ["marks", "word", "near", "book"]) (sc := defScope st__law_marked) (by decide +kernel)) (gd_tup (n := 2) (gds_cons gd_name (gds_cons gd_name gds_nil))) (by decide) (fun _ _ _ _ _ => (pg_tup (n := 2) rfl (pgs_cons (pg_name (i := 2) sc__law_marked.nd rfl (by first | exact Or.inl rfl | exact Or.inr rfl)) (pgs_cons (pg_name (i := 3) sc__law_marked.nd rfl (by first | exact Or.inl rfl | exact Or.inr rfl)) pgs_nil)))) (fun _ _ _ _ _ => ts_one (t_cmp (op_eqD hr.u64) ob_eq (wk (nm 2)) (wk (nm 1)))) (fun _ _ _ _ _ => (nm 3))))) (wk c_int))))) (fun ds h Q E w => ?_)
  match ds, w with
  | [.tup m, .str w], ⟨ms, e, ok, gw, b, hb, q⟩ =>
    refine ⟨rfl, ?_⟩
    subst e
    simp only [dLc, pure1, tab1, dAnd, dOr, dNot, dIf, dCall, dFn, dCons, dNil, dVar, dOwn, dC, dFz, dBin, dCmp, dChn, dIsiB, bCmp, bChn, bVal, bAnd, bOr, bNot, bYes, dSortK, dPget, dGet, sDput, sExp, dLm, keyD, bCmpL, lk2, fI0, fI, sSeq, sIf, sRet, sRetL, sSet, sPar, sOwn, sFor, sNext, tName, NL.tCons, NL.tNil, tTups, dTup, dLst, dSl, oNo, oIs, fIx, fSl, iA, fAdd_t, fAdd_l, fAdd_s, fAdd_i, fLstOf_t, fLstOf_l, fTupOf_t, fTupOf_l, fLen_t, fLen_l, ofO_some, at0, at1, at2, NL.run, lenN, startN, DEnds.er, List.getElem?_cons_zero, List.getElem?_cons_succ, List.set_cons_zero, List.set_cons_succ, Bool.false_eq_true, if_true, if_false, reduceIte]
    have hl : lookD ms w = some (.tup b) := look_is ok hb
    refine lc_fm (fun d => !othD w d) (fun d => match d with | .tup [_, x] => x | _ => .non) (ms.map wpD) (fun d m A N h1 h2 => ?_) (sizeLine_ge (by have := ok.len; simp; omega)) ?_
    · obtain ⟨p, hp, rfl⟩ := wp_mem m
      simp only [wipeR, List.map_cons, List.map_nil, pure1, tab1, dAnd, dOr, dNot, dIf, dCall, dFn, dCons, dNil, dVar, dOwn, dC, dFz, dBin, dCmp, dChn, dIsiB, bCmp, bChn, bVal, bAnd, bOr, bNot, bYes, dSortK, dPget, dGet, sDput, sExp, dLm, keyD, bCmpL, lk2, fI0, fI, sSeq, sIf, sRet, sRetL, sSet, sPar, sOwn, sFor, sNext, tName, NL.tCons, NL.tNil, tTups, dTup, dLst, dSl, oNo, oIs, fIx, fSl, iA, fAdd_t, fAdd_l, fAdd_s, fAdd_i, fLstOf_t, fLstOf_l, fTupOf_t, fTupOf_l, fLen_t, fLen_l, ofO_some, at0, at1, at2, NL.run, lenN, startN, DEnds.er, List.getElem?_cons_zero, List.getElem?_cons_succ, List.set_cons_zero, List.set_cons_succ, Bool.false_eq_true, if_true, if_false, reduceIte]
      refine ⟨rfl, fEq_s (v := p.1 == w) (ok.wd p hp).1 gw rfl ?_⟩
      cases e : p.1 == w
      · exact h2 (by simp [othD, e])
      · exact h1 (by simp [othD, e])
    · have e : ((ms.map wpD).filter fun d => !othD w d) = (ms.filter fun p => p.1 == w).map wpD := by
        rw [List.filter_map]
        congr 1
        exact List.filter_congr fun p _ => by simp [Function.comp, wpD, othD]
      rw [e, look_filter ok.nd hl]
      exact q
abbrev st__law_after : Stmt := top 48
theorem sc__law_after : FnScope ["state", "deed", "book", "marks", "way", "words", "rest", "row", "word", "near"] ["state", "deed"] (defScope st__law_after) := ⟨rfl, rfl, rfl, by decide +kernel, rfl, by decide +kernel, by decide +kernel⟩

/-- the deeds that the law draws -/
inductive LDeed where
  | add (x : D) | drop (i : Int) | put (i : Int) (x : D) | mark (w : Str) | unmark (w : Str) | back (w : Str) | join (w v : Str)
def LDeed.enc : LDeed → D
  | .add x => .tup [.str "add", x]
  | .drop i => .tup [.str "drop", .int i]
  | .put i x => .tup [.str "put", .int i, x]
  | .mark w => .tup [.str "mark", .str w]
  | .unmark w => .tup [.str "unmark", .str w]
  | .back w => .tup [.str "back", .str w]
  | .join w v => .tup [.str "join", .str w, .str v]
def gsen (x : D) : Prop := good x ∧ dep x ≤ 60 ∧ senD x = true
def gwrd (w : Str) : Prop := good (.str w) ∧ wordS w = true
def LDeed.ok : LDeed → Prop
  | .add x => gsen x
  | .drop _ => True
  | .put _ x => gsen x
  | .mark w => gwrd w
  | .unmark w => gwrd w
  | .back w => gwrd w
  | .join w v => gwrd w ∧ gwrd v
theorem in_words (ms : Mk) (s : Str) : inD ((ms.map (·.1)).map D.str) (.str s) = (lookD ms s).isSome := by
  unfold inD lookD
  rw [List.any_map, List.any_map, Option.isSome_map]
  induction ms with
  | nil => rfl
  | cons p ms ih =>
    rw [List.any_cons, List.find?_cons, ih]
    simp only [Function.comp, eqD_str]
    by_cases e : p.1 = s
    · simp [e]
    · simp [e]
def pW (ms : Mk) : D → Bool
  | .str s => !(lookD ms s).isSome
  | _ => true
theorem lookB_some {ms : Mk} (ok : MkOk ms) (w : Str) : (lookB ms (.str w) = none ∧ (lookD ms w).isSome = false) ∨ ∃ k, lookB ms (.str w) = some k ∧ (lookD ms w).isSome = true ∧ Ax 1000 k := by
  rcases markD_is ok (.str w) with ⟨e1, e2⟩ | ⟨k, w', e1, e2, hk, ex⟩
  · refine .inl ⟨e2, ?_⟩
    cases e : lookD ms w with
    | none => rfl
    | some d =>
      obtain ⟨p, hp, _, e3⟩ := look_some e
      obtain ⟨b, e4, _⟩ := ok.bk p hp
      have : markD ms (.str w) = .tup b := by simp [markD, e, ← e3, e4]
      rw [e1] at this
      cases this
  · exact .inr ⟨k, e2, by rw [look_is ok e2]; rfl, hk⟩
theorem wrd_good (ms : Mk) (ok : MkOk ms) : good (.lst ((ms.map (·.1)).map D.str)) := (good_tup (fun x m => by
  obtain ⟨s, hs, rfl⟩ := List.mem_map.mp m
  obtain ⟨p, hp, rfl⟩ := List.mem_map.mp hs
  exact (ok.wd p hp).1) 0 (fun x m => by
  obtain ⟨s, hs, rfl⟩ := List.mem_map.mp m
  simp [dep, D.py, PyData.depth])).2
theorem aft_add {b : List D} {ms : Mk} {x : D} (h : senD x = true) : aft b ms (.tup [.str "add", x]) = some (b ++ [x], ms) := by
  unfold aft
  rw [deedk_add]
  simp only [axM, h, if_true, Option.map_some]
theorem aft_drop {b : List D} {ms : Mk} {i : Int} : aft b ms (.tup [.str "drop", .int i]) = (plcD (.int i) b.length).map fun n => (b.take n ++ b.drop (n + 1), ms) := by
  unfold aft
  rw [deedk_drop]
  simp only [axM, Option.map_map]
  rfl
theorem aft_put {b : List D} {ms : Mk} {i : Int} {x : D} (h : senD x = true) : aft b ms (.tup [.str "put", .int i, x]) = (plcD (.int i) b.length).map fun n => ((b.take n ++ [x]) ++ b.drop (n + 1), ms) := by
  unfold aft
  rw [deedk_put]
  simp only [axM, h, if_true]
  cases plcD (.int i) b.length <;> rfl
theorem aft_mark {b : List D} {ms : Mk} {w : Str} (h : wordS w = true) : aft b ms (.tup [.str "mark", .str w]) = some (b, insM ms w (.tup b)) := by
  unfold aft
  rw [deedk_mark]
  simp only [mkM, show wordD (.str w) = true from h, if_true]
  rfl
theorem aft_unmark {b : List D} {ms : Mk} {w : Str} : aft b ms (.tup [.str "unmark", .str w]) = (lookB ms (.str w)).map fun _ => (b, ms.filter fun p => !(p.1 == w)) := by
  unfold aft
  rw [deedk_unmark]
  rfl
theorem aft_back {b : List D} {ms : Mk} {w : Str} : aft b ms (.tup [.str "back", .str w]) = (lookB ms (.str w)).map fun k => (k, ms) := by
  unfold aft
  rw [deedk_back]
  rfl
theorem aft_join {b : List D} {ms : Mk} {w v : Str} : aft b ms (.tup [.str "join", .str w, .str v]) = (lookB ms (.str w)).bind fun k => (lookB ms (.str v)).map fun z => (joinD k b z, ms) := by
  unfold aft
  rw [deedk_join]
  rfl
def G__law_after : List D → (D → Prop) → Prop
  | [.tup [.tup b, .tup m], x], Q => Ax 1000 b ∧ ∃ ms : Mk, m = ms.map wpD ∧ MkOk ms ∧ ∃ d : LDeed, x = d.enc ∧ d.ok ∧ Q (encT (aft b ms x))
  | _, _ => False
theorem dn__law_after (T : Txt mg K) (A : At K mg "_law_after" st__law_after) (h__law_is_sentence : Dn P w K mg base 67 "_law_is_sentence" ["thing"] (pure1 G__law_is_sentence)) (h__law_dropped : Dn P w K mg base 1 "_law_dropped" ["some", "at"] (pure1 G__law_dropped)) (h__law_is_place : Dn P w K mg base 1 "_law_is_place" ["thing", "many"] (pure1 G__law_is_place))
    (h__law_is_word : Dn P w K mg base 1 "_law_is_word" ["thing"] (pure1 G_is_word_value)) (h__law_marked : Dn P w K mg base 1 "_law_marked" ["marks", "word"] (pure1 G__law_marked)) (h__law_join : Dn P w K mg base 1 "_law_join" ["base", "left", "right"] (pure1 G_joined)) :
    Dn P w K mg base 68 "_law_after" ["state", "deed"] (pure1 G__law_after) := by
  refine Dn.of A sc__law_after (fun F => F.bindsN fun _ _ _ _ _ _ us hl => match us, hl with | [_, _], _ => rfl) (fun f cdv A outer s H E hr c => (ss_cons (st_asg (nm 0) (pg_tup (n := 2) rfl (pgs_cons (pg_name (i := 2) sc__law_after.nd rfl (by first | exact Or.inl rfl | exact Or.inr rfl)) (pgs_cons (pg_name (i := 3) sc__law_after.nd rfl (by first | exact Or.inl rfl | exact Or.inr rfl)) pgs_nil))) (gd_tup (n := 2) (gds_cons gd_name (gds_cons gd_name gds_nil))))
      (ss_cons (st_if (PW.pt (w_or (t_not (t_val (wk (c_isi (T := "tuple") T.b T.b.tuple (wk (nm 1)))))) (w_or (t_not (t_chn o_le o_le ob_ord ob_ord (wk c_int) (wk (c_len T.b (v_cons (wk (nm 1)) v_nil))) (wk c_int))) (w_or1 (t_not (t_val (wk (c_isi (T := "str") T.b T.b.str (wk (e_ix (wk (nm 1)) (wk c_int)))))))))))
      (ss_one (st_ret c_non))
      ss_nil)
      (ss_cons (st_asg (e_tup (a_cons (e_ix (wk (nm 1)) (wk c_int)) (a_cons (fzn (e_lc c (i_any (nm 3)) (blkOk_by (own := [("word", 8), ("near", 9)]) (N := ["state", "deed", "book", "marks", "way", "words", "rest", "row", "word", "near"]) (sc := defScope st__law_after) (by decide +kernel)) (gd_tup (n := 2) (gds_cons gd_name (gds_cons gd_name gds_nil))) (by decide) (fun _ _ _ _ _ => (pg_tup (n := 2) rfl (pgs_cons (pg_name (i := 8) sc__law_after.nd rfl (by first | exact Or.inl rfl | exact Or.inr rfl)) (pgs_cons (pg_name (i := 9) sc__law_after.nd rfl (by first | exact Or.inl rfl | exact Or.inr rfl)) pgs_nil)))) (fun _ _ _ _ _ => ts_nil) (fun _ _ _ _ _ => (nm 8)))) a_nil))) (pg_tup (n := 2) rfl (pgs_cons (pg_name (i := 4) sc__law_after.nd rfl (by first | exact Or.inl rfl | exact Or.inr rfl)) (pgs_cons (pg_name (i := 5) sc__law_after.nd rfl (by first | exact Or.inl rfl | exact Or.inr rfl)) pgs_nil))) (gd_tup (n := 2) (gds_cons gd_name (gds_cons gd_name gds_nil))))
      (ss_cons (st_if (PW.pt (w_and (t_cmp (op_eqD hr.u64) ob_eq (wk (nm 4)) (wk c_str)) (w_and (t_cmp (op_eqD hr.u64) ob_eq (wk (c_len T.b (v_cons (wk (nm 1)) v_nil))) (wk c_int)) (w_and1 (t_val (wk (e_fn h__law_is_sentence c hr (a_cons (e_ix (wk (nm 1)) (wk c_int)) a_nil))))))))
      (ss_one (st_ret (e_tup (a_cons (e_bin op_plus od_add (wk (nm 2)) (wk (e_tup (a_cons (e_ix (wk (nm 1)) (wk c_int)) a_nil)))) (a_cons (nm 3) a_nil)))))
      ss_nil)
      (ss_cons (st_if (PW.pt (w_and (t_cmp (op_eqD hr.u64) ob_eq (wk (nm 4)) (wk c_str)) (w_and (t_cmp (op_eqD hr.u64) ob_eq (wk (c_len T.b (v_cons (wk (nm 1)) v_nil))) (wk c_int)) (w_and1 (t_val (wk (e_fn h__law_is_place c hr (a_cons (e_ix (wk (nm 1)) (wk c_int)) (a_cons (c_len T.b (v_cons (wk (nm 2)) v_nil)) a_nil)))))))))
      (ss_one (st_ret (e_tup (a_cons (e_fn h__law_dropped c hr (a_cons (nm 2) (a_cons (e_ix (wk (nm 1)) (wk c_int)) a_nil))) (a_cons (nm 3) a_nil)))))
      ss_nil)
      (ss_cons (st_if (PW.pt (w_and (t_cmp (op_eqD hr.u64) ob_eq (wk (nm 4)) (wk c_str)) (w_and (t_cmp (op_eqD hr.u64) ob_eq (wk (c_len T.b (v_cons (wk (nm 1)) v_nil))) (wk c_int)) (w_and (t_val (wk (e_fn h__law_is_place c hr (a_cons (e_ix (wk (nm 1)) (wk c_int)) (a_cons (c_len T.b (v_cons (wk (nm 2)) v_nil)) a_nil))))) (w_and1 (t_val (wk (e_fn h__law_is_sentence c hr (a_cons (e_ix (wk (nm 1)) (wk c_int)) a_nil)))))))))
      (ss_one (st_ret (e_tup (a_cons (e_bin op_plus od_add (wk (e_bin op_plus od_add (wk (e_sl (wk (nm 2)) p_no (p_is (wk (e_ix (wk (nm 1)) (wk c_int)))))) (wk (e_tup (a_cons (e_ix (wk (nm 1)) (wk c_int)) a_nil))))) (wk (e_sl (wk (nm 2)) (p_is (wk (e_bin op_plus od_add (wk (e_ix (wk (nm 1)) (wk c_int))) (wk c_int)))) p_no))) (a_cons (nm 3) a_nil)))))
      ss_nil)
      (ss_cons (st_if (PW.pt (w_and (t_cmp (op_eqD hr.u64) ob_eq (wk (nm 4)) (wk c_str)) (w_and (t_cmp (op_eqD hr.u64) ob_eq (wk (c_len T.b (v_cons (wk (nm 1)) v_nil))) (wk c_int)) (w_and1 (t_val (wk (e_fn h__law_is_word c hr (a_cons (e_ix (wk (nm 1)) (wk c_int)) a_nil))))))))
      (ss_cons (st_setLc (i := 6) c rfl rfl (sw_true rfl rfl rfl (by decide +kernel)) (i_any (nm 3)) (blkOk_by (own := [("row", 7)]) (N := ["state", "deed", "book", "marks", "way", "words", "rest", "row", "word", "near"]) (sc := defScope st__law_after) (by decide +kernel)) gd_name (by decide) (fun _ _ _ _ _ => (pg_name (i := 7) sc__law_after.nd rfl (by first | exact Or.inl rfl | exact Or.inr rfl))) (fun _ _ _ _ _ => ts_one (t_cmp (op_neD hr.u64) ob_ne (wk (e_ix (wk (nm 7)) (wk c_int))) (wk (e_ix (wk (nm 1)) (wk c_int))))) (fun _ _ _ _ _ => (nm 7)))
      (ss_one (st_ret (e_tup (a_cons (nm 2) (a_cons (c_tuple T.b (v_cons (wk (c_sorted T.b (v_cons (wk (e_bin op_plus od_add (wk (nm 6)) (wk (fzn (e_lst (a_cons (e_tup (a_cons (e_ix (wk (nm 1)) (wk c_int)) (a_cons (nm 2) a_nil))) a_nil)))))) v_nil))) v_nil)) a_nil))))))
      ss_nil)
      (ss_cons (st_if (t_cmp (op_neD hr.u64) ob_ne (wk (fzn (e_lc c (i_any (e_sl (wk (nm 1)) (p_is (wk c_int)) p_no)) (blkOk_by (own := [("word", 8)]) (N := ["state", "deed", "book", "marks", "way", "words", "rest", "row", "word", "near"]) (sc := defScope st__law_after) (by decide +kernel)) gd_name (by decide) (fun _ _ _ _ _ => (pg_name (i := 8) sc__law_after.nd rfl (by first | exact Or.inl rfl | exact Or.inr rfl))) (fun _ _ _ _ _ => ts_one (PW.pt (w_or (t_not (t_val (wk (c_isi (T := "str") T.b T.b.str (wk (nm 8)))))) (w_or1 (t_cmp (o_off hr.u65) ob_off (wk (nm 8)) (wk (nm 5))))))) (fun _ _ _ _ _ => (nm 8))))) (wk (fzn (e_lst a_nil))))
      (ss_one (st_ret c_non))
      ss_nil)
      (ss_cons (st_if (PW.pt (w_and (t_cmp (op_eqD hr.u64) ob_eq (wk (nm 4)) (wk c_str)) (w_and1 (t_cmp (op_eqD hr.u64) ob_eq (wk (c_len T.b (v_cons (wk (nm 1)) v_nil))) (wk c_int)))))
      (ss_one (st_ret (e_tup (a_cons (nm 2) (a_cons (c_tuple T.b (v_cons (wk (fzn (e_lc c (i_any (nm 3)) (blkOk_by (own := [("row", 7)]) (N := ["state", "deed", "book", "marks", "way", "words", "rest", "row", "word", "near"]) (sc := defScope st__law_after) (by decide +kernel)) gd_name (by decide) (fun _ _ _ _ _ => (pg_name (i := 7) sc__law_after.nd rfl (by first | exact Or.inl rfl | exact Or.inr rfl))) (fun _ _ _ _ _ => ts_one (t_cmp (op_neD hr.u64) ob_ne (wk (e_ix (wk (nm 7)) (wk c_int))) (wk (e_ix (wk (nm 1)) (wk c_int))))) (fun _ _ _ _ _ => (nm 7))))) v_nil)) a_nil)))))
      ss_nil)
      (ss_cons (st_if (PW.pt (w_and (t_cmp (op_eqD hr.u64) ob_eq (wk (nm 4)) (wk c_str)) (w_and1 (t_cmp (op_eqD hr.u64) ob_eq (wk (c_len T.b (v_cons (wk (nm 1)) v_nil))) (wk c_int)))))
      (ss_one (st_ret (e_tup (a_cons (e_fn h__law_marked c hr (a_cons (nm 3) (a_cons (e_ix (wk (nm 1)) (wk c_int)) a_nil))) (a_cons (nm 3) a_nil)))))
      ss_nil)
      (ss_cons (st_if (PW.pt (w_and (t_cmp (op_eqD hr.u64) ob_eq (wk (nm 4)) (wk c_str)) (w_and1 (t_cmp (op_eqD hr.u64) ob_eq (wk (c_len T.b (v_cons (wk (nm 1)) v_nil))) (wk c_int)))))
      (ss_one (st_ret (e_tup (a_cons (e_fn h__law_join c hr (a_cons (e_fn h__law_marked c hr (a_cons (nm 3) (a_cons (e_ix (wk (nm 1)) (wk c_int)) a_nil))) (a_cons (nm 2) (a_cons (e_fn h__law_marked c hr (a_cons (nm 3) (a_cons (e_ix (wk (nm 1)) (wk c_int)) a_nil))) a_nil)))) (a_cons (nm 3) a_nil)))))
      ss_nil)
      (ss_one (st_ret c_non)))))))))))))) (fun ds h Q E w => ?_)
  match ds, w with
  | [.tup [.tup b, .tup m], x], ⟨hb, ms, e, ok, d, e2, hd, q⟩ =>
    refine ⟨rfl, ?_⟩
    subst e e2
    cases d with
    | add x =>
      simp only [LDeed.enc] at q
      refine seqP (fun ρ => ρ = [some (.d (.tup [.tup b, .tup (ms.map wpD)])), some (.d (.tup [.str "add", x])), some (.d (.tup b)), some (.d (.tup (ms.map wpD))), none, none, none, none, none, none]) (fun N hN => ?_) ?_
      · simp only [LDeed.enc, pure1, tab1, dAnd, dOr, dNot, dIf, dCall, dFn, dCons, dNil, dVar, dOwn, dC, dFz, dBin, dCmp, dChn, dIsiB, bCmp, bChn, bVal, bAnd, bOr, bNot, bYes, dSortK, dPget, dGet, sDput, sExp, dLm, keyD, bCmpL, lk2, fI0, fI, sSeq, sIf, sRet, sRetL, sSet, sPar, sOwn, sFor, sNext, tName, NL.tCons, NL.tNil, tTups, dTup, dLst, dSl, oNo, oIs, fIx, fSl, iA, fAdd_t, fAdd_l, fAdd_s, fAdd_i, fLstOf_t, fLstOf_l, fTupOf_t, fTupOf_l, fLen_t, fLen_l, ofO_some, at0, at1, at2, NL.run, lenN, startN, DEnds.er, List.getElem?_cons_zero, List.getElem?_cons_succ, List.set_cons_zero, List.set_cons_succ, Bool.false_eq_true, if_true, if_false, reduceIte, fEq_ii, fNe_ii, fOrd_ii, fIsi_tt, fIsi_ss, fIsi_st, fIsi_si, lL2, lL3, i22, i33, i23, i32, eq_self]
        exact ⟨rfl, hN _ rfl⟩
      rintro _ rfl
      refine skip_if (fun Q X q => ?_) ?_
      · simp only [pure1, tab1, dAnd, dOr, dNot, dIf, dCall, dFn, dCons, dNil, dVar, dOwn, dC, dFz, dBin, dCmp, dChn, dIsiB, bCmp, bChn, bVal, bAnd, bOr, bNot, bYes, dSortK, dPget, dGet, sDput, sExp, dLm, keyD, bCmpL, lk2, fI0, fI, sSeq, sIf, sRet, sRetL, sSet, sPar, sOwn, sFor, sNext, tName, NL.tCons, NL.tNil, tTups, dTup, dLst, dSl, oNo, oIs, fIx, fSl, iA, fAdd_t, fAdd_l, fAdd_s, fAdd_i, fLstOf_t, fLstOf_l, fTupOf_t, fTupOf_l, fLen_t, fLen_l, ofO_some, at0, at1, at2, NL.run, lenN, startN, DEnds.er, List.getElem?_cons_zero, List.getElem?_cons_succ, List.set_cons_zero, List.set_cons_succ, Bool.false_eq_true, if_true, if_false, reduceIte, fEq_ii, fNe_ii, fOrd_ii, fIsi_tt, fIsi_ss, fIsi_st, fIsi_si, lL2, lL3, i22, i33, i23, i32, eq_self]
        exact q
      refine seqP (fun ρ => ρ = [some (.d (.tup [.tup b, .tup (ms.map wpD)])), some (.d (.tup [.str "add", x])), some (.d (.tup b)), some (.d (.tup (ms.map wpD))), some (.d (.str "add")), some (.d (.lst ((ms.map (·.1)).map D.str))), none, none, none, none]) (fun N hN => ?_) ?_
      · simp only [dLc, pure1, tab1, dAnd, dOr, dNot, dIf, dCall, dFn, dCons, dNil, dVar, dOwn, dC, dFz, dBin, dCmp, dChn, dIsiB, bCmp, bChn, bVal, bAnd, bOr, bNot, bYes, dSortK, dPget, dGet, sDput, sExp, dLm, keyD, bCmpL, lk2, fI0, fI, sSeq, sIf, sRet, sRetL, sSet, sPar, sOwn, sFor, sNext, tName, NL.tCons, NL.tNil, tTups, dTup, dLst, dSl, oNo, oIs, fIx, fSl, iA, fAdd_t, fAdd_l, fAdd_s, fAdd_i, fLstOf_t, fLstOf_l, fTupOf_t, fTupOf_l, fLen_t, fLen_l, ofO_some, at0, at1, at2, NL.run, lenN, startN, DEnds.er, List.getElem?_cons_zero, List.getElem?_cons_succ, List.set_cons_zero, List.set_cons_succ, Bool.false_eq_true, if_true, if_false, reduceIte, fEq_ii, fNe_ii, fOrd_ii, fIsi_tt, fIsi_ss, fIsi_st, fIsi_si, lL2, lL3, i22, i33, i23, i32, eq_self]
        refine lc_map (fun d => match d with | .tup (x :: _) => x | _ => .non) (ms.map wpD) (fun d m A a => ?_) (sizeLine_ge (by have := ok.len; simp; omega)) ?_
        · obtain ⟨p, hp, rfl⟩ := wp_mem m
          simp only [wipeR, List.map_cons, List.map_nil, pure1, tab1, dAnd, dOr, dNot, dIf, dCall, dFn, dCons, dNil, dVar, dOwn, dC, dFz, dBin, dCmp, dChn, dIsiB, bCmp, bChn, bVal, bAnd, bOr, bNot, bYes, dSortK, dPget, dGet, sDput, sExp, dLm, keyD, bCmpL, lk2, fI0, fI, sSeq, sIf, sRet, sRetL, sSet, sPar, sOwn, sFor, sNext, tName, NL.tCons, NL.tNil, tTups, dTup, dLst, dSl, oNo, oIs, fIx, fSl, iA, fAdd_t, fAdd_l, fAdd_s, fAdd_i, fLstOf_t, fLstOf_l, fTupOf_t, fTupOf_l, fLen_t, fLen_l, ofO_some, at0, at1, at2, NL.run, lenN, startN, DEnds.er, List.getElem?_cons_zero, List.getElem?_cons_succ, List.set_cons_zero, List.set_cons_succ, Bool.false_eq_true, if_true, if_false, reduceIte, fEq_ii, fNe_ii, fOrd_ii, fIsi_tt, fIsi_ss, fIsi_st, fIsi_si, lL2, lL3, i22, i33, i23, i32, eq_self]
          exact ⟨rfl, a⟩
        · refine ⟨sizeLine_ge (by simp), rfl, ?_⟩
          have e : (ms.map wpD).map (fun d => match d with | .tup (x :: _) => x | _ => .non) = (ms.map (·.1)).map D.str := by rw [List.map_map, List.map_map]; rfl
          rw [e]
          exact hN _ rfl
      rintro _ rfl
      refine take_if (fun Q X q => ?_) ?_
      · simp only [pure1, tab1, dAnd, dOr, dNot, dIf, dCall, dFn, dCons, dNil, dVar, dOwn, dC, dFz, dBin, dCmp, dChn, dIsiB, bCmp, bChn, bVal, bAnd, bOr, bNot, bYes, dSortK, dPget, dGet, sDput, sExp, dLm, keyD, bCmpL, lk2, fI0, fI, sSeq, sIf, sRet, sRetL, sSet, sPar, sOwn, sFor, sNext, tName, NL.tCons, NL.tNil, tTups, dTup, dLst, dSl, oNo, oIs, fIx, fSl, iA, fAdd_t, fAdd_l, fAdd_s, fAdd_i, fLstOf_t, fLstOf_l, fTupOf_t, fTupOf_l, fLen_t, fLen_l, ofO_some, at0, at1, at2, NL.run, lenN, startN, DEnds.er, List.getElem?_cons_zero, List.getElem?_cons_succ, List.set_cons_zero, List.set_cons_succ, Bool.false_eq_true, if_true, if_false, reduceIte, fEq_ii, fNe_ii, fOrd_ii, fIsi_tt, fIsi_ss, fIsi_st, fIsi_si, lL2, lL3, i22, i33, i23, i32, eq_self]
        refine fEq_s (v := true) (strl "add") (strl "add") (by decide +kernel) ?_
        rw [if_pos rfl]
        exact ⟨hd.1, hd.2.2, q⟩
      rw [aft_add hd.2.2] at q
      simp only [pure1, tab1, dAnd, dOr, dNot, dIf, dCall, dFn, dCons, dNil, dVar, dOwn, dC, dFz, dBin, dCmp, dChn, dIsiB, bCmp, bChn, bVal, bAnd, bOr, bNot, bYes, dSortK, dPget, dGet, sDput, sExp, dLm, keyD, bCmpL, lk2, fI0, fI, sSeq, sIf, sRet, sRetL, sSet, sPar, sOwn, sFor, sNext, tName, NL.tCons, NL.tNil, tTups, dTup, dLst, dSl, oNo, oIs, fIx, fSl, iA, fAdd_t, fAdd_l, fAdd_s, fAdd_i, fLstOf_t, fLstOf_l, fTupOf_t, fTupOf_l, fLen_t, fLen_l, ofO_some, at0, at1, at2, NL.run, lenN, startN, DEnds.er, List.getElem?_cons_zero, List.getElem?_cons_succ, List.set_cons_zero, List.set_cons_succ, Bool.false_eq_true, if_true, if_false, reduceIte, fEq_ii, fNe_ii, fOrd_ii, fIsi_tt, fIsi_ss, fIsi_st, fIsi_si, lL2, lL3, i22, i33, i23, i32, eq_self]
      exact ⟨sizeLine_ge (by simp), sizeLine_ge (by have := hb.len; simp; omega), sizeLine_ge (by simp), q⟩
    | drop i =>
      simp only [LDeed.enc] at q
      refine seqP (fun ρ => ρ = [some (.d (.tup [.tup b, .tup (ms.map wpD)])), some (.d (.tup [.str "drop", .int i])), some (.d (.tup b)), some (.d (.tup (ms.map wpD))), none, none, none, none, none, none]) (fun N hN => ?_) ?_
      · simp only [LDeed.enc, pure1, tab1, dAnd, dOr, dNot, dIf, dCall, dFn, dCons, dNil, dVar, dOwn, dC, dFz, dBin, dCmp, dChn, dIsiB, bCmp, bChn, bVal, bAnd, bOr, bNot, bYes, dSortK, dPget, dGet, sDput, sExp, dLm, keyD, bCmpL, lk2, fI0, fI, sSeq, sIf, sRet, sRetL, sSet, sPar, sOwn, sFor, sNext, tName, NL.tCons, NL.tNil, tTups, dTup, dLst, dSl, oNo, oIs, fIx, fSl, iA, fAdd_t, fAdd_l, fAdd_s, fAdd_i, fLstOf_t, fLstOf_l, fTupOf_t, fTupOf_l, fLen_t, fLen_l, ofO_some, at0, at1, at2, NL.run, lenN, startN, DEnds.er, List.getElem?_cons_zero, List.getElem?_cons_succ, List.set_cons_zero, List.set_cons_succ, Bool.false_eq_true, if_true, if_false, reduceIte, fEq_ii, fNe_ii, fOrd_ii, fIsi_tt, fIsi_ss, fIsi_st, fIsi_si, lL2, lL3, i22, i33, i23, i32, eq_self]
        exact ⟨rfl, hN _ rfl⟩
      rintro _ rfl
      refine skip_if (fun Q X q => ?_) ?_
      · simp only [pure1, tab1, dAnd, dOr, dNot, dIf, dCall, dFn, dCons, dNil, dVar, dOwn, dC, dFz, dBin, dCmp, dChn, dIsiB, bCmp, bChn, bVal, bAnd, bOr, bNot, bYes, dSortK, dPget, dGet, sDput, sExp, dLm, keyD, bCmpL, lk2, fI0, fI, sSeq, sIf, sRet, sRetL, sSet, sPar, sOwn, sFor, sNext, tName, NL.tCons, NL.tNil, tTups, dTup, dLst, dSl, oNo, oIs, fIx, fSl, iA, fAdd_t, fAdd_l, fAdd_s, fAdd_i, fLstOf_t, fLstOf_l, fTupOf_t, fTupOf_l, fLen_t, fLen_l, ofO_some, at0, at1, at2, NL.run, lenN, startN, DEnds.er, List.getElem?_cons_zero, List.getElem?_cons_succ, List.set_cons_zero, List.set_cons_succ, Bool.false_eq_true, if_true, if_false, reduceIte, fEq_ii, fNe_ii, fOrd_ii, fIsi_tt, fIsi_ss, fIsi_st, fIsi_si, lL2, lL3, i22, i33, i23, i32, eq_self]
        exact q
      refine seqP (fun ρ => ρ = [some (.d (.tup [.tup b, .tup (ms.map wpD)])), some (.d (.tup [.str "drop", .int i])), some (.d (.tup b)), some (.d (.tup (ms.map wpD))), some (.d (.str "drop")), some (.d (.lst ((ms.map (·.1)).map D.str))), none, none, none, none]) (fun N hN => ?_) ?_
      · simp only [dLc, pure1, tab1, dAnd, dOr, dNot, dIf, dCall, dFn, dCons, dNil, dVar, dOwn, dC, dFz, dBin, dCmp, dChn, dIsiB, bCmp, bChn, bVal, bAnd, bOr, bNot, bYes, dSortK, dPget, dGet, sDput, sExp, dLm, keyD, bCmpL, lk2, fI0, fI, sSeq, sIf, sRet, sRetL, sSet, sPar, sOwn, sFor, sNext, tName, NL.tCons, NL.tNil, tTups, dTup, dLst, dSl, oNo, oIs, fIx, fSl, iA, fAdd_t, fAdd_l, fAdd_s, fAdd_i, fLstOf_t, fLstOf_l, fTupOf_t, fTupOf_l, fLen_t, fLen_l, ofO_some, at0, at1, at2, NL.run, lenN, startN, DEnds.er, List.getElem?_cons_zero, List.getElem?_cons_succ, List.set_cons_zero, List.set_cons_succ, Bool.false_eq_true, if_true, if_false, reduceIte, fEq_ii, fNe_ii, fOrd_ii, fIsi_tt, fIsi_ss, fIsi_st, fIsi_si, lL2, lL3, i22, i33, i23, i32, eq_self]
        refine lc_map (fun d => match d with | .tup (x :: _) => x | _ => .non) (ms.map wpD) (fun d m A a => ?_) (sizeLine_ge (by have := ok.len; simp; omega)) ?_
        · obtain ⟨p, hp, rfl⟩ := wp_mem m
          simp only [wipeR, List.map_cons, List.map_nil, pure1, tab1, dAnd, dOr, dNot, dIf, dCall, dFn, dCons, dNil, dVar, dOwn, dC, dFz, dBin, dCmp, dChn, dIsiB, bCmp, bChn, bVal, bAnd, bOr, bNot, bYes, dSortK, dPget, dGet, sDput, sExp, dLm, keyD, bCmpL, lk2, fI0, fI, sSeq, sIf, sRet, sRetL, sSet, sPar, sOwn, sFor, sNext, tName, NL.tCons, NL.tNil, tTups, dTup, dLst, dSl, oNo, oIs, fIx, fSl, iA, fAdd_t, fAdd_l, fAdd_s, fAdd_i, fLstOf_t, fLstOf_l, fTupOf_t, fTupOf_l, fLen_t, fLen_l, ofO_some, at0, at1, at2, NL.run, lenN, startN, DEnds.er, List.getElem?_cons_zero, List.getElem?_cons_succ, List.set_cons_zero, List.set_cons_succ, Bool.false_eq_true, if_true, if_false, reduceIte, fEq_ii, fNe_ii, fOrd_ii, fIsi_tt, fIsi_ss, fIsi_st, fIsi_si, lL2, lL3, i22, i33, i23, i32, eq_self]
          exact ⟨rfl, a⟩
        · refine ⟨sizeLine_ge (by simp), rfl, ?_⟩
          have e : (ms.map wpD).map (fun d => match d with | .tup (x :: _) => x | _ => .non) = (ms.map (·.1)).map D.str := by rw [List.map_map, List.map_map]; rfl
          rw [e]
          exact hN _ rfl
      rintro _ rfl
      refine skip_if (fun Q X q => ?_) ?_
      · simp only [pure1, tab1, dAnd, dOr, dNot, dIf, dCall, dFn, dCons, dNil, dVar, dOwn, dC, dFz, dBin, dCmp, dChn, dIsiB, bCmp, bChn, bVal, bAnd, bOr, bNot, bYes, dSortK, dPget, dGet, sDput, sExp, dLm, keyD, bCmpL, lk2, fI0, fI, sSeq, sIf, sRet, sRetL, sSet, sPar, sOwn, sFor, sNext, tName, NL.tCons, NL.tNil, tTups, dTup, dLst, dSl, oNo, oIs, fIx, fSl, iA, fAdd_t, fAdd_l, fAdd_s, fAdd_i, fLstOf_t, fLstOf_l, fTupOf_t, fTupOf_l, fLen_t, fLen_l, ofO_some, at0, at1, at2, NL.run, lenN, startN, DEnds.er, List.getElem?_cons_zero, List.getElem?_cons_succ, List.set_cons_zero, List.set_cons_succ, Bool.false_eq_true, if_true, if_false, reduceIte, fEq_ii, fNe_ii, fOrd_ii, fIsi_tt, fIsi_ss, fIsi_st, fIsi_si, lL2, lL3, i22, i33, i23, i32, eq_self]
        exact fEq_s (v := false) (strl "drop") (strl "add") (by decide +kernel) q
      rw [aft_drop, plcD_int] at q
      by_cases h0 : 0 ≤ i ∧ i < b.length
      · rw [if_pos h0] at q
        refine take_if (fun Q X q => ?_) ?_
        · simp only [pure1, tab1, dAnd, dOr, dNot, dIf, dCall, dFn, dCons, dNil, dVar, dOwn, dC, dFz, dBin, dCmp, dChn, dIsiB, bCmp, bChn, bVal, bAnd, bOr, bNot, bYes, dSortK, dPget, dGet, sDput, sExp, dLm, keyD, bCmpL, lk2, fI0, fI, sSeq, sIf, sRet, sRetL, sSet, sPar, sOwn, sFor, sNext, tName, NL.tCons, NL.tNil, tTups, dTup, dLst, dSl, oNo, oIs, fIx, fSl, iA, fAdd_t, fAdd_l, fAdd_s, fAdd_i, fLstOf_t, fLstOf_l, fTupOf_t, fTupOf_l, fLen_t, fLen_l, ofO_some, at0, at1, at2, NL.run, lenN, startN, DEnds.er, List.getElem?_cons_zero, List.getElem?_cons_succ, List.set_cons_zero, List.set_cons_succ, Bool.false_eq_true, if_true, if_false, reduceIte, fEq_ii, fNe_ii, fOrd_ii, fIsi_tt, fIsi_ss, fIsi_st, fIsi_si, lL2, lL3, i22, i33, i23, i32, eq_self]
          refine fEq_s (v := true) (strl "drop") (strl "drop") (by decide +kernel) ?_
          rw [if_pos rfl]
          refine ⟨rfl, by omega, ?_⟩
          rw [Int.toNat_natCast, plcD_int, if_pos h0]
          exact q
        simp only [pure1, tab1, dAnd, dOr, dNot, dIf, dCall, dFn, dCons, dNil, dVar, dOwn, dC, dFz, dBin, dCmp, dChn, dIsiB, bCmp, bChn, bVal, bAnd, bOr, bNot, bYes, dSortK, dPget, dGet, sDput, sExp, dLm, keyD, bCmpL, lk2, fI0, fI, sSeq, sIf, sRet, sRetL, sSet, sPar, sOwn, sFor, sNext, tName, NL.tCons, NL.tNil, tTups, dTup, dLst, dSl, oNo, oIs, fIx, fSl, iA, fAdd_t, fAdd_l, fAdd_s, fAdd_i, fLstOf_t, fLstOf_l, fTupOf_t, fTupOf_l, fLen_t, fLen_l, ofO_some, at0, at1, at2, NL.run, lenN, startN, DEnds.er, List.getElem?_cons_zero, List.getElem?_cons_succ, List.set_cons_zero, List.set_cons_succ, Bool.false_eq_true, if_true, if_false, reduceIte, fEq_ii, fNe_ii, fOrd_ii, fIsi_tt, fIsi_ss, fIsi_st, fIsi_si, lL2, lL3, i22, i33, i23, i32, eq_self]
        exact ⟨hb, i.toNat, by omega, by omega, sizeLine_ge (by simp), q⟩
      · rw [if_neg h0] at q
        refine skip_if (fun Q X q => ?_) ?_
        · simp only [pure1, tab1, dAnd, dOr, dNot, dIf, dCall, dFn, dCons, dNil, dVar, dOwn, dC, dFz, dBin, dCmp, dChn, dIsiB, bCmp, bChn, bVal, bAnd, bOr, bNot, bYes, dSortK, dPget, dGet, sDput, sExp, dLm, keyD, bCmpL, lk2, fI0, fI, sSeq, sIf, sRet, sRetL, sSet, sPar, sOwn, sFor, sNext, tName, NL.tCons, NL.tNil, tTups, dTup, dLst, dSl, oNo, oIs, fIx, fSl, iA, fAdd_t, fAdd_l, fAdd_s, fAdd_i, fLstOf_t, fLstOf_l, fTupOf_t, fTupOf_l, fLen_t, fLen_l, ofO_some, at0, at1, at2, NL.run, lenN, startN, DEnds.er, List.getElem?_cons_zero, List.getElem?_cons_succ, List.set_cons_zero, List.set_cons_succ, Bool.false_eq_true, if_true, if_false, reduceIte, fEq_ii, fNe_ii, fOrd_ii, fIsi_tt, fIsi_ss, fIsi_st, fIsi_si, lL2, lL3, i22, i33, i23, i32, eq_self]
          refine fEq_s (v := true) (strl "drop") (strl "drop") (by decide +kernel) ?_
          rw [if_pos rfl]
          refine ⟨rfl, by omega, ?_⟩
          rw [Int.toNat_natCast, plcD_int, if_neg h0]
          exact q
        refine skip_if (fun Q X q => ?_) ?_
        · simp only [pure1, tab1, dAnd, dOr, dNot, dIf, dCall, dFn, dCons, dNil, dVar, dOwn, dC, dFz, dBin, dCmp, dChn, dIsiB, bCmp, bChn, bVal, bAnd, bOr, bNot, bYes, dSortK, dPget, dGet, sDput, sExp, dLm, keyD, bCmpL, lk2, fI0, fI, sSeq, sIf, sRet, sRetL, sSet, sPar, sOwn, sFor, sNext, tName, NL.tCons, NL.tNil, tTups, dTup, dLst, dSl, oNo, oIs, fIx, fSl, iA, fAdd_t, fAdd_l, fAdd_s, fAdd_i, fLstOf_t, fLstOf_l, fTupOf_t, fTupOf_l, fLen_t, fLen_l, ofO_some, at0, at1, at2, NL.run, lenN, startN, DEnds.er, List.getElem?_cons_zero, List.getElem?_cons_succ, List.set_cons_zero, List.set_cons_succ, Bool.false_eq_true, if_true, if_false, reduceIte, fEq_ii, fNe_ii, fOrd_ii, fIsi_tt, fIsi_ss, fIsi_st, fIsi_si, lL2, lL3, i22, i33, i23, i32, eq_self]
          exact fEq_s (v := false) (strl "drop") (strl "put") (by decide +kernel) q
        refine skip_if (fun Q X q => ?_) ?_
        · simp only [pure1, tab1, dAnd, dOr, dNot, dIf, dCall, dFn, dCons, dNil, dVar, dOwn, dC, dFz, dBin, dCmp, dChn, dIsiB, bCmp, bChn, bVal, bAnd, bOr, bNot, bYes, dSortK, dPget, dGet, sDput, sExp, dLm, keyD, bCmpL, lk2, fI0, fI, sSeq, sIf, sRet, sRetL, sSet, sPar, sOwn, sFor, sNext, tName, NL.tCons, NL.tNil, tTups, dTup, dLst, dSl, oNo, oIs, fIx, fSl, iA, fAdd_t, fAdd_l, fAdd_s, fAdd_i, fLstOf_t, fLstOf_l, fTupOf_t, fTupOf_l, fLen_t, fLen_l, ofO_some, at0, at1, at2, NL.run, lenN, startN, DEnds.er, List.getElem?_cons_zero, List.getElem?_cons_succ, List.set_cons_zero, List.set_cons_succ, Bool.false_eq_true, if_true, if_false, reduceIte, fEq_ii, fNe_ii, fOrd_ii, fIsi_tt, fIsi_ss, fIsi_st, fIsi_si, lL2, lL3, i22, i33, i23, i32, eq_self]
          exact fEq_s (v := false) (strl "drop") (strl "mark") (by decide +kernel) q
        refine take_if (fun Q X q => ?_) ?_
        · simp only [dLc, pure1, tab1, dAnd, dOr, dNot, dIf, dCall, dFn, dCons, dNil, dVar, dOwn, dC, dFz, dBin, dCmp, dChn, dIsiB, bCmp, bChn, bVal, bAnd, bOr, bNot, bYes, dSortK, dPget, dGet, sDput, sExp, dLm, keyD, bCmpL, lk2, fI0, fI, sSeq, sIf, sRet, sRetL, sSet, sPar, sOwn, sFor, sNext, tName, NL.tCons, NL.tNil, tTups, dTup, dLst, dSl, oNo, oIs, fIx, fSl, iA, fAdd_t, fAdd_l, fAdd_s, fAdd_i, fLstOf_t, fLstOf_l, fTupOf_t, fTupOf_l, fLen_t, fLen_l, ofO_some, at0, at1, at2, NL.run, lenN, startN, DEnds.er, List.getElem?_cons_zero, List.getElem?_cons_succ, List.set_cons_zero, List.set_cons_succ, Bool.false_eq_true, if_true, if_false, reduceIte, fEq_ii, fNe_ii, fOrd_ii, fIsi_tt, fIsi_ss, fIsi_st, fIsi_si, lL2, lL3, i22, i33, i23, i32, eq_self]
          rw [cut1]
          refine lc_fm (pW ms) id [.int i] (fun d m A N h1 h2 => ?_) (sizeLine_ge (by simp)) ?_
          · simp only [List.mem_cons, List.not_mem_nil, or_false] at m
            subst m
            simp only [wipeR, List.map_cons, List.map_nil, pure1, tab1, dAnd, dOr, dNot, dIf, dCall, dFn, dCons, dNil, dVar, dOwn, dC, dFz, dBin, dCmp, dChn, dIsiB, bCmp, bChn, bVal, bAnd, bOr, bNot, bYes, dSortK, dPget, dGet, sDput, sExp, dLm, keyD, bCmpL, lk2, fI0, fI, sSeq, sIf, sRet, sRetL, sSet, sPar, sOwn, sFor, sNext, tName, NL.tCons, NL.tNil, tTups, dTup, dLst, dSl, oNo, oIs, fIx, fSl, iA, fAdd_t, fAdd_l, fAdd_s, fAdd_i, fLstOf_t, fLstOf_l, fTupOf_t, fTupOf_l, fLen_t, fLen_l, ofO_some, at0, at1, at2, NL.run, lenN, startN, DEnds.er, List.getElem?_cons_zero, List.getElem?_cons_succ, List.set_cons_zero, List.set_cons_succ, Bool.false_eq_true, if_true, if_false, reduceIte, fEq_ii, fNe_ii, fOrd_ii, fIsi_tt, fIsi_ss, fIsi_st, fIsi_si, lL2, lL3, i22, i33, i23, i32, eq_self]
            exact h1 rfl
          · have hf : Ax 3 (List.filter (pW ms) [.int i]) := Ax.filter ⟨by simp, fun a m => by rw [List.mem_singleton.mp m]; exact ⟨good_int _, by simp [dep, D.py, PyData.depth]⟩⟩ _
            simp only [List.map_id, List.nil_append]
            refine ⟨sizeLine_ge (by simp), hf.good.2, (Ax.nil).good.2, ?_⟩
            rw [eqD_lst, nil_eq, show List.filter (pW ms) [.int i] = [.int i] from by rfl]
            exact q
        exact q
    | put i x =>
      simp only [LDeed.enc] at q
      refine seqP (fun ρ => ρ = [some (.d (.tup [.tup b, .tup (ms.map wpD)])), some (.d (.tup [.str "put", .int i, x])), some (.d (.tup b)), some (.d (.tup (ms.map wpD))), none, none, none, none, none, none]) (fun N hN => ?_) ?_
      · simp only [LDeed.enc, pure1, tab1, dAnd, dOr, dNot, dIf, dCall, dFn, dCons, dNil, dVar, dOwn, dC, dFz, dBin, dCmp, dChn, dIsiB, bCmp, bChn, bVal, bAnd, bOr, bNot, bYes, dSortK, dPget, dGet, sDput, sExp, dLm, keyD, bCmpL, lk2, fI0, fI, sSeq, sIf, sRet, sRetL, sSet, sPar, sOwn, sFor, sNext, tName, NL.tCons, NL.tNil, tTups, dTup, dLst, dSl, oNo, oIs, fIx, fSl, iA, fAdd_t, fAdd_l, fAdd_s, fAdd_i, fLstOf_t, fLstOf_l, fTupOf_t, fTupOf_l, fLen_t, fLen_l, ofO_some, at0, at1, at2, NL.run, lenN, startN, DEnds.er, List.getElem?_cons_zero, List.getElem?_cons_succ, List.set_cons_zero, List.set_cons_succ, Bool.false_eq_true, if_true, if_false, reduceIte, fEq_ii, fNe_ii, fOrd_ii, fIsi_tt, fIsi_ss, fIsi_st, fIsi_si, lL2, lL3, i22, i33, i23, i32, eq_self]
        exact ⟨rfl, hN _ rfl⟩
      rintro _ rfl
      refine skip_if (fun Q X q => ?_) ?_
      · simp only [pure1, tab1, dAnd, dOr, dNot, dIf, dCall, dFn, dCons, dNil, dVar, dOwn, dC, dFz, dBin, dCmp, dChn, dIsiB, bCmp, bChn, bVal, bAnd, bOr, bNot, bYes, dSortK, dPget, dGet, sDput, sExp, dLm, keyD, bCmpL, lk2, fI0, fI, sSeq, sIf, sRet, sRetL, sSet, sPar, sOwn, sFor, sNext, tName, NL.tCons, NL.tNil, tTups, dTup, dLst, dSl, oNo, oIs, fIx, fSl, iA, fAdd_t, fAdd_l, fAdd_s, fAdd_i, fLstOf_t, fLstOf_l, fTupOf_t, fTupOf_l, fLen_t, fLen_l, ofO_some, at0, at1, at2, NL.run, lenN, startN, DEnds.er, List.getElem?_cons_zero, List.getElem?_cons_succ, List.set_cons_zero, List.set_cons_succ, Bool.false_eq_true, if_true, if_false, reduceIte, fEq_ii, fNe_ii, fOrd_ii, fIsi_tt, fIsi_ss, fIsi_st, fIsi_si, lL2, lL3, i22, i33, i23, i32, eq_self]
        exact q
      refine seqP (fun ρ => ρ = [some (.d (.tup [.tup b, .tup (ms.map wpD)])), some (.d (.tup [.str "put", .int i, x])), some (.d (.tup b)), some (.d (.tup (ms.map wpD))), some (.d (.str "put")), some (.d (.lst ((ms.map (·.1)).map D.str))), none, none, none, none]) (fun N hN => ?_) ?_
      · simp only [dLc, pure1, tab1, dAnd, dOr, dNot, dIf, dCall, dFn, dCons, dNil, dVar, dOwn, dC, dFz, dBin, dCmp, dChn, dIsiB, bCmp, bChn, bVal, bAnd, bOr, bNot, bYes, dSortK, dPget, dGet, sDput, sExp, dLm, keyD, bCmpL, lk2, fI0, fI, sSeq, sIf, sRet, sRetL, sSet, sPar, sOwn, sFor, sNext, tName, NL.tCons, NL.tNil, tTups, dTup, dLst, dSl, oNo, oIs, fIx, fSl, iA, fAdd_t, fAdd_l, fAdd_s, fAdd_i, fLstOf_t, fLstOf_l, fTupOf_t, fTupOf_l, fLen_t, fLen_l, ofO_some, at0, at1, at2, NL.run, lenN, startN, DEnds.er, List.getElem?_cons_zero, List.getElem?_cons_succ, List.set_cons_zero, List.set_cons_succ, Bool.false_eq_true, if_true, if_false, reduceIte, fEq_ii, fNe_ii, fOrd_ii, fIsi_tt, fIsi_ss, fIsi_st, fIsi_si, lL2, lL3, i22, i33, i23, i32, eq_self]
        refine lc_map (fun d => match d with | .tup (x :: _) => x | _ => .non) (ms.map wpD) (fun d m A a => ?_) (sizeLine_ge (by have := ok.len; simp; omega)) ?_
        · obtain ⟨p, hp, rfl⟩ := wp_mem m
          simp only [wipeR, List.map_cons, List.map_nil, pure1, tab1, dAnd, dOr, dNot, dIf, dCall, dFn, dCons, dNil, dVar, dOwn, dC, dFz, dBin, dCmp, dChn, dIsiB, bCmp, bChn, bVal, bAnd, bOr, bNot, bYes, dSortK, dPget, dGet, sDput, sExp, dLm, keyD, bCmpL, lk2, fI0, fI, sSeq, sIf, sRet, sRetL, sSet, sPar, sOwn, sFor, sNext, tName, NL.tCons, NL.tNil, tTups, dTup, dLst, dSl, oNo, oIs, fIx, fSl, iA, fAdd_t, fAdd_l, fAdd_s, fAdd_i, fLstOf_t, fLstOf_l, fTupOf_t, fTupOf_l, fLen_t, fLen_l, ofO_some, at0, at1, at2, NL.run, lenN, startN, DEnds.er, List.getElem?_cons_zero, List.getElem?_cons_succ, List.set_cons_zero, List.set_cons_succ, Bool.false_eq_true, if_true, if_false, reduceIte, fEq_ii, fNe_ii, fOrd_ii, fIsi_tt, fIsi_ss, fIsi_st, fIsi_si, lL2, lL3, i22, i33, i23, i32, eq_self]
          exact ⟨rfl, a⟩
        · refine ⟨sizeLine_ge (by simp), rfl, ?_⟩
          have e : (ms.map wpD).map (fun d => match d with | .tup (x :: _) => x | _ => .non) = (ms.map (·.1)).map D.str := by rw [List.map_map, List.map_map]; rfl
          rw [e]
          exact hN _ rfl
      rintro _ rfl
      refine skip_if (fun Q X q => ?_) ?_
      · simp only [pure1, tab1, dAnd, dOr, dNot, dIf, dCall, dFn, dCons, dNil, dVar, dOwn, dC, dFz, dBin, dCmp, dChn, dIsiB, bCmp, bChn, bVal, bAnd, bOr, bNot, bYes, dSortK, dPget, dGet, sDput, sExp, dLm, keyD, bCmpL, lk2, fI0, fI, sSeq, sIf, sRet, sRetL, sSet, sPar, sOwn, sFor, sNext, tName, NL.tCons, NL.tNil, tTups, dTup, dLst, dSl, oNo, oIs, fIx, fSl, iA, fAdd_t, fAdd_l, fAdd_s, fAdd_i, fLstOf_t, fLstOf_l, fTupOf_t, fTupOf_l, fLen_t, fLen_l, ofO_some, at0, at1, at2, NL.run, lenN, startN, DEnds.er, List.getElem?_cons_zero, List.getElem?_cons_succ, List.set_cons_zero, List.set_cons_succ, Bool.false_eq_true, if_true, if_false, reduceIte, fEq_ii, fNe_ii, fOrd_ii, fIsi_tt, fIsi_ss, fIsi_st, fIsi_si, lL2, lL3, i22, i33, i23, i32, eq_self]
        exact fEq_s (v := false) (strl "put") (strl "add") (by decide +kernel) q
      refine skip_if (fun Q X q => ?_) ?_
      · simp only [pure1, tab1, dAnd, dOr, dNot, dIf, dCall, dFn, dCons, dNil, dVar, dOwn, dC, dFz, dBin, dCmp, dChn, dIsiB, bCmp, bChn, bVal, bAnd, bOr, bNot, bYes, dSortK, dPget, dGet, sDput, sExp, dLm, keyD, bCmpL, lk2, fI0, fI, sSeq, sIf, sRet, sRetL, sSet, sPar, sOwn, sFor, sNext, tName, NL.tCons, NL.tNil, tTups, dTup, dLst, dSl, oNo, oIs, fIx, fSl, iA, fAdd_t, fAdd_l, fAdd_s, fAdd_i, fLstOf_t, fLstOf_l, fTupOf_t, fTupOf_l, fLen_t, fLen_l, ofO_some, at0, at1, at2, NL.run, lenN, startN, DEnds.er, List.getElem?_cons_zero, List.getElem?_cons_succ, List.set_cons_zero, List.set_cons_succ, Bool.false_eq_true, if_true, if_false, reduceIte, fEq_ii, fNe_ii, fOrd_ii, fIsi_tt, fIsi_ss, fIsi_st, fIsi_si, lL2, lL3, i22, i33, i23, i32, eq_self]
        exact fEq_s (v := false) (strl "put") (strl "drop") (by decide +kernel) q
      rw [aft_put hd.2.2, plcD_int] at q
      by_cases h0 : 0 ≤ i ∧ i < b.length
      · rw [if_pos h0] at q
        refine take_if (fun Q X q => ?_) ?_
        · simp only [pure1, tab1, dAnd, dOr, dNot, dIf, dCall, dFn, dCons, dNil, dVar, dOwn, dC, dFz, dBin, dCmp, dChn, dIsiB, bCmp, bChn, bVal, bAnd, bOr, bNot, bYes, dSortK, dPget, dGet, sDput, sExp, dLm, keyD, bCmpL, lk2, fI0, fI, sSeq, sIf, sRet, sRetL, sSet, sPar, sOwn, sFor, sNext, tName, NL.tCons, NL.tNil, tTups, dTup, dLst, dSl, oNo, oIs, fIx, fSl, iA, fAdd_t, fAdd_l, fAdd_s, fAdd_i, fLstOf_t, fLstOf_l, fTupOf_t, fTupOf_l, fLen_t, fLen_l, ofO_some, at0, at1, at2, NL.run, lenN, startN, DEnds.er, List.getElem?_cons_zero, List.getElem?_cons_succ, List.set_cons_zero, List.set_cons_succ, Bool.false_eq_true, if_true, if_false, reduceIte, fEq_ii, fNe_ii, fOrd_ii, fIsi_tt, fIsi_ss, fIsi_st, fIsi_si, lL2, lL3, i22, i33, i23, i32, eq_self]
          refine fEq_s (v := true) (strl "put") (strl "put") (by decide +kernel) ?_
          rw [if_pos rfl]
          refine ⟨rfl, by omega, ?_⟩
          rw [Int.toNat_natCast, plcD_int, if_pos h0]
          exact ⟨hd.1, hd.2.2, q⟩
        obtain ⟨n, rfl⟩ := Int.eq_ofNat_of_zero_le h0.1
        have hn : n < b.length := by omega
        simp only [pure1, tab1, dAnd, dOr, dNot, dIf, dCall, dFn, dCons, dNil, dVar, dOwn, dC, dFz, dBin, dCmp, dChn, dIsiB, bCmp, bChn, bVal, bAnd, bOr, bNot, bYes, dSortK, dPget, dGet, sDput, sExp, dLm, keyD, bCmpL, lk2, fI0, fI, sSeq, sIf, sRet, sRetL, sSet, sPar, sOwn, sFor, sNext, tName, NL.tCons, NL.tNil, tTups, dTup, dLst, dSl, oNo, oIs, fIx, fSl, iA, fAdd_t, fAdd_l, fAdd_s, fAdd_i, fLstOf_t, fLstOf_l, fTupOf_t, fTupOf_l, fLen_t, fLen_l, ofO_some, at0, at1, at2, NL.run, lenN, startN, DEnds.er, List.getElem?_cons_zero, List.getElem?_cons_succ, List.set_cons_zero, List.set_cons_succ, Bool.false_eq_true, if_true, if_false, reduceIte, fEq_ii, fNe_ii, fOrd_ii, fIsi_tt, fIsi_ss, fIsi_st, fIsi_si, lL2, lL3, i22, i33, i23, i32, eq_self]
        rw [show ((n : Int) + 1) = ((n + 1 : Nat) : Int) from rfl, cut_take n (by omega), cut_drop]
        exact ⟨sizeLine_ge (by simp), sizeLine_ge (by have := hb.len; simp; omega), sizeLine_ge (by have := hb.len; simp; omega), sizeLine_ge (by simp), q⟩
      · rw [if_neg h0] at q
        refine skip_if (fun Q X q => ?_) ?_
        · simp only [pure1, tab1, dAnd, dOr, dNot, dIf, dCall, dFn, dCons, dNil, dVar, dOwn, dC, dFz, dBin, dCmp, dChn, dIsiB, bCmp, bChn, bVal, bAnd, bOr, bNot, bYes, dSortK, dPget, dGet, sDput, sExp, dLm, keyD, bCmpL, lk2, fI0, fI, sSeq, sIf, sRet, sRetL, sSet, sPar, sOwn, sFor, sNext, tName, NL.tCons, NL.tNil, tTups, dTup, dLst, dSl, oNo, oIs, fIx, fSl, iA, fAdd_t, fAdd_l, fAdd_s, fAdd_i, fLstOf_t, fLstOf_l, fTupOf_t, fTupOf_l, fLen_t, fLen_l, ofO_some, at0, at1, at2, NL.run, lenN, startN, DEnds.er, List.getElem?_cons_zero, List.getElem?_cons_succ, List.set_cons_zero, List.set_cons_succ, Bool.false_eq_true, if_true, if_false, reduceIte, fEq_ii, fNe_ii, fOrd_ii, fIsi_tt, fIsi_ss, fIsi_st, fIsi_si, lL2, lL3, i22, i33, i23, i32, eq_self]
          refine fEq_s (v := true) (strl "put") (strl "put") (by decide +kernel) ?_
          rw [if_pos rfl]
          refine ⟨rfl, by omega, ?_⟩
          rw [Int.toNat_natCast, plcD_int, if_neg h0]
          exact q
        refine skip_if (fun Q X q => ?_) ?_
        · simp only [pure1, tab1, dAnd, dOr, dNot, dIf, dCall, dFn, dCons, dNil, dVar, dOwn, dC, dFz, dBin, dCmp, dChn, dIsiB, bCmp, bChn, bVal, bAnd, bOr, bNot, bYes, dSortK, dPget, dGet, sDput, sExp, dLm, keyD, bCmpL, lk2, fI0, fI, sSeq, sIf, sRet, sRetL, sSet, sPar, sOwn, sFor, sNext, tName, NL.tCons, NL.tNil, tTups, dTup, dLst, dSl, oNo, oIs, fIx, fSl, iA, fAdd_t, fAdd_l, fAdd_s, fAdd_i, fLstOf_t, fLstOf_l, fTupOf_t, fTupOf_l, fLen_t, fLen_l, ofO_some, at0, at1, at2, NL.run, lenN, startN, DEnds.er, List.getElem?_cons_zero, List.getElem?_cons_succ, List.set_cons_zero, List.set_cons_succ, Bool.false_eq_true, if_true, if_false, reduceIte, fEq_ii, fNe_ii, fOrd_ii, fIsi_tt, fIsi_ss, fIsi_st, fIsi_si, lL2, lL3, i22, i33, i23, i32, eq_self]
          exact fEq_s (v := false) (strl "put") (strl "mark") (by decide +kernel) q
        have hx := hd.2.2
        refine take_if (fun Q X q => ?_) ?_
        · simp only [dLc, pure1, tab1, dAnd, dOr, dNot, dIf, dCall, dFn, dCons, dNil, dVar, dOwn, dC, dFz, dBin, dCmp, dChn, dIsiB, bCmp, bChn, bVal, bAnd, bOr, bNot, bYes, dSortK, dPget, dGet, sDput, sExp, dLm, keyD, bCmpL, lk2, fI0, fI, sSeq, sIf, sRet, sRetL, sSet, sPar, sOwn, sFor, sNext, tName, NL.tCons, NL.tNil, tTups, dTup, dLst, dSl, oNo, oIs, fIx, fSl, iA, fAdd_t, fAdd_l, fAdd_s, fAdd_i, fLstOf_t, fLstOf_l, fTupOf_t, fTupOf_l, fLen_t, fLen_l, ofO_some, at0, at1, at2, NL.run, lenN, startN, DEnds.er, List.getElem?_cons_zero, List.getElem?_cons_succ, List.set_cons_zero, List.set_cons_succ, Bool.false_eq_true, if_true, if_false, reduceIte, fEq_ii, fNe_ii, fOrd_ii, fIsi_tt, fIsi_ss, fIsi_st, fIsi_si, lL2, lL3, i22, i33, i23, i32, eq_self]
          rw [cut1]
          refine lc_fm (pW ms) id [.int i, x] (fun d m A N h1 h2 => ?_) (sizeLine_ge (by simp)) ?_
          · simp only [List.mem_cons, List.not_mem_nil, or_false] at m
            rcases m with rfl | rfl
            · simp only [wipeR, List.map_cons, List.map_nil, pure1, tab1, dAnd, dOr, dNot, dIf, dCall, dFn, dCons, dNil, dVar, dOwn, dC, dFz, dBin, dCmp, dChn, dIsiB, bCmp, bChn, bVal, bAnd, bOr, bNot, bYes, dSortK, dPget, dGet, sDput, sExp, dLm, keyD, bCmpL, lk2, fI0, fI, sSeq, sIf, sRet, sRetL, sSet, sPar, sOwn, sFor, sNext, tName, NL.tCons, NL.tNil, tTups, dTup, dLst, dSl, oNo, oIs, fIx, fSl, iA, fAdd_t, fAdd_l, fAdd_s, fAdd_i, fLstOf_t, fLstOf_l, fTupOf_t, fTupOf_l, fLen_t, fLen_l, ofO_some, at0, at1, at2, NL.run, lenN, startN, DEnds.er, List.getElem?_cons_zero, List.getElem?_cons_succ, List.set_cons_zero, List.set_cons_succ, Bool.false_eq_true, if_true, if_false, reduceIte, fEq_ii, fNe_ii, fOrd_ii, fIsi_tt, fIsi_ss, fIsi_st, fIsi_si, lL2, lL3, i22, i33, i23, i32, eq_self]
              exact h1 rfl
            · simp only [wipeR, List.map_cons, List.map_nil, pure1, tab1, dAnd, dOr, dNot, dIf, dCall, dFn, dCons, dNil, dVar, dOwn, dC, dFz, dBin, dCmp, dChn, dIsiB, bCmp, bChn, bVal, bAnd, bOr, bNot, bYes, dSortK, dPget, dGet, sDput, sExp, dLm, keyD, bCmpL, lk2, fI0, fI, sSeq, sIf, sRet, sRetL, sSet, sPar, sOwn, sFor, sNext, tName, NL.tCons, NL.tNil, tTups, dTup, dLst, dSl, oNo, oIs, fIx, fSl, iA, fAdd_t, fAdd_l, fAdd_s, fAdd_i, fLstOf_t, fLstOf_l, fTupOf_t, fTupOf_l, fLen_t, fLen_l, ofO_some, at0, at1, at2, NL.run, lenN, startN, DEnds.er, List.getElem?_cons_zero, List.getElem?_cons_succ, List.set_cons_zero, List.set_cons_succ, Bool.false_eq_true, if_true, if_false, reduceIte, fEq_ii, fNe_ii, fOrd_ii, fIsi_tt, fIsi_ss, fIsi_st, fIsi_si, lL2, lL3, i22, i33, i23, i32, eq_self]
              obtain ⟨l, r, rfl, _, _⟩ := sen_inv hx
              rw [fIsi_st]
              exact h1 rfl
          · have hf : Ax 3 (List.filter (pW ms) [.int i, x]) := Ax.filter ⟨by simp, fun a m => by
            simp only [List.mem_cons, List.not_mem_nil, or_false] at m
            rcases m with rfl | rfl
            · exact ⟨good_int _, by simp [dep, D.py, PyData.depth]⟩
            · exact ⟨hd.1, hd.2.1⟩⟩ _
            simp only [List.map_id, List.nil_append]
            refine ⟨sizeLine_ge (by simp), hf.good.2, (Ax.nil).good.2, ?_⟩
            rw [eqD_lst, nil_eq, show List.filter (pW ms) [.int i, x] = [.int i, x] from by obtain ⟨l, r, rfl, _, _⟩ := sen_inv hx; rfl]
            exact q
        exact q
    | mark w =>
      simp only [LDeed.enc] at q
      refine seqP (fun ρ => ρ = [some (.d (.tup [.tup b, .tup (ms.map wpD)])), some (.d (.tup [.str "mark", .str w])), some (.d (.tup b)), some (.d (.tup (ms.map wpD))), none, none, none, none, none, none]) (fun N hN => ?_) ?_
      · simp only [LDeed.enc, pure1, tab1, dAnd, dOr, dNot, dIf, dCall, dFn, dCons, dNil, dVar, dOwn, dC, dFz, dBin, dCmp, dChn, dIsiB, bCmp, bChn, bVal, bAnd, bOr, bNot, bYes, dSortK, dPget, dGet, sDput, sExp, dLm, keyD, bCmpL, lk2, fI0, fI, sSeq, sIf, sRet, sRetL, sSet, sPar, sOwn, sFor, sNext, tName, NL.tCons, NL.tNil, tTups, dTup, dLst, dSl, oNo, oIs, fIx, fSl, iA, fAdd_t, fAdd_l, fAdd_s, fAdd_i, fLstOf_t, fLstOf_l, fTupOf_t, fTupOf_l, fLen_t, fLen_l, ofO_some, at0, at1, at2, NL.run, lenN, startN, DEnds.er, List.getElem?_cons_zero, List.getElem?_cons_succ, List.set_cons_zero, List.set_cons_succ, Bool.false_eq_true, if_true, if_false, reduceIte, fEq_ii, fNe_ii, fOrd_ii, fIsi_tt, fIsi_ss, fIsi_st, fIsi_si, lL2, lL3, i22, i33, i23, i32, eq_self]
        exact ⟨rfl, hN _ rfl⟩
      rintro _ rfl
      refine skip_if (fun Q X q => ?_) ?_
      · simp only [pure1, tab1, dAnd, dOr, dNot, dIf, dCall, dFn, dCons, dNil, dVar, dOwn, dC, dFz, dBin, dCmp, dChn, dIsiB, bCmp, bChn, bVal, bAnd, bOr, bNot, bYes, dSortK, dPget, dGet, sDput, sExp, dLm, keyD, bCmpL, lk2, fI0, fI, sSeq, sIf, sRet, sRetL, sSet, sPar, sOwn, sFor, sNext, tName, NL.tCons, NL.tNil, tTups, dTup, dLst, dSl, oNo, oIs, fIx, fSl, iA, fAdd_t, fAdd_l, fAdd_s, fAdd_i, fLstOf_t, fLstOf_l, fTupOf_t, fTupOf_l, fLen_t, fLen_l, ofO_some, at0, at1, at2, NL.run, lenN, startN, DEnds.er, List.getElem?_cons_zero, List.getElem?_cons_succ, List.set_cons_zero, List.set_cons_succ, Bool.false_eq_true, if_true, if_false, reduceIte, fEq_ii, fNe_ii, fOrd_ii, fIsi_tt, fIsi_ss, fIsi_st, fIsi_si, lL2, lL3, i22, i33, i23, i32, eq_self]
        exact q
      refine seqP (fun ρ => ρ = [some (.d (.tup [.tup b, .tup (ms.map wpD)])), some (.d (.tup [.str "mark", .str w])), some (.d (.tup b)), some (.d (.tup (ms.map wpD))), some (.d (.str "mark")), some (.d (.lst ((ms.map (·.1)).map D.str))), none, none, none, none]) (fun N hN => ?_) ?_
      · simp only [dLc, pure1, tab1, dAnd, dOr, dNot, dIf, dCall, dFn, dCons, dNil, dVar, dOwn, dC, dFz, dBin, dCmp, dChn, dIsiB, bCmp, bChn, bVal, bAnd, bOr, bNot, bYes, dSortK, dPget, dGet, sDput, sExp, dLm, keyD, bCmpL, lk2, fI0, fI, sSeq, sIf, sRet, sRetL, sSet, sPar, sOwn, sFor, sNext, tName, NL.tCons, NL.tNil, tTups, dTup, dLst, dSl, oNo, oIs, fIx, fSl, iA, fAdd_t, fAdd_l, fAdd_s, fAdd_i, fLstOf_t, fLstOf_l, fTupOf_t, fTupOf_l, fLen_t, fLen_l, ofO_some, at0, at1, at2, NL.run, lenN, startN, DEnds.er, List.getElem?_cons_zero, List.getElem?_cons_succ, List.set_cons_zero, List.set_cons_succ, Bool.false_eq_true, if_true, if_false, reduceIte, fEq_ii, fNe_ii, fOrd_ii, fIsi_tt, fIsi_ss, fIsi_st, fIsi_si, lL2, lL3, i22, i33, i23, i32, eq_self]
        refine lc_map (fun d => match d with | .tup (x :: _) => x | _ => .non) (ms.map wpD) (fun d m A a => ?_) (sizeLine_ge (by have := ok.len; simp; omega)) ?_
        · obtain ⟨p, hp, rfl⟩ := wp_mem m
          simp only [wipeR, List.map_cons, List.map_nil, pure1, tab1, dAnd, dOr, dNot, dIf, dCall, dFn, dCons, dNil, dVar, dOwn, dC, dFz, dBin, dCmp, dChn, dIsiB, bCmp, bChn, bVal, bAnd, bOr, bNot, bYes, dSortK, dPget, dGet, sDput, sExp, dLm, keyD, bCmpL, lk2, fI0, fI, sSeq, sIf, sRet, sRetL, sSet, sPar, sOwn, sFor, sNext, tName, NL.tCons, NL.tNil, tTups, dTup, dLst, dSl, oNo, oIs, fIx, fSl, iA, fAdd_t, fAdd_l, fAdd_s, fAdd_i, fLstOf_t, fLstOf_l, fTupOf_t, fTupOf_l, fLen_t, fLen_l, ofO_some, at0, at1, at2, NL.run, lenN, startN, DEnds.er, List.getElem?_cons_zero, List.getElem?_cons_succ, List.set_cons_zero, List.set_cons_succ, Bool.false_eq_true, if_true, if_false, reduceIte, fEq_ii, fNe_ii, fOrd_ii, fIsi_tt, fIsi_ss, fIsi_st, fIsi_si, lL2, lL3, i22, i33, i23, i32, eq_self]
          exact ⟨rfl, a⟩
        · refine ⟨sizeLine_ge (by simp), rfl, ?_⟩
          have e : (ms.map wpD).map (fun d => match d with | .tup (x :: _) => x | _ => .non) = (ms.map (·.1)).map D.str := by rw [List.map_map, List.map_map]; rfl
          rw [e]
          exact hN _ rfl
      rintro _ rfl
      refine skip_if (fun Q X q => ?_) ?_
      · simp only [pure1, tab1, dAnd, dOr, dNot, dIf, dCall, dFn, dCons, dNil, dVar, dOwn, dC, dFz, dBin, dCmp, dChn, dIsiB, bCmp, bChn, bVal, bAnd, bOr, bNot, bYes, dSortK, dPget, dGet, sDput, sExp, dLm, keyD, bCmpL, lk2, fI0, fI, sSeq, sIf, sRet, sRetL, sSet, sPar, sOwn, sFor, sNext, tName, NL.tCons, NL.tNil, tTups, dTup, dLst, dSl, oNo, oIs, fIx, fSl, iA, fAdd_t, fAdd_l, fAdd_s, fAdd_i, fLstOf_t, fLstOf_l, fTupOf_t, fTupOf_l, fLen_t, fLen_l, ofO_some, at0, at1, at2, NL.run, lenN, startN, DEnds.er, List.getElem?_cons_zero, List.getElem?_cons_succ, List.set_cons_zero, List.set_cons_succ, Bool.false_eq_true, if_true, if_false, reduceIte, fEq_ii, fNe_ii, fOrd_ii, fIsi_tt, fIsi_ss, fIsi_st, fIsi_si, lL2, lL3, i22, i33, i23, i32, eq_self]
        exact fEq_s (v := false) (strl "mark") (strl "add") (by decide +kernel) q
      refine skip_if (fun Q X q => ?_) ?_
      · simp only [pure1, tab1, dAnd, dOr, dNot, dIf, dCall, dFn, dCons, dNil, dVar, dOwn, dC, dFz, dBin, dCmp, dChn, dIsiB, bCmp, bChn, bVal, bAnd, bOr, bNot, bYes, dSortK, dPget, dGet, sDput, sExp, dLm, keyD, bCmpL, lk2, fI0, fI, sSeq, sIf, sRet, sRetL, sSet, sPar, sOwn, sFor, sNext, tName, NL.tCons, NL.tNil, tTups, dTup, dLst, dSl, oNo, oIs, fIx, fSl, iA, fAdd_t, fAdd_l, fAdd_s, fAdd_i, fLstOf_t, fLstOf_l, fTupOf_t, fTupOf_l, fLen_t, fLen_l, ofO_some, at0, at1, at2, NL.run, lenN, startN, DEnds.er, List.getElem?_cons_zero, List.getElem?_cons_succ, List.set_cons_zero, List.set_cons_succ, Bool.false_eq_true, if_true, if_false, reduceIte, fEq_ii, fNe_ii, fOrd_ii, fIsi_tt, fIsi_ss, fIsi_st, fIsi_si, lL2, lL3, i22, i33, i23, i32, eq_self]
        exact fEq_s (v := false) (strl "mark") (strl "drop") (by decide +kernel) q
      refine skip_if (fun Q X q => ?_) ?_
      · simp only [pure1, tab1, dAnd, dOr, dNot, dIf, dCall, dFn, dCons, dNil, dVar, dOwn, dC, dFz, dBin, dCmp, dChn, dIsiB, bCmp, bChn, bVal, bAnd, bOr, bNot, bYes, dSortK, dPget, dGet, sDput, sExp, dLm, keyD, bCmpL, lk2, fI0, fI, sSeq, sIf, sRet, sRetL, sSet, sPar, sOwn, sFor, sNext, tName, NL.tCons, NL.tNil, tTups, dTup, dLst, dSl, oNo, oIs, fIx, fSl, iA, fAdd_t, fAdd_l, fAdd_s, fAdd_i, fLstOf_t, fLstOf_l, fTupOf_t, fTupOf_l, fLen_t, fLen_l, ofO_some, at0, at1, at2, NL.run, lenN, startN, DEnds.er, List.getElem?_cons_zero, List.getElem?_cons_succ, List.set_cons_zero, List.set_cons_succ, Bool.false_eq_true, if_true, if_false, reduceIte, fEq_ii, fNe_ii, fOrd_ii, fIsi_tt, fIsi_ss, fIsi_st, fIsi_si, lL2, lL3, i22, i33, i23, i32, eq_self]
        exact fEq_s (v := false) (strl "mark") (strl "put") (by decide +kernel) q
      rw [aft_mark hd.2] at q
      refine take_if (fun Q X q => ?_) ?_
      · simp only [pure1, tab1, dAnd, dOr, dNot, dIf, dCall, dFn, dCons, dNil, dVar, dOwn, dC, dFz, dBin, dCmp, dChn, dIsiB, bCmp, bChn, bVal, bAnd, bOr, bNot, bYes, dSortK, dPget, dGet, sDput, sExp, dLm, keyD, bCmpL, lk2, fI0, fI, sSeq, sIf, sRet, sRetL, sSet, sPar, sOwn, sFor, sNext, tName, NL.tCons, NL.tNil, tTups, dTup, dLst, dSl, oNo, oIs, fIx, fSl, iA, fAdd_t, fAdd_l, fAdd_s, fAdd_i, fLstOf_t, fLstOf_l, fTupOf_t, fTupOf_l, fLen_t, fLen_l, ofO_some, at0, at1, at2, NL.run, lenN, startN, DEnds.er, List.getElem?_cons_zero, List.getElem?_cons_succ, List.set_cons_zero, List.set_cons_succ, Bool.false_eq_true, if_true, if_false, reduceIte, fEq_ii, fNe_ii, fOrd_ii, fIsi_tt, fIsi_ss, fIsi_st, fIsi_si, lL2, lL3, i22, i33, i23, i32, eq_self]
        refine fEq_s (v := true) (strl "mark") (strl "mark") (by decide +kernel) ?_
        rw [if_pos rfl]
        refine ⟨hd.1, ?_⟩
        rw [show wordD (.str w) = true from hd.2]
        exact q
      refine seqP (fun ρ => ρ = [some (.d (.tup [.tup b, .tup (ms.map wpD)])), some (.d (.tup [.str "mark", .str w])), some (.d (.tup b)), some (.d (.tup (ms.map wpD))), some (.d (.str "mark")), some (.d (.lst ((ms.map (·.1)).map D.str))), some (.d (.lst ((ms.filter fun p => !(p.1 == w)).map wpD))), none, none, none]) (fun N hN => ?_) ?_
      · simp only [dLc, pure1, tab1, dAnd, dOr, dNot, dIf, dCall, dFn, dCons, dNil, dVar, dOwn, dC, dFz, dBin, dCmp, dChn, dIsiB, bCmp, bChn, bVal, bAnd, bOr, bNot, bYes, dSortK, dPget, dGet, sDput, sExp, dLm, keyD, bCmpL, lk2, fI0, fI, sSeq, sIf, sRet, sRetL, sSet, sPar, sOwn, sFor, sNext, tName, NL.tCons, NL.tNil, tTups, dTup, dLst, dSl, oNo, oIs, fIx, fSl, iA, fAdd_t, fAdd_l, fAdd_s, fAdd_i, fLstOf_t, fLstOf_l, fTupOf_t, fTupOf_l, fLen_t, fLen_l, ofO_some, at0, at1, at2, NL.run, lenN, startN, DEnds.er, List.getElem?_cons_zero, List.getElem?_cons_succ, List.set_cons_zero, List.set_cons_succ, Bool.false_eq_true, if_true, if_false, reduceIte, fEq_ii, fNe_ii, fOrd_ii, fIsi_tt, fIsi_ss, fIsi_st, fIsi_si, lL2, lL3, i22, i33, i23, i32, eq_self]
        refine lc_fm (othD w) id (ms.map wpD) (fun d m A N h1 h2 => ?_) (sizeLine_ge (by have := ok.len; simp; omega)) ?_
        · obtain ⟨p, hp, rfl⟩ := wp_mem m
          simp only [wipeR, List.map_cons, List.map_nil, pure1, tab1, dAnd, dOr, dNot, dIf, dCall, dFn, dCons, dNil, dVar, dOwn, dC, dFz, dBin, dCmp, dChn, dIsiB, bCmp, bChn, bVal, bAnd, bOr, bNot, bYes, dSortK, dPget, dGet, sDput, sExp, dLm, keyD, bCmpL, lk2, fI0, fI, sSeq, sIf, sRet, sRetL, sSet, sPar, sOwn, sFor, sNext, tName, NL.tCons, NL.tNil, tTups, dTup, dLst, dSl, oNo, oIs, fIx, fSl, iA, fAdd_t, fAdd_l, fAdd_s, fAdd_i, fLstOf_t, fLstOf_l, fTupOf_t, fTupOf_l, fLen_t, fLen_l, ofO_some, at0, at1, at2, NL.run, lenN, startN, DEnds.er, List.getElem?_cons_zero, List.getElem?_cons_succ, List.set_cons_zero, List.set_cons_succ, Bool.false_eq_true, if_true, if_false, reduceIte, fEq_ii, fNe_ii, fOrd_ii, fIsi_tt, fIsi_ss, fIsi_st, fIsi_si, lL2, lL3, i22, i33, i23, i32, eq_self]
          refine fNe_s (v := p.1 == w) (ok.wd p hp).1 hd.1 rfl ?_
          cases e : p.1 == w
          · exact h1 (by simp [othD, e])
          · exact h2 (by simp [othD, e])
        · rw [oth_map]
          simp only [List.map_id, List.nil_append]
          exact hN _ rfl
      rintro _ rfl
      simp only [pure1, tab1, dAnd, dOr, dNot, dIf, dCall, dFn, dCons, dNil, dVar, dOwn, dC, dFz, dBin, dCmp, dChn, dIsiB, bCmp, bChn, bVal, bAnd, bOr, bNot, bYes, dSortK, dPget, dGet, sDput, sExp, dLm, keyD, bCmpL, lk2, fI0, fI, sSeq, sIf, sRet, sRetL, sSet, sPar, sOwn, sFor, sNext, tName, NL.tCons, NL.tNil, tTups, dTup, dLst, dSl, oNo, oIs, fIx, fSl, iA, fAdd_t, fAdd_l, fAdd_s, fAdd_i, fLstOf_t, fLstOf_l, fTupOf_t, fTupOf_l, fLen_t, fLen_l, ofO_some, at0, at1, at2, NL.run, lenN, startN, DEnds.er, List.getElem?_cons_zero, List.getElem?_cons_succ, List.set_cons_zero, List.set_cons_succ, Bool.false_eq_true, if_true, if_false, reduceIte, fEq_ii, fNe_ii, fOrd_ii, fIsi_tt, fIsi_ss, fIsi_st, fIsi_si, lL2, lL3, i22, i33, i23, i32, eq_self]
      have hl := List.length_filter_le (fun p : Str × D => !(p.1 == w)) ms
      refine ⟨sizeLine_ge (by simp), sizeLine_ge (by simp), sizeLine_ge (by have := ok.len; simp only [List.length_map, List.length_cons, List.length_nil]; omega), ?_⟩
      refine ⟨(ms.filter fun p => !(p.1 == w)) ++ [(w, .tup b)], by rw [List.map_append]; rfl, ins_nd ok.nd, fun ps' pm so => ?_⟩
      have e : ps' = insM ms w (.tup b) := so_uniq (pm.trans (insM_perm ms w _).symm) ((pm.map (·.1)).nodup_iff.mpr (ins_nd ok.nd)) so (insM_so ms w _)
      rw [e]
      exact ⟨sizeLine_ge (by simp), q⟩
    | unmark w =>
      simp only [LDeed.enc] at q
      refine seqP (fun ρ => ρ = [some (.d (.tup [.tup b, .tup (ms.map wpD)])), some (.d (.tup [.str "unmark", .str w])), some (.d (.tup b)), some (.d (.tup (ms.map wpD))), none, none, none, none, none, none]) (fun N hN => ?_) ?_
      · simp only [LDeed.enc, pure1, tab1, dAnd, dOr, dNot, dIf, dCall, dFn, dCons, dNil, dVar, dOwn, dC, dFz, dBin, dCmp, dChn, dIsiB, bCmp, bChn, bVal, bAnd, bOr, bNot, bYes, dSortK, dPget, dGet, sDput, sExp, dLm, keyD, bCmpL, lk2, fI0, fI, sSeq, sIf, sRet, sRetL, sSet, sPar, sOwn, sFor, sNext, tName, NL.tCons, NL.tNil, tTups, dTup, dLst, dSl, oNo, oIs, fIx, fSl, iA, fAdd_t, fAdd_l, fAdd_s, fAdd_i, fLstOf_t, fLstOf_l, fTupOf_t, fTupOf_l, fLen_t, fLen_l, ofO_some, at0, at1, at2, NL.run, lenN, startN, DEnds.er, List.getElem?_cons_zero, List.getElem?_cons_succ, List.set_cons_zero, List.set_cons_succ, Bool.false_eq_true, if_true, if_false, reduceIte, fEq_ii, fNe_ii, fOrd_ii, fIsi_tt, fIsi_ss, fIsi_st, fIsi_si, lL2, lL3, i22, i33, i23, i32, eq_self]
        exact ⟨rfl, hN _ rfl⟩
      rintro _ rfl
      refine skip_if (fun Q X q => ?_) ?_
      · simp only [pure1, tab1, dAnd, dOr, dNot, dIf, dCall, dFn, dCons, dNil, dVar, dOwn, dC, dFz, dBin, dCmp, dChn, dIsiB, bCmp, bChn, bVal, bAnd, bOr, bNot, bYes, dSortK, dPget, dGet, sDput, sExp, dLm, keyD, bCmpL, lk2, fI0, fI, sSeq, sIf, sRet, sRetL, sSet, sPar, sOwn, sFor, sNext, tName, NL.tCons, NL.tNil, tTups, dTup, dLst, dSl, oNo, oIs, fIx, fSl, iA, fAdd_t, fAdd_l, fAdd_s, fAdd_i, fLstOf_t, fLstOf_l, fTupOf_t, fTupOf_l, fLen_t, fLen_l, ofO_some, at0, at1, at2, NL.run, lenN, startN, DEnds.er, List.getElem?_cons_zero, List.getElem?_cons_succ, List.set_cons_zero, List.set_cons_succ, Bool.false_eq_true, if_true, if_false, reduceIte, fEq_ii, fNe_ii, fOrd_ii, fIsi_tt, fIsi_ss, fIsi_st, fIsi_si, lL2, lL3, i22, i33, i23, i32, eq_self]
        exact q
      refine seqP (fun ρ => ρ = [some (.d (.tup [.tup b, .tup (ms.map wpD)])), some (.d (.tup [.str "unmark", .str w])), some (.d (.tup b)), some (.d (.tup (ms.map wpD))), some (.d (.str "unmark")), some (.d (.lst ((ms.map (·.1)).map D.str))), none, none, none, none]) (fun N hN => ?_) ?_
      · simp only [dLc, pure1, tab1, dAnd, dOr, dNot, dIf, dCall, dFn, dCons, dNil, dVar, dOwn, dC, dFz, dBin, dCmp, dChn, dIsiB, bCmp, bChn, bVal, bAnd, bOr, bNot, bYes, dSortK, dPget, dGet, sDput, sExp, dLm, keyD, bCmpL, lk2, fI0, fI, sSeq, sIf, sRet, sRetL, sSet, sPar, sOwn, sFor, sNext, tName, NL.tCons, NL.tNil, tTups, dTup, dLst, dSl, oNo, oIs, fIx, fSl, iA, fAdd_t, fAdd_l, fAdd_s, fAdd_i, fLstOf_t, fLstOf_l, fTupOf_t, fTupOf_l, fLen_t, fLen_l, ofO_some, at0, at1, at2, NL.run, lenN, startN, DEnds.er, List.getElem?_cons_zero, List.getElem?_cons_succ, List.set_cons_zero, List.set_cons_succ, Bool.false_eq_true, if_true, if_false, reduceIte, fEq_ii, fNe_ii, fOrd_ii, fIsi_tt, fIsi_ss, fIsi_st, fIsi_si, lL2, lL3, i22, i33, i23, i32, eq_self]
        refine lc_map (fun d => match d with | .tup (x :: _) => x | _ => .non) (ms.map wpD) (fun d m A a => ?_) (sizeLine_ge (by have := ok.len; simp; omega)) ?_
        · obtain ⟨p, hp, rfl⟩ := wp_mem m
          simp only [wipeR, List.map_cons, List.map_nil, pure1, tab1, dAnd, dOr, dNot, dIf, dCall, dFn, dCons, dNil, dVar, dOwn, dC, dFz, dBin, dCmp, dChn, dIsiB, bCmp, bChn, bVal, bAnd, bOr, bNot, bYes, dSortK, dPget, dGet, sDput, sExp, dLm, keyD, bCmpL, lk2, fI0, fI, sSeq, sIf, sRet, sRetL, sSet, sPar, sOwn, sFor, sNext, tName, NL.tCons, NL.tNil, tTups, dTup, dLst, dSl, oNo, oIs, fIx, fSl, iA, fAdd_t, fAdd_l, fAdd_s, fAdd_i, fLstOf_t, fLstOf_l, fTupOf_t, fTupOf_l, fLen_t, fLen_l, ofO_some, at0, at1, at2, NL.run, lenN, startN, DEnds.er, List.getElem?_cons_zero, List.getElem?_cons_succ, List.set_cons_zero, List.set_cons_succ, Bool.false_eq_true, if_true, if_false, reduceIte, fEq_ii, fNe_ii, fOrd_ii, fIsi_tt, fIsi_ss, fIsi_st, fIsi_si, lL2, lL3, i22, i33, i23, i32, eq_self]
          exact ⟨rfl, a⟩
        · refine ⟨sizeLine_ge (by simp), rfl, ?_⟩
          have e : (ms.map wpD).map (fun d => match d with | .tup (x :: _) => x | _ => .non) = (ms.map (·.1)).map D.str := by rw [List.map_map, List.map_map]; rfl
          rw [e]
          exact hN _ rfl
      rintro _ rfl
      refine skip_if (fun Q X q => ?_) ?_
      · simp only [pure1, tab1, dAnd, dOr, dNot, dIf, dCall, dFn, dCons, dNil, dVar, dOwn, dC, dFz, dBin, dCmp, dChn, dIsiB, bCmp, bChn, bVal, bAnd, bOr, bNot, bYes, dSortK, dPget, dGet, sDput, sExp, dLm, keyD, bCmpL, lk2, fI0, fI, sSeq, sIf, sRet, sRetL, sSet, sPar, sOwn, sFor, sNext, tName, NL.tCons, NL.tNil, tTups, dTup, dLst, dSl, oNo, oIs, fIx, fSl, iA, fAdd_t, fAdd_l, fAdd_s, fAdd_i, fLstOf_t, fLstOf_l, fTupOf_t, fTupOf_l, fLen_t, fLen_l, ofO_some, at0, at1, at2, NL.run, lenN, startN, DEnds.er, List.getElem?_cons_zero, List.getElem?_cons_succ, List.set_cons_zero, List.set_cons_succ, Bool.false_eq_true, if_true, if_false, reduceIte, fEq_ii, fNe_ii, fOrd_ii, fIsi_tt, fIsi_ss, fIsi_st, fIsi_si, lL2, lL3, i22, i33, i23, i32, eq_self]
        exact fEq_s (v := false) (strl "unmark") (strl "add") (by decide +kernel) q
      refine skip_if (fun Q X q => ?_) ?_
      · simp only [pure1, tab1, dAnd, dOr, dNot, dIf, dCall, dFn, dCons, dNil, dVar, dOwn, dC, dFz, dBin, dCmp, dChn, dIsiB, bCmp, bChn, bVal, bAnd, bOr, bNot, bYes, dSortK, dPget, dGet, sDput, sExp, dLm, keyD, bCmpL, lk2, fI0, fI, sSeq, sIf, sRet, sRetL, sSet, sPar, sOwn, sFor, sNext, tName, NL.tCons, NL.tNil, tTups, dTup, dLst, dSl, oNo, oIs, fIx, fSl, iA, fAdd_t, fAdd_l, fAdd_s, fAdd_i, fLstOf_t, fLstOf_l, fTupOf_t, fTupOf_l, fLen_t, fLen_l, ofO_some, at0, at1, at2, NL.run, lenN, startN, DEnds.er, List.getElem?_cons_zero, List.getElem?_cons_succ, List.set_cons_zero, List.set_cons_succ, Bool.false_eq_true, if_true, if_false, reduceIte, fEq_ii, fNe_ii, fOrd_ii, fIsi_tt, fIsi_ss, fIsi_st, fIsi_si, lL2, lL3, i22, i33, i23, i32, eq_self]
        exact fEq_s (v := false) (strl "unmark") (strl "drop") (by decide +kernel) q
      refine skip_if (fun Q X q => ?_) ?_
      · simp only [pure1, tab1, dAnd, dOr, dNot, dIf, dCall, dFn, dCons, dNil, dVar, dOwn, dC, dFz, dBin, dCmp, dChn, dIsiB, bCmp, bChn, bVal, bAnd, bOr, bNot, bYes, dSortK, dPget, dGet, sDput, sExp, dLm, keyD, bCmpL, lk2, fI0, fI, sSeq, sIf, sRet, sRetL, sSet, sPar, sOwn, sFor, sNext, tName, NL.tCons, NL.tNil, tTups, dTup, dLst, dSl, oNo, oIs, fIx, fSl, iA, fAdd_t, fAdd_l, fAdd_s, fAdd_i, fLstOf_t, fLstOf_l, fTupOf_t, fTupOf_l, fLen_t, fLen_l, ofO_some, at0, at1, at2, NL.run, lenN, startN, DEnds.er, List.getElem?_cons_zero, List.getElem?_cons_succ, List.set_cons_zero, List.set_cons_succ, Bool.false_eq_true, if_true, if_false, reduceIte, fEq_ii, fNe_ii, fOrd_ii, fIsi_tt, fIsi_ss, fIsi_st, fIsi_si, lL2, lL3, i22, i33, i23, i32, eq_self]
        exact fEq_s (v := false) (strl "unmark") (strl "put") (by decide +kernel) q
      refine skip_if (fun Q X q => ?_) ?_
      · simp only [pure1, tab1, dAnd, dOr, dNot, dIf, dCall, dFn, dCons, dNil, dVar, dOwn, dC, dFz, dBin, dCmp, dChn, dIsiB, bCmp, bChn, bVal, bAnd, bOr, bNot, bYes, dSortK, dPget, dGet, sDput, sExp, dLm, keyD, bCmpL, lk2, fI0, fI, sSeq, sIf, sRet, sRetL, sSet, sPar, sOwn, sFor, sNext, tName, NL.tCons, NL.tNil, tTups, dTup, dLst, dSl, oNo, oIs, fIx, fSl, iA, fAdd_t, fAdd_l, fAdd_s, fAdd_i, fLstOf_t, fLstOf_l, fTupOf_t, fTupOf_l, fLen_t, fLen_l, ofO_some, at0, at1, at2, NL.run, lenN, startN, DEnds.er, List.getElem?_cons_zero, List.getElem?_cons_succ, List.set_cons_zero, List.set_cons_succ, Bool.false_eq_true, if_true, if_false, reduceIte, fEq_ii, fNe_ii, fOrd_ii, fIsi_tt, fIsi_ss, fIsi_st, fIsi_si, lL2, lL3, i22, i33, i23, i32, eq_self]
        exact fEq_s (v := false) (strl "unmark") (strl "mark") (by decide +kernel) q
      rw [aft_unmark] at q
      rcases lookB_some ok w with ⟨e1, e2⟩ | ⟨k, e1, e2, hk⟩
      · rw [e1] at q
        refine take_if (fun Q X q => ?_) ?_
        · simp only [dLc, pure1, tab1, dAnd, dOr, dNot, dIf, dCall, dFn, dCons, dNil, dVar, dOwn, dC, dFz, dBin, dCmp, dChn, dIsiB, bCmp, bChn, bVal, bAnd, bOr, bNot, bYes, dSortK, dPget, dGet, sDput, sExp, dLm, keyD, bCmpL, lk2, fI0, fI, sSeq, sIf, sRet, sRetL, sSet, sPar, sOwn, sFor, sNext, tName, NL.tCons, NL.tNil, tTups, dTup, dLst, dSl, oNo, oIs, fIx, fSl, iA, fAdd_t, fAdd_l, fAdd_s, fAdd_i, fLstOf_t, fLstOf_l, fTupOf_t, fTupOf_l, fLen_t, fLen_l, ofO_some, at0, at1, at2, NL.run, lenN, startN, DEnds.er, List.getElem?_cons_zero, List.getElem?_cons_succ, List.set_cons_zero, List.set_cons_succ, Bool.false_eq_true, if_true, if_false, reduceIte, fEq_ii, fNe_ii, fOrd_ii, fIsi_tt, fIsi_ss, fIsi_st, fIsi_si, lL2, lL3, i22, i33, i23, i32, eq_self]
          rw [cut1]
          refine lc_fm (pW ms) id [.str w] (fun d m A N h1 h2 => ?_) (sizeLine_ge (by simp)) ?_
          · simp only [List.mem_cons, List.not_mem_nil, or_false] at m
            subst m
            simp only [wipeR, List.map_cons, List.map_nil, pure1, tab1, dAnd, dOr, dNot, dIf, dCall, dFn, dCons, dNil, dVar, dOwn, dC, dFz, dBin, dCmp, dChn, dIsiB, bCmp, bChn, bVal, bAnd, bOr, bNot, bYes, dSortK, dPget, dGet, sDput, sExp, dLm, keyD, bCmpL, lk2, fI0, fI, sSeq, sIf, sRet, sRetL, sSet, sPar, sOwn, sFor, sNext, tName, NL.tCons, NL.tNil, tTups, dTup, dLst, dSl, oNo, oIs, fIx, fSl, iA, fAdd_t, fAdd_l, fAdd_s, fAdd_i, fLstOf_t, fLstOf_l, fTupOf_t, fTupOf_l, fLen_t, fLen_l, ofO_some, at0, at1, at2, NL.run, lenN, startN, DEnds.er, List.getElem?_cons_zero, List.getElem?_cons_succ, List.set_cons_zero, List.set_cons_succ, Bool.false_eq_true, if_true, if_false, reduceIte, fEq_ii, fNe_ii, fOrd_ii, fIsi_tt, fIsi_ss, fIsi_st, fIsi_si, lL2, lL3, i22, i33, i23, i32, eq_self]
            rw [Bool.not_true, if_neg (by decide)]
            refine fIn_l hd.1 (wrd_good ms ok) ?_
            rw [in_words, bneT]
            cases e0 : (lookD ms w).isSome
            · exact h1 (by simp [pW, e0])
            · exact h2 (by simp [pW, e0])
          · have hf : Ax 3 (List.filter (pW ms) [.str w]) := Ax.filter ⟨by simp, fun a m => by rw [List.mem_singleton.mp m]; exact ⟨hd.1, by simp [dep, D.py, PyData.depth]⟩⟩ _
            simp only [List.map_id, List.nil_append]
            refine ⟨sizeLine_ge (by simp), hf.good.2, (Ax.nil).good.2, ?_⟩
            rw [eqD_lst, nil_eq, show List.filter (pW ms) [.str w] = [.str w] from by simp [pW, e2]]
            exact q
        exact q
      · rw [e1] at q
        refine skip_if (fun Q X q => ?_) ?_
        · simp only [dLc, pure1, tab1, dAnd, dOr, dNot, dIf, dCall, dFn, dCons, dNil, dVar, dOwn, dC, dFz, dBin, dCmp, dChn, dIsiB, bCmp, bChn, bVal, bAnd, bOr, bNot, bYes, dSortK, dPget, dGet, sDput, sExp, dLm, keyD, bCmpL, lk2, fI0, fI, sSeq, sIf, sRet, sRetL, sSet, sPar, sOwn, sFor, sNext, tName, NL.tCons, NL.tNil, tTups, dTup, dLst, dSl, oNo, oIs, fIx, fSl, iA, fAdd_t, fAdd_l, fAdd_s, fAdd_i, fLstOf_t, fLstOf_l, fTupOf_t, fTupOf_l, fLen_t, fLen_l, ofO_some, at0, at1, at2, NL.run, lenN, startN, DEnds.er, List.getElem?_cons_zero, List.getElem?_cons_succ, List.set_cons_zero, List.set_cons_succ, Bool.false_eq_true, if_true, if_false, reduceIte, fEq_ii, fNe_ii, fOrd_ii, fIsi_tt, fIsi_ss, fIsi_st, fIsi_si, lL2, lL3, i22, i33, i23, i32, eq_self]
          rw [cut1]
          refine lc_fm (pW ms) id [.str w] (fun d m A N h1 h2 => ?_) (sizeLine_ge (by simp)) ?_
          · simp only [List.mem_cons, List.not_mem_nil, or_false] at m
            subst m
            simp only [wipeR, List.map_cons, List.map_nil, pure1, tab1, dAnd, dOr, dNot, dIf, dCall, dFn, dCons, dNil, dVar, dOwn, dC, dFz, dBin, dCmp, dChn, dIsiB, bCmp, bChn, bVal, bAnd, bOr, bNot, bYes, dSortK, dPget, dGet, sDput, sExp, dLm, keyD, bCmpL, lk2, fI0, fI, sSeq, sIf, sRet, sRetL, sSet, sPar, sOwn, sFor, sNext, tName, NL.tCons, NL.tNil, tTups, dTup, dLst, dSl, oNo, oIs, fIx, fSl, iA, fAdd_t, fAdd_l, fAdd_s, fAdd_i, fLstOf_t, fLstOf_l, fTupOf_t, fTupOf_l, fLen_t, fLen_l, ofO_some, at0, at1, at2, NL.run, lenN, startN, DEnds.er, List.getElem?_cons_zero, List.getElem?_cons_succ, List.set_cons_zero, List.set_cons_succ, Bool.false_eq_true, if_true, if_false, reduceIte, fEq_ii, fNe_ii, fOrd_ii, fIsi_tt, fIsi_ss, fIsi_st, fIsi_si, lL2, lL3, i22, i33, i23, i32, eq_self]
            rw [Bool.not_true, if_neg (by decide)]
            refine fIn_l hd.1 (wrd_good ms ok) ?_
            rw [in_words, bneT]
            cases e0 : (lookD ms w).isSome
            · exact h1 (by simp [pW, e0])
            · exact h2 (by simp [pW, e0])
          · have hf : Ax 3 (List.filter (pW ms) [.str w]) := Ax.filter ⟨by simp, fun a m => by rw [List.mem_singleton.mp m]; exact ⟨hd.1, by simp [dep, D.py, PyData.depth]⟩⟩ _
            simp only [List.map_id, List.nil_append]
            refine ⟨sizeLine_ge (by simp), hf.good.2, (Ax.nil).good.2, ?_⟩
            rw [eqD_lst, nil_eq, show List.filter (pW ms) [.str w] = [] from by simp [pW, e2]]
            exact q
        refine take_if (fun Q X q => ?_) ?_
        · simp only [pure1, tab1, dAnd, dOr, dNot, dIf, dCall, dFn, dCons, dNil, dVar, dOwn, dC, dFz, dBin, dCmp, dChn, dIsiB, bCmp, bChn, bVal, bAnd, bOr, bNot, bYes, dSortK, dPget, dGet, sDput, sExp, dLm, keyD, bCmpL, lk2, fI0, fI, sSeq, sIf, sRet, sRetL, sSet, sPar, sOwn, sFor, sNext, tName, NL.tCons, NL.tNil, tTups, dTup, dLst, dSl, oNo, oIs, fIx, fSl, iA, fAdd_t, fAdd_l, fAdd_s, fAdd_i, fLstOf_t, fLstOf_l, fTupOf_t, fTupOf_l, fLen_t, fLen_l, ofO_some, at0, at1, at2, NL.run, lenN, startN, DEnds.er, List.getElem?_cons_zero, List.getElem?_cons_succ, List.set_cons_zero, List.set_cons_succ, Bool.false_eq_true, if_true, if_false, reduceIte, fEq_ii, fNe_ii, fOrd_ii, fIsi_tt, fIsi_ss, fIsi_st, fIsi_si, lL2, lL3, i22, i33, i23, i32, eq_self]
          refine fEq_s (v := true) (strl "unmark") (strl "unmark") (by decide +kernel) ?_
          try rw [if_pos rfl]
          exact q
        simp only [dLc, pure1, tab1, dAnd, dOr, dNot, dIf, dCall, dFn, dCons, dNil, dVar, dOwn, dC, dFz, dBin, dCmp, dChn, dIsiB, bCmp, bChn, bVal, bAnd, bOr, bNot, bYes, dSortK, dPget, dGet, sDput, sExp, dLm, keyD, bCmpL, lk2, fI0, fI, sSeq, sIf, sRet, sRetL, sSet, sPar, sOwn, sFor, sNext, tName, NL.tCons, NL.tNil, tTups, dTup, dLst, dSl, oNo, oIs, fIx, fSl, iA, fAdd_t, fAdd_l, fAdd_s, fAdd_i, fLstOf_t, fLstOf_l, fTupOf_t, fTupOf_l, fLen_t, fLen_l, ofO_some, at0, at1, at2, NL.run, lenN, startN, DEnds.er, List.getElem?_cons_zero, List.getElem?_cons_succ, List.set_cons_zero, List.set_cons_succ, Bool.false_eq_true, if_true, if_false, reduceIte, fEq_ii, fNe_ii, fOrd_ii, fIsi_tt, fIsi_ss, fIsi_st, fIsi_si, lL2, lL3, i22, i33, i23, i32, eq_self]
        refine lc_fm (othD w) id (ms.map wpD) (fun d m A N h1 h2 => ?_) (sizeLine_ge (by have := ok.len; simp; omega)) ?_
        · obtain ⟨p, hp, rfl⟩ := wp_mem m
          simp only [wipeR, List.map_cons, List.map_nil, pure1, tab1, dAnd, dOr, dNot, dIf, dCall, dFn, dCons, dNil, dVar, dOwn, dC, dFz, dBin, dCmp, dChn, dIsiB, bCmp, bChn, bVal, bAnd, bOr, bNot, bYes, dSortK, dPget, dGet, sDput, sExp, dLm, keyD, bCmpL, lk2, fI0, fI, sSeq, sIf, sRet, sRetL, sSet, sPar, sOwn, sFor, sNext, tName, NL.tCons, NL.tNil, tTups, dTup, dLst, dSl, oNo, oIs, fIx, fSl, iA, fAdd_t, fAdd_l, fAdd_s, fAdd_i, fLstOf_t, fLstOf_l, fTupOf_t, fTupOf_l, fLen_t, fLen_l, ofO_some, at0, at1, at2, NL.run, lenN, startN, DEnds.er, List.getElem?_cons_zero, List.getElem?_cons_succ, List.set_cons_zero, List.set_cons_succ, Bool.false_eq_true, if_true, if_false, reduceIte, fEq_ii, fNe_ii, fOrd_ii, fIsi_tt, fIsi_ss, fIsi_st, fIsi_si, lL2, lL3, i22, i33, i23, i32, eq_self]
          refine fNe_s (v := p.1 == w) (ok.wd p hp).1 hd.1 rfl ?_
          cases e : p.1 == w
          · exact h1 (by simp [othD, e])
          · exact h2 (by simp [othD, e])
        · rw [oth_map]
          simp only [List.map_id, List.nil_append]
          exact ⟨sizeLine_ge (by simp), q⟩
    | back w =>
      simp only [LDeed.enc] at q
      refine seqP (fun ρ => ρ = [some (.d (.tup [.tup b, .tup (ms.map wpD)])), some (.d (.tup [.str "back", .str w])), some (.d (.tup b)), some (.d (.tup (ms.map wpD))), none, none, none, none, none, none]) (fun N hN => ?_) ?_
      · simp only [LDeed.enc, pure1, tab1, dAnd, dOr, dNot, dIf, dCall, dFn, dCons, dNil, dVar, dOwn, dC, dFz, dBin, dCmp, dChn, dIsiB, bCmp, bChn, bVal, bAnd, bOr, bNot, bYes, dSortK, dPget, dGet, sDput, sExp, dLm, keyD, bCmpL, lk2, fI0, fI, sSeq, sIf, sRet, sRetL, sSet, sPar, sOwn, sFor, sNext, tName, NL.tCons, NL.tNil, tTups, dTup, dLst, dSl, oNo, oIs, fIx, fSl, iA, fAdd_t, fAdd_l, fAdd_s, fAdd_i, fLstOf_t, fLstOf_l, fTupOf_t, fTupOf_l, fLen_t, fLen_l, ofO_some, at0, at1, at2, NL.run, lenN, startN, DEnds.er, List.getElem?_cons_zero, List.getElem?_cons_succ, List.set_cons_zero, List.set_cons_succ, Bool.false_eq_true, if_true, if_false, reduceIte, fEq_ii, fNe_ii, fOrd_ii, fIsi_tt, fIsi_ss, fIsi_st, fIsi_si, lL2, lL3, i22, i33, i23, i32, eq_self]
        exact ⟨rfl, hN _ rfl⟩
      rintro _ rfl
      refine skip_if (fun Q X q => ?_) ?_
      · simp only [pure1, tab1, dAnd, dOr, dNot, dIf, dCall, dFn, dCons, dNil, dVar, dOwn, dC, dFz, dBin, dCmp, dChn, dIsiB, bCmp, bChn, bVal, bAnd, bOr, bNot, bYes, dSortK, dPget, dGet, sDput, sExp, dLm, keyD, bCmpL, lk2, fI0, fI, sSeq, sIf, sRet, sRetL, sSet, sPar, sOwn, sFor, sNext, tName, NL.tCons, NL.tNil, tTups, dTup, dLst, dSl, oNo, oIs, fIx, fSl, iA, fAdd_t, fAdd_l, fAdd_s, fAdd_i, fLstOf_t, fLstOf_l, fTupOf_t, fTupOf_l, fLen_t, fLen_l, ofO_some, at0, at1, at2, NL.run, lenN, startN, DEnds.er, List.getElem?_cons_zero, List.getElem?_cons_succ, List.set_cons_zero, List.set_cons_succ, Bool.false_eq_true, if_true, if_false, reduceIte, fEq_ii, fNe_ii, fOrd_ii, fIsi_tt, fIsi_ss, fIsi_st, fIsi_si, lL2, lL3, i22, i33, i23, i32, eq_self]
        exact q
      refine seqP (fun ρ => ρ = [some (.d (.tup [.tup b, .tup (ms.map wpD)])), some (.d (.tup [.str "back", .str w])), some (.d (.tup b)), some (.d (.tup (ms.map wpD))), some (.d (.str "back")), some (.d (.lst ((ms.map (·.1)).map D.str))), none, none, none, none]) (fun N hN => ?_) ?_
      · simp only [dLc, pure1, tab1, dAnd, dOr, dNot, dIf, dCall, dFn, dCons, dNil, dVar, dOwn, dC, dFz, dBin, dCmp, dChn, dIsiB, bCmp, bChn, bVal, bAnd, bOr, bNot, bYes, dSortK, dPget, dGet, sDput, sExp, dLm, keyD, bCmpL, lk2, fI0, fI, sSeq, sIf, sRet, sRetL, sSet, sPar, sOwn, sFor, sNext, tName, NL.tCons, NL.tNil, tTups, dTup, dLst, dSl, oNo, oIs, fIx, fSl, iA, fAdd_t, fAdd_l, fAdd_s, fAdd_i, fLstOf_t, fLstOf_l, fTupOf_t, fTupOf_l, fLen_t, fLen_l, ofO_some, at0, at1, at2, NL.run, lenN, startN, DEnds.er, List.getElem?_cons_zero, List.getElem?_cons_succ, List.set_cons_zero, List.set_cons_succ, Bool.false_eq_true, if_true, if_false, reduceIte, fEq_ii, fNe_ii, fOrd_ii, fIsi_tt, fIsi_ss, fIsi_st, fIsi_si, lL2, lL3, i22, i33, i23, i32, eq_self]
        refine lc_map (fun d => match d with | .tup (x :: _) => x | _ => .non) (ms.map wpD) (fun d m A a => ?_) (sizeLine_ge (by have := ok.len; simp; omega)) ?_
        · obtain ⟨p, hp, rfl⟩ := wp_mem m
          simp only [wipeR, List.map_cons, List.map_nil, pure1, tab1, dAnd, dOr, dNot, dIf, dCall, dFn, dCons, dNil, dVar, dOwn, dC, dFz, dBin, dCmp, dChn, dIsiB, bCmp, bChn, bVal, bAnd, bOr, bNot, bYes, dSortK, dPget, dGet, sDput, sExp, dLm, keyD, bCmpL, lk2, fI0, fI, sSeq, sIf, sRet, sRetL, sSet, sPar, sOwn, sFor, sNext, tName, NL.tCons, NL.tNil, tTups, dTup, dLst, dSl, oNo, oIs, fIx, fSl, iA, fAdd_t, fAdd_l, fAdd_s, fAdd_i, fLstOf_t, fLstOf_l, fTupOf_t, fTupOf_l, fLen_t, fLen_l, ofO_some, at0, at1, at2, NL.run, lenN, startN, DEnds.er, List.getElem?_cons_zero, List.getElem?_cons_succ, List.set_cons_zero, List.set_cons_succ, Bool.false_eq_true, if_true, if_false, reduceIte, fEq_ii, fNe_ii, fOrd_ii, fIsi_tt, fIsi_ss, fIsi_st, fIsi_si, lL2, lL3, i22, i33, i23, i32, eq_self]
          exact ⟨rfl, a⟩
        · refine ⟨sizeLine_ge (by simp), rfl, ?_⟩
          have e : (ms.map wpD).map (fun d => match d with | .tup (x :: _) => x | _ => .non) = (ms.map (·.1)).map D.str := by rw [List.map_map, List.map_map]; rfl
          rw [e]
          exact hN _ rfl
      rintro _ rfl
      refine skip_if (fun Q X q => ?_) ?_
      · simp only [pure1, tab1, dAnd, dOr, dNot, dIf, dCall, dFn, dCons, dNil, dVar, dOwn, dC, dFz, dBin, dCmp, dChn, dIsiB, bCmp, bChn, bVal, bAnd, bOr, bNot, bYes, dSortK, dPget, dGet, sDput, sExp, dLm, keyD, bCmpL, lk2, fI0, fI, sSeq, sIf, sRet, sRetL, sSet, sPar, sOwn, sFor, sNext, tName, NL.tCons, NL.tNil, tTups, dTup, dLst, dSl, oNo, oIs, fIx, fSl, iA, fAdd_t, fAdd_l, fAdd_s, fAdd_i, fLstOf_t, fLstOf_l, fTupOf_t, fTupOf_l, fLen_t, fLen_l, ofO_some, at0, at1, at2, NL.run, lenN, startN, DEnds.er, List.getElem?_cons_zero, List.getElem?_cons_succ, List.set_cons_zero, List.set_cons_succ, Bool.false_eq_true, if_true, if_false, reduceIte, fEq_ii, fNe_ii, fOrd_ii, fIsi_tt, fIsi_ss, fIsi_st, fIsi_si, lL2, lL3, i22, i33, i23, i32, eq_self]
        exact fEq_s (v := false) (strl "back") (strl "add") (by decide +kernel) q
      refine skip_if (fun Q X q => ?_) ?_
      · simp only [pure1, tab1, dAnd, dOr, dNot, dIf, dCall, dFn, dCons, dNil, dVar, dOwn, dC, dFz, dBin, dCmp, dChn, dIsiB, bCmp, bChn, bVal, bAnd, bOr, bNot, bYes, dSortK, dPget, dGet, sDput, sExp, dLm, keyD, bCmpL, lk2, fI0, fI, sSeq, sIf, sRet, sRetL, sSet, sPar, sOwn, sFor, sNext, tName, NL.tCons, NL.tNil, tTups, dTup, dLst, dSl, oNo, oIs, fIx, fSl, iA, fAdd_t, fAdd_l, fAdd_s, fAdd_i, fLstOf_t, fLstOf_l, fTupOf_t, fTupOf_l, fLen_t, fLen_l, ofO_some, at0, at1, at2, NL.run, lenN, startN, DEnds.er, List.getElem?_cons_zero, List.getElem?_cons_succ, List.set_cons_zero, List.set_cons_succ, Bool.false_eq_true, if_true, if_false, reduceIte, fEq_ii, fNe_ii, fOrd_ii, fIsi_tt, fIsi_ss, fIsi_st, fIsi_si, lL2, lL3, i22, i33, i23, i32, eq_self]
        exact fEq_s (v := false) (strl "back") (strl "drop") (by decide +kernel) q
      refine skip_if (fun Q X q => ?_) ?_
      · simp only [pure1, tab1, dAnd, dOr, dNot, dIf, dCall, dFn, dCons, dNil, dVar, dOwn, dC, dFz, dBin, dCmp, dChn, dIsiB, bCmp, bChn, bVal, bAnd, bOr, bNot, bYes, dSortK, dPget, dGet, sDput, sExp, dLm, keyD, bCmpL, lk2, fI0, fI, sSeq, sIf, sRet, sRetL, sSet, sPar, sOwn, sFor, sNext, tName, NL.tCons, NL.tNil, tTups, dTup, dLst, dSl, oNo, oIs, fIx, fSl, iA, fAdd_t, fAdd_l, fAdd_s, fAdd_i, fLstOf_t, fLstOf_l, fTupOf_t, fTupOf_l, fLen_t, fLen_l, ofO_some, at0, at1, at2, NL.run, lenN, startN, DEnds.er, List.getElem?_cons_zero, List.getElem?_cons_succ, List.set_cons_zero, List.set_cons_succ, Bool.false_eq_true, if_true, if_false, reduceIte, fEq_ii, fNe_ii, fOrd_ii, fIsi_tt, fIsi_ss, fIsi_st, fIsi_si, lL2, lL3, i22, i33, i23, i32, eq_self]
        exact fEq_s (v := false) (strl "back") (strl "put") (by decide +kernel) q
      refine skip_if (fun Q X q => ?_) ?_
      · simp only [pure1, tab1, dAnd, dOr, dNot, dIf, dCall, dFn, dCons, dNil, dVar, dOwn, dC, dFz, dBin, dCmp, dChn, dIsiB, bCmp, bChn, bVal, bAnd, bOr, bNot, bYes, dSortK, dPget, dGet, sDput, sExp, dLm, keyD, bCmpL, lk2, fI0, fI, sSeq, sIf, sRet, sRetL, sSet, sPar, sOwn, sFor, sNext, tName, NL.tCons, NL.tNil, tTups, dTup, dLst, dSl, oNo, oIs, fIx, fSl, iA, fAdd_t, fAdd_l, fAdd_s, fAdd_i, fLstOf_t, fLstOf_l, fTupOf_t, fTupOf_l, fLen_t, fLen_l, ofO_some, at0, at1, at2, NL.run, lenN, startN, DEnds.er, List.getElem?_cons_zero, List.getElem?_cons_succ, List.set_cons_zero, List.set_cons_succ, Bool.false_eq_true, if_true, if_false, reduceIte, fEq_ii, fNe_ii, fOrd_ii, fIsi_tt, fIsi_ss, fIsi_st, fIsi_si, lL2, lL3, i22, i33, i23, i32, eq_self]
        exact fEq_s (v := false) (strl "back") (strl "mark") (by decide +kernel) q
      rw [aft_back] at q
      rcases lookB_some ok w with ⟨e1, e2⟩ | ⟨k, e1, e2, hk⟩
      · rw [e1] at q
        refine take_if (fun Q X q => ?_) ?_
        · simp only [dLc, pure1, tab1, dAnd, dOr, dNot, dIf, dCall, dFn, dCons, dNil, dVar, dOwn, dC, dFz, dBin, dCmp, dChn, dIsiB, bCmp, bChn, bVal, bAnd, bOr, bNot, bYes, dSortK, dPget, dGet, sDput, sExp, dLm, keyD, bCmpL, lk2, fI0, fI, sSeq, sIf, sRet, sRetL, sSet, sPar, sOwn, sFor, sNext, tName, NL.tCons, NL.tNil, tTups, dTup, dLst, dSl, oNo, oIs, fIx, fSl, iA, fAdd_t, fAdd_l, fAdd_s, fAdd_i, fLstOf_t, fLstOf_l, fTupOf_t, fTupOf_l, fLen_t, fLen_l, ofO_some, at0, at1, at2, NL.run, lenN, startN, DEnds.er, List.getElem?_cons_zero, List.getElem?_cons_succ, List.set_cons_zero, List.set_cons_succ, Bool.false_eq_true, if_true, if_false, reduceIte, fEq_ii, fNe_ii, fOrd_ii, fIsi_tt, fIsi_ss, fIsi_st, fIsi_si, lL2, lL3, i22, i33, i23, i32, eq_self]
          rw [cut1]
          refine lc_fm (pW ms) id [.str w] (fun d m A N h1 h2 => ?_) (sizeLine_ge (by simp)) ?_
          · simp only [List.mem_cons, List.not_mem_nil, or_false] at m
            subst m
            simp only [wipeR, List.map_cons, List.map_nil, pure1, tab1, dAnd, dOr, dNot, dIf, dCall, dFn, dCons, dNil, dVar, dOwn, dC, dFz, dBin, dCmp, dChn, dIsiB, bCmp, bChn, bVal, bAnd, bOr, bNot, bYes, dSortK, dPget, dGet, sDput, sExp, dLm, keyD, bCmpL, lk2, fI0, fI, sSeq, sIf, sRet, sRetL, sSet, sPar, sOwn, sFor, sNext, tName, NL.tCons, NL.tNil, tTups, dTup, dLst, dSl, oNo, oIs, fIx, fSl, iA, fAdd_t, fAdd_l, fAdd_s, fAdd_i, fLstOf_t, fLstOf_l, fTupOf_t, fTupOf_l, fLen_t, fLen_l, ofO_some, at0, at1, at2, NL.run, lenN, startN, DEnds.er, List.getElem?_cons_zero, List.getElem?_cons_succ, List.set_cons_zero, List.set_cons_succ, Bool.false_eq_true, if_true, if_false, reduceIte, fEq_ii, fNe_ii, fOrd_ii, fIsi_tt, fIsi_ss, fIsi_st, fIsi_si, lL2, lL3, i22, i33, i23, i32, eq_self]
            rw [Bool.not_true, if_neg (by decide)]
            refine fIn_l hd.1 (wrd_good ms ok) ?_
            rw [in_words, bneT]
            cases e0 : (lookD ms w).isSome
            · exact h1 (by simp [pW, e0])
            · exact h2 (by simp [pW, e0])
          · have hf : Ax 3 (List.filter (pW ms) [.str w]) := Ax.filter ⟨by simp, fun a m => by rw [List.mem_singleton.mp m]; exact ⟨hd.1, by simp [dep, D.py, PyData.depth]⟩⟩ _
            simp only [List.map_id, List.nil_append]
            refine ⟨sizeLine_ge (by simp), hf.good.2, (Ax.nil).good.2, ?_⟩
            rw [eqD_lst, nil_eq, show List.filter (pW ms) [.str w] = [.str w] from by simp [pW, e2]]
            exact q
        exact q
      · rw [e1] at q
        refine skip_if (fun Q X q => ?_) ?_
        · simp only [dLc, pure1, tab1, dAnd, dOr, dNot, dIf, dCall, dFn, dCons, dNil, dVar, dOwn, dC, dFz, dBin, dCmp, dChn, dIsiB, bCmp, bChn, bVal, bAnd, bOr, bNot, bYes, dSortK, dPget, dGet, sDput, sExp, dLm, keyD, bCmpL, lk2, fI0, fI, sSeq, sIf, sRet, sRetL, sSet, sPar, sOwn, sFor, sNext, tName, NL.tCons, NL.tNil, tTups, dTup, dLst, dSl, oNo, oIs, fIx, fSl, iA, fAdd_t, fAdd_l, fAdd_s, fAdd_i, fLstOf_t, fLstOf_l, fTupOf_t, fTupOf_l, fLen_t, fLen_l, ofO_some, at0, at1, at2, NL.run, lenN, startN, DEnds.er, List.getElem?_cons_zero, List.getElem?_cons_succ, List.set_cons_zero, List.set_cons_succ, Bool.false_eq_true, if_true, if_false, reduceIte, fEq_ii, fNe_ii, fOrd_ii, fIsi_tt, fIsi_ss, fIsi_st, fIsi_si, lL2, lL3, i22, i33, i23, i32, eq_self]
          rw [cut1]
          refine lc_fm (pW ms) id [.str w] (fun d m A N h1 h2 => ?_) (sizeLine_ge (by simp)) ?_
          · simp only [List.mem_cons, List.not_mem_nil, or_false] at m
            subst m
            simp only [wipeR, List.map_cons, List.map_nil, pure1, tab1, dAnd, dOr, dNot, dIf, dCall, dFn, dCons, dNil, dVar, dOwn, dC, dFz, dBin, dCmp, dChn, dIsiB, bCmp, bChn, bVal, bAnd, bOr, bNot, bYes, dSortK, dPget, dGet, sDput, sExp, dLm, keyD, bCmpL, lk2, fI0, fI, sSeq, sIf, sRet, sRetL, sSet, sPar, sOwn, sFor, sNext, tName, NL.tCons, NL.tNil, tTups, dTup, dLst, dSl, oNo, oIs, fIx, fSl, iA, fAdd_t, fAdd_l, fAdd_s, fAdd_i, fLstOf_t, fLstOf_l, fTupOf_t, fTupOf_l, fLen_t, fLen_l, ofO_some, at0, at1, at2, NL.run, lenN, startN, DEnds.er, List.getElem?_cons_zero, List.getElem?_cons_succ, List.set_cons_zero, List.set_cons_succ, Bool.false_eq_true, if_true, if_false, reduceIte, fEq_ii, fNe_ii, fOrd_ii, fIsi_tt, fIsi_ss, fIsi_st, fIsi_si, lL2, lL3, i22, i33, i23, i32, eq_self]
            rw [Bool.not_true, if_neg (by decide)]
            refine fIn_l hd.1 (wrd_good ms ok) ?_
            rw [in_words, bneT]
            cases e0 : (lookD ms w).isSome
            · exact h1 (by simp [pW, e0])
            · exact h2 (by simp [pW, e0])
          · have hf : Ax 3 (List.filter (pW ms) [.str w]) := Ax.filter ⟨by simp, fun a m => by rw [List.mem_singleton.mp m]; exact ⟨hd.1, by simp [dep, D.py, PyData.depth]⟩⟩ _
            simp only [List.map_id, List.nil_append]
            refine ⟨sizeLine_ge (by simp), hf.good.2, (Ax.nil).good.2, ?_⟩
            rw [eqD_lst, nil_eq, show List.filter (pW ms) [.str w] = [] from by simp [pW, e2]]
            exact q
        refine skip_if (fun Q X q => ?_) ?_
        · simp only [pure1, tab1, dAnd, dOr, dNot, dIf, dCall, dFn, dCons, dNil, dVar, dOwn, dC, dFz, dBin, dCmp, dChn, dIsiB, bCmp, bChn, bVal, bAnd, bOr, bNot, bYes, dSortK, dPget, dGet, sDput, sExp, dLm, keyD, bCmpL, lk2, fI0, fI, sSeq, sIf, sRet, sRetL, sSet, sPar, sOwn, sFor, sNext, tName, NL.tCons, NL.tNil, tTups, dTup, dLst, dSl, oNo, oIs, fIx, fSl, iA, fAdd_t, fAdd_l, fAdd_s, fAdd_i, fLstOf_t, fLstOf_l, fTupOf_t, fTupOf_l, fLen_t, fLen_l, ofO_some, at0, at1, at2, NL.run, lenN, startN, DEnds.er, List.getElem?_cons_zero, List.getElem?_cons_succ, List.set_cons_zero, List.set_cons_succ, Bool.false_eq_true, if_true, if_false, reduceIte, fEq_ii, fNe_ii, fOrd_ii, fIsi_tt, fIsi_ss, fIsi_st, fIsi_si, lL2, lL3, i22, i33, i23, i32, eq_self]
          exact fEq_s (v := false) (strl "back") (strl "unmark") (by decide +kernel) q
        refine take_if (fun Q X q => ?_) ?_
        · simp only [pure1, tab1, dAnd, dOr, dNot, dIf, dCall, dFn, dCons, dNil, dVar, dOwn, dC, dFz, dBin, dCmp, dChn, dIsiB, bCmp, bChn, bVal, bAnd, bOr, bNot, bYes, dSortK, dPget, dGet, sDput, sExp, dLm, keyD, bCmpL, lk2, fI0, fI, sSeq, sIf, sRet, sRetL, sSet, sPar, sOwn, sFor, sNext, tName, NL.tCons, NL.tNil, tTups, dTup, dLst, dSl, oNo, oIs, fIx, fSl, iA, fAdd_t, fAdd_l, fAdd_s, fAdd_i, fLstOf_t, fLstOf_l, fTupOf_t, fTupOf_l, fLen_t, fLen_l, ofO_some, at0, at1, at2, NL.run, lenN, startN, DEnds.er, List.getElem?_cons_zero, List.getElem?_cons_succ, List.set_cons_zero, List.set_cons_succ, Bool.false_eq_true, if_true, if_false, reduceIte, fEq_ii, fNe_ii, fOrd_ii, fIsi_tt, fIsi_ss, fIsi_st, fIsi_si, lL2, lL3, i22, i33, i23, i32, eq_self]
          refine fEq_s (v := true) (strl "back") (strl "back") (by decide +kernel) ?_
          rw [if_pos rfl]
          exact q
        simp only [pure1, tab1, dAnd, dOr, dNot, dIf, dCall, dFn, dCons, dNil, dVar, dOwn, dC, dFz, dBin, dCmp, dChn, dIsiB, bCmp, bChn, bVal, bAnd, bOr, bNot, bYes, dSortK, dPget, dGet, sDput, sExp, dLm, keyD, bCmpL, lk2, fI0, fI, sSeq, sIf, sRet, sRetL, sSet, sPar, sOwn, sFor, sNext, tName, NL.tCons, NL.tNil, tTups, dTup, dLst, dSl, oNo, oIs, fIx, fSl, iA, fAdd_t, fAdd_l, fAdd_s, fAdd_i, fLstOf_t, fLstOf_l, fTupOf_t, fTupOf_l, fLen_t, fLen_l, ofO_some, at0, at1, at2, NL.run, lenN, startN, DEnds.er, List.getElem?_cons_zero, List.getElem?_cons_succ, List.set_cons_zero, List.set_cons_succ, Bool.false_eq_true, if_true, if_false, reduceIte, fEq_ii, fNe_ii, fOrd_ii, fIsi_tt, fIsi_ss, fIsi_st, fIsi_si, lL2, lL3, i22, i33, i23, i32, eq_self]
        exact ⟨ms, rfl, ok, hd.1, k, e1, sizeLine_ge (by simp), q⟩
    | join w v =>
      simp only [LDeed.enc] at q
      refine seqP (fun ρ => ρ = [some (.d (.tup [.tup b, .tup (ms.map wpD)])), some (.d (.tup [.str "join", .str w, .str v])), some (.d (.tup b)), some (.d (.tup (ms.map wpD))), none, none, none, none, none, none]) (fun N hN => ?_) ?_
      · simp only [LDeed.enc, pure1, tab1, dAnd, dOr, dNot, dIf, dCall, dFn, dCons, dNil, dVar, dOwn, dC, dFz, dBin, dCmp, dChn, dIsiB, bCmp, bChn, bVal, bAnd, bOr, bNot, bYes, dSortK, dPget, dGet, sDput, sExp, dLm, keyD, bCmpL, lk2, fI0, fI, sSeq, sIf, sRet, sRetL, sSet, sPar, sOwn, sFor, sNext, tName, NL.tCons, NL.tNil, tTups, dTup, dLst, dSl, oNo, oIs, fIx, fSl, iA, fAdd_t, fAdd_l, fAdd_s, fAdd_i, fLstOf_t, fLstOf_l, fTupOf_t, fTupOf_l, fLen_t, fLen_l, ofO_some, at0, at1, at2, NL.run, lenN, startN, DEnds.er, List.getElem?_cons_zero, List.getElem?_cons_succ, List.set_cons_zero, List.set_cons_succ, Bool.false_eq_true, if_true, if_false, reduceIte, fEq_ii, fNe_ii, fOrd_ii, fIsi_tt, fIsi_ss, fIsi_st, fIsi_si, lL2, lL3, i22, i33, i23, i32, eq_self]
        exact ⟨rfl, hN _ rfl⟩
      rintro _ rfl
      refine skip_if (fun Q X q => ?_) ?_
      · simp only [pure1, tab1, dAnd, dOr, dNot, dIf, dCall, dFn, dCons, dNil, dVar, dOwn, dC, dFz, dBin, dCmp, dChn, dIsiB, bCmp, bChn, bVal, bAnd, bOr, bNot, bYes, dSortK, dPget, dGet, sDput, sExp, dLm, keyD, bCmpL, lk2, fI0, fI, sSeq, sIf, sRet, sRetL, sSet, sPar, sOwn, sFor, sNext, tName, NL.tCons, NL.tNil, tTups, dTup, dLst, dSl, oNo, oIs, fIx, fSl, iA, fAdd_t, fAdd_l, fAdd_s, fAdd_i, fLstOf_t, fLstOf_l, fTupOf_t, fTupOf_l, fLen_t, fLen_l, ofO_some, at0, at1, at2, NL.run, lenN, startN, DEnds.er, List.getElem?_cons_zero, List.getElem?_cons_succ, List.set_cons_zero, List.set_cons_succ, Bool.false_eq_true, if_true, if_false, reduceIte, fEq_ii, fNe_ii, fOrd_ii, fIsi_tt, fIsi_ss, fIsi_st, fIsi_si, lL2, lL3, i22, i33, i23, i32, eq_self]
        exact q
      refine seqP (fun ρ => ρ = [some (.d (.tup [.tup b, .tup (ms.map wpD)])), some (.d (.tup [.str "join", .str w, .str v])), some (.d (.tup b)), some (.d (.tup (ms.map wpD))), some (.d (.str "join")), some (.d (.lst ((ms.map (·.1)).map D.str))), none, none, none, none]) (fun N hN => ?_) ?_
      · simp only [dLc, pure1, tab1, dAnd, dOr, dNot, dIf, dCall, dFn, dCons, dNil, dVar, dOwn, dC, dFz, dBin, dCmp, dChn, dIsiB, bCmp, bChn, bVal, bAnd, bOr, bNot, bYes, dSortK, dPget, dGet, sDput, sExp, dLm, keyD, bCmpL, lk2, fI0, fI, sSeq, sIf, sRet, sRetL, sSet, sPar, sOwn, sFor, sNext, tName, NL.tCons, NL.tNil, tTups, dTup, dLst, dSl, oNo, oIs, fIx, fSl, iA, fAdd_t, fAdd_l, fAdd_s, fAdd_i, fLstOf_t, fLstOf_l, fTupOf_t, fTupOf_l, fLen_t, fLen_l, ofO_some, at0, at1, at2, NL.run, lenN, startN, DEnds.er, List.getElem?_cons_zero, List.getElem?_cons_succ, List.set_cons_zero, List.set_cons_succ, Bool.false_eq_true, if_true, if_false, reduceIte, fEq_ii, fNe_ii, fOrd_ii, fIsi_tt, fIsi_ss, fIsi_st, fIsi_si, lL2, lL3, i22, i33, i23, i32, eq_self]
        refine lc_map (fun d => match d with | .tup (x :: _) => x | _ => .non) (ms.map wpD) (fun d m A a => ?_) (sizeLine_ge (by have := ok.len; simp; omega)) ?_
        · obtain ⟨p, hp, rfl⟩ := wp_mem m
          simp only [wipeR, List.map_cons, List.map_nil, pure1, tab1, dAnd, dOr, dNot, dIf, dCall, dFn, dCons, dNil, dVar, dOwn, dC, dFz, dBin, dCmp, dChn, dIsiB, bCmp, bChn, bVal, bAnd, bOr, bNot, bYes, dSortK, dPget, dGet, sDput, sExp, dLm, keyD, bCmpL, lk2, fI0, fI, sSeq, sIf, sRet, sRetL, sSet, sPar, sOwn, sFor, sNext, tName, NL.tCons, NL.tNil, tTups, dTup, dLst, dSl, oNo, oIs, fIx, fSl, iA, fAdd_t, fAdd_l, fAdd_s, fAdd_i, fLstOf_t, fLstOf_l, fTupOf_t, fTupOf_l, fLen_t, fLen_l, ofO_some, at0, at1, at2, NL.run, lenN, startN, DEnds.er, List.getElem?_cons_zero, List.getElem?_cons_succ, List.set_cons_zero, List.set_cons_succ, Bool.false_eq_true, if_true, if_false, reduceIte, fEq_ii, fNe_ii, fOrd_ii, fIsi_tt, fIsi_ss, fIsi_st, fIsi_si, lL2, lL3, i22, i33, i23, i32, eq_self]
          exact ⟨rfl, a⟩
        · refine ⟨sizeLine_ge (by simp), rfl, ?_⟩
          have e : (ms.map wpD).map (fun d => match d with | .tup (x :: _) => x | _ => .non) = (ms.map (·.1)).map D.str := by rw [List.map_map, List.map_map]; rfl
          rw [e]
          exact hN _ rfl
      rintro _ rfl
      refine skip_if (fun Q X q => ?_) ?_
      · simp only [pure1, tab1, dAnd, dOr, dNot, dIf, dCall, dFn, dCons, dNil, dVar, dOwn, dC, dFz, dBin, dCmp, dChn, dIsiB, bCmp, bChn, bVal, bAnd, bOr, bNot, bYes, dSortK, dPget, dGet, sDput, sExp, dLm, keyD, bCmpL, lk2, fI0, fI, sSeq, sIf, sRet, sRetL, sSet, sPar, sOwn, sFor, sNext, tName, NL.tCons, NL.tNil, tTups, dTup, dLst, dSl, oNo, oIs, fIx, fSl, iA, fAdd_t, fAdd_l, fAdd_s, fAdd_i, fLstOf_t, fLstOf_l, fTupOf_t, fTupOf_l, fLen_t, fLen_l, ofO_some, at0, at1, at2, NL.run, lenN, startN, DEnds.er, List.getElem?_cons_zero, List.getElem?_cons_succ, List.set_cons_zero, List.set_cons_succ, Bool.false_eq_true, if_true, if_false, reduceIte, fEq_ii, fNe_ii, fOrd_ii, fIsi_tt, fIsi_ss, fIsi_st, fIsi_si, lL2, lL3, i22, i33, i23, i32, eq_self]
        exact fEq_s (v := false) (strl "join") (strl "add") (by decide +kernel) q
      refine skip_if (fun Q X q => ?_) ?_
      · simp only [pure1, tab1, dAnd, dOr, dNot, dIf, dCall, dFn, dCons, dNil, dVar, dOwn, dC, dFz, dBin, dCmp, dChn, dIsiB, bCmp, bChn, bVal, bAnd, bOr, bNot, bYes, dSortK, dPget, dGet, sDput, sExp, dLm, keyD, bCmpL, lk2, fI0, fI, sSeq, sIf, sRet, sRetL, sSet, sPar, sOwn, sFor, sNext, tName, NL.tCons, NL.tNil, tTups, dTup, dLst, dSl, oNo, oIs, fIx, fSl, iA, fAdd_t, fAdd_l, fAdd_s, fAdd_i, fLstOf_t, fLstOf_l, fTupOf_t, fTupOf_l, fLen_t, fLen_l, ofO_some, at0, at1, at2, NL.run, lenN, startN, DEnds.er, List.getElem?_cons_zero, List.getElem?_cons_succ, List.set_cons_zero, List.set_cons_succ, Bool.false_eq_true, if_true, if_false, reduceIte, fEq_ii, fNe_ii, fOrd_ii, fIsi_tt, fIsi_ss, fIsi_st, fIsi_si, lL2, lL3, i22, i33, i23, i32, eq_self]
        exact fEq_s (v := false) (strl "join") (strl "drop") (by decide +kernel) q
      refine skip_if (fun Q X q => ?_) ?_
      · simp only [pure1, tab1, dAnd, dOr, dNot, dIf, dCall, dFn, dCons, dNil, dVar, dOwn, dC, dFz, dBin, dCmp, dChn, dIsiB, bCmp, bChn, bVal, bAnd, bOr, bNot, bYes, dSortK, dPget, dGet, sDput, sExp, dLm, keyD, bCmpL, lk2, fI0, fI, sSeq, sIf, sRet, sRetL, sSet, sPar, sOwn, sFor, sNext, tName, NL.tCons, NL.tNil, tTups, dTup, dLst, dSl, oNo, oIs, fIx, fSl, iA, fAdd_t, fAdd_l, fAdd_s, fAdd_i, fLstOf_t, fLstOf_l, fTupOf_t, fTupOf_l, fLen_t, fLen_l, ofO_some, at0, at1, at2, NL.run, lenN, startN, DEnds.er, List.getElem?_cons_zero, List.getElem?_cons_succ, List.set_cons_zero, List.set_cons_succ, Bool.false_eq_true, if_true, if_false, reduceIte, fEq_ii, fNe_ii, fOrd_ii, fIsi_tt, fIsi_ss, fIsi_st, fIsi_si, lL2, lL3, i22, i33, i23, i32, eq_self]
        exact fEq_s (v := false) (strl "join") (strl "put") (by decide +kernel) q
      refine skip_if (fun Q X q => ?_) ?_
      · simp only [pure1, tab1, dAnd, dOr, dNot, dIf, dCall, dFn, dCons, dNil, dVar, dOwn, dC, dFz, dBin, dCmp, dChn, dIsiB, bCmp, bChn, bVal, bAnd, bOr, bNot, bYes, dSortK, dPget, dGet, sDput, sExp, dLm, keyD, bCmpL, lk2, fI0, fI, sSeq, sIf, sRet, sRetL, sSet, sPar, sOwn, sFor, sNext, tName, NL.tCons, NL.tNil, tTups, dTup, dLst, dSl, oNo, oIs, fIx, fSl, iA, fAdd_t, fAdd_l, fAdd_s, fAdd_i, fLstOf_t, fLstOf_l, fTupOf_t, fTupOf_l, fLen_t, fLen_l, ofO_some, at0, at1, at2, NL.run, lenN, startN, DEnds.er, List.getElem?_cons_zero, List.getElem?_cons_succ, List.set_cons_zero, List.set_cons_succ, Bool.false_eq_true, if_true, if_false, reduceIte, fEq_ii, fNe_ii, fOrd_ii, fIsi_tt, fIsi_ss, fIsi_st, fIsi_si, lL2, lL3, i22, i33, i23, i32, eq_self]
        exact fEq_s (v := false) (strl "join") (strl "mark") (by decide +kernel) q
      rw [aft_join] at q
      rcases lookB_some ok w with ⟨e1, e2⟩ | ⟨k, e1, e2, hk⟩
      · rw [e1] at q
        rcases lookB_some ok v with ⟨e3, e4⟩ | ⟨k2, e3, e4, hk2⟩
        · refine take_if (fun Q X q => ?_) ?_
          · simp only [dLc, pure1, tab1, dAnd, dOr, dNot, dIf, dCall, dFn, dCons, dNil, dVar, dOwn, dC, dFz, dBin, dCmp, dChn, dIsiB, bCmp, bChn, bVal, bAnd, bOr, bNot, bYes, dSortK, dPget, dGet, sDput, sExp, dLm, keyD, bCmpL, lk2, fI0, fI, sSeq, sIf, sRet, sRetL, sSet, sPar, sOwn, sFor, sNext, tName, NL.tCons, NL.tNil, tTups, dTup, dLst, dSl, oNo, oIs, fIx, fSl, iA, fAdd_t, fAdd_l, fAdd_s, fAdd_i, fLstOf_t, fLstOf_l, fTupOf_t, fTupOf_l, fLen_t, fLen_l, ofO_some, at0, at1, at2, NL.run, lenN, startN, DEnds.er, List.getElem?_cons_zero, List.getElem?_cons_succ, List.set_cons_zero, List.set_cons_succ, Bool.false_eq_true, if_true, if_false, reduceIte, fEq_ii, fNe_ii, fOrd_ii, fIsi_tt, fIsi_ss, fIsi_st, fIsi_si, lL2, lL3, i22, i33, i23, i32, eq_self]
            rw [cut1]
            refine lc_fm (pW ms) id [.str w, .str v] (fun d m A N h1 h2 => ?_) (sizeLine_ge (by simp)) ?_
            · simp only [List.mem_cons, List.not_mem_nil, or_false] at m
              rcases m with rfl | rfl
              · simp only [wipeR, List.map_cons, List.map_nil, pure1, tab1, dAnd, dOr, dNot, dIf, dCall, dFn, dCons, dNil, dVar, dOwn, dC, dFz, dBin, dCmp, dChn, dIsiB, bCmp, bChn, bVal, bAnd, bOr, bNot, bYes, dSortK, dPget, dGet, sDput, sExp, dLm, keyD, bCmpL, lk2, fI0, fI, sSeq, sIf, sRet, sRetL, sSet, sPar, sOwn, sFor, sNext, tName, NL.tCons, NL.tNil, tTups, dTup, dLst, dSl, oNo, oIs, fIx, fSl, iA, fAdd_t, fAdd_l, fAdd_s, fAdd_i, fLstOf_t, fLstOf_l, fTupOf_t, fTupOf_l, fLen_t, fLen_l, ofO_some, at0, at1, at2, NL.run, lenN, startN, DEnds.er, List.getElem?_cons_zero, List.getElem?_cons_succ, List.set_cons_zero, List.set_cons_succ, Bool.false_eq_true, if_true, if_false, reduceIte, fEq_ii, fNe_ii, fOrd_ii, fIsi_tt, fIsi_ss, fIsi_st, fIsi_si, lL2, lL3, i22, i33, i23, i32, eq_self]
                rw [Bool.not_true, if_neg (by decide)]
                refine fIn_l hd.1.1 (wrd_good ms ok) ?_
                rw [in_words, bneT]
                cases e0 : (lookD ms w).isSome
                · exact h1 (by simp [pW, e0])
                · exact h2 (by simp [pW, e0])
              · simp only [wipeR, List.map_cons, List.map_nil, pure1, tab1, dAnd, dOr, dNot, dIf, dCall, dFn, dCons, dNil, dVar, dOwn, dC, dFz, dBin, dCmp, dChn, dIsiB, bCmp, bChn, bVal, bAnd, bOr, bNot, bYes, dSortK, dPget, dGet, sDput, sExp, dLm, keyD, bCmpL, lk2, fI0, fI, sSeq, sIf, sRet, sRetL, sSet, sPar, sOwn, sFor, sNext, tName, NL.tCons, NL.tNil, tTups, dTup, dLst, dSl, oNo, oIs, fIx, fSl, iA, fAdd_t, fAdd_l, fAdd_s, fAdd_i, fLstOf_t, fLstOf_l, fTupOf_t, fTupOf_l, fLen_t, fLen_l, ofO_some, at0, at1, at2, NL.run, lenN, startN, DEnds.er, List.getElem?_cons_zero, List.getElem?_cons_succ, List.set_cons_zero, List.set_cons_succ, Bool.false_eq_true, if_true, if_false, reduceIte, fEq_ii, fNe_ii, fOrd_ii, fIsi_tt, fIsi_ss, fIsi_st, fIsi_si, lL2, lL3, i22, i33, i23, i32, eq_self]
                rw [Bool.not_true, if_neg (by decide)]
                refine fIn_l hd.2.1 (wrd_good ms ok) ?_
                rw [in_words, bneT]
                cases e0 : (lookD ms v).isSome
                · exact h1 (by simp [pW, e0])
                · exact h2 (by simp [pW, e0])
            · have hf : Ax 3 (List.filter (pW ms) [.str w, .str v]) := Ax.filter ⟨by simp, fun a m => by
            simp only [List.mem_cons, List.not_mem_nil, or_false] at m
            rcases m with rfl | rfl
            · exact ⟨hd.1.1, by simp [dep, D.py, PyData.depth]⟩
            · exact ⟨hd.2.1, by simp [dep, D.py, PyData.depth]⟩⟩ _
              simp only [List.map_id, List.nil_append]
              refine ⟨sizeLine_ge (by simp), hf.good.2, (Ax.nil).good.2, ?_⟩
              rw [eqD_lst, nil_eq, show List.filter (pW ms) [.str w, .str v] = [.str w, .str v] from by simp [pW, e2, e4]]
              exact q
          exact q
        · refine take_if (fun Q X q => ?_) ?_
          · simp only [dLc, pure1, tab1, dAnd, dOr, dNot, dIf, dCall, dFn, dCons, dNil, dVar, dOwn, dC, dFz, dBin, dCmp, dChn, dIsiB, bCmp, bChn, bVal, bAnd, bOr, bNot, bYes, dSortK, dPget, dGet, sDput, sExp, dLm, keyD, bCmpL, lk2, fI0, fI, sSeq, sIf, sRet, sRetL, sSet, sPar, sOwn, sFor, sNext, tName, NL.tCons, NL.tNil, tTups, dTup, dLst, dSl, oNo, oIs, fIx, fSl, iA, fAdd_t, fAdd_l, fAdd_s, fAdd_i, fLstOf_t, fLstOf_l, fTupOf_t, fTupOf_l, fLen_t, fLen_l, ofO_some, at0, at1, at2, NL.run, lenN, startN, DEnds.er, List.getElem?_cons_zero, List.getElem?_cons_succ, List.set_cons_zero, List.set_cons_succ, Bool.false_eq_true, if_true, if_false, reduceIte, fEq_ii, fNe_ii, fOrd_ii, fIsi_tt, fIsi_ss, fIsi_st, fIsi_si, lL2, lL3, i22, i33, i23, i32, eq_self]
            rw [cut1]
            refine lc_fm (pW ms) id [.str w, .str v] (fun d m A N h1 h2 => ?_) (sizeLine_ge (by simp)) ?_
            · simp only [List.mem_cons, List.not_mem_nil, or_false] at m
              rcases m with rfl | rfl
              · simp only [wipeR, List.map_cons, List.map_nil, pure1, tab1, dAnd, dOr, dNot, dIf, dCall, dFn, dCons, dNil, dVar, dOwn, dC, dFz, dBin, dCmp, dChn, dIsiB, bCmp, bChn, bVal, bAnd, bOr, bNot, bYes, dSortK, dPget, dGet, sDput, sExp, dLm, keyD, bCmpL, lk2, fI0, fI, sSeq, sIf, sRet, sRetL, sSet, sPar, sOwn, sFor, sNext, tName, NL.tCons, NL.tNil, tTups, dTup, dLst, dSl, oNo, oIs, fIx, fSl, iA, fAdd_t, fAdd_l, fAdd_s, fAdd_i, fLstOf_t, fLstOf_l, fTupOf_t, fTupOf_l, fLen_t, fLen_l, ofO_some, at0, at1, at2, NL.run, lenN, startN, DEnds.er, List.getElem?_cons_zero, List.getElem?_cons_succ, List.set_cons_zero, List.set_cons_succ, Bool.false_eq_true, if_true, if_false, reduceIte, fEq_ii, fNe_ii, fOrd_ii, fIsi_tt, fIsi_ss, fIsi_st, fIsi_si, lL2, lL3, i22, i33, i23, i32, eq_self]
                rw [Bool.not_true, if_neg (by decide)]
                refine fIn_l hd.1.1 (wrd_good ms ok) ?_
                rw [in_words, bneT]
                cases e0 : (lookD ms w).isSome
                · exact h1 (by simp [pW, e0])
                · exact h2 (by simp [pW, e0])
              · simp only [wipeR, List.map_cons, List.map_nil, pure1, tab1, dAnd, dOr, dNot, dIf, dCall, dFn, dCons, dNil, dVar, dOwn, dC, dFz, dBin, dCmp, dChn, dIsiB, bCmp, bChn, bVal, bAnd, bOr, bNot, bYes, dSortK, dPget, dGet, sDput, sExp, dLm, keyD, bCmpL, lk2, fI0, fI, sSeq, sIf, sRet, sRetL, sSet, sPar, sOwn, sFor, sNext, tName, NL.tCons, NL.tNil, tTups, dTup, dLst, dSl, oNo, oIs, fIx, fSl, iA, fAdd_t, fAdd_l, fAdd_s, fAdd_i, fLstOf_t, fLstOf_l, fTupOf_t, fTupOf_l, fLen_t, fLen_l, ofO_some, at0, at1, at2, NL.run, lenN, startN, DEnds.er, List.getElem?_cons_zero, List.getElem?_cons_succ, List.set_cons_zero, List.set_cons_succ, Bool.false_eq_true, if_true, if_false, reduceIte, fEq_ii, fNe_ii, fOrd_ii, fIsi_tt, fIsi_ss, fIsi_st, fIsi_si, lL2, lL3, i22, i33, i23, i32, eq_self]
                rw [Bool.not_true, if_neg (by decide)]
                refine fIn_l hd.2.1 (wrd_good ms ok) ?_
                rw [in_words, bneT]
                cases e0 : (lookD ms v).isSome
                · exact h1 (by simp [pW, e0])
                · exact h2 (by simp [pW, e0])
            · have hf : Ax 3 (List.filter (pW ms) [.str w, .str v]) := Ax.filter ⟨by simp, fun a m => by
            simp only [List.mem_cons, List.not_mem_nil, or_false] at m
            rcases m with rfl | rfl
            · exact ⟨hd.1.1, by simp [dep, D.py, PyData.depth]⟩
            · exact ⟨hd.2.1, by simp [dep, D.py, PyData.depth]⟩⟩ _
              simp only [List.map_id, List.nil_append]
              refine ⟨sizeLine_ge (by simp), hf.good.2, (Ax.nil).good.2, ?_⟩
              rw [eqD_lst, nil_eq, show List.filter (pW ms) [.str w, .str v] = [.str w] from by simp [pW, e2, e4]]
              exact q
          exact q
      · rw [e1] at q
        rcases lookB_some ok v with ⟨e3, e4⟩ | ⟨k2, e3, e4, hk2⟩
        · refine take_if (fun Q X q => ?_) ?_
          · simp only [dLc, pure1, tab1, dAnd, dOr, dNot, dIf, dCall, dFn, dCons, dNil, dVar, dOwn, dC, dFz, dBin, dCmp, dChn, dIsiB, bCmp, bChn, bVal, bAnd, bOr, bNot, bYes, dSortK, dPget, dGet, sDput, sExp, dLm, keyD, bCmpL, lk2, fI0, fI, sSeq, sIf, sRet, sRetL, sSet, sPar, sOwn, sFor, sNext, tName, NL.tCons, NL.tNil, tTups, dTup, dLst, dSl, oNo, oIs, fIx, fSl, iA, fAdd_t, fAdd_l, fAdd_s, fAdd_i, fLstOf_t, fLstOf_l, fTupOf_t, fTupOf_l, fLen_t, fLen_l, ofO_some, at0, at1, at2, NL.run, lenN, startN, DEnds.er, List.getElem?_cons_zero, List.getElem?_cons_succ, List.set_cons_zero, List.set_cons_succ, Bool.false_eq_true, if_true, if_false, reduceIte, fEq_ii, fNe_ii, fOrd_ii, fIsi_tt, fIsi_ss, fIsi_st, fIsi_si, lL2, lL3, i22, i33, i23, i32, eq_self]
            rw [cut1]
            refine lc_fm (pW ms) id [.str w, .str v] (fun d m A N h1 h2 => ?_) (sizeLine_ge (by simp)) ?_
            · simp only [List.mem_cons, List.not_mem_nil, or_false] at m
              rcases m with rfl | rfl
              · simp only [wipeR, List.map_cons, List.map_nil, pure1, tab1, dAnd, dOr, dNot, dIf, dCall, dFn, dCons, dNil, dVar, dOwn, dC, dFz, dBin, dCmp, dChn, dIsiB, bCmp, bChn, bVal, bAnd, bOr, bNot, bYes, dSortK, dPget, dGet, sDput, sExp, dLm, keyD, bCmpL, lk2, fI0, fI, sSeq, sIf, sRet, sRetL, sSet, sPar, sOwn, sFor, sNext, tName, NL.tCons, NL.tNil, tTups, dTup, dLst, dSl, oNo, oIs, fIx, fSl, iA, fAdd_t, fAdd_l, fAdd_s, fAdd_i, fLstOf_t, fLstOf_l, fTupOf_t, fTupOf_l, fLen_t, fLen_l, ofO_some, at0, at1, at2, NL.run, lenN, startN, DEnds.er, List.getElem?_cons_zero, List.getElem?_cons_succ, List.set_cons_zero, List.set_cons_succ, Bool.false_eq_true, if_true, if_false, reduceIte, fEq_ii, fNe_ii, fOrd_ii, fIsi_tt, fIsi_ss, fIsi_st, fIsi_si, lL2, lL3, i22, i33, i23, i32, eq_self]
                rw [Bool.not_true, if_neg (by decide)]
                refine fIn_l hd.1.1 (wrd_good ms ok) ?_
                rw [in_words, bneT]
                cases e0 : (lookD ms w).isSome
                · exact h1 (by simp [pW, e0])
                · exact h2 (by simp [pW, e0])
              · simp only [wipeR, List.map_cons, List.map_nil, pure1, tab1, dAnd, dOr, dNot, dIf, dCall, dFn, dCons, dNil, dVar, dOwn, dC, dFz, dBin, dCmp, dChn, dIsiB, bCmp, bChn, bVal, bAnd, bOr, bNot, bYes, dSortK, dPget, dGet, sDput, sExp, dLm, keyD, bCmpL, lk2, fI0, fI, sSeq, sIf, sRet, sRetL, sSet, sPar, sOwn, sFor, sNext, tName, NL.tCons, NL.tNil, tTups, dTup, dLst, dSl, oNo, oIs, fIx, fSl, iA, fAdd_t, fAdd_l, fAdd_s, fAdd_i, fLstOf_t, fLstOf_l, fTupOf_t, fTupOf_l, fLen_t, fLen_l, ofO_some, at0, at1, at2, NL.run, lenN, startN, DEnds.er, List.getElem?_cons_zero, List.getElem?_cons_succ, List.set_cons_zero, List.set_cons_succ, Bool.false_eq_true, if_true, if_false, reduceIte, fEq_ii, fNe_ii, fOrd_ii, fIsi_tt, fIsi_ss, fIsi_st, fIsi_si, lL2, lL3, i22, i33, i23, i32, eq_self]
                rw [Bool.not_true, if_neg (by decide)]
                refine fIn_l hd.2.1 (wrd_good ms ok) ?_
                rw [in_words, bneT]
                cases e0 : (lookD ms v).isSome
                · exact h1 (by simp [pW, e0])
                · exact h2 (by simp [pW, e0])
            · have hf : Ax 3 (List.filter (pW ms) [.str w, .str v]) := Ax.filter ⟨by simp, fun a m => by
            simp only [List.mem_cons, List.not_mem_nil, or_false] at m
            rcases m with rfl | rfl
            · exact ⟨hd.1.1, by simp [dep, D.py, PyData.depth]⟩
            · exact ⟨hd.2.1, by simp [dep, D.py, PyData.depth]⟩⟩ _
              simp only [List.map_id, List.nil_append]
              refine ⟨sizeLine_ge (by simp), hf.good.2, (Ax.nil).good.2, ?_⟩
              rw [eqD_lst, nil_eq, show List.filter (pW ms) [.str w, .str v] = [.str v] from by simp [pW, e2, e4]]
              exact q
          rw [Option.bind_some, e3] at q
          exact q
        · refine skip_if (fun Q X q => ?_) ?_
          · simp only [dLc, pure1, tab1, dAnd, dOr, dNot, dIf, dCall, dFn, dCons, dNil, dVar, dOwn, dC, dFz, dBin, dCmp, dChn, dIsiB, bCmp, bChn, bVal, bAnd, bOr, bNot, bYes, dSortK, dPget, dGet, sDput, sExp, dLm, keyD, bCmpL, lk2, fI0, fI, sSeq, sIf, sRet, sRetL, sSet, sPar, sOwn, sFor, sNext, tName, NL.tCons, NL.tNil, tTups, dTup, dLst, dSl, oNo, oIs, fIx, fSl, iA, fAdd_t, fAdd_l, fAdd_s, fAdd_i, fLstOf_t, fLstOf_l, fTupOf_t, fTupOf_l, fLen_t, fLen_l, ofO_some, at0, at1, at2, NL.run, lenN, startN, DEnds.er, List.getElem?_cons_zero, List.getElem?_cons_succ, List.set_cons_zero, List.set_cons_succ, Bool.false_eq_true, if_true, if_false, reduceIte, fEq_ii, fNe_ii, fOrd_ii, fIsi_tt, fIsi_ss, fIsi_st, fIsi_si, lL2, lL3, i22, i33, i23, i32, eq_self]
            rw [cut1]
            refine lc_fm (pW ms) id [.str w, .str v] (fun d m A N h1 h2 => ?_) (sizeLine_ge (by simp)) ?_
            · simp only [List.mem_cons, List.not_mem_nil, or_false] at m
              rcases m with rfl | rfl
              · simp only [wipeR, List.map_cons, List.map_nil, pure1, tab1, dAnd, dOr, dNot, dIf, dCall, dFn, dCons, dNil, dVar, dOwn, dC, dFz, dBin, dCmp, dChn, dIsiB, bCmp, bChn, bVal, bAnd, bOr, bNot, bYes, dSortK, dPget, dGet, sDput, sExp, dLm, keyD, bCmpL, lk2, fI0, fI, sSeq, sIf, sRet, sRetL, sSet, sPar, sOwn, sFor, sNext, tName, NL.tCons, NL.tNil, tTups, dTup, dLst, dSl, oNo, oIs, fIx, fSl, iA, fAdd_t, fAdd_l, fAdd_s, fAdd_i, fLstOf_t, fLstOf_l, fTupOf_t, fTupOf_l, fLen_t, fLen_l, ofO_some, at0, at1, at2, NL.run, lenN, startN, DEnds.er, List.getElem?_cons_zero, List.getElem?_cons_succ, List.set_cons_zero, List.set_cons_succ, Bool.false_eq_true, if_true, if_false, reduceIte, fEq_ii, fNe_ii, fOrd_ii, fIsi_tt, fIsi_ss, fIsi_st, fIsi_si, lL2, lL3, i22, i33, i23, i32, eq_self]
                rw [Bool.not_true, if_neg (by decide)]
                refine fIn_l hd.1.1 (wrd_good ms ok) ?_
                rw [in_words, bneT]
                cases e0 : (lookD ms w).isSome
                · exact h1 (by simp [pW, e0])
                · exact h2 (by simp [pW, e0])
              · simp only [wipeR, List.map_cons, List.map_nil, pure1, tab1, dAnd, dOr, dNot, dIf, dCall, dFn, dCons, dNil, dVar, dOwn, dC, dFz, dBin, dCmp, dChn, dIsiB, bCmp, bChn, bVal, bAnd, bOr, bNot, bYes, dSortK, dPget, dGet, sDput, sExp, dLm, keyD, bCmpL, lk2, fI0, fI, sSeq, sIf, sRet, sRetL, sSet, sPar, sOwn, sFor, sNext, tName, NL.tCons, NL.tNil, tTups, dTup, dLst, dSl, oNo, oIs, fIx, fSl, iA, fAdd_t, fAdd_l, fAdd_s, fAdd_i, fLstOf_t, fLstOf_l, fTupOf_t, fTupOf_l, fLen_t, fLen_l, ofO_some, at0, at1, at2, NL.run, lenN, startN, DEnds.er, List.getElem?_cons_zero, List.getElem?_cons_succ, List.set_cons_zero, List.set_cons_succ, Bool.false_eq_true, if_true, if_false, reduceIte, fEq_ii, fNe_ii, fOrd_ii, fIsi_tt, fIsi_ss, fIsi_st, fIsi_si, lL2, lL3, i22, i33, i23, i32, eq_self]
                rw [Bool.not_true, if_neg (by decide)]
                refine fIn_l hd.2.1 (wrd_good ms ok) ?_
                rw [in_words, bneT]
                cases e0 : (lookD ms v).isSome
                · exact h1 (by simp [pW, e0])
                · exact h2 (by simp [pW, e0])
            · have hf : Ax 3 (List.filter (pW ms) [.str w, .str v]) := Ax.filter ⟨by simp, fun a m => by
            simp only [List.mem_cons, List.not_mem_nil, or_false] at m
            rcases m with rfl | rfl
            · exact ⟨hd.1.1, by simp [dep, D.py, PyData.depth]⟩
            · exact ⟨hd.2.1, by simp [dep, D.py, PyData.depth]⟩⟩ _
              simp only [List.map_id, List.nil_append]
              refine ⟨sizeLine_ge (by simp), hf.good.2, (Ax.nil).good.2, ?_⟩
              rw [eqD_lst, nil_eq, show List.filter (pW ms) [.str w, .str v] = [] from by simp [pW, e2, e4]]
              exact q
          refine skip_if (fun Q X q => ?_) ?_
          · simp only [pure1, tab1, dAnd, dOr, dNot, dIf, dCall, dFn, dCons, dNil, dVar, dOwn, dC, dFz, dBin, dCmp, dChn, dIsiB, bCmp, bChn, bVal, bAnd, bOr, bNot, bYes, dSortK, dPget, dGet, sDput, sExp, dLm, keyD, bCmpL, lk2, fI0, fI, sSeq, sIf, sRet, sRetL, sSet, sPar, sOwn, sFor, sNext, tName, NL.tCons, NL.tNil, tTups, dTup, dLst, dSl, oNo, oIs, fIx, fSl, iA, fAdd_t, fAdd_l, fAdd_s, fAdd_i, fLstOf_t, fLstOf_l, fTupOf_t, fTupOf_l, fLen_t, fLen_l, ofO_some, at0, at1, at2, NL.run, lenN, startN, DEnds.er, List.getElem?_cons_zero, List.getElem?_cons_succ, List.set_cons_zero, List.set_cons_succ, Bool.false_eq_true, if_true, if_false, reduceIte, fEq_ii, fNe_ii, fOrd_ii, fIsi_tt, fIsi_ss, fIsi_st, fIsi_si, lL2, lL3, i22, i33, i23, i32, eq_self]
            exact fEq_s (v := false) (strl "join") (strl "unmark") (by decide +kernel) q
          refine skip_if (fun Q X q => ?_) ?_
          · simp only [pure1, tab1, dAnd, dOr, dNot, dIf, dCall, dFn, dCons, dNil, dVar, dOwn, dC, dFz, dBin, dCmp, dChn, dIsiB, bCmp, bChn, bVal, bAnd, bOr, bNot, bYes, dSortK, dPget, dGet, sDput, sExp, dLm, keyD, bCmpL, lk2, fI0, fI, sSeq, sIf, sRet, sRetL, sSet, sPar, sOwn, sFor, sNext, tName, NL.tCons, NL.tNil, tTups, dTup, dLst, dSl, oNo, oIs, fIx, fSl, iA, fAdd_t, fAdd_l, fAdd_s, fAdd_i, fLstOf_t, fLstOf_l, fTupOf_t, fTupOf_l, fLen_t, fLen_l, ofO_some, at0, at1, at2, NL.run, lenN, startN, DEnds.er, List.getElem?_cons_zero, List.getElem?_cons_succ, List.set_cons_zero, List.set_cons_succ, Bool.false_eq_true, if_true, if_false, reduceIte, fEq_ii, fNe_ii, fOrd_ii, fIsi_tt, fIsi_ss, fIsi_st, fIsi_si, lL2, lL3, i22, i33, i23, i32, eq_self]
            exact fEq_s (v := false) (strl "join") (strl "back") (by decide +kernel) q
          refine take_if (fun Q X q => ?_) ?_
          · simp only [pure1, tab1, dAnd, dOr, dNot, dIf, dCall, dFn, dCons, dNil, dVar, dOwn, dC, dFz, dBin, dCmp, dChn, dIsiB, bCmp, bChn, bVal, bAnd, bOr, bNot, bYes, dSortK, dPget, dGet, sDput, sExp, dLm, keyD, bCmpL, lk2, fI0, fI, sSeq, sIf, sRet, sRetL, sSet, sPar, sOwn, sFor, sNext, tName, NL.tCons, NL.tNil, tTups, dTup, dLst, dSl, oNo, oIs, fIx, fSl, iA, fAdd_t, fAdd_l, fAdd_s, fAdd_i, fLstOf_t, fLstOf_l, fTupOf_t, fTupOf_l, fLen_t, fLen_l, ofO_some, at0, at1, at2, NL.run, lenN, startN, DEnds.er, List.getElem?_cons_zero, List.getElem?_cons_succ, List.set_cons_zero, List.set_cons_succ, Bool.false_eq_true, if_true, if_false, reduceIte, fEq_ii, fNe_ii, fOrd_ii, fIsi_tt, fIsi_ss, fIsi_st, fIsi_si, lL2, lL3, i22, i33, i23, i32, eq_self]
            refine fEq_s (v := true) (strl "join") (strl "join") (by decide +kernel) ?_
            rw [if_pos rfl]
            exact q
          rw [Option.bind_some, e3] at q
          simp only [pure1, tab1, dAnd, dOr, dNot, dIf, dCall, dFn, dCons, dNil, dVar, dOwn, dC, dFz, dBin, dCmp, dChn, dIsiB, bCmp, bChn, bVal, bAnd, bOr, bNot, bYes, dSortK, dPget, dGet, sDput, sExp, dLm, keyD, bCmpL, lk2, fI0, fI, sSeq, sIf, sRet, sRetL, sSet, sPar, sOwn, sFor, sNext, tName, NL.tCons, NL.tNil, tTups, dTup, dLst, dSl, oNo, oIs, fIx, fSl, iA, fAdd_t, fAdd_l, fAdd_s, fAdd_i, fLstOf_t, fLstOf_l, fTupOf_t, fTupOf_l, fLen_t, fLen_l, ofO_some, at0, at1, at2, NL.run, lenN, startN, DEnds.er, List.getElem?_cons_zero, List.getElem?_cons_succ, List.set_cons_zero, List.set_cons_succ, Bool.false_eq_true, if_true, if_false, reduceIte, fEq_ii, fNe_ii, fOrd_ii, fIsi_tt, fIsi_ss, fIsi_st, fIsi_si, lL2, lL3, i22, i33, i23, i32, eq_self]
          exact ⟨ms, rfl, ok, hd.1.1, k, e1, ms, rfl, ok, hd.2.1, k2, e3, hk, hb, hk2, sizeLine_ge (by simp), q⟩
end
end T69
set_option Elab.async false
set_option linter.all false
set_option maxRecDepth 100000
set_option maxHeartbeats 4300000
namespace T69
open PySem PySem.Spec PyProof.Rows L2 NL
section
variable {base : Heap} {mg : Str → Option Value} {K : PySem.W.Frag} {P : Program} {w : World}
abbrev st__law_draw : Stmt := top 36
theorem sc__law_draw : FnScope ["deck", "many", "number", "cell"] ["deck", "many"] (defScope st__law_draw) := ⟨rfl, rfl, rfl, by decide +kernel, rfl, by decide +kernel, by decide +kernel⟩

theorem dn__law_draw (T : Txt mg K) (A : At K mg "_law_draw" st__law_draw) : Dn P w K mg base 4 "_law_draw" ["deck", "many"] G_draw := by
  refine Dn.of A sc__law_draw (fun F => F.bindsN fun _ _ _ _ _ _ us hl => match us, hl with | [_, _], _ => rfl) (fun f cdv A outer s H E hr c => (ss_cons (st_dput hr (nm 0) c_str (e_bin op_plus od_add (wk (e_dget hr (nm 0) c_str)) (wk c_int)))
      (ss_cons (st_set (i := 2) c rfl (by first | exact Or.inl rfl | exact Or.inr rfl) (e_bin op_plus od_add (wk (e_dget hr (nm 0) c_str)) (wk (e_bin op_mul od_I (wk c_int) (wk (e_dget hr (nm 0) c_str))))))
      (ss_cons (st_if (t_cmpL (op_neD hr.u64) ob_ne (wk (e_dget hr (nm 0) c_str)) (wk (fzn (e_lst a_nil))))
      (ss_cons (st_set (i := 3) c rfl (by first | exact Or.inl rfl | exact Or.inr rfl) (e_pop (e_dget hr (nm 0) c_str)))
      (ss_cons (st_if (t_cmp o_ge ob_ord (wk (nm 3)) (wk (e_bin op_pow od_I (wk c_int) (wk c_int))))
      (ss_cons (st_exp (e_app (e_dget hr (nm 0) c_str) (e_bin op_fdiv od_I (wk (nm 3)) (wk (c_max T.b c (v_cons (wk c_int) (v_cons (wk (nm 1)) v_nil)))))))
      (ss_one (st_ret (e_bin op_mod od_I (wk (c_toint T.b (v_cons (wk (nm 3)) v_nil))) (wk (nm 1))))))
      ss_nil)
      (ss_one (st_set (i := 2) c rfl (by first | exact Or.inl rfl | exact Or.inr rfl) (e_bin op_plus od_add (wk (nm 2)) (wk (e_bin op_mod od_I (wk (c_toint T.b (v_cons (wk (nm 3)) v_nil))) (wk c_int))))))))
      ss_nil)
      (ss_cons (st_set (i := 2) c rfl (by first | exact Or.inl rfl | exact Or.inr rfl) (e_bin op_mod od_I (wk (c_toint T.b (v_cons (wk (e_bin op_plus od_add (wk (e_bin op_mul od_I (wk (nm 2)) (wk c_int))) (wk c_int))) v_nil))) (wk c_int)))
      (ss_cons (st_set (i := 2) c rfl (by first | exact Or.inl rfl | exact Or.inr rfl) (e_bin op_mod od_I (wk (c_toint T.b (v_cons (wk (e_bin op_plus od_add (wk (e_bin op_plus od_add (wk (e_bin op_mul od_I (wk (nm 2)) (wk (nm 2)))) (wk (e_bin op_mul od_I (wk c_int) (wk (e_dget hr (nm 0) c_str)))))) (wk c_int))) v_nil))) (wk c_int)))
      (ss_cons (st_set (i := 2) c rfl (by first | exact Or.inl rfl | exact Or.inr rfl) (e_bin op_mod od_I (wk (c_toint T.b (v_cons (wk (e_bin op_mul od_I (wk (nm 2)) (wk c_int))) v_nil))) (wk c_int)))
      (ss_one (st_ret (e_bin op_mod od_I (wk (c_toint T.b (v_cons (wk (e_bin op_fdiv od_I (wk (nm 2)) (wk c_int))) v_nil))) (wk (nm 1)))))))))))) (fun ds h Q E w => ?_)
  match ds, w with
  | [.obj d, .int n], ⟨c, x, n1, n2, q⟩ =>
    refine ⟨rfl, ?_⟩
    obtain ⟨cs, m, k, e1, e2, hl⟩ := x.at_
    have ne := x.ne
    refine seqD (fun ρ h' => ρ = [some (.d (.obj d)), some (.d (.int n)), none, none] ∧ Dr d c h h') (fun N hN => ?_) ?_
    · simp only [pure1, tab1, dAnd, dOr, dNot, dIf, dCall, dFn, dCons, dNil, dVar, dOwn, dC, dFz, dBin, dCmp, dChn, dIsiB, bCmp, bChn, bVal, bAnd, bOr, bNot, bYes, dSortK, dPget, dGet, sDput, sExp, dLm, keyD, bCmpL, lk2, fI0, fI, sSeq, sIf, sRet, sRetL, sSet, sPar, sOwn, sFor, sNext, tName, NL.tCons, NL.tNil, tTups, dTup, dLst, dSl, oNo, oIs, fIx, fSl, iA, fAdd_t, fAdd_l, fAdd_s, fAdd_i, fLstOf_t, fLstOf_l, fTupOf_t, fTupOf_l, fLen_t, fLen_l, ofO_some, at0, at1, at2, NL.run, lenN, startN, DEnds.er, List.getElem?_cons_zero, List.getElem?_cons_succ, List.set_cons_zero, List.set_cons_succ, Bool.false_eq_true, if_true, if_false, reduceIte, atDic_at e1, atDicO_at e1, val_k, put_dk]
      exact ⟨by rw [sizeLine_eq]; show 3 < _; decide, hN _ _ ⟨rfl, .setD ne e2 hl⟩⟩
    clear e1 e2 hl cs m k
    rintro _ h1 ⟨rfl, r1⟩
    obtain ⟨cs, m, k, e1, e2, hl⟩ := r1.dk.at_
    refine seqP (fun ρ => ∃ i : Int, ρ = [some (.d (.obj d)), some (.d (.int n)), some (.d (.int i)), none]) (fun N hN => ?_) ?_
    · simp only [pure1, tab1, dAnd, dOr, dNot, dIf, dCall, dFn, dCons, dNil, dVar, dOwn, dC, dFz, dBin, dCmp, dChn, dIsiB, bCmp, bChn, bVal, bAnd, bOr, bNot, bYes, dSortK, dPget, dGet, sDput, sExp, dLm, keyD, bCmpL, lk2, fI0, fI, sSeq, sIf, sRet, sRetL, sSet, sPar, sOwn, sFor, sNext, tName, NL.tCons, NL.tNil, tTups, dTup, dLst, dSl, oNo, oIs, fIx, fSl, iA, fAdd_t, fAdd_l, fAdd_s, fAdd_i, fLstOf_t, fLstOf_l, fTupOf_t, fTupOf_l, fLen_t, fLen_l, ofO_some, at0, at1, at2, NL.run, lenN, startN, DEnds.er, List.getElem?_cons_zero, List.getElem?_cons_succ, List.set_cons_zero, List.set_cons_succ, Bool.false_eq_true, if_true, if_false, reduceIte, atDic_at e1, val_k, val_m]
      exact ⟨.inl ⟨by decide, by decide⟩, hN _ ⟨_, rfl⟩⟩
    rintro _ ⟨i, rfl⟩
    refine seqD (fun ρ h' => ∃ (i : Int) (y : Option SV), ρ = [some (.d (.obj d)), some (.d (.int n)), some (.d (.int i)), y] ∧ Dr d c h h') (fun N hN => ?_) ?_
    · simp only [pure1, tab1, dAnd, dOr, dNot, dIf, dCall, dFn, dCons, dNil, dVar, dOwn, dC, dFz, dBin, dCmp, dChn, dIsiB, bCmp, bChn, bVal, bAnd, bOr, bNot, bYes, dSortK, dPget, dGet, sDput, sExp, dLm, keyD, bCmpL, lk2, fI0, fI, sSeq, sIf, sRet, sRetL, sSet, sPar, sOwn, sFor, sNext, tName, NL.tCons, NL.tNil, tTups, dTup, dLst, dSl, oNo, oIs, fIx, fSl, iA, fAdd_t, fAdd_l, fAdd_s, fAdd_i, fLstOf_t, fLstOf_l, fTupOf_t, fTupOf_l, fLen_t, fLen_l, ofO_some, at0, at1, at2, NL.run, lenN, startN, DEnds.er, List.getElem?_cons_zero, List.getElem?_cons_succ, List.set_cons_zero, List.set_cons_succ, Bool.false_eq_true, if_true, if_false, reduceIte, atDic_at e1, val_c, look_at e2, look_lst]
      refine ⟨sizeLine_ge (by simp), fNe_nil (good_ints cs) ?_⟩
      cases hcs : (cs.map D.int).isEmpty
      · simp only [Bool.not_false, if_true]
        have nn : cs ≠ [] := fun z => by rw [z] at hcs; cases hcs
        refine ⟨⟨_, e2⟩, _, e2, ?_⟩
        have el : (cs.map D.int)[(cs.map D.int).length - 1]? = some (.int (cs.getLast nn)) := by
          rw [List.length_map, List.getElem?_map, ← List.getLast?_eq_getElem?, List.getLast?_eq_some_getLast nn]
          rfl
        simp only [fPop, el, ofO_some]
        rw [← List.map_dropLast]
        have hl2 : cs.dropLast.length < 1000 := by rw [List.length_dropLast]; have : 0 < cs.length := List.length_pos_iff.mpr nn; omega
        have r2 : Dr d c h (put h1 c (.lst (cs.dropLast.map D.int))) := r1.trans (.setC _ ne e1 (by omega))
        have k1 : put h1 c (.lst (cs.dropLast.map D.int)) d = some (.dK (deckK c m k)) := (put_off ne).trans e1
        have k2 : put h1 c (.lst (cs.dropLast.map D.int)) c = some (.lst (cs.dropLast.map D.int)) := put_at
        generalize put h1 c (.lst (cs.dropLast.map D.int)) = h2 at r2 k1 k2 ⊢
        generalize cs.getLast nn = cell
        generalize cs.dropLast = cs' at hl2 k2
        refine ⟨⟨by decide, by decide, by decide⟩, ?_⟩
        simp only [fOrd_ii]
        split
        · simp only [atDic_at k1, val_c, ofO_some, fMax]
          refine ⟨⟨_, k2⟩, ⟨?_, ?_⟩, _, k2, ?_⟩
          · split <;> omega
          · split <;> omega
          · refine ⟨by rw [List.length_map, sizeLine_eq]; omega, by omega, q _ _ (Int.emod_nonneg _ (by omega)) (Int.emod_lt_of_pos _ (by omega)) ?_⟩
            have e : ∀ z : Int, cs'.map D.int ++ [.int z] = (cs' ++ [z]).map D.int := fun z => by rw [List.map_append]; rfl
            rw [e]
            exact r2.trans (.setC _ ne k1 (by rw [List.length_append]; simp only [List.length_cons, List.length_nil]; omega))
        · exact ⟨by decide, hN _ _ ⟨_, _, rfl, r2⟩⟩
      · exact hN _ _ ⟨_, _, rfl, r1⟩
    clear r1 e1 e2 hl cs m k i h1
    rintro _ h1 ⟨i, y, rfl, r1⟩
    refine seqP (fun ρ => ∃ i : Int, (0 ≤ i ∧ i < 2147483647) ∧ ρ = [some (.d (.obj d)), some (.d (.int n)), some (.d (.int i)), y]) (fun N hN => ?_) ?_
    · simp only [pure1, tab1, dAnd, dOr, dNot, dIf, dCall, dFn, dCons, dNil, dVar, dOwn, dC, dFz, dBin, dCmp, dChn, dIsiB, bCmp, bChn, bVal, bAnd, bOr, bNot, bYes, dSortK, dPget, dGet, sDput, sExp, dLm, keyD, bCmpL, lk2, fI0, fI, sSeq, sIf, sRet, sRetL, sSet, sPar, sOwn, sFor, sNext, tName, NL.tCons, NL.tNil, tTups, dTup, dLst, dSl, oNo, oIs, fIx, fSl, iA, fAdd_t, fAdd_l, fAdd_s, fAdd_i, fLstOf_t, fLstOf_l, fTupOf_t, fTupOf_l, fLen_t, fLen_l, ofO_some, at0, at1, at2, NL.run, lenN, startN, DEnds.er, List.getElem?_cons_zero, List.getElem?_cons_succ, List.set_cons_zero, List.set_cons_succ, Bool.false_eq_true, if_true, if_false, reduceIte, fInt]
      exact ⟨.inr ⟨by decide, by decide⟩, by decide, hN _ ⟨_, ⟨Int.emod_nonneg _ (by decide), Int.emod_lt_of_pos _ (by decide)⟩, rfl⟩⟩
    rintro _ ⟨i, hi, rfl⟩
    obtain ⟨cs, m, k, e1, e2, hl⟩ := r1.dk.at_
    refine seqP (fun ρ => ∃ i : Int, ρ = [some (.d (.obj d)), some (.d (.int n)), some (.d (.int i)), y]) (fun N hN => ?_) ?_
    · simp only [pure1, tab1, dAnd, dOr, dNot, dIf, dCall, dFn, dCons, dNil, dVar, dOwn, dC, dFz, dBin, dCmp, dChn, dIsiB, bCmp, bChn, bVal, bAnd, bOr, bNot, bYes, dSortK, dPget, dGet, sDput, sExp, dLm, keyD, bCmpL, lk2, fI0, fI, sSeq, sIf, sRet, sRetL, sSet, sPar, sOwn, sFor, sNext, tName, NL.tCons, NL.tNil, tTups, dTup, dLst, dSl, oNo, oIs, fIx, fSl, iA, fAdd_t, fAdd_l, fAdd_s, fAdd_i, fLstOf_t, fLstOf_l, fTupOf_t, fTupOf_l, fLen_t, fLen_l, ofO_some, at0, at1, at2, NL.run, lenN, startN, DEnds.er, List.getElem?_cons_zero, List.getElem?_cons_succ, List.set_cons_zero, List.set_cons_succ, Bool.false_eq_true, if_true, if_false, reduceIte, fInt, atDic_at e1, val_k]
      exact ⟨.inl ⟨by omega, by omega⟩, .inl ⟨by decide, by decide⟩, by decide, hN _ ⟨_, rfl⟩⟩
    rintro _ ⟨i, rfl⟩
    refine seqP (fun ρ => ∃ i : Int, ρ = [some (.d (.obj d)), some (.d (.int n)), some (.d (.int i)), y]) (fun N hN => ?_) ?_
    · simp only [pure1, tab1, dAnd, dOr, dNot, dIf, dCall, dFn, dCons, dNil, dVar, dOwn, dC, dFz, dBin, dCmp, dChn, dIsiB, bCmp, bChn, bVal, bAnd, bOr, bNot, bYes, dSortK, dPget, dGet, sDput, sExp, dLm, keyD, bCmpL, lk2, fI0, fI, sSeq, sIf, sRet, sRetL, sSet, sPar, sOwn, sFor, sNext, tName, NL.tCons, NL.tNil, tTups, dTup, dLst, dSl, oNo, oIs, fIx, fSl, iA, fAdd_t, fAdd_l, fAdd_s, fAdd_i, fLstOf_t, fLstOf_l, fTupOf_t, fTupOf_l, fLen_t, fLen_l, ofO_some, at0, at1, at2, NL.run, lenN, startN, DEnds.er, List.getElem?_cons_zero, List.getElem?_cons_succ, List.set_cons_zero, List.set_cons_succ, Bool.false_eq_true, if_true, if_false, reduceIte, fInt]
      exact ⟨.inr ⟨by decide, by decide⟩, by decide, hN _ ⟨_, rfl⟩⟩
    rintro _ ⟨i, rfl⟩
    simp only [pure1, tab1, dAnd, dOr, dNot, dIf, dCall, dFn, dCons, dNil, dVar, dOwn, dC, dFz, dBin, dCmp, dChn, dIsiB, bCmp, bChn, bVal, bAnd, bOr, bNot, bYes, dSortK, dPget, dGet, sDput, sExp, dLm, keyD, bCmpL, lk2, fI0, fI, sSeq, sIf, sRet, sRetL, sSet, sPar, sOwn, sFor, sNext, tName, NL.tCons, NL.tNil, tTups, dTup, dLst, dSl, oNo, oIs, fIx, fSl, iA, fAdd_t, fAdd_l, fAdd_s, fAdd_i, fLstOf_t, fLstOf_l, fTupOf_t, fTupOf_l, fLen_t, fLen_l, ofO_some, at0, at1, at2, NL.run, lenN, startN, DEnds.er, List.getElem?_cons_zero, List.getElem?_cons_succ, List.set_cons_zero, List.set_cons_succ, Bool.false_eq_true, if_true, if_false, reduceIte, fInt]
    exact ⟨⟨by decide, by decide⟩, by omega, q _ _ (Int.emod_nonneg _ (by omega)) (Int.emod_lt_of_pos _ (by omega)) r1⟩
end
end T69
set_option Elab.async false
set_option linter.all false
set_option maxRecDepth 100000
set_option maxHeartbeats 4300000
namespace T69
open PySem PySem.Spec PyProof.Rows L2 NL
section
variable {base : Heap} {mg : Str → Option Value} {K : PySem.W.Frag} {P : Program} {w : World}
abbrev st__law_pick : Stmt := top 37
theorem sc__law_pick : FnScope ["deck", "some"] ["deck", "some"] (defScope st__law_pick) := ⟨rfl, rfl, rfl, by decide +kernel, rfl, by decide +kernel, by decide +kernel⟩

def G_pick : SG := fun ds h Q _ => match ds with
  | [.obj d, .lst xs] => ∃ c, Dk d c h ∧ xs ≠ [] ∧ xs.length < 100000 ∧ ∀ x ∈ xs, ∀ h', Dr d c h h' → Q x h'
  | [.obj d, .tup xs] => ∃ c, Dk d c h ∧ xs ≠ [] ∧ xs.length < 100000 ∧ ∀ x ∈ xs, ∀ h', Dr d c h h' → Q x h'
  | [.obj d, .obj p] => ∃ c xs, Dk d c h ∧ h p = some (.lst xs) ∧ p ≠ c ∧ xs ≠ [] ∧ xs.length < 100000 ∧ ∀ x ∈ xs, ∀ h', Dr d c h h' → Q x h'
  | _ => False
theorem atI_ok {α : Type} {xs : List α} {i : Int} (h0 : 0 ≤ i) (h1 : i < xs.length) : ∃ x ∈ xs, atI xs i = some x := by
  obtain ⟨n, e⟩ := Int.eq_ofNat_of_zero_le h0; subst e
  have hn : n < xs.length := by omega
  refine ⟨xs[n], List.getElem_mem hn, ?_⟩
  unfold atI ixN
  rw [if_pos (by omega)]; rw [if_pos (by omega)]
  show xs[(n : Int).toNat]? = _
  rw [Int.toNat_natCast, List.getElem?_eq_getElem hn]
theorem look_tup {h : AH} {xs : List D} {Q : D → Prop} : look h (.tup xs) Q = Q (.tup xs) := rfl
theorem look_int {h : AH} {i : Int} {Q : D → Prop} : look h (.int i) Q = Q (.int i) := rfl
theorem dn__law_pick (T : Txt mg K) (A : At K mg "_law_pick" st__law_pick) (h__law_draw : Dn P w K mg base 4 "_law_draw" ["deck", "many"] G_draw) : Dn P w K mg base 5 "_law_pick" ["deck", "some"] G_pick := by
  refine Dn.of A sc__law_pick (fun F => F.bindsN fun _ _ _ _ _ _ us hl => match us, hl with | [_, _], _ => rfl) (fun f cdv A outer s H E hr c => (ss_one (st_ret (e_ixL (wk (nm 1)) (wk (e_fn h__law_draw c hr (a_cons (nm 0) (a_cons (c_lenL T.b (v_cons (wk (nm 1)) v_nil)) a_nil)))))))) (fun ds h Q E w => ?_)
  match ds, w with
  | [.obj d, .lst xs], ⟨c, hd, hx, hl, q⟩ =>
    have hp := List.length_pos_iff.mpr hx
    refine ⟨rfl, ?_⟩
    simp only [G_draw, look_lst, look_int, lkL, dCallL, dBinL, pure1, tab1, dAnd, dOr, dNot, dIf, dCall, dFn, dCons, dNil, dVar, dOwn, dC, dFz, dBin, dCmp, dChn, dIsiB, bCmp, bChn, bVal, bAnd, bOr, bNot, bYes, dSortK, dPget, dGet, sDput, sExp, dLm, keyD, bCmpL, lk2, fI0, fI, sSeq, sIf, sRet, sRetL, sSet, sPar, sOwn, sFor, sNext, tName, NL.tCons, NL.tNil, tTups, dTup, dLst, dSl, oNo, oIs, fIx, fSl, iA, fAdd_t, fAdd_l, fAdd_s, fAdd_i, fLstOf_t, fLstOf_l, fTupOf_t, fTupOf_l, fLen_t, fLen_l, ofO_some, at0, at1, at2, NL.run, lenN, startN, DEnds.er, List.getElem?_cons_zero, List.getElem?_cons_succ, List.set_cons_zero, List.set_cons_succ, Bool.false_eq_true, if_true, if_false, reduceIte]
    refine ⟨c, hd, by omega, by omega, fun i h' h0 h1 r => ?_⟩
    obtain ⟨x, hm, e⟩ := atI_ok h0 h1
    simp only [e]
    exact q x hm h' r
  | [.obj d, .tup xs], ⟨c, hd, hx, hl, q⟩ =>
    have hp := List.length_pos_iff.mpr hx
    refine ⟨rfl, ?_⟩
    simp only [G_draw, look_tup, look_int, lkL, dCallL, dBinL, pure1, tab1, dAnd, dOr, dNot, dIf, dCall, dFn, dCons, dNil, dVar, dOwn, dC, dFz, dBin, dCmp, dChn, dIsiB, bCmp, bChn, bVal, bAnd, bOr, bNot, bYes, dSortK, dPget, dGet, sDput, sExp, dLm, keyD, bCmpL, lk2, fI0, fI, sSeq, sIf, sRet, sRetL, sSet, sPar, sOwn, sFor, sNext, tName, NL.tCons, NL.tNil, tTups, dTup, dLst, dSl, oNo, oIs, fIx, fSl, iA, fAdd_t, fAdd_l, fAdd_s, fAdd_i, fLstOf_t, fLstOf_l, fTupOf_t, fTupOf_l, fLen_t, fLen_l, ofO_some, at0, at1, at2, NL.run, lenN, startN, DEnds.er, List.getElem?_cons_zero, List.getElem?_cons_succ, List.set_cons_zero, List.set_cons_succ, Bool.false_eq_true, if_true, if_false, reduceIte]
    refine ⟨c, hd, by omega, by omega, fun i h' h0 h1 r => ?_⟩
    obtain ⟨x, hm, e⟩ := atI_ok h0 h1
    simp only [e]
    exact q x hm h' r
  | [.obj d, .obj p], ⟨c, xs, hd, hp0, np, hx, hl, q⟩ =>
    have hp := List.length_pos_iff.mpr hx
    refine ⟨rfl, ?_⟩
    simp only [G_draw, look_at hp0, look_int, lkL, dCallL, dBinL, pure1, tab1, dAnd, dOr, dNot, dIf, dCall, dFn, dCons, dNil, dVar, dOwn, dC, dFz, dBin, dCmp, dChn, dIsiB, bCmp, bChn, bVal, bAnd, bOr, bNot, bYes, dSortK, dPget, dGet, sDput, sExp, dLm, keyD, bCmpL, lk2, fI0, fI, sSeq, sIf, sRet, sRetL, sSet, sPar, sOwn, sFor, sNext, tName, NL.tCons, NL.tNil, tTups, dTup, dLst, dSl, oNo, oIs, fIx, fSl, iA, fAdd_t, fAdd_l, fAdd_s, fAdd_i, fLstOf_t, fLstOf_l, fTupOf_t, fTupOf_l, fLen_t, fLen_l, ofO_some, at0, at1, at2, NL.run, lenN, startN, DEnds.er, List.getElem?_cons_zero, List.getElem?_cons_succ, List.set_cons_zero, List.set_cons_succ, Bool.false_eq_true, if_true, if_false, reduceIte]
    refine ⟨c, hd, by omega, by omega, fun i h' h0 h1 r => ?_⟩
    obtain ⟨x, hm, e⟩ := atI_ok h0 h1
    have hp2 : h' p = some (.lst xs) := by
      rw [r.off p (fun z => ?_) np]
      · exact hp0
      · obtain ⟨_, _, _, e1, _⟩ := hd.at_
        rw [z, e1] at hp0; cases hp0
    simp only [look_at hp2, look_int, e, ofO_some]
    exact q x hm h' r
abbrev st__law_words : Stmt := top 38
theorem sc__law_words : FnScope ["deck", "many", "turn", "letters", "found", "long", "word", "barred", "at", "near", "letter"] ["deck", "many"] (defScope st__law_words) := ⟨rfl, rfl, rfl, by decide +kernel, rfl, by decide +kernel, by decide +kernel⟩

/-! ### words -/
def lets (s : Str) : Prop := ∀ c ∈ s.cps.toList, isLet c = true
theorem gwrd_of {s : Str} (h : lets s) (h1 : 1 ≤ s.length) (h2 : s.length ≤ 10) (h3 : s ∉ resD) : gwrd s := by
  have a : s.cps.toList.all isLet = true := List.all_eq_true.mpr h
  refine ⟨good_str ?_ (by omega), ?_⟩
  · unfold PyData.strOk
    rw [← Array.all_toList]
    exact List.all_eq_true.mpr fun c m => by
      have := h c m
      unfold isLet at this
      simp only [Bool.and_eq_true, decide_eq_true_eq] at this
      refine decide_eq_true ?_; omega
  · rw [wordS_eq, decide_eq_true h1, decide_eq_true h2, a]
    have : resD.contains s = false := by
      rw [← Bool.not_eq_true]
      intro z
      exact h3 (by simpa using z)
    rw [this]
    rfl
structure LSok (LS : Str) : Prop where
  len : LS.length = 26
  isl : ∀ c ∈ LS.cps.toList, isLet c = true
  nd : LS.cps.toList.Nodup
theorem letters_ok : LSok "abcdefghijklmnopqrstuvwxyz" := by
  have e : ("abcdefghijklmnopqrstuvwxyz" : Str).cps.toList = (List.range 26).map (· + 97) := by decide +kernel
  refine ⟨?_, fun c h => ?_, ?_⟩
  · show ("abcdefghijklmnopqrstuvwxyz" : Str).cps.toList.length = 26
    rw [e, List.length_map, List.length_range]
  · rw [e] at h
    obtain ⟨k, hk, rfl⟩ := List.mem_map.mp h
    have := List.mem_range.mp hk
    unfold isLet
    rw [decide_eq_true (by omega), decide_eq_true (by omega)]
    rfl
  · rw [e]
    exact List.pairwise_map.mpr (List.nodup_range.imp fun {a b} hab e => by omega)
/-- near the word w: w, and w with another last letter -/
def nearS (LS w : Str) : List Str := w :: LS.cps.toList.map fun c => cutS w none (some (-1)) ++ ⟨#[c]⟩
theorem app_list (a b : Str) : (a ++ b).cps.toList = a.cps.toList ++ b.cps.toList := by
  show (a.cps ++ b.cps).toList = _
  simp
theorem near_ok {LS w x : Str} (hL : LSok LS) (h : lets w) (h1 : 1 ≤ w.length) (m : x ∈ nearS LS w) : lets x ∧ x.length = w.length := by
  rcases List.mem_cons.mp m with m | m
  · rw [m]; exact ⟨h, rfl⟩
  · obtain ⟨c, hc, rfl⟩ := List.mem_map.mp m
    have e : (cutS w none (some (-1)) ++ ⟨#[c]⟩ : Str).cps.toList = w.cps.toList.dropLast ++ [c] := by rw [app_list, cut_last]
    constructor
    · intro y hy
      rw [e] at hy
      rcases List.mem_append.mp hy with hy1 | hy1 <;> revert hy1 <;> intro hy
      · exact h y ((List.dropLast_subset _) hy)
      · rw [List.mem_singleton.mp hy]
        exact hL.isl c hc
    · have l : ∀ s : Str, s.length = s.cps.toList.length := fun s => by simp [Str.length]
      rw [l, l, e, List.length_append, List.length_dropLast]
      rw [l] at h1
      simp only [List.length_nil, List.length_cons]
      omega
theorem near_some {LS w : Str} (hL : LSok LS) {bs : List Str} (hb : bs.length < 26) : ∃ x ∈ nearS LS w, x ∉ bs := by
  apply Classical.byContradiction; intro hn
  have sub : ∀ x ∈ nearS LS w, x ∈ bs := fun x m => Classical.byContradiction fun z => hn ⟨x, m, z⟩
  have nd : (LS.cps.toList.map fun c => cutS w none (some (-1)) ++ (⟨#[c]⟩ : Str)).Nodup := by
    refine List.pairwise_map.mpr (hL.nd.imp fun {a b} hab e => hab ?_)
    have e2 := congrArg (fun s : Str => s.cps.toList) e
    simp only [app_list] at e2
    have := List.append_cancel_left e2
    simpa using this
  have := nd.length_le_of_subset (l₂ := bs) fun x m => sub x (List.mem_cons_of_mem _ m)
  rw [List.length_map, show LS.cps.toList.length = 26 from hL.len] at this
  omega
theorem in_strs (bs : List Str) (x : Str) : inD (bs.map D.str) (.str x) = bs.contains x := by
  unfold inD
  rw [List.any_map]
  induction bs with
  | nil => rfl
  | cons b bs ih =>
    rw [List.any_cons, List.contains_cons, ih]
    simp only [Function.comp, eqD_str]
    by_cases e : b = x
    · subst e; simp
    · rw [beq_eq_false_iff_ne.mpr e, beq_eq_false_iff_ne.mpr (Ne.symm e)]
theorem strs_good {bs : List Str} (h : ∀ x ∈ bs, good (.str x)) : good (.lst (bs.map D.str)) := (good_tup (fun x m => by
  obtain ⟨s, hs, rfl⟩ := List.mem_map.mp m
  exact h s hs) 0 (fun x m => by
  obtain ⟨s, hs, rfl⟩ := List.mem_map.mp m
  simp [dep, D.py, PyData.depth])).2
theorem res_good : ∀ x ∈ resD, good (.str x) := fun x m => good_mem (.inl good_res) (List.mem_map_of_mem m)
theorem lets_good {s : Str} (h : lets s) (h2 : s.length ≤ 100) : good (.str s) := by
  refine good_str ?_ (by omega)
  unfold PyData.strOk
  rw [← Array.all_toList]
  exact List.all_eq_true.mpr fun c m => by
    have := h c m
    unfold isLet at this
    simp only [Bool.and_eq_true, decide_eq_true_eq] at this
    refine decide_eq_true ?_; omega
def G_words : SG := fun ds h Q _ => match ds with
  | [.obj d, .int n] => ∃ c, Dk d c h ∧ 0 ≤ n ∧ n ≤ 8 ∧ ∀ (ws : List Str) h', (ws.length : Int) = n → ws.Nodup → (∀ w ∈ ws, gwrd w) → Dr d c h h' → Q (.lst (ws.map D.str)) h'
  | _ => False
theorem dn__law_words (T : Txt mg K) (A : At K mg "_law_words" st__law_words) (h__law_draw : Dn P w K mg base 4 "_law_draw" ["deck", "many"] G_draw) (h__law_pick : Dn P w K mg base 5 "_law_pick" ["deck", "some"] G_pick) : Dn P w K mg base 6 "_law_words" ["deck", "many"] G_words := by
  refine Dn.of A sc__law_words (fun F => F.bindsN fun _ _ _ _ _ _ us hl => match us, hl with | [_, _], _ => rfl) (fun f cdv A outer s H E hr c => (ss_cons (st_asgO (i := 3) (j := 4) c_str (e_lst a_nil) (pg_tup (n := 2) rfl (pgs_cons (pg_name (i := 3) sc__law_words.nd rfl (by first | exact Or.inl rfl | exact Or.inr rfl)) (pgs_cons (pg_name (i := 4) sc__law_words.nd rfl (by first | exact Or.inl rfl | exact Or.inr rfl)) pgs_nil))))
      (ss_cons (st_for c (i_rng1 rfl T.b.range (wk (nm 1))) (pg_name (i := 2) sc__law_words.nd rfl (by first | exact Or.inl rfl | exact Or.inr rfl)) gd_name
      (ss_cons (st_set (i := 5) c rfl (by first | exact Or.inl rfl | exact Or.inr rfl) (e_fn h__law_pick c hr (a_cons (nm 0) (a_cons (fzn (e_lst (a_cons c_int (a_cons c_int (a_cons c_int (a_cons c_int (a_cons c_int (a_cons c_int a_nil)))))))) a_nil))))
      (ss_cons (st_set (i := 6) c rfl (by first | exact Or.inl rfl | exact Or.inr rfl) (e_join (wk c_str) (wk (fzn (e_lc c (i_rng1 rfl T.b.range (wk (nm 5))) (blkOk_by (own := [("at", 8)]) (N := ["deck", "many", "turn", "letters", "found", "long", "word", "barred", "at", "near", "letter"]) (sc := defScope st__law_words) (by decide +kernel)) gd_name (by decide) (fun _ _ _ _ _ => (pg_name (i := 8) sc__law_words.nd rfl (by first | exact Or.inl rfl | exact Or.inr rfl))) (fun _ _ _ _ _ => ts_nil) (fun _ _ _ _ _ => (e_ix (wk (nm 3)) (wk (e_fn h__law_draw (c.blk) hr (a_cons (nm 0) (a_cons c_int a_nil)))))))))))
      (ss_cons (st_if (t_cmp (op_eqD hr.u64) ob_eq (wk (nm 5)) (wk c_int))
      (ss_one (st_set (i := 6) c rfl (by first | exact Or.inl rfl | exact Or.inr rfl) (e_fn h__law_pick c hr (a_cons (nm 0) (a_cons (fzn (e_lst (a_cons c_str (a_cons c_str (a_cons c_str (a_cons c_str (a_cons c_str (a_cons c_str (a_cons c_str (a_cons c_str a_nil)))))))))) a_nil)))))
      ss_nil)
      (ss_cons (st_set (i := 7) c rfl (by first | exact Or.inl rfl | exact Or.inr rfl) (e_bin op_plus od_add (ow 4) (wk (fzn (e_lst (a_cons c_str (a_cons c_str (a_cons c_str (a_cons c_str (a_cons c_str (a_cons c_str a_nil)))))))))))
      (ss_one (st_app (i := 4) rfl (by first | exact Or.inl rfl | exact Or.inr (Or.inl rfl)) (e_ix (wk (fzn (e_lc c (i_any (e_bin op_plus od_add (wk (fzn (e_lst (a_cons (nm 6) a_nil)))) (wk (fzn (e_lc c (i_any (nm 3)) (blkOk_by (own := [("letter", 10)]) (N := ["deck", "many", "turn", "letters", "found", "long", "word", "barred", "at", "near", "letter"]) (sc := defScope st__law_words) (by decide +kernel)) gd_name (by decide) (fun _ _ _ _ _ => (pg_name (i := 10) sc__law_words.nd rfl (by first | exact Or.inl rfl | exact Or.inr rfl))) (fun _ _ _ _ _ => ts_nil) (fun _ _ _ _ _ => (e_bin op_plus od_add (wk (e_sl (wk (nm 6)) p_no (p_is (wk c_neg)))) (wk (nm 10))))))))) (blkOk_by (own := [("near", 9)]) (N := ["deck", "many", "turn", "letters", "found", "long", "word", "barred", "at", "near", "letter"]) (sc := defScope st__law_words) (by decide +kernel)) gd_name (by decide) (fun _ _ _ _ _ => (pg_name (i := 9) sc__law_words.nd rfl (by first | exact Or.inl rfl | exact Or.inr rfl))) (fun _ _ _ _ _ => ts_one (t_cmp (o_off hr.u65) ob_off (wk (nm 9)) (wk (nm 7)))) (fun _ _ _ _ _ => (nm 9))))) (wk c_int)))))))))
      (ss_one (st_retL (i := 4) rfl (by first | exact Or.inl rfl | exact Or.inr (Or.inl rfl))))))) (fun ds h Q E w => ?_)
  match ds, w with
  | [.obj d, .int n], ⟨c, hd, hn0, hn1, q⟩ =>
    refine ⟨rfl, ?_⟩
    obtain ⟨LS, eL⟩ : ∃ LS : Str, LS = "abcdefghijklmnopqrstuvwxyz" := ⟨_, rfl⟩
    have hL : LSok LS := by rw [eL]; exact letters_ok
    have hl := hL.len
    refine seqP (fun ρ => ρ = [some (.d (.obj d)), some (.d (.int n)), none, some (.d (.str LS)), some (.l (([] : List Str).map D.str)), none, none, none, none, none, none]) (fun N hN => ?_) ?_
    · simp only [sAsgO, pure1, tab1, dAnd, dOr, dNot, dIf, dCall, dFn, dCons, dNil, dVar, dOwn, dC, dFz, dBin, dCmp, dChn, dIsiB, bCmp, bChn, bVal, bAnd, bOr, bNot, bYes, dSortK, dPget, dGet, sDput, sExp, dLm, keyD, bCmpL, lk2, fI0, fI, sSeq, sIf, sRet, sRetL, sSet, sPar, sOwn, sFor, sNext, tName, NL.tCons, NL.tNil, tTups, dTup, dLst, dSl, oNo, oIs, fIx, fSl, iA, fAdd_t, fAdd_l, fAdd_s, fAdd_i, fLstOf_t, fLstOf_l, fTupOf_t, fTupOf_l, fLen_t, fLen_l, ofO_some, at0, at1, at2, NL.run, lenN, startN, DEnds.er, List.getElem?_cons_zero, List.getElem?_cons_succ, List.set_cons_zero, List.set_cons_succ, Bool.false_eq_true, if_true, if_false, reduceIte]
      exact ⟨sizeLine_ge (by simp), hN _ (by rw [eL]; rfl)⟩
    rintro _ rfl
    clear eL
    refine seqD (fun ρ h' => Dr d c h h' ∧ ∃ (fs : List Str) (t2 t5 t6 t7 t8 t9 t10 : Option SV), ρ = [some (.d (.obj d)), some (.d (.int n)), t2, some (.d (.str LS)), some (.l (fs.map D.str)), t5, t6, t7, t8, t9, t10] ∧ (fs.length : Int) = n ∧ fs.Nodup ∧ ∀ w ∈ fs, gwrd w) (fun N hN => ?_) ?_
    · simp only [pure1, tab1, dAnd, dOr, dNot, dIf, dCall, dFn, dCons, dNil, dVar, dOwn, dC, dFz, dBin, dCmp, dChn, dIsiB, bCmp, bChn, bVal, bAnd, bOr, bNot, bYes, dSortK, dPget, dGet, sDput, sExp, dLm, keyD, bCmpL, lk2, fI0, fI, sSeq, sIf, sRet, sRetL, sSet, sPar, sOwn, sFor, sNext, tName, NL.tCons, NL.tNil, tTups, dTup, dLst, dSl, oNo, oIs, fIx, fSl, iA, fAdd_t, fAdd_l, fAdd_s, fAdd_i, fLstOf_t, fLstOf_l, fTupOf_t, fTupOf_l, fLen_t, fLen_l, ofO_some, at0, at1, at2, NL.run, lenN, startN, DEnds.er, List.getElem?_cons_zero, List.getElem?_cons_succ, List.set_cons_zero, List.set_cons_succ, Bool.false_eq_true, if_true, if_false, reduceIte]
      refine ⟨⟨by omega, by omega⟩, ?_⟩
      refine loop_inv (fun i ρ h' => Dr d c h h' ∧ ∃ (fs : List Str) (t2 t5 t6 t7 t8 t9 t10 : Option SV), ρ = [some (.d (.obj d)), some (.d (.int n)), t2, some (.d (.str LS)), some (.l (fs.map D.str)), t5, t6, t7, t8, t9, t10] ∧ fs.length = i ∧ fs.Nodup ∧ ∀ w ∈ fs, gwrd w) (fun _ _ _ _ => trivial) _ 0 _ _ ⟨.refl hd, [], none, none, none, none, none, none, none, rfl, rfl, List.nodup_nil, fun w m => by cases m⟩ (fun i dd ρ hj N2 hdd hi hI hN2 => ?_) (fun ρ hj hI => ?_)
      · obtain ⟨rj, fs, t2, t5, t6, t7, t8, t9, t10, rfl, hfl, hfn, hfw⟩ := hI
        have hi3 : fs.length < 8 := by
          have hi2 := (List.getElem?_eq_some_iff.mp hdd).1
          simp only [intsD, List.length_map, List.length_range] at hi2
          omega
        clear hdd hN q
        simp only [tName]
        refine seqD (fun ρ h' => Dr d c h h' ∧ ∃ long : Int, (long = 1 ∨ long = 2 ∨ long = 3 ∨ long = 10 ∨ long = 0) ∧ ρ = [some (.d (.obj d)), some (.d (.int n)), some (.d dd), some (.d (.str LS)), some (.l (fs.map D.str)), some (.d (.int long)), t6, t7, t8, t9, t10]) (fun N hN => ?_) ?_
        · simp only [pure1, tab1, dAnd, dOr, dNot, dIf, dCall, dFn, dCons, dNil, dVar, dOwn, dC, dFz, dBin, dCmp, dChn, dIsiB, bCmp, bChn, bVal, bAnd, bOr, bNot, bYes, dSortK, dPget, dGet, sDput, sExp, dLm, keyD, bCmpL, lk2, fI0, fI, sSeq, sIf, sRet, sRetL, sSet, sPar, sOwn, sFor, sNext, tName, NL.tCons, NL.tNil, tTups, dTup, dLst, dSl, oNo, oIs, fIx, fSl, iA, fAdd_t, fAdd_l, fAdd_s, fAdd_i, fLstOf_t, fLstOf_l, fTupOf_t, fTupOf_l, fLen_t, fLen_l, ofO_some, at0, at1, at2, NL.run, lenN, startN, DEnds.er, List.getElem?_cons_zero, List.getElem?_cons_succ, List.set_cons_zero, List.set_cons_succ, Bool.false_eq_true, if_true, if_false, reduceIte]
          refine ⟨sizeLine_ge (by simp), c, rj.dk, by simp, by simp, fun x m h1 r1 => ?_⟩
          simp only [List.mem_cons, List.not_mem_nil, or_false] at m
          rcases m with rfl | rfl | rfl | rfl | rfl | rfl
          · exact hN _ _ ⟨rj.trans r1, 1, .inl rfl, rfl⟩
          · exact hN _ _ ⟨rj.trans r1, 1, .inl rfl, rfl⟩
          · exact hN _ _ ⟨rj.trans r1, 2, .inr (.inl rfl), rfl⟩
          · exact hN _ _ ⟨rj.trans r1, 3, .inr (.inr (.inl rfl)), rfl⟩
          · exact hN _ _ ⟨rj.trans r1, 10, .inr (.inr (.inr (.inl rfl))), rfl⟩
          · exact hN _ _ ⟨rj.trans r1, 0, .inr (.inr (.inr (.inr rfl))), rfl⟩
        clear rj hj
        rintro _ hj ⟨rj, long, hlong, rfl⟩
        refine seqD (fun ρ h' => Dr d c h h' ∧ ∃ w0 : Str, lets w0 ∧ (w0.length : Int) = long ∧ ρ = [some (.d (.obj d)), some (.d (.int n)), some (.d dd), some (.d (.str LS)), some (.l (fs.map D.str)), some (.d (.int long)), some (.d (.str w0)), t7, t8, t9, t10]) (fun N hN => ?_) ?_
        · simp only [dJoin, dLc, ofStr, pure1, tab1, dAnd, dOr, dNot, dIf, dCall, dFn, dCons, dNil, dVar, dOwn, dC, dFz, dBin, dCmp, dChn, dIsiB, bCmp, bChn, bVal, bAnd, bOr, bNot, bYes, dSortK, dPget, dGet, sDput, sExp, dLm, keyD, bCmpL, lk2, fI0, fI, sSeq, sIf, sRet, sRetL, sSet, sPar, sOwn, sFor, sNext, tName, NL.tCons, NL.tNil, tTups, dTup, dLst, dSl, oNo, oIs, fIx, fSl, iA, fAdd_t, fAdd_l, fAdd_s, fAdd_i, fLstOf_t, fLstOf_l, fTupOf_t, fTupOf_l, fLen_t, fLen_l, ofO_some, at0, at1, at2, NL.run, lenN, startN, DEnds.er, List.getElem?_cons_zero, List.getElem?_cons_succ, List.set_cons_zero, List.set_cons_succ, Bool.false_eq_true, if_true, if_false, reduceIte]
          refine ⟨by omega, ?_⟩
          refine lc_inv (fun h' => Dr d c h h') (fun y => ∃ c, y = .str ⟨#[c]⟩ ∧ isLet c = true) (fun _ _ => trivial) _ [] (fun dd2 m h1 A r1 a => ?_) (sizeLine_ge (by simp only [intsD, List.length_map, List.length_range, List.length_nil]; omega)) rj (fun y m => by cases m) (fun ys h1 hys hy r1 => ?_)
          · simp only [wipeR, List.map_cons, List.map_nil, pure1, tab1, dAnd, dOr, dNot, dIf, dCall, dFn, dCons, dNil, dVar, dOwn, dC, dFz, dBin, dCmp, dChn, dIsiB, bCmp, bChn, bVal, bAnd, bOr, bNot, bYes, dSortK, dPget, dGet, sDput, sExp, dLm, keyD, bCmpL, lk2, fI0, fI, sSeq, sIf, sRet, sRetL, sSet, sPar, sOwn, sFor, sNext, tName, NL.tCons, NL.tNil, tTups, dTup, dLst, dSl, oNo, oIs, fIx, fSl, iA, fAdd_t, fAdd_l, fAdd_s, fAdd_i, fLstOf_t, fLstOf_l, fTupOf_t, fTupOf_l, fLen_t, fLen_l, ofO_some, at0, at1, at2, NL.run, lenN, startN, DEnds.er, List.getElem?_cons_zero, List.getElem?_cons_succ, List.set_cons_zero, List.set_cons_succ, Bool.false_eq_true, if_true, if_false, reduceIte]
            refine ⟨c, r1.dk, by decide, by decide, fun k h2 h0 h1 r2 => ⟨sizeLine_ge (by rw [hl]; decide), ?_⟩⟩
            obtain ⟨c, hc, e⟩ := atI_ok (xs := LS.cps.toList) (i := k) h0 (by have : LS.cps.toList.length = 26 := hl; omega)
            rw [e]
            exact a _ _ ⟨c, rfl, hL.isl c hc⟩ (r1.trans r2)
          · have key : ∃ zs : List Str, ys = zs.map D.str ∧ ∀ z ∈ zs, ∃ c, z = ⟨#[c]⟩ ∧ isLet c = true := by
              clear hy hN
              induction ys with
              | nil => exact ⟨[], rfl, fun z m => by cases m⟩
              | cons y ys ih =>
                obtain ⟨c, rfl, hc⟩ := hys y List.mem_cons_self
                obtain ⟨zs, rfl, h⟩ := ih fun y m => hys y (List.mem_cons_of_mem _ m)
                exact ⟨⟨#[c]⟩ :: zs, rfl, fun z m => by
                  rcases List.mem_cons.mp m with m | m
                  · exact ⟨c, m, hc⟩
                  · exact h z m⟩
            obtain ⟨zs, rfl, hz⟩ := key
            have hzl : (zs.length : Int) = long := by
              simp only [List.length_map, intsD, List.length_range, List.length_nil] at hy
              omega
            have sm : (zs.map (·.length)).sum = zs.length := by
              clear hy hN hzl hys
              induction zs with
              | nil => rfl
              | cons z zs ih =>
                obtain ⟨c, rfl, _⟩ := hz z List.mem_cons_self
                rw [List.map_cons, List.sum_cons, ih fun z m => hz z (List.mem_cons_of_mem _ m), List.length_cons]
                show 1 + _ = _
                omega
            have fl : (zs.map fun y => y.cps.toList).flatten.length = zs.length ∧ ∀ c ∈ (zs.map fun y => y.cps.toList).flatten, isLet c = true := by
              clear hy hN hzl hys sm
              induction zs with
              | nil => exact ⟨rfl, fun c m => by cases m⟩
              | cons z zs ih =>
                obtain ⟨c, rfl, hc⟩ := hz z List.mem_cons_self
                obtain ⟨h1, h2⟩ := ih fun z m => hz z (List.mem_cons_of_mem _ m)
                rw [List.map_cons, List.flatten_cons]
                refine ⟨by rw [List.length_append, h1]; simp only [List.length_nil, List.length_cons]; omega, fun x m => ?_⟩
                rcases List.mem_append.mp m with m | m
                · rw [List.mem_singleton.mp m]; exact hc
                · exact h2 x m
            refine ⟨zs, rfl, by rw [sm]; show _ + _ * 0 ≤ _; omega, hN _ _ ⟨r1, _, ?_, ?_, rfl⟩⟩
            · intro c m
              rw [NL.join_nil] at m
              exact fl.2 c m
            · have : (Txt.join "" zs).length = zs.length := by
                show (Txt.join "" zs).cps.toList.length = _
                rw [NL.join_nil, fl.1]
              omega
        clear rj hj
        rintro _ hj ⟨rj, w0, hw0, hw1, rfl⟩
        refine seqD (fun ρ h' => Dr d c h h' ∧ ∃ w1 : Str, lets w1 ∧ 1 ≤ w1.length ∧ w1.length ≤ 10 ∧ ρ = [some (.d (.obj d)), some (.d (.int n)), some (.d dd), some (.d (.str LS)), some (.l (fs.map D.str)), some (.d (.int long)), some (.d (.str w1)), t7, t8, t9, t10]) (fun N hN => ?_) ?_
        · simp only [fEq_ii, pure1, tab1, dAnd, dOr, dNot, dIf, dCall, dFn, dCons, dNil, dVar, dOwn, dC, dFz, dBin, dCmp, dChn, dIsiB, bCmp, bChn, bVal, bAnd, bOr, bNot, bYes, dSortK, dPget, dGet, sDput, sExp, dLm, keyD, bCmpL, lk2, fI0, fI, sSeq, sIf, sRet, sRetL, sSet, sPar, sOwn, sFor, sNext, tName, NL.tCons, NL.tNil, tTups, dTup, dLst, dSl, oNo, oIs, fIx, fSl, iA, fAdd_t, fAdd_l, fAdd_s, fAdd_i, fLstOf_t, fLstOf_l, fTupOf_t, fTupOf_l, fLen_t, fLen_l, ofO_some, at0, at1, at2, NL.run, lenN, startN, DEnds.er, List.getElem?_cons_zero, List.getElem?_cons_succ, List.set_cons_zero, List.set_cons_succ, Bool.false_eq_true, if_true, if_false, reduceIte]
          by_cases h0 : long = 0
          · rw [show (long == 0) = true from by simpa using h0, if_pos rfl]
            refine ⟨sizeLine_ge (by simp), c, rj.dk, by simp, by simp, fun x m h1 r1 => ?_⟩
            simp only [List.mem_cons, List.not_mem_nil, or_false] at m
            have key : ∀ w : Str, ((w.cps.toList.all isLet && decide (1 ≤ w.length)) && decide (w.length ≤ 10)) = true → lets w ∧ 1 ≤ w.length ∧ w.length ≤ 10 := fun w h => by
              simp only [decide_eq_true_eq, Bool.and_eq_true] at h
              exact ⟨List.all_eq_true.mp h.1.1, h.1.2, h.2⟩
            rcases m with rfl | rfl | rfl | rfl | rfl | rfl | rfl | rfl
            · obtain ⟨a1, a2, a3⟩ := key "mark" (by decide +kernel)
              exact hN _ _ ⟨rj.trans r1, _, a1, a2, a3, rfl⟩
            · obtain ⟨a1, a2, a3⟩ := key "ise" (by decide +kernel)
              exact hN _ _ ⟨rj.trans r1, _, a1, a2, a3, rfl⟩
            · obtain ⟨a1, a2, a3⟩ := key "alls" (by decide +kernel)
              exact hN _ _ ⟨rj.trans r1, _, a1, a2, a3, rfl⟩
            · obtain ⟨a1, a2, a3⟩ := key "nones" (by decide +kernel)
              exact hN _ _ ⟨rj.trans r1, _, a1, a2, a3, rfl⟩
            · obtain ⟨a1, a2, a3⟩ := key "an" (by decide +kernel)
              exact hN _ _ ⟨rj.trans r1, _, a1, a2, a3, rfl⟩
            · obtain ⟨a1, a2, a3⟩ := key "somes" (by decide +kernel)
              exact hN _ _ ⟨rj.trans r1, _, a1, a2, a3, rfl⟩
            · obtain ⟨a1, a2, a3⟩ := key "eac" (by decide +kernel)
              exact hN _ _ ⟨rj.trans r1, _, a1, a2, a3, rfl⟩
            · obtain ⟨a1, a2, a3⟩ := key "ands" (by decide +kernel)
              exact hN _ _ ⟨rj.trans r1, _, a1, a2, a3, rfl⟩
          · rw [show (long == 0) = false from by simpa using h0, if_neg (by decide)]
            exact hN _ _ ⟨rj, w0, hw0, by omega, by omega, rfl⟩
        clear rj hj
        rintro _ hj ⟨rj, w1, hw1, hw2, hw3, rfl⟩
        refine seqP (fun ρ => ρ = [some (.d (.obj d)), some (.d (.int n)), some (.d dd), some (.d (.str LS)), some (.l (fs.map D.str)), some (.d (.int long)), some (.d (.str w1)), some (.d (.lst ((fs ++ resD).map D.str))), t8, t9, t10]) (fun N hN => ?_) ?_
        · simp only [pure1, tab1, dAnd, dOr, dNot, dIf, dCall, dFn, dCons, dNil, dVar, dOwn, dC, dFz, dBin, dCmp, dChn, dIsiB, bCmp, bChn, bVal, bAnd, bOr, bNot, bYes, dSortK, dPget, dGet, sDput, sExp, dLm, keyD, bCmpL, lk2, fI0, fI, sSeq, sIf, sRet, sRetL, sSet, sPar, sOwn, sFor, sNext, tName, NL.tCons, NL.tNil, tTups, dTup, dLst, dSl, oNo, oIs, fIx, fSl, iA, fAdd_t, fAdd_l, fAdd_s, fAdd_i, fLstOf_t, fLstOf_l, fTupOf_t, fTupOf_l, fLen_t, fLen_l, ofO_some, at0, at1, at2, NL.run, lenN, startN, DEnds.er, List.getElem?_cons_zero, List.getElem?_cons_succ, List.set_cons_zero, List.set_cons_succ, Bool.false_eq_true, if_true, if_false, reduceIte]
          refine ⟨sizeLine_ge (by simp), sizeLine_ge (by simp only [List.length_map, List.length_cons, List.length_nil]; omega), ?_⟩
          exact hN _ (by rw [List.map_append]; rfl)
        rintro _ rfl
        simp only [sApp, NL.ownOf, dLc, pure1, tab1, dAnd, dOr, dNot, dIf, dCall, dFn, dCons, dNil, dVar, dOwn, dC, dFz, dBin, dCmp, dChn, dIsiB, bCmp, bChn, bVal, bAnd, bOr, bNot, bYes, dSortK, dPget, dGet, sDput, sExp, dLm, keyD, bCmpL, lk2, fI0, fI, sSeq, sIf, sRet, sRetL, sSet, sPar, sOwn, sFor, sNext, tName, NL.tCons, NL.tNil, tTups, dTup, dLst, dSl, oNo, oIs, fIx, fSl, iA, fAdd_t, fAdd_l, fAdd_s, fAdd_i, fLstOf_t, fLstOf_l, fTupOf_t, fTupOf_l, fLen_t, fLen_l, ofO_some, at0, at1, at2, NL.run, lenN, startN, DEnds.er, List.getElem?_cons_zero, List.getElem?_cons_succ, List.set_cons_zero, List.set_cons_succ, Bool.false_eq_true, if_true, if_false, reduceIte]
        have gb : good (.lst ((fs ++ resD).map D.str)) := strs_good fun x m => (List.mem_append.mp m).elim (fun m => (hfw x m).1) (res_good x)
        refine ⟨sizeLine_ge (by simp), ?_⟩
        have cl : (cutS w1 none (some (-1))).length = w1.length - 1 := by
          show (cutS w1 none (some (-1))).cps.toList.length = _
          rw [cut_last, List.length_dropLast]
          rfl
        refine lc_map (fun y => match y with | .str z => .str (cutS w1 none (some (-1)) ++ z) | _ => .non) (NL.signs LS) (fun y m A a => ?_) (by rw [signs_len, hl]; exact sizeLine_ge (by decide)) ?_
        · obtain ⟨c, hc, rfl⟩ := List.mem_map.mp m
          simp only [wipeR, List.map_cons, List.map_nil, pure1, tab1, dAnd, dOr, dNot, dIf, dCall, dFn, dCons, dNil, dVar, dOwn, dC, dFz, dBin, dCmp, dChn, dIsiB, bCmp, bChn, bVal, bAnd, bOr, bNot, bYes, dSortK, dPget, dGet, sDput, sExp, dLm, keyD, bCmpL, lk2, fI0, fI, sSeq, sIf, sRet, sRetL, sSet, sPar, sOwn, sFor, sNext, tName, NL.tCons, NL.tNil, tTups, dTup, dLst, dSl, oNo, oIs, fIx, fSl, iA, fAdd_t, fAdd_l, fAdd_s, fAdd_i, fLstOf_t, fLstOf_l, fTupOf_t, fTupOf_l, fLen_t, fLen_l, ofO_some, at0, at1, at2, NL.run, lenN, startN, DEnds.er, List.getElem?_cons_zero, List.getElem?_cons_succ, List.set_cons_zero, List.set_cons_succ, Bool.false_eq_true, if_true, if_false, reduceIte]
          refine ⟨sizeLine_ge (by omega), sizeLine_ge (by rw [cl]; show _ + 1 ≤ _; omega), a⟩
        · have e1 : [D.str w1] ++ (NL.signs LS).map (fun y => match y with | .str z => .str (cutS w1 none (some (-1)) ++ z) | _ => .non) = (nearS LS w1).map D.str := by
            unfold nearS NL.signs
            rw [List.map_cons, List.map_map, List.map_map]
            rfl
          refine ⟨sizeLine_ge (by rw [List.length_map, signs_len, hl]; show 1 + 26 ≤ _; decide), ?_⟩
          rw [e1]
          have nl : (nearS LS w1).length = 27 := by
            unfold nearS
            rw [List.length_cons, List.length_map]
            show LS.length + 1 = 27
            rw [hl]
          refine lc_fm (fun y => match y with | .str z => !(fs ++ resD).contains z | _ => false) id _ (fun y m A N a1 a2 => ?_) (sizeLine_ge (by rw [List.length_map, nl]; decide)) ?_
          · obtain ⟨z, hz, rfl⟩ := List.mem_map.mp m
            simp only [wipeR, List.map_cons, List.map_nil, pure1, tab1, dAnd, dOr, dNot, dIf, dCall, dFn, dCons, dNil, dVar, dOwn, dC, dFz, dBin, dCmp, dChn, dIsiB, bCmp, bChn, bVal, bAnd, bOr, bNot, bYes, dSortK, dPget, dGet, sDput, sExp, dLm, keyD, bCmpL, lk2, fI0, fI, sSeq, sIf, sRet, sRetL, sSet, sPar, sOwn, sFor, sNext, tName, NL.tCons, NL.tNil, tTups, dTup, dLst, dSl, oNo, oIs, fIx, fSl, iA, fAdd_t, fAdd_l, fAdd_s, fAdd_i, fLstOf_t, fLstOf_l, fTupOf_t, fTupOf_l, fLen_t, fLen_l, ofO_some, at0, at1, at2, NL.run, lenN, startN, DEnds.er, List.getElem?_cons_zero, List.getElem?_cons_succ, List.set_cons_zero, List.set_cons_succ, Bool.false_eq_true, if_true, if_false, reduceIte]
            obtain ⟨q1, q2⟩ := near_ok hL hw1 hw2 hz
            refine fIn_l (lets_good q1 (by omega)) gb ?_
            rw [in_strs, bneT]
            cases e : (fs ++ resD).contains z
            · exact a1 (by simp only [e]; rfl)
            · exact a2 (by simp only [e]; rfl)
          · simp only [List.map_id, List.nil_append]
            have e2 : ((nearS LS w1).map D.str).filter (fun y => match y with | .str z => !(fs ++ resD).contains z | _ => false) = ((nearS LS w1).filter fun z => !(fs ++ resD).contains z).map D.str := by
              rw [List.filter_map]
              rfl
            rw [e2]
            obtain ⟨x, hx, hxb⟩ := near_some hL (w := w1) (bs := fs ++ resD) (by rw [List.length_append]; show _ + 6 < 26; omega)
            cases ef : (nearS LS w1).filter fun z => !(fs ++ resD).contains z with
            | nil =>
              have := List.filter_eq_nil_iff.mp ef x hx
              simp only [Bool.not_eq_true', Bool.not_eq_false, List.contains_iff_mem] at this
              exact absurd this hxb
            | cons y rest =>
              have hy : y ∈ (nearS LS w1).filter fun z => !(fs ++ resD).contains z := by rw [ef]; exact List.mem_cons_self
              obtain ⟨hy1, hy2⟩ := List.mem_filter.mp hy
              have hy3 : y ∉ fs ++ resD := by
                intro z
                rw [List.contains_iff_mem.mpr z] at hy2
                cases hy2
              obtain ⟨q1, q2⟩ := near_ok hL hw1 hw2 hy1
              rw [List.map_cons, at0]
              refine ⟨by rw [List.length_map]; exact Nat.lt_of_lt_of_le (by omega) (sizeLine_ge (n := 100) (by decide)), ?_⟩
              refine hN2 _ _ ⟨rj, fs ++ [y], some (.d dd), some (.d (.int long)), some (.d (.str w1)), some (.d (.lst ((fs ++ resD).map D.str))), t8, t9, t10, ?_, by rw [List.length_append, hfl]; rfl, ?_, ?_⟩
              · rw [show (fs ++ [y]).map D.str = fs.map D.str ++ [D.str y] from List.map_append]
              · rw [List.nodup_append]
                refine ⟨hfn, by simp, fun a ha b hb => ?_⟩
                rw [List.mem_singleton.mp hb]
                intro e
                exact hy3 (List.mem_append_left _ (e ▸ ha))
              · intro w hw
                rcases List.mem_append.mp hw with hw | hw
                · exact hfw w hw
                · rw [List.mem_singleton.mp hw]
                  exact gwrd_of q1 (by omega) (by omega) fun z => hy3 (List.mem_append_right _ z)
      · obtain ⟨rj, fs, t2, t5, t6, t7, t8, t9, t10, rfl, hfl, hfn, hfw⟩ := hI
        refine hN _ _ ⟨rj, fs, t2, t5, t6, t7, t8, t9, t10, rfl, ?_, hfn, hfw⟩
        rw [hfl]
        simp only [intsD, List.length_map, List.length_range]
        omega
    rintro _ hj ⟨rj, fs, t2, t5, t6, t7, t8, t9, t10, rfl, hfl, hfn, hfw⟩
    exact q fs hj hfl hfn hfw rj
end
end T69
set_option Elab.async false
set_option linter.all false
set_option maxRecDepth 100000
set_option maxHeartbeats 4300000
namespace T69
open PySem PySem.Spec PyProof.Rows L2 NL
section
variable {base : Heap} {mg : Str → Option Value} {K : PySem.W.Frag} {P : Program} {w : World}
abbrev st__law_concept : Stmt := top 39
theorem sc__law_concept : FnScope ["deck", "names", "roles", "most", "way", "first"] ["deck", "names", "roles", "most"] (defScope st__law_concept) := ⟨rfl, rfl, rfl, by decide +kernel, rfl, by decide +kernel, by decide +kernel⟩

def wrds (ws : List Str) : Prop := ws.length ≤ 20 ∧ ∀ w ∈ ws, gwrd w
def Gcon (n : Nat) : SG := fun ds h Q _ => match ds with
  | [.obj d, .lst ns, .lst rs, .int m] => ∃ c, Dk d c h ∧ 1 ≤ m ∧ m ≤ 50 ∧ m < n ∧ (∃ ns' rs' : List Str, ns = ns'.map D.str ∧ rs = rs'.map D.str ∧ wrds ns' ∧ wrds rs') ∧ ∀ x h', Dr d c h h' → conD x = true → good x → (dep x : Int) ≤ m → Q x h'
  | _ => False
theorem dep_str (s : Str) : dep (.str s) = 0 := by simp [dep, D.py, PyData.depth]
theorem dep_tup' {xs : List D} {n : Nat} (h : ∀ x ∈ xs, dep x ≤ n) : dep (.tup xs) ≤ n + 1 := dep_tup h
theorem list_nil_bool {ws : List Str} : eqDs (ws.map D.str) [] = ws.isEmpty := by cases ws <;> rfl
theorem wrds_good {ws : List Str} (h : wrds ws) : good (.lst (ws.map D.str)) := strs_good fun x m => (h.2 x m).1
theorem pick_mem {ws : List Str} {x : D} (m : x ∈ ws.map D.str) : ∃ s ∈ ws, x = .str s := by
  obtain ⟨s, hs, rfl⟩ := List.mem_map.mp m
  exact ⟨s, hs, rfl⟩
theorem dn_gcon (T : Txt mg K) (A : At K mg "_law_concept" st__law_concept) (h__law_draw : Dn P w K mg base 4 "_law_draw" ["deck", "many"] G_draw) (h__law_pick : Dn P w K mg base 5 "_law_pick" ["deck", "some"] G_pick) :
    ∀ n, Dn P w K mg base (n + 5) "_law_concept" ["deck", "names", "roles", "most"] (Gcon n) := by
  intro n
  induction n with
  | zero => exact Dn.no A (fun F => F.bindsN fun _ _ _ _ _ _ us hl => match us, hl with | [_, _, _, _], _ => rfl) fun ds h Q E w => match ds, w with | [.obj _, .lst _, .lst _, .int _], ⟨_, _, z1, _, z2, _⟩ => by omega
  | succ n h__law_concept =>
  refine Dn.of A sc__law_concept (fun F => F.bindsN fun _ _ _ _ _ _ us hl => match us, hl with | [_, _, _, _], _ => rfl) (fun f cdv A outer s H E hr c => (ss_cons (st_set (i := 4) c rfl (by first | exact Or.inl rfl | exact Or.inr rfl) (e_fn h__law_draw c hr (a_cons (nm 0) (a_cons c_int a_nil))))
      (ss_cons (st_if (PW.pt (w_and (t_cmp o_gt ob_ord (wk (nm 3)) (wk c_int)) (w_and (t_cmp o_lt ob_ord (wk (nm 4)) (wk c_int)) (w_and1 (t_cmp (op_neD hr.u64) ob_ne (wk (nm 2)) (wk (fzn (e_lst a_nil))))))))
      (ss_one (st_ret (e_tup (a_cons c_str (a_cons (e_fn h__law_pick c hr (a_cons (nm 0) (a_cons (nm 2) a_nil))) (a_cons (e_fn h__law_concept c hr (a_cons (nm 0) (a_cons (nm 1) (a_cons (nm 2) (a_cons (e_bin op_sub od_I0 (wk (nm 3)) (wk c_int)) a_nil))))) a_nil))))))
      ss_nil)
      (ss_cons (st_if (PW.pt (w_and (t_cmp o_gt ob_ord (wk (nm 3)) (wk c_int)) (w_and1 (t_cmp (o_in hr.u65) ob_in (wk (nm 4)) (wk (e_tup (a_cons c_int (a_cons c_int a_nil))))))))
      (ss_cons (st_set (i := 5) c rfl (by first | exact Or.inl rfl | exact Or.inr rfl) (e_bin op_plus od_add (wk c_int) (wk (e_fn h__law_draw c hr (a_cons (nm 0) (a_cons (e_bin op_sub od_I0 (wk (nm 3)) (wk c_int)) a_nil))))))
      (ss_one (st_ret (e_tup (a_cons c_str (a_cons (e_fn h__law_concept c hr (a_cons (nm 0) (a_cons (nm 1) (a_cons (nm 2) (a_cons (nm 5) a_nil))))) (a_cons (e_fn h__law_concept c hr (a_cons (nm 0) (a_cons (nm 1) (a_cons (nm 2) (a_cons (e_bin op_sub od_I0 (wk (nm 3)) (wk (nm 5))) a_nil))))) a_nil)))))))
      ss_nil)
      (ss_cons (st_if (PW.pt (w_or (t_cmp (op_eqD hr.u64) ob_eq (wk (nm 4)) (wk c_int)) (w_or1 (t_cmp (op_eqD hr.u64) ob_eq (wk (nm 1)) (wk (fzn (e_lst a_nil)))))))
      (ss_one (st_ret (e_if (t_cmp (op_eqD hr.u64) ob_eq (wk (e_fn h__law_draw c hr (a_cons (nm 0) (a_cons c_int a_nil)))) (wk c_int)) (e_tup (a_cons c_str a_nil)) (e_tup (a_cons c_str a_nil)))))
      ss_nil)
      (ss_one (st_ret (e_tup (a_cons c_str (a_cons (e_fn h__law_pick c hr (a_cons (nm 0) (a_cons (nm 1) a_nil))) a_nil)))))))))) (fun ds h Q E w => ?_)
  match ds, w with
  | [.obj d, .lst _, .lst _, .int m], ⟨c, hd, h1, h2, h3, ⟨ns, rs, rfl, rfl, hn, hr⟩, q⟩ =>
    refine ⟨rfl, ?_⟩
    have r := Dr.refl hd

    refine seqD (fun ρ h' => Dr d c h h' ∧ ∃ way : Int, ρ = [some (.d (.obj d)), some (.d (.lst (ns.map D.str))), some (.d (.lst (rs.map D.str))), some (.d (.int m)), some (.d (.int way)), none]) (fun N hN => ?_) ?_
    · simp only [fEq_ii, fOrd_ii, pure1, tab1, dAnd, dOr, dNot, dIf, dCall, dFn, dCons, dNil, dVar, dOwn, dC, dFz, dBin, dCmp, dChn, dIsiB, bCmp, bChn, bVal, bAnd, bOr, bNot, bYes, dSortK, dPget, dGet, sDput, sExp, dLm, keyD, bCmpL, lk2, fI0, fI, sSeq, sIf, sRet, sRetL, sSet, sPar, sOwn, sFor, sNext, tName, NL.tCons, NL.tNil, tTups, dTup, dLst, dSl, oNo, oIs, fIx, fSl, iA, fAdd_t, fAdd_l, fAdd_s, fAdd_i, fLstOf_t, fLstOf_l, fTupOf_t, fTupOf_l, fLen_t, fLen_l, ofO_some, at0, at1, at2, NL.run, lenN, startN, DEnds.er, List.getElem?_cons_zero, List.getElem?_cons_succ, List.set_cons_zero, List.set_cons_succ, Bool.false_eq_true, if_true, if_false, reduceIte, G_draw, G_pick, Gcon]
      exact ⟨c, r.dk, by decide, by decide, fun k y1 _ _ r1 => hN _ _ ⟨r.trans r1, k, rfl⟩⟩
    clear r
    rintro _ hj ⟨r, way, rfl⟩
    have len_ne : ∀ ws : List Str, ws ≠ [] → ws.map D.str ≠ [] := fun ws h e => h (List.map_eq_nil_iff.mp e)
    cases hc : decide (1 < m) && (decide (way < 3) && !rs.isEmpty)
    · refine skip_if (fun Q X q => ?_) ?_
      · simp only [fEq_ii, fOrd_ii, pure1, tab1, dAnd, dOr, dNot, dIf, dCall, dFn, dCons, dNil, dVar, dOwn, dC, dFz, dBin, dCmp, dChn, dIsiB, bCmp, bChn, bVal, bAnd, bOr, bNot, bYes, dSortK, dPget, dGet, sDput, sExp, dLm, keyD, bCmpL, lk2, fI0, fI, sSeq, sIf, sRet, sRetL, sSet, sPar, sOwn, sFor, sNext, tName, NL.tCons, NL.tNil, tTups, dTup, dLst, dSl, oNo, oIs, fIx, fSl, iA, fAdd_t, fAdd_l, fAdd_s, fAdd_i, fLstOf_t, fLstOf_l, fTupOf_t, fTupOf_l, fLen_t, fLen_l, ofO_some, at0, at1, at2, NL.run, lenN, startN, DEnds.er, List.getElem?_cons_zero, List.getElem?_cons_succ, List.set_cons_zero, List.set_cons_succ, Bool.false_eq_true, if_true, if_false, reduceIte, G_draw, G_pick, Gcon]
        rw [← hc] at q
        cases a1 : decide (1 < m)
        · rw [a1, Bool.false_and] at q
          rw [if_neg (by decide)]
          exact q
        · rw [a1, Bool.true_and] at q
          rw [if_pos rfl]
          cases a2 : decide (way < 3)
          · rw [a2, Bool.false_and] at q
            rw [if_neg (by decide)]
            exact q
          · rw [a2, Bool.true_and] at q
            rw [if_pos rfl]
            refine ⟨sizeLine_ge (by simp), wrds_good hr, (Ax.nil).good.2, ?_⟩
            rw [eqD_lst, list_nil_bool]
            exact q
      cases hc2 : decide (1 < m) && inD [.int 3, .int 4] (.int way)
      · refine skip_if (fun Q X q => ?_) ?_
        · simp only [fEq_ii, fOrd_ii, pure1, tab1, dAnd, dOr, dNot, dIf, dCall, dFn, dCons, dNil, dVar, dOwn, dC, dFz, dBin, dCmp, dChn, dIsiB, bCmp, bChn, bVal, bAnd, bOr, bNot, bYes, dSortK, dPget, dGet, sDput, sExp, dLm, keyD, bCmpL, lk2, fI0, fI, sSeq, sIf, sRet, sRetL, sSet, sPar, sOwn, sFor, sNext, tName, NL.tCons, NL.tNil, tTups, dTup, dLst, dSl, oNo, oIs, fIx, fSl, iA, fAdd_t, fAdd_l, fAdd_s, fAdd_i, fLstOf_t, fLstOf_l, fTupOf_t, fTupOf_l, fLen_t, fLen_l, ofO_some, at0, at1, at2, NL.run, lenN, startN, DEnds.er, List.getElem?_cons_zero, List.getElem?_cons_succ, List.set_cons_zero, List.set_cons_succ, Bool.false_eq_true, if_true, if_false, reduceIte, G_draw, G_pick, Gcon]
          rw [← hc2] at q
          cases a1 : decide (1 < m)
          · rw [a1, Bool.false_and] at q
            rw [if_neg (by decide)]
            exact q
          · rw [a1, Bool.true_and] at q
            rw [if_pos rfl]
            refine ⟨sizeLine_ge (by simp), fIn_t (good_int _) (good_tup (fun x m => ?_) 0 (fun x m => ?_)).1 ?_⟩
            · simp only [List.mem_cons, List.not_mem_nil, or_false] at m
              rcases m with rfl | rfl <;> exact good_int _
            · simp only [List.mem_cons, List.not_mem_nil, or_false] at m
              rcases m with rfl | rfl <;> simp [dep, D.py, PyData.depth]
            · rw [bneF]
              exact q
        cases hc3 : way == 9 || ns.isEmpty
        · refine skip_if (fun Q X q => ?_) ?_
          · simp only [fEq_ii, fOrd_ii, pure1, tab1, dAnd, dOr, dNot, dIf, dCall, dFn, dCons, dNil, dVar, dOwn, dC, dFz, dBin, dCmp, dChn, dIsiB, bCmp, bChn, bVal, bAnd, bOr, bNot, bYes, dSortK, dPget, dGet, sDput, sExp, dLm, keyD, bCmpL, lk2, fI0, fI, sSeq, sIf, sRet, sRetL, sSet, sPar, sOwn, sFor, sNext, tName, NL.tCons, NL.tNil, tTups, dTup, dLst, dSl, oNo, oIs, fIx, fSl, iA, fAdd_t, fAdd_l, fAdd_s, fAdd_i, fLstOf_t, fLstOf_l, fTupOf_t, fTupOf_l, fLen_t, fLen_l, ofO_some, at0, at1, at2, NL.run, lenN, startN, DEnds.er, List.getElem?_cons_zero, List.getElem?_cons_succ, List.set_cons_zero, List.set_cons_succ, Bool.false_eq_true, if_true, if_false, reduceIte, G_draw, G_pick, Gcon]
            rw [← hc3] at q
            cases a1 : way == 9
            · rw [a1, Bool.false_or] at q
              rw [if_neg (by decide)]
              refine ⟨sizeLine_ge (by simp), wrds_good hn, (Ax.nil).good.2, ?_⟩
              rw [eqD_lst, list_nil_bool]
              exact q
            · rw [a1, Bool.true_or] at q
              rw [if_pos rfl]
              exact q
          have nn : ns ≠ [] := fun e => by
            rw [e] at hc3
            simp at hc3
          simp only [fEq_ii, fOrd_ii, pure1, tab1, dAnd, dOr, dNot, dIf, dCall, dFn, dCons, dNil, dVar, dOwn, dC, dFz, dBin, dCmp, dChn, dIsiB, bCmp, bChn, bVal, bAnd, bOr, bNot, bYes, dSortK, dPget, dGet, sDput, sExp, dLm, keyD, bCmpL, lk2, fI0, fI, sSeq, sIf, sRet, sRetL, sSet, sPar, sOwn, sFor, sNext, tName, NL.tCons, NL.tNil, tTups, dTup, dLst, dSl, oNo, oIs, fIx, fSl, iA, fAdd_t, fAdd_l, fAdd_s, fAdd_i, fLstOf_t, fLstOf_l, fTupOf_t, fTupOf_l, fLen_t, fLen_l, ofO_some, at0, at1, at2, NL.run, lenN, startN, DEnds.er, List.getElem?_cons_zero, List.getElem?_cons_succ, List.set_cons_zero, List.set_cons_succ, Bool.false_eq_true, if_true, if_false, reduceIte, G_draw, G_pick, Gcon]
          refine ⟨c, r.dk, len_ne ns nn, by rw [List.length_map]; have := hn.1; omega, fun x mx y1 r1 => ?_⟩
          obtain ⟨s, hs, rfl⟩ := pick_mem mx
          refine ⟨sizeLine_ge (by simp), q _ _ (r.trans r1) (by rw [conD_word]; exact (hn.2 s hs).2) (good_tup (fun x m => ?_) 0 (fun x m => ?_)).1 ?_⟩
          · simp only [List.mem_cons, List.not_mem_nil, or_false] at m
            rcases m with rfl | rfl
            · exact strl "word"
            · exact (hn.2 s hs).1
          · simp only [List.mem_cons, List.not_mem_nil, or_false] at m
            rcases m with rfl | rfl <;> rw [dep_str] <;> exact Nat.le_refl _
          · have : dep (.tup [.str "word", .str s]) ≤ 0 + 1 := dep_tup fun x m => by
              simp only [List.mem_cons, List.not_mem_nil, or_false] at m
              rcases m with rfl | rfl <;> rw [dep_str] <;> exact Nat.le_refl _
            omega
        · refine take_if (fun Q X q => ?_) ?_
          · simp only [fEq_ii, fOrd_ii, pure1, tab1, dAnd, dOr, dNot, dIf, dCall, dFn, dCons, dNil, dVar, dOwn, dC, dFz, dBin, dCmp, dChn, dIsiB, bCmp, bChn, bVal, bAnd, bOr, bNot, bYes, dSortK, dPget, dGet, sDput, sExp, dLm, keyD, bCmpL, lk2, fI0, fI, sSeq, sIf, sRet, sRetL, sSet, sPar, sOwn, sFor, sNext, tName, NL.tCons, NL.tNil, tTups, dTup, dLst, dSl, oNo, oIs, fIx, fSl, iA, fAdd_t, fAdd_l, fAdd_s, fAdd_i, fLstOf_t, fLstOf_l, fTupOf_t, fTupOf_l, fLen_t, fLen_l, ofO_some, at0, at1, at2, NL.run, lenN, startN, DEnds.er, List.getElem?_cons_zero, List.getElem?_cons_succ, List.set_cons_zero, List.set_cons_succ, Bool.false_eq_true, if_true, if_false, reduceIte, G_draw, G_pick, Gcon]
            rw [← hc3] at q
            cases a1 : way == 9
            · rw [a1, Bool.false_or] at q
              rw [if_neg (by decide)]
              refine ⟨sizeLine_ge (by simp), wrds_good hn, (Ax.nil).good.2, ?_⟩
              rw [eqD_lst, list_nil_bool]
              exact q
            · rw [a1, Bool.true_or] at q
              rw [if_pos rfl]
              exact q
          simp only [fEq_ii, fOrd_ii, pure1, tab1, dAnd, dOr, dNot, dIf, dCall, dFn, dCons, dNil, dVar, dOwn, dC, dFz, dBin, dCmp, dChn, dIsiB, bCmp, bChn, bVal, bAnd, bOr, bNot, bYes, dSortK, dPget, dGet, sDput, sExp, dLm, keyD, bCmpL, lk2, fI0, fI, sSeq, sIf, sRet, sRetL, sSet, sPar, sOwn, sFor, sNext, tName, NL.tCons, NL.tNil, tTups, dTup, dLst, dSl, oNo, oIs, fIx, fSl, iA, fAdd_t, fAdd_l, fAdd_s, fAdd_i, fLstOf_t, fLstOf_l, fTupOf_t, fTupOf_l, fLen_t, fLen_l, ofO_some, at0, at1, at2, NL.run, lenN, startN, DEnds.er, List.getElem?_cons_zero, List.getElem?_cons_succ, List.set_cons_zero, List.set_cons_succ, Bool.false_eq_true, if_true, if_false, reduceIte, G_draw, G_pick, Gcon]
          refine ⟨c, r.dk, by decide, by decide, fun k y1 _ _ r1 => ?_⟩
          have g1 : ∀ s : Str, good (.str s) → good (.tup [.str s]) := fun s h => (good_tup (fun x m => by rw [List.mem_singleton.mp m]; exact h) 0 (fun x m => by rw [List.mem_singleton.mp m, dep_str]; exact Nat.le_refl _)).1
          have d1 : ∀ s : Str, dep (.tup [.str s]) ≤ 0 + 1 := fun s => dep_tup fun x m => by rw [List.mem_singleton.mp m, dep_str]; exact Nat.le_refl _
          cases k == 1
          · rw [if_neg (by decide)]
            exact ⟨sizeLine_ge (by simp), q _ _ (r.trans r1) conD_all (g1 _ (strl "all")) (by have := d1 "all"; omega)⟩
          · rw [if_pos rfl]
            exact ⟨sizeLine_ge (by simp), q _ _ (r.trans r1) conD_none (g1 _ (strl "none")) (by have := d1 "none"; omega)⟩
      · refine take_if (fun Q X q => ?_) ?_
        · simp only [fEq_ii, fOrd_ii, pure1, tab1, dAnd, dOr, dNot, dIf, dCall, dFn, dCons, dNil, dVar, dOwn, dC, dFz, dBin, dCmp, dChn, dIsiB, bCmp, bChn, bVal, bAnd, bOr, bNot, bYes, dSortK, dPget, dGet, sDput, sExp, dLm, keyD, bCmpL, lk2, fI0, fI, sSeq, sIf, sRet, sRetL, sSet, sPar, sOwn, sFor, sNext, tName, NL.tCons, NL.tNil, tTups, dTup, dLst, dSl, oNo, oIs, fIx, fSl, iA, fAdd_t, fAdd_l, fAdd_s, fAdd_i, fLstOf_t, fLstOf_l, fTupOf_t, fTupOf_l, fLen_t, fLen_l, ofO_some, at0, at1, at2, NL.run, lenN, startN, DEnds.er, List.getElem?_cons_zero, List.getElem?_cons_succ, List.set_cons_zero, List.set_cons_succ, Bool.false_eq_true, if_true, if_false, reduceIte, G_draw, G_pick, Gcon]
          rw [← hc2] at q
          cases a1 : decide (1 < m)
          · rw [a1, Bool.false_and] at q
            rw [if_neg (by decide)]
            exact q
          · rw [a1, Bool.true_and] at q
            rw [if_pos rfl]
            refine ⟨sizeLine_ge (by simp), fIn_t (good_int _) (good_tup (fun x m => ?_) 0 (fun x m => ?_)).1 ?_⟩
            · simp only [List.mem_cons, List.not_mem_nil, or_false] at m
              rcases m with rfl | rfl <;> exact good_int _
            · simp only [List.mem_cons, List.not_mem_nil, or_false] at m
              rcases m with rfl | rfl <;> simp [dep, D.py, PyData.depth]
            · rw [bneF]
              exact q
        have hm1 : 1 < m := by
          rw [Bool.and_eq_true] at hc2
          exact of_decide_eq_true hc2.1
        refine seqD (fun ρ h' => Dr d c h h' ∧ ∃ k : Int, 1 ≤ k ∧ k < m ∧ ρ = [some (.d (.obj d)), some (.d (.lst (ns.map D.str))), some (.d (.lst (rs.map D.str))), some (.d (.int m)), some (.d (.int way)), some (.d (.int k))]) (fun N hN => ?_) ?_
        · simp only [fEq_ii, fOrd_ii, pure1, tab1, dAnd, dOr, dNot, dIf, dCall, dFn, dCons, dNil, dVar, dOwn, dC, dFz, dBin, dCmp, dChn, dIsiB, bCmp, bChn, bVal, bAnd, bOr, bNot, bYes, dSortK, dPget, dGet, sDput, sExp, dLm, keyD, bCmpL, lk2, fI0, fI, sSeq, sIf, sRet, sRetL, sSet, sPar, sOwn, sFor, sNext, tName, NL.tCons, NL.tNil, tTups, dTup, dLst, dSl, oNo, oIs, fIx, fSl, iA, fAdd_t, fAdd_l, fAdd_s, fAdd_i, fLstOf_t, fLstOf_l, fTupOf_t, fTupOf_l, fLen_t, fLen_l, ofO_some, at0, at1, at2, NL.run, lenN, startN, DEnds.er, List.getElem?_cons_zero, List.getElem?_cons_succ, List.set_cons_zero, List.set_cons_succ, Bool.false_eq_true, if_true, if_false, reduceIte, G_draw, G_pick, Gcon]
          exact ⟨c, r.dk, by omega, by omega, fun k y1 h0 h1 r1 => hN _ _ ⟨r.trans r1, 1 + k, by omega, by omega, rfl⟩⟩
        clear r
        rintro _ hj ⟨r, k, hk1, hk2, rfl⟩
        simp only [fEq_ii, fOrd_ii, pure1, tab1, dAnd, dOr, dNot, dIf, dCall, dFn, dCons, dNil, dVar, dOwn, dC, dFz, dBin, dCmp, dChn, dIsiB, bCmp, bChn, bVal, bAnd, bOr, bNot, bYes, dSortK, dPget, dGet, sDput, sExp, dLm, keyD, bCmpL, lk2, fI0, fI, sSeq, sIf, sRet, sRetL, sSet, sPar, sOwn, sFor, sNext, tName, NL.tCons, NL.tNil, tTups, dTup, dLst, dSl, oNo, oIs, fIx, fSl, iA, fAdd_t, fAdd_l, fAdd_s, fAdd_i, fLstOf_t, fLstOf_l, fTupOf_t, fTupOf_l, fLen_t, fLen_l, ofO_some, at0, at1, at2, NL.run, lenN, startN, DEnds.er, List.getElem?_cons_zero, List.getElem?_cons_succ, List.set_cons_zero, List.set_cons_succ, Bool.false_eq_true, if_true, if_false, reduceIte, G_draw, G_pick, Gcon]
        refine ⟨c, r.dk, by omega, by omega, by omega, ⟨ns, rs, rfl, rfl, hn, hr⟩, fun x y1 r1 hx gx dx => ?_⟩
        refine ⟨c, r1.dk, by omega, by omega, by omega, ⟨ns, rs, rfl, rfl, hn, hr⟩, fun y y2 r2 hy gy dy => ⟨sizeLine_ge (by simp), q _ _ ((r.trans r1).trans r2) (by rw [conD_and, hx, hy]; rfl) (good_tup (fun z m => ?_) 49 (fun z m => ?_)).1 ?_⟩⟩
        · simp only [List.mem_cons, List.not_mem_nil, or_false] at m
          rcases m with rfl | rfl | rfl
          · exact strl "and"
          · exact gx
          · exact gy
        · simp only [List.mem_cons, List.not_mem_nil, or_false] at m
          rcases m with rfl | rfl | rfl
          · rw [dep_str]; omega
          · omega
          · omega
        · obtain ⟨j, hj⟩ := Int.eq_ofNat_of_zero_le (show 0 ≤ m - 1 by omega)
          have : dep (.tup [.str "and", x, y]) ≤ j + 1 := dep_tup fun z m => by
            simp only [List.mem_cons, List.not_mem_nil, or_false] at m
            rcases m with rfl | rfl | rfl
            · rw [dep_str]; omega
            · omega
            · omega
          omega
    · refine take_if (fun Q X q => ?_) ?_
      · simp only [fEq_ii, fOrd_ii, pure1, tab1, dAnd, dOr, dNot, dIf, dCall, dFn, dCons, dNil, dVar, dOwn, dC, dFz, dBin, dCmp, dChn, dIsiB, bCmp, bChn, bVal, bAnd, bOr, bNot, bYes, dSortK, dPget, dGet, sDput, sExp, dLm, keyD, bCmpL, lk2, fI0, fI, sSeq, sIf, sRet, sRetL, sSet, sPar, sOwn, sFor, sNext, tName, NL.tCons, NL.tNil, tTups, dTup, dLst, dSl, oNo, oIs, fIx, fSl, iA, fAdd_t, fAdd_l, fAdd_s, fAdd_i, fLstOf_t, fLstOf_l, fTupOf_t, fTupOf_l, fLen_t, fLen_l, ofO_some, at0, at1, at2, NL.run, lenN, startN, DEnds.er, List.getElem?_cons_zero, List.getElem?_cons_succ, List.set_cons_zero, List.set_cons_succ, Bool.false_eq_true, if_true, if_false, reduceIte, G_draw, G_pick, Gcon]
        rw [← hc] at q
        cases a1 : decide (1 < m)
        · rw [a1, Bool.false_and] at q
          rw [if_neg (by decide)]
          exact q
        · rw [a1, Bool.true_and] at q
          rw [if_pos rfl]
          cases a2 : decide (way < 3)
          · rw [a2, Bool.false_and] at q
            rw [if_neg (by decide)]
            exact q
          · rw [a2, Bool.true_and] at q
            rw [if_pos rfl]
            refine ⟨sizeLine_ge (by simp), wrds_good hr, (Ax.nil).good.2, ?_⟩
            rw [eqD_lst, list_nil_bool]
            exact q
      rw [Bool.and_eq_true, Bool.and_eq_true] at hc
      have hm1 : 1 < m := of_decide_eq_true hc.1
      have nn : rs ≠ [] := fun e => by
        rw [e] at hc
        simp at hc
      simp only [fEq_ii, fOrd_ii, pure1, tab1, dAnd, dOr, dNot, dIf, dCall, dFn, dCons, dNil, dVar, dOwn, dC, dFz, dBin, dCmp, dChn, dIsiB, bCmp, bChn, bVal, bAnd, bOr, bNot, bYes, dSortK, dPget, dGet, sDput, sExp, dLm, keyD, bCmpL, lk2, fI0, fI, sSeq, sIf, sRet, sRetL, sSet, sPar, sOwn, sFor, sNext, tName, NL.tCons, NL.tNil, tTups, dTup, dLst, dSl, oNo, oIs, fIx, fSl, iA, fAdd_t, fAdd_l, fAdd_s, fAdd_i, fLstOf_t, fLstOf_l, fTupOf_t, fTupOf_l, fLen_t, fLen_l, ofO_some, at0, at1, at2, NL.run, lenN, startN, DEnds.er, List.getElem?_cons_zero, List.getElem?_cons_succ, List.set_cons_zero, List.set_cons_succ, Bool.false_eq_true, if_true, if_false, reduceIte, G_draw, G_pick, Gcon]
      refine ⟨c, r.dk, len_ne rs nn, by rw [List.length_map]; have := hr.1; omega, fun x mx y1 r1 => ?_⟩
      obtain ⟨s, hs, rfl⟩ := pick_mem mx
      refine ⟨c, r1.dk, by omega, by omega, by omega, ⟨ns, rs, rfl, rfl, hn, hr⟩, fun y y2 r2 hy gy dy => ⟨sizeLine_ge (by simp), q _ _ ((r.trans r1).trans r2) (by rw [conD_some, show wordD (.str s) = true from (hr.2 s hs).2, hy]; rfl) (good_tup (fun z m => ?_) 49 (fun z m => ?_)).1 ?_⟩⟩
      · simp only [List.mem_cons, List.not_mem_nil, or_false] at m
        rcases m with rfl | rfl | rfl
        · exact strl "some"
        · exact (hr.2 s hs).1
        · exact gy
      · simp only [List.mem_cons, List.not_mem_nil, or_false] at m
        rcases m with rfl | rfl | rfl
        · rw [dep_str]; omega
        · rw [dep_str]; omega
        · omega
      · obtain ⟨j, hj⟩ := Int.eq_ofNat_of_zero_le (show 0 ≤ m - 1 by omega)
        have : dep (.tup [.str "some", .str s, y]) ≤ j + 1 := dep_tup fun z m => by
          simp only [List.mem_cons, List.not_mem_nil, or_false] at m
          rcases m with rfl | rfl | rfl
          · rw [dep_str]; omega
          · rw [dep_str]; omega
          · omega
        omega
def G_concept : SG := fun ds h Q _ => match ds with
  | [.obj d, .lst ns, .lst rs, .int m] => ∃ c, Dk d c h ∧ 1 ≤ m ∧ m ≤ 50 ∧ (∃ ns' rs' : List Str, ns = ns'.map D.str ∧ rs = rs'.map D.str ∧ wrds ns' ∧ wrds rs') ∧ ∀ x h', Dr d c h h' → conD x = true → good x → (dep x : Int) ≤ m → Q x h'
  | _ => False
theorem dn__law_concept (T : Txt mg K) (A : At K mg "_law_concept" st__law_concept) (h__law_draw : Dn P w K mg base 4 "_law_draw" ["deck", "many"] G_draw) (h__law_pick : Dn P w K mg base 5 "_law_pick" ["deck", "some"] G_pick) :
    Dn P w K mg base 56 "_law_concept" ["deck", "names", "roles", "most"] G_concept :=
  (dn_gcon T A h__law_draw h__law_pick 51).imp fun ds h Q E w => match ds, w with | [.obj _, .lst _, .lst _, .int _], ⟨c, a, b, c2, e, f⟩ => ⟨c, a, b, c2, by omega, e, f⟩
abbrev st__law_book : Stmt := top 40
theorem sc__law_book : FnScope ["deck", "names", "roles", "many", "most", "turn"] ["deck", "names", "roles", "many", "most"] (defScope st__law_book) := ⟨rfl, rfl, rfl, by decide +kernel, rfl, by decide +kernel, by decide +kernel⟩

/-- an axiom that the law draws -/
def gax (x : D) : Prop := good x ∧ dep x ≤ 4 ∧ senD x = true
def G_book : SG := fun ds h Q _ => match ds with
  | [.obj d, .lst ns, .lst rs, .int k, .int m] => ∃ c, Dk d c h ∧ 0 ≤ k ∧ k ≤ 1000 ∧ 1 ≤ m ∧ m ≤ 3 ∧ (∃ ns' rs' : List Str, ns = ns'.map D.str ∧ rs = rs'.map D.str ∧ wrds ns' ∧ wrds rs') ∧ ∀ (xs : List D) h', Dr d c h h' → (xs.length : Int) = k → (∀ x ∈ xs, gax x) → Q (.tup xs) h'
  | _ => False
theorem dn__law_book (T : Txt mg K) (A : At K mg "_law_book" st__law_book) (h__law_concept : Dn P w K mg base 56 "_law_concept" ["deck", "names", "roles", "most"] G_concept) : Dn P w K mg base 57 "_law_book" ["deck", "names", "roles", "many", "most"] G_book := by
  refine Dn.of A sc__law_book (fun F => F.bindsN fun _ _ _ _ _ _ us hl => match us, hl with | [_, _, _, _, _], _ => rfl) (fun f cdv A outer s H E hr c => (ss_one (st_ret (c_tuple T.b (v_cons (wk (fzn (e_lc c (i_rng1 rfl T.b.range (wk (nm 3))) (blkOk_by (own := [("turn", 5)]) (N := ["deck", "names", "roles", "many", "most", "turn"]) (sc := defScope st__law_book) (by decide +kernel)) gd_name (by decide) (fun _ _ _ _ _ => (pg_name (i := 5) sc__law_book.nd rfl (by first | exact Or.inl rfl | exact Or.inr rfl))) (fun _ _ _ _ _ => ts_nil) (fun _ _ _ _ _ => (e_tup (a_cons (e_fn h__law_concept (c.blk) hr (a_cons (nm 0) (a_cons (nm 1) (a_cons (nm 2) (a_cons (nm 4) a_nil))))) (a_cons (e_fn h__law_concept (c.blk) hr (a_cons (nm 0) (a_cons (nm 1) (a_cons (nm 2) (a_cons (nm 4) a_nil))))) a_nil))))))) v_nil))))) (fun ds h Q E w => ?_)
  match ds, w with
  | [.obj d, .lst _, .lst _, .int k, .int m], ⟨c, hd, k0, k1, h1, h2, ⟨ns, rs, rfl, rfl, hn, hr⟩, q⟩ =>
    refine ⟨rfl, ?_⟩
    simp only [dLc, pure1, tab1, dAnd, dOr, dNot, dIf, dCall, dFn, dCons, dNil, dVar, dOwn, dC, dFz, dBin, dCmp, dChn, dIsiB, bCmp, bChn, bVal, bAnd, bOr, bNot, bYes, dSortK, dPget, dGet, sDput, sExp, dLm, keyD, bCmpL, lk2, fI0, fI, sSeq, sIf, sRet, sRetL, sSet, sPar, sOwn, sFor, sNext, tName, NL.tCons, NL.tNil, tTups, dTup, dLst, dSl, oNo, oIs, fIx, fSl, iA, fAdd_t, fAdd_l, fAdd_s, fAdd_i, fLstOf_t, fLstOf_l, fTupOf_t, fTupOf_l, fLen_t, fLen_l, ofO_some, at0, at1, at2, NL.run, lenN, startN, DEnds.er, List.getElem?_cons_zero, List.getElem?_cons_succ, List.set_cons_zero, List.set_cons_succ, Bool.false_eq_true, if_true, if_false, reduceIte, G_draw, G_pick, Gcon]
    refine ⟨⟨by omega, by omega⟩, ?_⟩
    refine lc_inv (fun h' => Dr d c h h') gax (fun _ _ => trivial) _ [] (fun dd mm y1 A r a => ?_) (sizeLine_ge (by simp only [intsD, List.length_map, List.length_range, List.length_nil]; omega)) (.refl hd) (fun y m => by cases m) (fun ys y1 hys hy r => ?_)
    · simp only [wipeR, List.map_cons, List.map_nil, pure1, tab1, dAnd, dOr, dNot, dIf, dCall, dFn, dCons, dNil, dVar, dOwn, dC, dFz, dBin, dCmp, dChn, dIsiB, bCmp, bChn, bVal, bAnd, bOr, bNot, bYes, dSortK, dPget, dGet, sDput, sExp, dLm, keyD, bCmpL, lk2, fI0, fI, sSeq, sIf, sRet, sRetL, sSet, sPar, sOwn, sFor, sNext, tName, NL.tCons, NL.tNil, tTups, dTup, dLst, dSl, oNo, oIs, fIx, fSl, iA, fAdd_t, fAdd_l, fAdd_s, fAdd_i, fLstOf_t, fLstOf_l, fTupOf_t, fTupOf_l, fLen_t, fLen_l, ofO_some, at0, at1, at2, NL.run, lenN, startN, DEnds.er, List.getElem?_cons_zero, List.getElem?_cons_succ, List.set_cons_zero, List.set_cons_succ, Bool.false_eq_true, if_true, if_false, reduceIte, G_draw, G_pick, Gcon]
      refine ⟨c, r.dk, h1, by omega, ⟨ns, rs, rfl, rfl, hn, hr⟩, fun x y2 r2 hx gx dx => ⟨c, r2.dk, h1, by omega, ⟨ns, rs, rfl, rfl, hn, hr⟩, fun y y3 r3 hy gy dy => ⟨sizeLine_ge (by simp), a _ _ ⟨(good_tup (fun z m => ?_) 50 (fun z m => ?_)).1, ?_, ?_⟩ ((r.trans r2).trans r3)⟩⟩⟩
      · simp only [List.mem_cons, List.not_mem_nil, or_false] at m
        rcases m with rfl | rfl
        · exact gx
        · exact gy
      · simp only [List.mem_cons, List.not_mem_nil, or_false] at m
        rcases m with rfl | rfl <;> omega
      · exact dep_tup fun z m => by
          simp only [List.mem_cons, List.not_mem_nil, or_false] at m
          rcases m with rfl | rfl <;> omega
      · simp only [senD, hx, hy]
        rfl
    · refine q ys _ r ?_ hys
      rw [hy]
      simp only [intsD, List.length_map, List.length_range, List.length_nil]
      omega
theorem ints_g (is : List Int) : ∀ x ∈ is.map D.int, good x := fun x m => by
  obtain ⟨i, _, rfl⟩ := List.mem_map.mp m
  exact good_int i
theorem ints_d (is : List Int) : ∀ x ∈ is.map D.int, dep x ≤ 0 := fun x m => by
  obtain ⟨i, _, rfl⟩ := List.mem_map.mp m
  simp [dep, D.py, PyData.depth]
abbrev st__law_deed : Stmt := top 49
theorem sc__law_deed : FnScope ["deck", "state", "names", "roles", "pool", "way", "axiom", "word", "book", "marks", "near"] ["deck", "state", "names", "roles", "pool"] (defScope st__law_deed) := ⟨rfl, rfl, rfl, by decide +kernel, rfl, by decide +kernel, by decide +kernel⟩

def G_deed : SG := fun ds h Q _ => match ds with
  | [.obj d, .tup [.tup b, .tup m], .lst ns, .lst rs, .lst ps] => ∃ c, Dk d c h ∧ b.length ≤ 1000 ∧ (∀ x ∈ b, gax x) ∧ (∃ ns' rs' ps' : List Str, ns = ns'.map D.str ∧ rs = rs'.map D.str ∧ ps = ps'.map D.str ∧ wrds ns' ∧ wrds rs' ∧ wrds ps' ∧ ps'.Nodup ∧ 2 ≤ ps'.length) ∧
      ∀ (x : LDeed) h', Dr d c h h' → x.ok → (∀ y, (x = .add y ∨ ∃ i, x = .put i y) → gax y) → (∀ i, (x = .drop i ∨ ∃ y, x = .put i y) → 0 ≤ i ∧ i ≤ (b.length : Int)) → Q x.enc h'
  | _ => False
theorem dn__law_deed (T : Txt mg K) (A : At K mg "_law_deed" st__law_deed) (h__law_draw : Dn P w K mg base 4 "_law_draw" ["deck", "many"] G_draw) (h__law_pick : Dn P w K mg base 5 "_law_pick" ["deck", "some"] G_pick)
    (h__law_book : Dn P w K mg base 57 "_law_book" ["deck", "names", "roles", "many", "most"] G_book) : Dn P w K mg base 58 "_law_deed" ["deck", "state", "names", "roles", "pool"] G_deed := by
  refine Dn.of A sc__law_deed (fun F => F.bindsN fun _ _ _ _ _ _ us hl => match us, hl with | [_, _, _, _, _], _ => rfl) (fun f cdv A outer s H E hr c => (ss_cons (st_asg (nm 1) (pg_tup (n := 2) rfl (pgs_cons (pg_name (i := 8) sc__law_deed.nd rfl (by first | exact Or.inl rfl | exact Or.inr rfl)) (pgs_cons (pg_name (i := 9) sc__law_deed.nd rfl (by first | exact Or.inl rfl | exact Or.inr rfl)) pgs_nil))) (gd_tup (n := 2) (gds_cons gd_name (gds_cons gd_name gds_nil))))
      (ss_cons (st_set (i := 5) c rfl (by first | exact Or.inl rfl | exact Or.inr rfl) (e_fn h__law_draw c hr (a_cons (nm 0) (a_cons c_int a_nil))))
      (ss_cons (st_set (i := 6) c rfl (by first | exact Or.inl rfl | exact Or.inr rfl) (e_ix (wk (e_fn h__law_book c hr (a_cons (nm 0) (a_cons (nm 2) (a_cons (nm 3) (a_cons c_int (a_cons c_int a_nil))))))) (wk c_int)))
      (ss_cons (st_if (t_cmp (o_in hr.u65) ob_in (wk (nm 5)) (wk (e_tup (a_cons c_int (a_cons c_int a_nil)))))
      (ss_one (st_ret (e_tup (a_cons c_str (a_cons (e_if (PW.pt (w_and (t_cmp (op_neD hr.u64) ob_ne (wk (nm 8)) (wk (e_tup a_nil))) (w_and1 (t_cmp (op_eqD hr.u64) ob_eq (wk (e_fn h__law_draw c hr (a_cons (nm 0) (a_cons c_int a_nil)))) (wk c_int))))) (e_fn h__law_pick c hr (a_cons (nm 0) (a_cons (nm 8) a_nil))) (nm 6)) a_nil)))))
      ss_nil)
      (ss_cons (st_if (t_cmp (op_eqD hr.u64) ob_eq (wk (nm 5)) (wk c_int))
      (ss_one (st_ret (e_tup (a_cons c_str (a_cons (e_fn h__law_draw c hr (a_cons (nm 0) (a_cons (e_bin op_plus od_add (wk (c_len T.b (v_cons (wk (nm 8)) v_nil))) (wk c_int)) a_nil))) a_nil)))))
      ss_nil)
      (ss_cons (st_if (t_cmp (op_eqD hr.u64) ob_eq (wk (nm 5)) (wk c_int))
      (ss_one (st_ret (e_tup (a_cons c_str (a_cons (e_fn h__law_draw c hr (a_cons (nm 0) (a_cons (e_bin op_plus od_add (wk (c_len T.b (v_cons (wk (nm 8)) v_nil))) (wk c_int)) a_nil))) (a_cons (nm 6) a_nil))))))
      ss_nil)
      (ss_cons (st_set (i := 7) c rfl (by first | exact Or.inl rfl | exact Or.inr rfl) (e_fn h__law_pick c hr (a_cons (nm 0) (a_cons (nm 4) a_nil))))
      (ss_cons (st_if (t_cmp (o_in hr.u65) ob_in (wk (nm 5)) (wk (e_tup (a_cons c_int (a_cons c_int (a_cons c_int a_nil))))))
      (ss_one (st_ret (e_tup (a_cons c_str (a_cons (nm 7) a_nil)))))
      ss_nil)
      (ss_cons (st_if (t_cmp (op_eqD hr.u64) ob_eq (wk (nm 5)) (wk c_int))
      (ss_one (st_ret (e_tup (a_cons c_str (a_cons (nm 7) a_nil)))))
      ss_nil)
      (ss_cons (st_if (t_cmp (o_in hr.u65) ob_in (wk (nm 5)) (wk (e_tup (a_cons c_int (a_cons c_int a_nil)))))
      (ss_one (st_ret (e_tup (a_cons c_str (a_cons (nm 7) a_nil)))))
      ss_nil)
      (ss_one (st_ret (e_tup (a_cons c_str (a_cons (nm 7) (a_cons (e_fn h__law_pick c hr (a_cons (nm 0) (a_cons (fzn (e_lc c (i_any (nm 4)) (blkOk_by (own := [("near", 10)]) (N := ["deck", "state", "names", "roles", "pool", "way", "axiom", "word", "book", "marks", "near"]) (sc := defScope st__law_deed) (by decide +kernel)) gd_name (by decide) (fun _ _ _ _ _ => (pg_name (i := 10) sc__law_deed.nd rfl (by first | exact Or.inl rfl | exact Or.inr rfl))) (fun _ _ _ _ _ => ts_one (t_cmp (op_neD hr.u64) ob_ne (wk (nm 10)) (wk (nm 7)))) (fun _ _ _ _ _ => (nm 10)))) a_nil))) a_nil))))))))))))))))) (fun ds h Q E w => ?_)
  match ds, w with
  | [.obj d, .tup [.tup b, .tup m], .lst _, .lst _, .lst _], ⟨c, hd, hb1, hb, ⟨ns, rs, ps, rfl, rfl, rfl, hn, hr, hp, hpn, hpl⟩, q⟩ =>
    refine ⟨rfl, ?_⟩
    have r := Dr.refl hd
    have axb : Ax 1000 b := ⟨hb1, fun x m => ⟨(hb x m).1, by have := (hb x m).2.1; omega⟩⟩
    have len_ne : ∀ ws : List Str, ws ≠ [] → ws.map D.str ≠ [] := fun ws h e => h (List.map_eq_nil_iff.mp e)
    have pn : ps ≠ [] := fun e => by rw [e] at hpl; simp at hpl
    refine seqP (fun ρ => ρ = [some (.d (.obj d)), some (.d (.tup [.tup b, .tup m])), some (.d (.lst (ns.map D.str))), some (.d (.lst (rs.map D.str))), some (.d (.lst (ps.map D.str))), none, none, none, some (.d (.tup b)), some (.d (.tup m)), none]) (fun N hN => ?_) ?_
    · simp only [fEq_ii, fOrd_ii, pure1, tab1, dAnd, dOr, dNot, dIf, dCall, dFn, dCons, dNil, dVar, dOwn, dC, dFz, dBin, dCmp, dChn, dIsiB, bCmp, bChn, bVal, bAnd, bOr, bNot, bYes, dSortK, dPget, dGet, sDput, sExp, dLm, keyD, bCmpL, lk2, fI0, fI, sSeq, sIf, sRet, sRetL, sSet, sPar, sOwn, sFor, sNext, tName, NL.tCons, NL.tNil, tTups, dTup, dLst, dSl, oNo, oIs, fIx, fSl, iA, fAdd_t, fAdd_l, fAdd_s, fAdd_i, fLstOf_t, fLstOf_l, fTupOf_t, fTupOf_l, fLen_t, fLen_l, ofO_some, at0, at1, at2, NL.run, lenN, startN, DEnds.er, List.getElem?_cons_zero, List.getElem?_cons_succ, List.set_cons_zero, List.set_cons_succ, Bool.false_eq_true, if_true, if_false, reduceIte, G_draw, G_pick, Gcon]
      exact ⟨rfl, hN _ rfl⟩
    rintro _ rfl
    refine seqD (fun ρ h' => Dr d c h h' ∧ ∃ way : Int, ρ = [some (.d (.obj d)), some (.d (.tup [.tup b, .tup m])), some (.d (.lst (ns.map D.str))), some (.d (.lst (rs.map D.str))), some (.d (.lst (ps.map D.str))), some (.d (.int way)), none, none, some (.d (.tup b)), some (.d (.tup m)), none]) (fun N hN => ?_) ?_
    · simp only [fEq_ii, fOrd_ii, pure1, tab1, dAnd, dOr, dNot, dIf, dCall, dFn, dCons, dNil, dVar, dOwn, dC, dFz, dBin, dCmp, dChn, dIsiB, bCmp, bChn, bVal, bAnd, bOr, bNot, bYes, dSortK, dPget, dGet, sDput, sExp, dLm, keyD, bCmpL, lk2, fI0, fI, sSeq, sIf, sRet, sRetL, sSet, sPar, sOwn, sFor, sNext, tName, NL.tCons, NL.tNil, tTups, dTup, dLst, dSl, oNo, oIs, fIx, fSl, iA, fAdd_t, fAdd_l, fAdd_s, fAdd_i, fLstOf_t, fLstOf_l, fTupOf_t, fTupOf_l, fLen_t, fLen_l, ofO_some, at0, at1, at2, NL.run, lenN, startN, DEnds.er, List.getElem?_cons_zero, List.getElem?_cons_succ, List.set_cons_zero, List.set_cons_succ, Bool.false_eq_true, if_true, if_false, reduceIte, G_draw, G_pick, Gcon]
      exact ⟨c, r.dk, by decide, by decide, fun k y1 _ _ r1 => hN _ _ ⟨r.trans r1, k, rfl⟩⟩
    clear r
    rintro _ hj ⟨r, way, rfl⟩
    refine seqD (fun ρ h' => Dr d c h h' ∧ ∃ ax : D, gax ax ∧ ρ = [some (.d (.obj d)), some (.d (.tup [.tup b, .tup m])), some (.d (.lst (ns.map D.str))), some (.d (.lst (rs.map D.str))), some (.d (.lst (ps.map D.str))), some (.d (.int way)), some (.d ax), none, some (.d (.tup b)), some (.d (.tup m)), none]) (fun N hN => ?_) ?_
    · simp only [fEq_ii, fOrd_ii, pure1, tab1, dAnd, dOr, dNot, dIf, dCall, dFn, dCons, dNil, dVar, dOwn, dC, dFz, dBin, dCmp, dChn, dIsiB, bCmp, bChn, bVal, bAnd, bOr, bNot, bYes, dSortK, dPget, dGet, sDput, sExp, dLm, keyD, bCmpL, lk2, fI0, fI, sSeq, sIf, sRet, sRetL, sSet, sPar, sOwn, sFor, sNext, tName, NL.tCons, NL.tNil, tTups, dTup, dLst, dSl, oNo, oIs, fIx, fSl, iA, fAdd_t, fAdd_l, fAdd_s, fAdd_i, fLstOf_t, fLstOf_l, fTupOf_t, fTupOf_l, fLen_t, fLen_l, ofO_some, at0, at1, at2, NL.run, lenN, startN, DEnds.er, List.getElem?_cons_zero, List.getElem?_cons_succ, List.set_cons_zero, List.set_cons_succ, Bool.false_eq_true, if_true, if_false, reduceIte, G_draw, G_pick, Gcon]
      refine ⟨c, r.dk, by decide, by decide, by decide, by decide, ⟨ns, rs, rfl, rfl, hn, hr⟩, fun xs y1 r1 hl hx => ?_⟩
      match xs, hl with
      | [x], _ => exact hN _ _ ⟨r.trans r1, x, hx x List.mem_cons_self, rfl⟩
      | [], hl => simp at hl
      | _ :: _ :: _, hl => simp only [List.length_cons] at hl; omega
    clear r
    rintro _ hj ⟨r, ax, hax, rfl⟩
    cases c1 : inD [.int 0, .int 1] (.int way)
    · refine skip_if (fun Q X q => ?_) ?_
      · simp only [fEq_ii, fOrd_ii, pure1, tab1, dAnd, dOr, dNot, dIf, dCall, dFn, dCons, dNil, dVar, dOwn, dC, dFz, dBin, dCmp, dChn, dIsiB, bCmp, bChn, bVal, bAnd, bOr, bNot, bYes, dSortK, dPget, dGet, sDput, sExp, dLm, keyD, bCmpL, lk2, fI0, fI, sSeq, sIf, sRet, sRetL, sSet, sPar, sOwn, sFor, sNext, tName, NL.tCons, NL.tNil, tTups, dTup, dLst, dSl, oNo, oIs, fIx, fSl, iA, fAdd_t, fAdd_l, fAdd_s, fAdd_i, fLstOf_t, fLstOf_l, fTupOf_t, fTupOf_l, fLen_t, fLen_l, ofO_some, at0, at1, at2, NL.run, lenN, startN, DEnds.er, List.getElem?_cons_zero, List.getElem?_cons_succ, List.set_cons_zero, List.set_cons_succ, Bool.false_eq_true, if_true, if_false, reduceIte, G_draw, G_pick, Gcon]
        refine ⟨sizeLine_ge (by simp), fIn_t (good_int _) (good_tup (fun x m => ints_g [0, 1] x m) 0 (fun x m => ints_d [0, 1] x m)).1 ?_⟩
        rw [bneF, c1]
        exact q
      cases c2 : way == 2
      · refine skip_if (fun Q X q => ?_) ?_
        · simp only [fEq_ii, fOrd_ii, pure1, tab1, dAnd, dOr, dNot, dIf, dCall, dFn, dCons, dNil, dVar, dOwn, dC, dFz, dBin, dCmp, dChn, dIsiB, bCmp, bChn, bVal, bAnd, bOr, bNot, bYes, dSortK, dPget, dGet, sDput, sExp, dLm, keyD, bCmpL, lk2, fI0, fI, sSeq, sIf, sRet, sRetL, sSet, sPar, sOwn, sFor, sNext, tName, NL.tCons, NL.tNil, tTups, dTup, dLst, dSl, oNo, oIs, fIx, fSl, iA, fAdd_t, fAdd_l, fAdd_s, fAdd_i, fLstOf_t, fLstOf_l, fTupOf_t, fTupOf_l, fLen_t, fLen_l, ofO_some, at0, at1, at2, NL.run, lenN, startN, DEnds.er, List.getElem?_cons_zero, List.getElem?_cons_succ, List.set_cons_zero, List.set_cons_succ, Bool.false_eq_true, if_true, if_false, reduceIte, G_draw, G_pick, Gcon]
          rw [c2]
          exact q
        cases c3 : way == 3
        · refine skip_if (fun Q X q => ?_) ?_
          · simp only [fEq_ii, fOrd_ii, pure1, tab1, dAnd, dOr, dNot, dIf, dCall, dFn, dCons, dNil, dVar, dOwn, dC, dFz, dBin, dCmp, dChn, dIsiB, bCmp, bChn, bVal, bAnd, bOr, bNot, bYes, dSortK, dPget, dGet, sDput, sExp, dLm, keyD, bCmpL, lk2, fI0, fI, sSeq, sIf, sRet, sRetL, sSet, sPar, sOwn, sFor, sNext, tName, NL.tCons, NL.tNil, tTups, dTup, dLst, dSl, oNo, oIs, fIx, fSl, iA, fAdd_t, fAdd_l, fAdd_s, fAdd_i, fLstOf_t, fLstOf_l, fTupOf_t, fTupOf_l, fLen_t, fLen_l, ofO_some, at0, at1, at2, NL.run, lenN, startN, DEnds.er, List.getElem?_cons_zero, List.getElem?_cons_succ, List.set_cons_zero, List.set_cons_succ, Bool.false_eq_true, if_true, if_false, reduceIte, G_draw, G_pick, Gcon]
            rw [c3]
            exact q
          refine seqD (fun ρ h' => Dr d c h h' ∧ ∃ wd : Str, wd ∈ ps ∧ ρ = [some (.d (.obj d)), some (.d (.tup [.tup b, .tup m])), some (.d (.lst (ns.map D.str))), some (.d (.lst (rs.map D.str))), some (.d (.lst (ps.map D.str))), some (.d (.int way)), some (.d ax), some (.d (.str wd)), some (.d (.tup b)), some (.d (.tup m)), none]) (fun N hN => ?_) ?_
          · simp only [fEq_ii, fOrd_ii, pure1, tab1, dAnd, dOr, dNot, dIf, dCall, dFn, dCons, dNil, dVar, dOwn, dC, dFz, dBin, dCmp, dChn, dIsiB, bCmp, bChn, bVal, bAnd, bOr, bNot, bYes, dSortK, dPget, dGet, sDput, sExp, dLm, keyD, bCmpL, lk2, fI0, fI, sSeq, sIf, sRet, sRetL, sSet, sPar, sOwn, sFor, sNext, tName, NL.tCons, NL.tNil, tTups, dTup, dLst, dSl, oNo, oIs, fIx, fSl, iA, fAdd_t, fAdd_l, fAdd_s, fAdd_i, fLstOf_t, fLstOf_l, fTupOf_t, fTupOf_l, fLen_t, fLen_l, ofO_some, at0, at1, at2, NL.run, lenN, startN, DEnds.er, List.getElem?_cons_zero, List.getElem?_cons_succ, List.set_cons_zero, List.set_cons_succ, Bool.false_eq_true, if_true, if_false, reduceIte, G_draw, G_pick, Gcon]
            refine ⟨c, r.dk, len_ne ps pn, by rw [List.length_map]; have := hp.1; omega, fun x mx y1 r1 => ?_⟩
            obtain ⟨s, hs, rfl⟩ := pick_mem mx
            exact hN _ _ ⟨r.trans r1, s, hs, rfl⟩
          clear r
          rintro _ hj ⟨r, wd, hwd, rfl⟩
          have gw := hp.2 wd hwd
          cases c4 : inD [.int 4, .int 5, .int 6] (.int way)
          · refine skip_if (fun Q X q => ?_) ?_
            · simp only [fEq_ii, fOrd_ii, pure1, tab1, dAnd, dOr, dNot, dIf, dCall, dFn, dCons, dNil, dVar, dOwn, dC, dFz, dBin, dCmp, dChn, dIsiB, bCmp, bChn, bVal, bAnd, bOr, bNot, bYes, dSortK, dPget, dGet, sDput, sExp, dLm, keyD, bCmpL, lk2, fI0, fI, sSeq, sIf, sRet, sRetL, sSet, sPar, sOwn, sFor, sNext, tName, NL.tCons, NL.tNil, tTups, dTup, dLst, dSl, oNo, oIs, fIx, fSl, iA, fAdd_t, fAdd_l, fAdd_s, fAdd_i, fLstOf_t, fLstOf_l, fTupOf_t, fTupOf_l, fLen_t, fLen_l, ofO_some, at0, at1, at2, NL.run, lenN, startN, DEnds.er, List.getElem?_cons_zero, List.getElem?_cons_succ, List.set_cons_zero, List.set_cons_succ, Bool.false_eq_true, if_true, if_false, reduceIte, G_draw, G_pick, Gcon]
              refine ⟨sizeLine_ge (by simp), fIn_t (good_int _) (good_tup (fun x m => ints_g [4, 5, 6] x m) 0 (fun x m => ints_d [4, 5, 6] x m)).1 ?_⟩
              rw [bneF, c4]
              exact q
            cases c5 : way == 7
            · refine skip_if (fun Q X q => ?_) ?_
              · simp only [fEq_ii, fOrd_ii, pure1, tab1, dAnd, dOr, dNot, dIf, dCall, dFn, dCons, dNil, dVar, dOwn, dC, dFz, dBin, dCmp, dChn, dIsiB, bCmp, bChn, bVal, bAnd, bOr, bNot, bYes, dSortK, dPget, dGet, sDput, sExp, dLm, keyD, bCmpL, lk2, fI0, fI, sSeq, sIf, sRet, sRetL, sSet, sPar, sOwn, sFor, sNext, tName, NL.tCons, NL.tNil, tTups, dTup, dLst, dSl, oNo, oIs, fIx, fSl, iA, fAdd_t, fAdd_l, fAdd_s, fAdd_i, fLstOf_t, fLstOf_l, fTupOf_t, fTupOf_l, fLen_t, fLen_l, ofO_some, at0, at1, at2, NL.run, lenN, startN, DEnds.er, List.getElem?_cons_zero, List.getElem?_cons_succ, List.set_cons_zero, List.set_cons_succ, Bool.false_eq_true, if_true, if_false, reduceIte, G_draw, G_pick, Gcon]
                rw [c5]
                exact q
              cases c6 : inD [.int 8, .int 9] (.int way)
              · refine skip_if (fun Q X q => ?_) ?_
                · simp only [fEq_ii, fOrd_ii, pure1, tab1, dAnd, dOr, dNot, dIf, dCall, dFn, dCons, dNil, dVar, dOwn, dC, dFz, dBin, dCmp, dChn, dIsiB, bCmp, bChn, bVal, bAnd, bOr, bNot, bYes, dSortK, dPget, dGet, sDput, sExp, dLm, keyD, bCmpL, lk2, fI0, fI, sSeq, sIf, sRet, sRetL, sSet, sPar, sOwn, sFor, sNext, tName, NL.tCons, NL.tNil, tTups, dTup, dLst, dSl, oNo, oIs, fIx, fSl, iA, fAdd_t, fAdd_l, fAdd_s, fAdd_i, fLstOf_t, fLstOf_l, fTupOf_t, fTupOf_l, fLen_t, fLen_l, ofO_some, at0, at1, at2, NL.run, lenN, startN, DEnds.er, List.getElem?_cons_zero, List.getElem?_cons_succ, List.set_cons_zero, List.set_cons_succ, Bool.false_eq_true, if_true, if_false, reduceIte, G_draw, G_pick, Gcon]
                  refine ⟨sizeLine_ge (by simp), fIn_t (good_int _) (good_tup (fun x m => ints_g [8, 9] x m) 0 (fun x m => ints_d [8, 9] x m)).1 ?_⟩
                  rw [bneF, c6]
                  exact q
                simp only [dLc, fEq_ii, fOrd_ii, pure1, tab1, dAnd, dOr, dNot, dIf, dCall, dFn, dCons, dNil, dVar, dOwn, dC, dFz, dBin, dCmp, dChn, dIsiB, bCmp, bChn, bVal, bAnd, bOr, bNot, bYes, dSortK, dPget, dGet, sDput, sExp, dLm, keyD, bCmpL, lk2, fI0, fI, sSeq, sIf, sRet, sRetL, sSet, sPar, sOwn, sFor, sNext, tName, NL.tCons, NL.tNil, tTups, dTup, dLst, dSl, oNo, oIs, fIx, fSl, iA, fAdd_t, fAdd_l, fAdd_s, fAdd_i, fLstOf_t, fLstOf_l, fTupOf_t, fTupOf_l, fLen_t, fLen_l, ofO_some, at0, at1, at2, NL.run, lenN, startN, DEnds.er, List.getElem?_cons_zero, List.getElem?_cons_succ, List.set_cons_zero, List.set_cons_succ, Bool.false_eq_true, if_true, if_false, reduceIte, G_draw, G_pick, Gcon]
                refine lc_fm (fun y => match y with | .str z => !(z == wd) | _ => false) id _ (fun y m A N a1 a2 => ?_) (sizeLine_ge (by rw [List.length_map]; have := hp.1; simp; omega)) ?_
                · obtain ⟨z, hz, rfl⟩ := List.mem_map.mp m
                  simp only [wipeR, List.map_cons, List.map_nil, fEq_ii, fOrd_ii, pure1, tab1, dAnd, dOr, dNot, dIf, dCall, dFn, dCons, dNil, dVar, dOwn, dC, dFz, dBin, dCmp, dChn, dIsiB, bCmp, bChn, bVal, bAnd, bOr, bNot, bYes, dSortK, dPget, dGet, sDput, sExp, dLm, keyD, bCmpL, lk2, fI0, fI, sSeq, sIf, sRet, sRetL, sSet, sPar, sOwn, sFor, sNext, tName, NL.tCons, NL.tNil, tTups, dTup, dLst, dSl, oNo, oIs, fIx, fSl, iA, fAdd_t, fAdd_l, fAdd_s, fAdd_i, fLstOf_t, fLstOf_l, fTupOf_t, fTupOf_l, fLen_t, fLen_l, ofO_some, at0, at1, at2, NL.run, lenN, startN, DEnds.er, List.getElem?_cons_zero, List.getElem?_cons_succ, List.set_cons_zero, List.set_cons_succ, Bool.false_eq_true, if_true, if_false, reduceIte, G_draw, G_pick, Gcon]
                  refine fNe_s (v := z == wd) (hp.2 z hz).1 gw.1 rfl ?_
                  cases e : z == wd
                  · exact a1 (by simp only [e]; rfl)
                  · exact a2 (by simp only [e]; rfl)
                · simp only [List.map_id, List.nil_append]
                  have e2 : (ps.map D.str).filter (fun y => match y with | .str z => !(z == wd) | _ => false) = (ps.filter fun z => !(z == wd)).map D.str := by
                    rw [List.filter_map]
                    rfl
                  rw [e2]
                  have hl := List.length_filter_le (fun z => !(z == wd)) ps
                  refine ⟨c, r.dk, len_ne _ (fun e => ?_), by rw [List.length_map]; have := hp.1; omega, fun x mx y1 r1 => ?_⟩
                  · have all : ∀ z ∈ ps, z ∈ [wd] := fun z hz => by
                      have := List.filter_eq_nil_iff.mp e z hz
                      simpa using this
                    have := hpn.length_le_of_subset (l₂ := [wd]) all
                    simp only [List.length_cons, List.length_nil] at this
                    omega
                  · obtain ⟨z, hz, rfl⟩ := pick_mem mx
                    obtain ⟨hz1, _⟩ := List.mem_filter.mp hz
                    exact ⟨sizeLine_ge (by simp), q (.join wd z) _ (r.trans r1) ⟨gw, hp.2 z hz1⟩ (fun y h => by rcases h with h | ⟨i, h⟩ <;> cases h) (fun i h => by rcases h with h | ⟨y, h⟩ <;> cases h)⟩
              · refine take_if (fun Q X q => ?_) ?_
                · simp only [fEq_ii, fOrd_ii, pure1, tab1, dAnd, dOr, dNot, dIf, dCall, dFn, dCons, dNil, dVar, dOwn, dC, dFz, dBin, dCmp, dChn, dIsiB, bCmp, bChn, bVal, bAnd, bOr, bNot, bYes, dSortK, dPget, dGet, sDput, sExp, dLm, keyD, bCmpL, lk2, fI0, fI, sSeq, sIf, sRet, sRetL, sSet, sPar, sOwn, sFor, sNext, tName, NL.tCons, NL.tNil, tTups, dTup, dLst, dSl, oNo, oIs, fIx, fSl, iA, fAdd_t, fAdd_l, fAdd_s, fAdd_i, fLstOf_t, fLstOf_l, fTupOf_t, fTupOf_l, fLen_t, fLen_l, ofO_some, at0, at1, at2, NL.run, lenN, startN, DEnds.er, List.getElem?_cons_zero, List.getElem?_cons_succ, List.set_cons_zero, List.set_cons_succ, Bool.false_eq_true, if_true, if_false, reduceIte, G_draw, G_pick, Gcon]
                  refine ⟨sizeLine_ge (by simp), fIn_t (good_int _) (good_tup (fun x m => ints_g [8, 9] x m) 0 (fun x m => ints_d [8, 9] x m)).1 ?_⟩
                  rw [bneF, c6]
                  exact q
                simp only [fEq_ii, fOrd_ii, pure1, tab1, dAnd, dOr, dNot, dIf, dCall, dFn, dCons, dNil, dVar, dOwn, dC, dFz, dBin, dCmp, dChn, dIsiB, bCmp, bChn, bVal, bAnd, bOr, bNot, bYes, dSortK, dPget, dGet, sDput, sExp, dLm, keyD, bCmpL, lk2, fI0, fI, sSeq, sIf, sRet, sRetL, sSet, sPar, sOwn, sFor, sNext, tName, NL.tCons, NL.tNil, tTups, dTup, dLst, dSl, oNo, oIs, fIx, fSl, iA, fAdd_t, fAdd_l, fAdd_s, fAdd_i, fLstOf_t, fLstOf_l, fTupOf_t, fTupOf_l, fLen_t, fLen_l, ofO_some, at0, at1, at2, NL.run, lenN, startN, DEnds.er, List.getElem?_cons_zero, List.getElem?_cons_succ, List.set_cons_zero, List.set_cons_succ, Bool.false_eq_true, if_true, if_false, reduceIte, G_draw, G_pick, Gcon]
                exact ⟨sizeLine_ge (by simp), q (.back wd) _ r gw (fun y h => by rcases h with h | ⟨i, h⟩ <;> cases h) (fun i h => by rcases h with h | ⟨y, h⟩ <;> cases h)⟩
            · refine take_if (fun Q X q => ?_) ?_
              · simp only [fEq_ii, fOrd_ii, pure1, tab1, dAnd, dOr, dNot, dIf, dCall, dFn, dCons, dNil, dVar, dOwn, dC, dFz, dBin, dCmp, dChn, dIsiB, bCmp, bChn, bVal, bAnd, bOr, bNot, bYes, dSortK, dPget, dGet, sDput, sExp, dLm, keyD, bCmpL, lk2, fI0, fI, sSeq, sIf, sRet, sRetL, sSet, sPar, sOwn, sFor, sNext, tName, NL.tCons, NL.tNil, tTups, dTup, dLst, dSl, oNo, oIs, fIx, fSl, iA, fAdd_t, fAdd_l, fAdd_s, fAdd_i, fLstOf_t, fLstOf_l, fTupOf_t, fTupOf_l, fLen_t, fLen_l, ofO_some, at0, at1, at2, NL.run, lenN, startN, DEnds.er, List.getElem?_cons_zero, List.getElem?_cons_succ, List.set_cons_zero, List.set_cons_succ, Bool.false_eq_true, if_true, if_false, reduceIte, G_draw, G_pick, Gcon]
                rw [c5]
                exact q
              simp only [fEq_ii, fOrd_ii, pure1, tab1, dAnd, dOr, dNot, dIf, dCall, dFn, dCons, dNil, dVar, dOwn, dC, dFz, dBin, dCmp, dChn, dIsiB, bCmp, bChn, bVal, bAnd, bOr, bNot, bYes, dSortK, dPget, dGet, sDput, sExp, dLm, keyD, bCmpL, lk2, fI0, fI, sSeq, sIf, sRet, sRetL, sSet, sPar, sOwn, sFor, sNext, tName, NL.tCons, NL.tNil, tTups, dTup, dLst, dSl, oNo, oIs, fIx, fSl, iA, fAdd_t, fAdd_l, fAdd_s, fAdd_i, fLstOf_t, fLstOf_l, fTupOf_t, fTupOf_l, fLen_t, fLen_l, ofO_some, at0, at1, at2, NL.run, lenN, startN, DEnds.er, List.getElem?_cons_zero, List.getElem?_cons_succ, List.set_cons_zero, List.set_cons_succ, Bool.false_eq_true, if_true, if_false, reduceIte, G_draw, G_pick, Gcon]
              exact ⟨sizeLine_ge (by simp), q (.unmark wd) _ r gw (fun y h => by rcases h with h | ⟨i, h⟩ <;> cases h) (fun i h => by rcases h with h | ⟨y, h⟩ <;> cases h)⟩
          · refine take_if (fun Q X q => ?_) ?_
            · simp only [fEq_ii, fOrd_ii, pure1, tab1, dAnd, dOr, dNot, dIf, dCall, dFn, dCons, dNil, dVar, dOwn, dC, dFz, dBin, dCmp, dChn, dIsiB, bCmp, bChn, bVal, bAnd, bOr, bNot, bYes, dSortK, dPget, dGet, sDput, sExp, dLm, keyD, bCmpL, lk2, fI0, fI, sSeq, sIf, sRet, sRetL, sSet, sPar, sOwn, sFor, sNext, tName, NL.tCons, NL.tNil, tTups, dTup, dLst, dSl, oNo, oIs, fIx, fSl, iA, fAdd_t, fAdd_l, fAdd_s, fAdd_i, fLstOf_t, fLstOf_l, fTupOf_t, fTupOf_l, fLen_t, fLen_l, ofO_some, at0, at1, at2, NL.run, lenN, startN, DEnds.er, List.getElem?_cons_zero, List.getElem?_cons_succ, List.set_cons_zero, List.set_cons_succ, Bool.false_eq_true, if_true, if_false, reduceIte, G_draw, G_pick, Gcon]
              refine ⟨sizeLine_ge (by simp), fIn_t (good_int _) (good_tup (fun x m => ints_g [4, 5, 6] x m) 0 (fun x m => ints_d [4, 5, 6] x m)).1 ?_⟩
              rw [bneF, c4]
              exact q
            simp only [fEq_ii, fOrd_ii, pure1, tab1, dAnd, dOr, dNot, dIf, dCall, dFn, dCons, dNil, dVar, dOwn, dC, dFz, dBin, dCmp, dChn, dIsiB, bCmp, bChn, bVal, bAnd, bOr, bNot, bYes, dSortK, dPget, dGet, sDput, sExp, dLm, keyD, bCmpL, lk2, fI0, fI, sSeq, sIf, sRet, sRetL, sSet, sPar, sOwn, sFor, sNext, tName, NL.tCons, NL.tNil, tTups, dTup, dLst, dSl, oNo, oIs, fIx, fSl, iA, fAdd_t, fAdd_l, fAdd_s, fAdd_i, fLstOf_t, fLstOf_l, fTupOf_t, fTupOf_l, fLen_t, fLen_l, ofO_some, at0, at1, at2, NL.run, lenN, startN, DEnds.er, List.getElem?_cons_zero, List.getElem?_cons_succ, List.set_cons_zero, List.set_cons_succ, Bool.false_eq_true, if_true, if_false, reduceIte, G_draw, G_pick, Gcon]
            exact ⟨sizeLine_ge (by simp), q (.mark wd) _ r gw (fun y h => by rcases h with h | ⟨i, h⟩ <;> cases h) (fun i h => by rcases h with h | ⟨y, h⟩ <;> cases h)⟩
        · refine take_if (fun Q X q => ?_) ?_
          · simp only [fEq_ii, fOrd_ii, pure1, tab1, dAnd, dOr, dNot, dIf, dCall, dFn, dCons, dNil, dVar, dOwn, dC, dFz, dBin, dCmp, dChn, dIsiB, bCmp, bChn, bVal, bAnd, bOr, bNot, bYes, dSortK, dPget, dGet, sDput, sExp, dLm, keyD, bCmpL, lk2, fI0, fI, sSeq, sIf, sRet, sRetL, sSet, sPar, sOwn, sFor, sNext, tName, NL.tCons, NL.tNil, tTups, dTup, dLst, dSl, oNo, oIs, fIx, fSl, iA, fAdd_t, fAdd_l, fAdd_s, fAdd_i, fLstOf_t, fLstOf_l, fTupOf_t, fTupOf_l, fLen_t, fLen_l, ofO_some, at0, at1, at2, NL.run, lenN, startN, DEnds.er, List.getElem?_cons_zero, List.getElem?_cons_succ, List.set_cons_zero, List.set_cons_succ, Bool.false_eq_true, if_true, if_false, reduceIte, G_draw, G_pick, Gcon]
            rw [c3]
            exact q
          simp only [fEq_ii, fOrd_ii, pure1, tab1, dAnd, dOr, dNot, dIf, dCall, dFn, dCons, dNil, dVar, dOwn, dC, dFz, dBin, dCmp, dChn, dIsiB, bCmp, bChn, bVal, bAnd, bOr, bNot, bYes, dSortK, dPget, dGet, sDput, sExp, dLm, keyD, bCmpL, lk2, fI0, fI, sSeq, sIf, sRet, sRetL, sSet, sPar, sOwn, sFor, sNext, tName, NL.tCons, NL.tNil, tTups, dTup, dLst, dSl, oNo, oIs, fIx, fSl, iA, fAdd_t, fAdd_l, fAdd_s, fAdd_i, fLstOf_t, fLstOf_l, fTupOf_t, fTupOf_l, fLen_t, fLen_l, ofO_some, at0, at1, at2, NL.run, lenN, startN, DEnds.er, List.getElem?_cons_zero, List.getElem?_cons_succ, List.set_cons_zero, List.set_cons_succ, Bool.false_eq_true, if_true, if_false, reduceIte, G_draw, G_pick, Gcon]
          refine ⟨c, r.dk, by omega, by omega, fun k y1 h0 h1 r1 => ?_⟩
          exact ⟨sizeLine_ge (by simp), q (.put k ax) _ (r.trans r1) ⟨hax.1, by have := hax.2.1; omega, hax.2.2⟩ (fun y h => by
            rcases h with h | ⟨i, h⟩
            · cases h
            · cases h; exact hax) (fun i h => by rcases h with h | ⟨y, h⟩ <;> cases h; exact ⟨h0, by omega⟩)⟩
      · refine take_if (fun Q X q => ?_) ?_
        · simp only [fEq_ii, fOrd_ii, pure1, tab1, dAnd, dOr, dNot, dIf, dCall, dFn, dCons, dNil, dVar, dOwn, dC, dFz, dBin, dCmp, dChn, dIsiB, bCmp, bChn, bVal, bAnd, bOr, bNot, bYes, dSortK, dPget, dGet, sDput, sExp, dLm, keyD, bCmpL, lk2, fI0, fI, sSeq, sIf, sRet, sRetL, sSet, sPar, sOwn, sFor, sNext, tName, NL.tCons, NL.tNil, tTups, dTup, dLst, dSl, oNo, oIs, fIx, fSl, iA, fAdd_t, fAdd_l, fAdd_s, fAdd_i, fLstOf_t, fLstOf_l, fTupOf_t, fTupOf_l, fLen_t, fLen_l, ofO_some, at0, at1, at2, NL.run, lenN, startN, DEnds.er, List.getElem?_cons_zero, List.getElem?_cons_succ, List.set_cons_zero, List.set_cons_succ, Bool.false_eq_true, if_true, if_false, reduceIte, G_draw, G_pick, Gcon]
          rw [c2]
          exact q
        simp only [fEq_ii, fOrd_ii, pure1, tab1, dAnd, dOr, dNot, dIf, dCall, dFn, dCons, dNil, dVar, dOwn, dC, dFz, dBin, dCmp, dChn, dIsiB, bCmp, bChn, bVal, bAnd, bOr, bNot, bYes, dSortK, dPget, dGet, sDput, sExp, dLm, keyD, bCmpL, lk2, fI0, fI, sSeq, sIf, sRet, sRetL, sSet, sPar, sOwn, sFor, sNext, tName, NL.tCons, NL.tNil, tTups, dTup, dLst, dSl, oNo, oIs, fIx, fSl, iA, fAdd_t, fAdd_l, fAdd_s, fAdd_i, fLstOf_t, fLstOf_l, fTupOf_t, fTupOf_l, fLen_t, fLen_l, ofO_some, at0, at1, at2, NL.run, lenN, startN, DEnds.er, List.getElem?_cons_zero, List.getElem?_cons_succ, List.set_cons_zero, List.set_cons_succ, Bool.false_eq_true, if_true, if_false, reduceIte, G_draw, G_pick, Gcon]
        refine ⟨c, r.dk, by omega, by omega, fun k y1 h0 h1 r1 => ?_⟩
        exact ⟨sizeLine_ge (by simp), q (.drop k) _ (r.trans r1) trivial (fun y h => by rcases h with h | ⟨i, h⟩ <;> cases h) (fun i h => by rcases h with h | ⟨y, h⟩ <;> cases h; exact ⟨h0, by omega⟩)⟩
    · refine take_if (fun Q X q => ?_) ?_
      · simp only [fEq_ii, fOrd_ii, pure1, tab1, dAnd, dOr, dNot, dIf, dCall, dFn, dCons, dNil, dVar, dOwn, dC, dFz, dBin, dCmp, dChn, dIsiB, bCmp, bChn, bVal, bAnd, bOr, bNot, bYes, dSortK, dPget, dGet, sDput, sExp, dLm, keyD, bCmpL, lk2, fI0, fI, sSeq, sIf, sRet, sRetL, sSet, sPar, sOwn, sFor, sNext, tName, NL.tCons, NL.tNil, tTups, dTup, dLst, dSl, oNo, oIs, fIx, fSl, iA, fAdd_t, fAdd_l, fAdd_s, fAdd_i, fLstOf_t, fLstOf_l, fTupOf_t, fTupOf_l, fLen_t, fLen_l, ofO_some, at0, at1, at2, NL.run, lenN, startN, DEnds.er, List.getElem?_cons_zero, List.getElem?_cons_succ, List.set_cons_zero, List.set_cons_succ, Bool.false_eq_true, if_true, if_false, reduceIte, G_draw, G_pick, Gcon]
        refine ⟨sizeLine_ge (by simp), fIn_t (good_int _) (good_tup (fun x m => ints_g [0, 1] x m) 0 (fun x m => ints_d [0, 1] x m)).1 ?_⟩
        rw [bneF, c1]
        exact q
      have fin : ∀ x h', Dr d c h h' → gax x → Q (.tup [.str "add", x]) h' := fun x h' r hx => q (.add x) _ r ⟨hx.1, by have := hx.2.1; omega, hx.2.2⟩ (fun y h => by
        rcases h with h | ⟨i, h⟩
        · cases h; exact hx
        · cases h) (fun i h => by rcases h with h | ⟨y, h⟩ <;> cases h)
      simp only [fEq_ii, fOrd_ii, pure1, tab1, dAnd, dOr, dNot, dIf, dCall, dFn, dCons, dNil, dVar, dOwn, dC, dFz, dBin, dCmp, dChn, dIsiB, bCmp, bChn, bVal, bAnd, bOr, bNot, bYes, dSortK, dPget, dGet, sDput, sExp, dLm, keyD, bCmpL, lk2, fI0, fI, sSeq, sIf, sRet, sRetL, sSet, sPar, sOwn, sFor, sNext, tName, NL.tCons, NL.tNil, tTups, dTup, dLst, dSl, oNo, oIs, fIx, fSl, iA, fAdd_t, fAdd_l, fAdd_s, fAdd_i, fLstOf_t, fLstOf_l, fTupOf_t, fTupOf_l, fLen_t, fLen_l, ofO_some, at0, at1, at2, NL.run, lenN, startN, DEnds.er, List.getElem?_cons_zero, List.getElem?_cons_succ, List.set_cons_zero, List.set_cons_succ, Bool.false_eq_true, if_true, if_false, reduceIte, G_draw, G_pick, Gcon]
      refine ⟨sizeLine_ge (by simp), axb.good.1, (Ax.nil).good.1, ?_⟩
      rw [eqD_tup, nil_eq]
      cases b with
      | nil => exact ⟨sizeLine_ge (by simp), fin ax _ r hax⟩
      | cons b0 bs =>
        rw [show (!(b0 :: bs).isEmpty) = true from rfl, if_pos rfl]
        refine ⟨c, r.dk, by decide, by decide, fun k y1 _ _ r1 => ?_⟩
        cases k == 3
        · rw [if_neg (by decide)]
          exact ⟨sizeLine_ge (by simp), fin ax _ (r.trans r1) hax⟩
        · rw [if_pos rfl]
          exact ⟨c, r1.dk, List.cons_ne_nil _ _, by omega, fun x mx y2 r2 => ⟨sizeLine_ge (by simp), fin x _ ((r.trans r1).trans r2) (hb x mx)⟩⟩
end
end T69
set_option Elab.async false
set_option linter.all false
set_option maxRecDepth 100000
set_option maxHeartbeats 4300000
namespace T69
open PySem PySem.Spec PyProof.Rows L2 NL
/-- what the module says of the class -/
structure DeskK (K : PySem.W.Frag) (C : Addr) : Prop where
  cl : Cls K C
  now : NoAttr K C "now"
  before : NoAttr K C "before"
  after : NoAttr K C "after"
  isc : IsC K C
  yes : PySem.W.kitOne K (.ref C) (.ref C) = some true
  no : ∀ n ∈ (["NoneType", "bool", "int", "str", "tuple", "list", "dict"] : List String), PySem.W.kitOne K (.type n) (.ref C) = some false
theorem atIns_at {C a : Addr} {h : AH} {fs : List (Str × D)} {Q : Addr → List (Str × D) → Prop} (e : h a = some (.ins C fs)) : atIns C (.obj a) h Q = Q a fs :=
  propext ⟨fun ⟨gs, e2, q⟩ => by
    rw [e] at e2
    cases e2
    exact q, fun q => ⟨fs, e, q⟩⟩
def deskF (p q : Addr) (s : D) : List (Str × D) := [("now", s), ("before", .obj p), ("after", .obj q)]
theorem f_now {p q : Addr} {s : D} : (deskF p q s).lookup ("now" : Str) = some s := by rfl
theorem f_before {p q : Addr} {s : D} : (deskF p q s).lookup ("before" : Str) = some (.obj p) := by rfl
theorem f_after {p q : Addr} {s : D} : (deskF p q s).lookup ("after" : Str) = some (.obj q) := by rfl
theorem w_now {p q : Addr} {s d : D} : putD "now" d (deskF p q s) = deskF p q d := by rfl
theorem w_before {p q r : Addr} {s : D} : putD "before" (.obj r) (deskF p q s) = deskF r q s := by rfl
theorem w_after {p q r : Addr} {s : D} : putD "after" (.obj r) (deskF p q s) = deskF p r s := by rfl
theorem f_len {p q : Addr} {s : D} : (deskF p q s).length < 1000 := by show 3 < 1000; decide
/-- a desk at a, its lists at p, q -/
structure DeskAt (C a p q : Addr) (h : AH) (s : St) (bf af : List St) : Prop where
  ins : h a = some (.ins C (deskF p q (encS s)))
  bef : h p = some (.lst (bf.map encS))
  aft : h q = some (.lst (af.map encS))
  ne : p ≠ q
theorem DeskAt.ap {C a p q : Addr} {h : AH} {s : St} {bf af : List St} (x : DeskAt C a p q h s bf af) : a ≠ p := fun z => by
  have := x.ins
  rw [z, x.bef] at this; cases this
theorem DeskAt.aq {C a p q : Addr} {h : AH} {s : St} {bf af : List St} (x : DeskAt C a p q h s bf af) : a ≠ q := fun z => by
  have := x.ins
  rw [z, x.aft] at this; cases this
/-- only what as says has changed, but for new things -/
def Fr1 (as : List Addr) (h h' : AH) : Prop := ∀ b, h b ≠ none → b ∉ as → h' b = h b
theorem put_none {h : AH} {a b : Addr} {o : AO} (e : put h a o b = none) : b ≠ a ∧ h b = none := by
  unfold put at e
  split at e
  · cases e
  · exact ⟨by assumption, e⟩
structure KmG (mg : Str → Option Value) (x : Str) (C : Addr) : Prop where
  km : mg x = some (.ref C)
structure KmK (P : Program) (w : World) (K : PySem.W.Frag) (mg : Str → Option Value) (base : Heap) (k : Nat) (x : Str) (C : Addr) (ps : List Str) (G : SG) : Prop where
  kn : Kn P w K mg base k x C ps G
theorem fPop_snoc {l : List St} {s : St} {Q : D → List D → Prop} : fPop ((l ++ [s]).map encS) [] Q = Q (encS s) (l.map encS) := by
  have e : ((l ++ [s]).map encS)[((l ++ [s]).map encS).length - 1]? = some (encS s) := by
    rw [List.map_append, List.length_append]
    simp
  show ofO ((l ++ [s]).map encS)[((l ++ [s]).map encS).length - 1]? _ = _
  rw [e, ofO_some, List.map_append]
  show Q (encS s) ((l.map encS ++ [encS s]).dropLast) = _
  rw [List.dropLast_concat]
theorem fIs_enc {s : St} {Q : Bool → Prop} : fIs (encS s) .non Q = Q false := rfl
theorem encS_ix0 (s : St) {Q : D → Prop} : fIx (encS s) (.int 0) Q = Q (.tup s.1) := by
  show ofO (atI [.tup s.1, .tup (s.2.map wpD)] 0) Q = _
  rw [at0]; rfl
theorem encS_ix1 (s : St) {Q : D → Prop} : fIx (encS s) (.int 1) Q = Q (.tup (s.2.map wpD)) := by
  show ofO (atI [.tup s.1, .tup (s.2.map wpD)] 1) Q = _
  rw [at1]; rfl
section
variable {base : Heap} {mg : Str → Option Value} {K : PySem.W.Frag} {P : Program} {w : World} {C : Addr}
abbrev st_Desk_book : Stmt := inClass (top 33) 2
theorem sc_Desk_book : FnScope ["self"] ["self"] (defScope st_Desk_book) := ⟨rfl, rfl, rfl, by decide +kernel, rfl, by decide +kernel, by decide +kernel⟩

def G_dbook (C : Addr) : SG := fun ds h Q _ => match ds with
  | [.obj a] => ∃ p q s bf af, DeskAt C a p q h s bf af ∧ Q (.tup s.1) h
  | _ => False
theorem mn_book (KD : DeskK K C) (A : AtM K C "book" "Desk.book" st_Desk_book) : Mn P w K mg base 1 C "book" ["self"] (G_dbook C) := by
  refine Mn.of A sc_Desk_book (fun F => F.bindsN fun _ _ _ _ _ _ us hl => match us, hl with | [_], _ => rfl) (fun f cdv A outer s H E hr c => (ss_one (st_ret (e_ix (wk (e_fld KD.cl KD.now (nm 0))) (wk c_int))))) (fun ds h Q E w => ?_)
  match ds, w with
  | [.obj a], ⟨p, q, s, bf, af, x, k⟩ =>
    refine ⟨rfl, ?_⟩
    simp only [dVar, dC, dBin, sRet, dFld, NL.run, lenN, startN, List.getElem?_cons_zero, atIns_at x.ins, f_now, ofO_some, encS_ix0]
    exact k
abbrev st_Desk_marks : Stmt := inClass (top 33) 3
theorem sc_Desk_marks : FnScope ["self"] ["self"] (defScope st_Desk_marks) := ⟨rfl, rfl, rfl, by decide +kernel, rfl, by decide +kernel, by decide +kernel⟩

def G_dmarks (C : Addr) : SG := fun ds h Q _ => match ds with
  | [.obj a] => ∃ p q s bf af, DeskAt C a p q h s bf af ∧ Q (.tup (s.2.map wpD)) h
  | _ => False
theorem mn_marks (KD : DeskK K C) (A : AtM K C "marks" "Desk.marks" st_Desk_marks) : Mn P w K mg base 1 C "marks" ["self"] (G_dmarks C) := by
  refine Mn.of A sc_Desk_marks (fun F => F.bindsN fun _ _ _ _ _ _ us hl => match us, hl with | [_], _ => rfl) (fun f cdv A outer s H E hr c => (ss_one (st_ret (e_ix (wk (e_fld KD.cl KD.now (nm 0))) (wk c_int))))) (fun ds h Q E w => ?_)
  match ds, w with
  | [.obj a], ⟨p, q, s, bf, af, x, k⟩ =>
    refine ⟨rfl, ?_⟩
    simp only [dVar, dC, dBin, sRet, dFld, NL.run, lenN, startN, List.getElem?_cons_zero, atIns_at x.ins, f_now, ofO_some, encS_ix1]
    exact k
abbrev st_Desk_undo : Stmt := inClass (top 33) 6
theorem sc_Desk_undo : FnScope ["self"] ["self"] (defScope st_Desk_undo) := ⟨rfl, rfl, rfl, by decide +kernel, rfl, by decide +kernel, by decide +kernel⟩

def G_undo (C XU : Addr) : SG := fun ds h Q E => match ds with
  | [.obj a] => ∃ p q s bf af, DeskAt C a p q h s bf af ∧ good (.lst (bf.map encS)) ∧ af.length < 1000 ∧ (bf = [] → E ⟨XU, []⟩ h) ∧ ∀ bf' s', bf = bf' ++ [s'] → ∀ h', DeskAt C a p q h' s' bf' (af ++ [s]) → Fr1 [a, p, q] h h' → Q .non h'
  | _ => False
theorem mn_undo {XA : Addr} (KD : DeskK K C) (XU : BareX K mg "NothingToUndo" XA) (A : AtM K C "undo" "Desk.undo" st_Desk_undo) : Mn P w K mg base 1 C "undo" ["self"] (G_undo C XA) := by
  refine Mn.of A sc_Desk_undo (fun F => F.bindsN fun _ _ _ _ _ _ us hl => match us, hl with | [_], _ => rfl) (fun f cdv A outer s H E hr c => (ss_cons (st_if (t_cmpL (op_eqD hr.u64) ob_eq (wk (e_fld KD.cl KD.before (nm 0))) (wk (fzn (e_lst a_nil))))
      (ss_one (s_raise0 c XU))
      ss_nil)
      (ss_cons (st_exp (e_app (e_fld KD.cl KD.after (nm 0)) (e_fld KD.cl KD.now (nm 0))))
      (ss_one (st_fld KD.cl KD.now (nm 0) (e_pop (e_fld KD.cl KD.before (nm 0)))))))) (fun ds h Q E w => ?_)
  match ds, w with
  | [.obj a], ⟨p, q, s, bf, af, x, g, l, k1, k2⟩ =>
    refine ⟨rfl, ?_⟩
    simp only [atIns_at x.ins, f_before, look_at x.bef, look_lst, pure1, tab1, dAnd, dOr, dNot, dIf, dCall, dFn, dCons, dNil, dVar, dOwn, dC, dFz, dBin, dCmp, dChn, dIsiB, bCmp, bChn, bVal, bAnd, bOr, bNot, bYes, dSortK, dPget, dGet, sDput, sExp, dLm, keyD, bCmpL, lk2, fI0, fI, sSeq, sIf, sRet, sRetL, sSet, sPar, sOwn, sFor, sNext, tName, NL.tCons, NL.tNil, tTups, dTup, dLst, dSl, oNo, oIs, fIx, fSl, iA, fAdd_t, fAdd_l, fAdd_s, fAdd_i, fLstOf_t, fLstOf_l, fTupOf_t, fTupOf_l, fLen_t, fLen_l, ofO_some, at0, at1, at2, NL.run, lenN, startN, DEnds.er, List.getElem?_cons_zero, List.getElem?_cons_succ, List.set_cons_zero, List.set_cons_succ, Bool.false_eq_true, if_true, if_false, reduceIte, dFld, sFldSet, dHp, dMeth, dNewL, sAsgH, hFld, hTup, NL.hCons, NL.hNil, sRaise, sRaise0]
    refine ⟨sizeLine_ge (by simp), g, good_nil, ?_⟩
    rw [eqD_nil]
    rcases List.eq_nil_or_concat bf with rfl | ⟨bf', s', e⟩
    · exact k1 rfl
    · rw [List.concat_eq_append] at e
      subst e
      rw [show ((bf' ++ [s']).map encS).isEmpty = false by simp, if_neg (by decide)]
      simp only [f_after, f_now, ofO_some]
      refine ⟨⟨_, x.aft⟩, _, x.aft, by rw [List.length_map, sizeLine_eq]; omega, ?_⟩
      have i1 : put h q (.lst (af.map encS ++ [encS s])) a = some (.ins C (deskF p q (encS s))) := (put_off x.aq).trans x.ins
      have p1 : put h q (.lst (af.map encS ++ [encS s])) p = some (.lst ((bf' ++ [s']).map encS)) := (put_off x.ne).trans x.bef
      simp only [atIns_at i1, f_before, ofO_some]
      refine ⟨⟨_, p1⟩, _, p1, ?_⟩
      rw [fPop_snoc]
      rw [atIns_at ((put_off x.ap).trans i1), w_now]
      refine ⟨f_len, k2 bf' s' rfl _ ⟨put_at, (put_off x.ap.symm).trans put_at, ?_, x.ne⟩ fun b _ nb => ?_⟩
      · rw [put_off x.aq.symm, put_off x.ne.symm, put_at, List.map_append]
        rfl
      · simp only [List.mem_cons, List.not_mem_nil, or_false, not_or] at nb
        rw [put_off nb.1, put_off nb.2.1, put_off nb.2.2]
abbrev st_Desk_redo : Stmt := inClass (top 33) 7
theorem sc_Desk_redo : FnScope ["self"] ["self"] (defScope st_Desk_redo) := ⟨rfl, rfl, rfl, by decide +kernel, rfl, by decide +kernel, by decide +kernel⟩

def G_redo (C XU : Addr) : SG := fun ds h Q E => match ds with
  | [.obj a] => ∃ p q s bf af, DeskAt C a p q h s bf af ∧ good (.lst (af.map encS)) ∧ bf.length < 1000 ∧ (af = [] → E ⟨XU, []⟩ h) ∧ ∀ af' s', af = af' ++ [s'] → ∀ h', DeskAt C a p q h' s' (bf ++ [s]) af' → Fr1 [a, p, q] h h' → Q .non h'
  | _ => False
theorem mn_redo {XA : Addr} (KD : DeskK K C) (XR : BareX K mg "NothingToRedo" XA) (A : AtM K C "redo" "Desk.redo" st_Desk_redo) : Mn P w K mg base 1 C "redo" ["self"] (G_redo C XA) := by
  refine Mn.of A sc_Desk_redo (fun F => F.bindsN fun _ _ _ _ _ _ us hl => match us, hl with | [_], _ => rfl) (fun f cdv A outer s H E hr c => (ss_cons (st_if (t_cmpL (op_eqD hr.u64) ob_eq (wk (e_fld KD.cl KD.after (nm 0))) (wk (fzn (e_lst a_nil))))
      (ss_one (s_raise0 c XR))
      ss_nil)
      (ss_cons (st_exp (e_app (e_fld KD.cl KD.before (nm 0)) (e_fld KD.cl KD.now (nm 0))))
      (ss_one (st_fld KD.cl KD.now (nm 0) (e_pop (e_fld KD.cl KD.after (nm 0)))))))) (fun ds h Q E w => ?_)
  match ds, w with
  | [.obj a], ⟨p, q, s, bf, af, x, g, l, k1, k2⟩ =>
    refine ⟨rfl, ?_⟩
    simp only [atIns_at x.ins, f_after, look_at x.aft, look_lst, pure1, tab1, dAnd, dOr, dNot, dIf, dCall, dFn, dCons, dNil, dVar, dOwn, dC, dFz, dBin, dCmp, dChn, dIsiB, bCmp, bChn, bVal, bAnd, bOr, bNot, bYes, dSortK, dPget, dGet, sDput, sExp, dLm, keyD, bCmpL, lk2, fI0, fI, sSeq, sIf, sRet, sRetL, sSet, sPar, sOwn, sFor, sNext, tName, NL.tCons, NL.tNil, tTups, dTup, dLst, dSl, oNo, oIs, fIx, fSl, iA, fAdd_t, fAdd_l, fAdd_s, fAdd_i, fLstOf_t, fLstOf_l, fTupOf_t, fTupOf_l, fLen_t, fLen_l, ofO_some, at0, at1, at2, NL.run, lenN, startN, DEnds.er, List.getElem?_cons_zero, List.getElem?_cons_succ, List.set_cons_zero, List.set_cons_succ, Bool.false_eq_true, if_true, if_false, reduceIte, dFld, sFldSet, dHp, dMeth, dNewL, sAsgH, hFld, hTup, NL.hCons, NL.hNil, sRaise, sRaise0]
    refine ⟨sizeLine_ge (by simp), g, good_nil, ?_⟩
    rw [eqD_nil]
    rcases List.eq_nil_or_concat af with rfl | ⟨af', s', e⟩
    · exact k1 rfl
    · rw [List.concat_eq_append] at e
      subst e
      rw [show ((af' ++ [s']).map encS).isEmpty = false by simp, if_neg (by decide)]
      simp only [f_before, f_now, ofO_some]
      refine ⟨⟨_, x.bef⟩, _, x.bef, by rw [List.length_map, sizeLine_eq]; omega, ?_⟩
      have i1 : put h p (.lst (bf.map encS ++ [encS s])) a = some (.ins C (deskF p q (encS s))) := (put_off x.ap).trans x.ins
      have p1 : put h p (.lst (bf.map encS ++ [encS s])) q = some (.lst ((af' ++ [s']).map encS)) := (put_off x.ne.symm).trans x.aft
      simp only [atIns_at i1, f_after, ofO_some]
      refine ⟨⟨_, p1⟩, _, p1, ?_⟩
      rw [fPop_snoc]
      rw [atIns_at ((put_off x.aq).trans i1), w_now]
      refine ⟨f_len, k2 af' s' rfl _ ⟨put_at, ?_, (put_off x.aq.symm).trans put_at, x.ne⟩ fun b _ nb => ?_⟩
      · rw [put_off x.ap.symm, put_off x.ne, put_at, List.map_append]
        rfl
      · simp only [List.mem_cons, List.not_mem_nil, or_false, not_or] at nb
        rw [put_off nb.1, put_off nb.2.2, put_off nb.2.1]
abbrev st_Desk_do : Stmt := inClass (top 33) 5
theorem sc_Desk_do : FnScope ["self", "deed", "following"] ["self", "deed"] (defScope st_Desk_do) := ⟨rfl, rfl, rfl, by decide +kernel, rfl, by decide +kernel, by decide +kernel⟩

def G_do (C XA P0 : Addr) : SG := fun ds h Q E => match ds with
  | [.obj a, d] => ∃ p q s bf af, DeskAt C a p q h s bf af ∧ h P0 = some (.tb "with_mark.<locals>.<lambda>") ∧ Ax 1000 s.1 ∧ MkOk s.2 ∧ good d ∧ bf.length < 1000 ∧ (aft s.1 s.2 d = none → E ⟨XA, [("thing", d)]⟩ h) ∧
      ∀ s', aft s.1 s.2 d = some s' → ∀ q' h', h q' = none → DeskAt C a p q' h' s' (bf ++ [s]) [] → Fr1 [a, p] h h' → Q .non h'
  | _ => False
theorem mb_do {XA P0 : Addr} (KD : DeskK K C) (XD : SupX P K mg "BadDeed" XA "thing") (A : AtM K C "do" "Desk.do" st_Desk_do) (h_after_deed : Dn P w K mg base 70 "after_deed" ["now", "thing"] (tab1 P0 "with_mark.<locals>.<lambda>" G_after_deed)) : MnB P w K mg base 71 C "do" ["self", "deed"] "deed" (G_do C XA P0) := by
  refine MnB.of A sc_Desk_do (fun F => F.bindsN fun _ _ _ _ _ _ us hl => match us, hl with | [_, _], _ => rfl) (fun F => kw1 F fun _ _ _ _ _ _ _ _ => rfl) (fun f cdv A outer s H E hr c => (ss_cons (st_set (i := 2) c rfl (by first | exact Or.inl rfl | exact Or.inr rfl) (e_fn h_after_deed c hr (a_cons (e_fld KD.cl KD.now (nm 0)) (a_cons (nm 1) a_nil))))
      (ss_cons (st_if (t_cmp o_is ob_is (wk (nm 2)) (wk c_non))
      (ss_one (s_raise c XD hr (nm 1)))
      ss_nil)
      (ss_cons (st_exp (e_app (e_fld KD.cl KD.before (nm 0)) (e_fld KD.cl KD.now (nm 0))))
      (ss_cons (st_fld KD.cl KD.now (nm 0) (nm 2))
      (ss_one (st_fld KD.cl KD.after (nm 0) (hpn (e_lst a_nil))))))))) (fun ds h Q E w => ?_)
  match ds, w with
  | [.obj a, d], ⟨p, q, s, bf, af, x, t, ax, mk, gd, l, k1, k2⟩ =>
    refine ⟨rfl, ?_⟩
    refine seqP (fun ρ => ρ = [some (.d (.obj a)), some (.d d), some (.d (encT (aft s.1 s.2 d)))]) (fun N hN => ?_) ?_
    · simp only [atIns_at x.ins, f_now, pure1, tab1, dAnd, dOr, dNot, dIf, dCall, dFn, dCons, dNil, dVar, dOwn, dC, dFz, dBin, dCmp, dChn, dIsiB, bCmp, bChn, bVal, bAnd, bOr, bNot, bYes, dSortK, dPget, dGet, sDput, sExp, dLm, keyD, bCmpL, lk2, fI0, fI, sSeq, sIf, sRet, sRetL, sSet, sPar, sOwn, sFor, sNext, tName, NL.tCons, NL.tNil, tTups, dTup, dLst, dSl, oNo, oIs, fIx, fSl, iA, fAdd_t, fAdd_l, fAdd_s, fAdd_i, fLstOf_t, fLstOf_l, fTupOf_t, fTupOf_l, fLen_t, fLen_l, ofO_some, at0, at1, at2, NL.run, lenN, startN, DEnds.er, List.getElem?_cons_zero, List.getElem?_cons_succ, List.set_cons_zero, List.set_cons_succ, Bool.false_eq_true, if_true, if_false, reduceIte, dFld, sFldSet, dHp, dMeth, dNewL, sAsgH, hFld, hTup, NL.hCons, NL.hNil, sRaise, sRaise0]
      exact ⟨t, ax, s.2, rfl, mk, gd, hN _ rfl⟩
    rintro _ rfl
    simp only [pure1, tab1, dAnd, dOr, dNot, dIf, dCall, dFn, dCons, dNil, dVar, dOwn, dC, dFz, dBin, dCmp, dChn, dIsiB, bCmp, bChn, bVal, bAnd, bOr, bNot, bYes, dSortK, dPget, dGet, sDput, sExp, dLm, keyD, bCmpL, lk2, fI0, fI, sSeq, sIf, sRet, sRetL, sSet, sPar, sOwn, sFor, sNext, tName, NL.tCons, NL.tNil, tTups, dTup, dLst, dSl, oNo, oIs, fIx, fSl, iA, fAdd_t, fAdd_l, fAdd_s, fAdd_i, fLstOf_t, fLstOf_l, fTupOf_t, fTupOf_l, fLen_t, fLen_l, ofO_some, at0, at1, at2, NL.run, lenN, startN, DEnds.er, List.getElem?_cons_zero, List.getElem?_cons_succ, List.set_cons_zero, List.set_cons_succ, Bool.false_eq_true, if_true, if_false, reduceIte, dFld, sFldSet, dHp, dMeth, dNewL, sAsgH, hFld, hTup, NL.hCons, NL.hNil, sRaise, sRaise0]
    cases e : aft s.1 s.2 d with
    | none => exact k1 e
    | some s' =>
      simp only [encT, fIs_enc, Bool.false_eq_true, if_false]
      rw [atIns_at x.ins, f_before, ofO_some]
      refine ⟨⟨_, x.bef⟩, ?_⟩
      rw [atIns_at x.ins, f_now, ofO_some]
      have i1 : put h p (.lst (bf.map encS ++ [encS s])) a = some (.ins C (deskF p q (encS s))) := (put_off x.ap).trans x.ins
      refine ⟨_, x.bef, by rw [List.length_map, sizeLine_eq]; omega, ?_⟩
      dsimp only
      rw [atIns_at i1, w_now]
      refine ⟨f_len, sizeLine_ge (by simp), fun q' hq => ?_⟩
      obtain ⟨n1, hq⟩ := put_none hq
      obtain ⟨n2, hq⟩ := put_none hq
      have i3 : put (put (put h p (.lst (bf.map encS ++ [encS s]))) a (.ins C (deskF p q (encS s')))) q' (.lst []) a = some (.ins C (deskF p q (encS s'))) := (put_off n1.symm).trans put_at
      show atIns C (.obj a) _ _
      rw [atIns_at i3]
      rw [w_after]
      refine ⟨f_len, k2 s' e q' _ hq ⟨put_at, ?_, ?_, n2.symm⟩ fun b hb nb => ?_⟩
      · rw [put_off x.ap.symm, put_off n2.symm, put_off x.ap.symm, put_at, List.map_append]
        rfl
      · rw [put_off n1, put_at]
        rfl
      · simp only [List.mem_cons, List.not_mem_nil, or_false, not_or] at nb
        rw [put_off nb.1, put_off (fun z => by rw [z] at hb; exact hb hq), put_off nb.1, put_off nb.2]
abbrev st_Desk___init__ : Stmt := inClass (top 33) 0
theorem sc_Desk___init__ : FnScope ["self", "book"] ["self", "book"] (defScope st_Desk___init__) := ⟨rfl, rfl, rfl, by decide +kernel, rfl, by decide +kernel, by decide +kernel⟩

def G_init (C XA : Addr) : SG := fun ds h Q E => match ds with
  | [.obj a, d] => h a = some (.ins C []) ∧ good d ∧ (∀ xs, d = .tup xs → xs.length ≤ 1000) ∧ (bookD d = false → E ⟨XA, [("thing", d)]⟩ h) ∧ ∀ b, d = .tup b → bookD d = true → ∀ p q h', h p = none → h q = none → DeskAt C a p q h' (b, []) [] [] → Fr1 [a] h h' → Q .non h'
  | _ => False
theorem kb_desk {XA : Addr} (KD : DeskK K C) (XB : SupX P K mg "BadBook" XA "thing") (A : AtK K mg "Desk" C "Desk.__init__" st_Desk___init__) (h_is_book_value : Dn P w K mg base 69 "is_book_value" ["thing"] (pure1 G_is_book_value)) : KnB P w K mg base 70 "Desk" C ["self", "book"] "book" (G_init C XA) := by
  refine KnB.of A sc_Desk___init__ (fun F => F.bindsN fun _ _ _ _ _ _ us hl => match us, hl with | [_, _], _ => rfl) (fun F => kw1 F fun _ _ _ _ _ _ _ _ => rfl) (fun f cdv A outer s H E hr c => (ss_cons (st_if (t_not (t_val (wk (e_fn h_is_book_value c hr (a_cons (nm 1) a_nil)))))
      (ss_one (s_raise c XB hr (nm 1)))
      ss_nil)
      (ss_cons (st_fld KD.cl KD.now (nm 0) (e_tup (a_cons (nm 1) (a_cons (e_tup a_nil) a_nil))))
      (ss_cons (st_fld KD.cl KD.before (nm 0) (hpn (e_lst a_nil)))
      (ss_one (st_fld KD.cl KD.after (nm 0) (hpn (e_lst a_nil)))))))) (fun ds h Q E w => ?_)
  match ds, w with
  | [.obj a, d], ⟨x, gd, hl, k1, k2⟩ =>
    refine ⟨rfl, ?_⟩
    simp only [atIns_at x, pure1, tab1, dAnd, dOr, dNot, dIf, dCall, dFn, dCons, dNil, dVar, dOwn, dC, dFz, dBin, dCmp, dChn, dIsiB, bCmp, bChn, bVal, bAnd, bOr, bNot, bYes, dSortK, dPget, dGet, sDput, sExp, dLm, keyD, bCmpL, lk2, fI0, fI, sSeq, sIf, sRet, sRetL, sSet, sPar, sOwn, sFor, sNext, tName, NL.tCons, NL.tNil, tTups, dTup, dLst, dSl, oNo, oIs, fIx, fSl, iA, fAdd_t, fAdd_l, fAdd_s, fAdd_i, fLstOf_t, fLstOf_l, fTupOf_t, fTupOf_l, fLen_t, fLen_l, ofO_some, at0, at1, at2, NL.run, lenN, startN, DEnds.er, List.getElem?_cons_zero, List.getElem?_cons_succ, List.set_cons_zero, List.set_cons_succ, Bool.false_eq_true, if_true, if_false, reduceIte, dFld, sFldSet, dHp, dMeth, dNewL, sAsgH, hFld, hTup, NL.hCons, NL.hNil, sRaise, sRaise0]
    refine ⟨gd, hl, ?_⟩
    dsimp only
    cases e : bookD d
    · exact k1 e
    · rw [if_neg (by decide)]
      obtain ⟨b, rfl⟩ : ∃ b, d = .tup b := by
        cases d with
        | tup b => exact ⟨b, rfl⟩
        | _ => cases e
      refine ⟨sizeLine_ge (by simp), sizeLine_ge (by simp), by show 0 < 1000; decide, sizeLine_ge (by simp), fun p hp => ?_⟩
      obtain ⟨n1, hp⟩ := put_none hp
      rw [atIns_at ((put_off n1.symm).trans put_at)]
      refine ⟨by show 1 < 1000; decide, sizeLine_ge (by simp), fun q hq => ?_⟩
      obtain ⟨n2, hq⟩ := put_none hq
      obtain ⟨n3, hq⟩ := put_none hq
      obtain ⟨_, hq⟩ := put_none hq
      rw [atIns_at ((put_off n2.symm).trans put_at)]
      refine ⟨by show 2 < 1000; decide, k2 b rfl e p q _ hp hq ⟨put_at, ?_, ?_, n3.symm⟩ fun b hb nb => ?_⟩
      · rw [put_off n1, put_off n3.symm, put_off n1, put_at]
        rfl
      · rw [put_off n2, put_at]
        rfl
      · rw [List.mem_singleton] at nb
        rw [put_off nb, put_off (fun z => by rw [z] at hb; exact hb hq), put_off nb, put_off (fun z => by rw [z] at hb; exact hb hp), put_off nb]
abbrev st_Desk___eq__ : Stmt := inClass (top 33) 1
theorem sc_Desk___eq__ : FnScope ["self", "other"] ["self", "other"] (defScope st_Desk___eq__) := ⟨rfl, rfl, rfl, by decide +kernel, rfl, by decide +kernel, by decide +kernel⟩

def G_eq (C : Addr) : SG := fun ds h Q E => match ds with
  | [.obj a, y] => ∃ p q s bf af, DeskAt C a p q h s bf af ∧ ((∃ a' p' q' s' bf' af', y = .obj a' ∧ DeskAt C a' p' q' h s' bf' af' ∧ good (encS s) ∧ good (encS s') ∧ Q (.bl (eqD (encS s) (encS s'))) h) ∨
      ((∃ n ∈ (["NoneType", "bool", "int", "str", "tuple", "list", "dict"] : List String), tyH h y = some (.type n)) ∧ Q (.bl false) h))
  | _ => False
theorem mn_eq (T : Txt mg K) (KD : DeskK K C) (KN : mg "Desk" = some (.ref C)) (A : AtM K C "__eq__" "Desk.__eq__" st_Desk___eq__) : Mn P w K mg base 1 C "__eq__" ["self", "other"] (G_eq C) := by
  have KN : KmG mg "Desk" C := ⟨KN⟩
  refine Mn.of A sc_Desk___eq__ (fun F => F.bindsN fun _ _ _ _ _ _ us hl => match us, hl with | [_, _], _ => rfl) (fun f cdv A outer s H E hr c => (ss_one (st_ret (e_and (wk (c_isiK (K := K) T.b KN.km (wk (nm 1)))) (e_one (e_cmp (op_eqD hr.u64) ob_eq (wk (e_fld KD.cl KD.now (nm 0))) (wk (e_fld KD.cl KD.now (nm 1))))))))) (fun ds h Q E w => ?_)
  match ds, w with
  | [.obj a, y], ⟨p, q, s, bf, af, x, k⟩ =>
    refine ⟨rfl, ?_⟩
    simp only [dIsi, atIns_at x.ins, f_now, pure1, tab1, dAnd, dOr, dNot, dIf, dCall, dFn, dCons, dNil, dVar, dOwn, dC, dFz, dBin, dCmp, dChn, dIsiB, bCmp, bChn, bVal, bAnd, bOr, bNot, bYes, dSortK, dPget, dGet, sDput, sExp, dLm, keyD, bCmpL, lk2, fI0, fI, sSeq, sIf, sRet, sRetL, sSet, sPar, sOwn, sFor, sNext, tName, NL.tCons, NL.tNil, tTups, dTup, dLst, dSl, oNo, oIs, fIx, fSl, iA, fAdd_t, fAdd_l, fAdd_s, fAdd_i, fLstOf_t, fLstOf_l, fTupOf_t, fTupOf_l, fLen_t, fLen_l, ofO_some, at0, at1, at2, NL.run, lenN, startN, DEnds.er, List.getElem?_cons_zero, List.getElem?_cons_succ, List.set_cons_zero, List.set_cons_succ, Bool.false_eq_true, if_true, if_false, reduceIte, dFld, sFldSet, dHp, dMeth, dNewL, sAsgH, hFld, hTup, NL.hCons, NL.hNil, sRaise, sRaise0]
    rcases k with ⟨a', p', q', s', bf', af', rfl, x', g, g', k⟩ | ⟨⟨n, hn, e⟩, k⟩
    · rw [show tyH h (.obj a') = some (.ref C) by simp only [tyH, x'.ins], ofO_some]
      refine ⟨fun C' e => (by cases e; exact KD.isc), ?_⟩
      rw [KD.yes, ofO_some, if_pos rfl, atIns_at x'.ins, f_now, ofO_some]
      exact ⟨g, g', k⟩
    · rw [e, ofO_some]
      refine ⟨fun C' e => (by cases e), ?_⟩
      rw [KD.no n hn, ofO_some]
      exact k
abbrev st_Desk_copied : Stmt := inClass (top 33) 8
theorem sc_Desk_copied : FnScope ["self", "other"] ["self"] (defScope st_Desk_copied) := ⟨rfl, rfl, rfl, by decide +kernel, rfl, by decide +kernel, by decide +kernel⟩

def G_copied (C : Addr) : SG := fun ds h Q E => match ds with
  | [.obj a] => ∃ p q s bf af, DeskAt C a p q h s bf af ∧ bookD (.tup s.1) = true ∧ good (.tup s.1) ∧ s.1.length ≤ 1000 ∧ ∀ a' p' q' h', h a' = none → h p' = none → h q' = none → DeskAt C a' p' q' h' s bf af → Fr1 [] h h' → Q (.obj a') h'
  | _ => False
theorem mn_copied {XA : Addr} (T : Txt mg K) (KD : DeskK K C) (KM : Kn P w K mg base 70 "Desk" C ["self", "book"] (G_init C XA)) (A : AtM K C "copied" "Desk.copied" st_Desk_copied) : Mn P w K mg base 72 C "copied" ["self"] (G_copied C) := by
  have KN : KmK P w K mg base 70 "Desk" C ["self", "book"] (G_init C XA) := ⟨KM⟩
  refine Mn.of A sc_Desk_copied (fun F => F.bindsN fun _ _ _ _ _ _ us hl => match us, hl with | [_], _ => rfl) (fun f cdv A outer s H E hr c => (ss_cons (st_set (i := 1) c rfl (by first | exact Or.inl rfl | exact Or.inr rfl) (e_make KN.kn c hr (a_cons (e_ix (wk (e_fld KD.cl KD.now (nm 0))) (wk c_int)) a_nil)))
      (ss_cons (st_asgH (e_tup (a_cons (e_fld KD.cl KD.now (nm 0)) (a_cons (hpn (c_nlist T.b (v_cons (wk (e_fld KD.cl KD.before (nm 0))) v_nil))) (a_cons (hpn (c_nlist T.b (v_cons (wk (e_fld KD.cl KD.after (nm 0))) v_nil))) a_nil)))) (h_tup (n := 3) c (hs_cons (h_fld KD.cl KD.now (nm 1)) (hs_cons (h_fld KD.cl KD.before (nm 1)) (hs_cons (h_fld KD.cl KD.after (nm 1)) hs_nil)))))
      (ss_one (st_ret (nm 1)))))) (fun ds h Q E w => ?_)
  match ds, w with
  | [.obj a], ⟨p, q, s, bf, af, x, e, g, l, k⟩ =>
    refine ⟨rfl, ?_⟩
    refine seqD (fun ρ h1 => ∃ a' p1 q1, ρ = [some (.d (.obj a)), some (.d (.obj a'))] ∧ h a' = none ∧ DeskAt C a' p1 q1 h1 (s.1, []) [] [] ∧ Fr1 [a'] (put h a' (.ins C [])) h1) (fun N hN => ?_) ?_
    · simp only [dMake, atIns_at x.ins, f_now, pure1, tab1, dAnd, dOr, dNot, dIf, dCall, dFn, dCons, dNil, dVar, dOwn, dC, dFz, dBin, dCmp, dChn, dIsiB, bCmp, bChn, bVal, bAnd, bOr, bNot, bYes, dSortK, dPget, dGet, sDput, sExp, dLm, keyD, bCmpL, lk2, fI0, fI, sSeq, sIf, sRet, sRetL, sSet, sPar, sOwn, sFor, sNext, tName, NL.tCons, NL.tNil, tTups, dTup, dLst, dSl, oNo, oIs, fIx, fSl, iA, fAdd_t, fAdd_l, fAdd_s, fAdd_i, fLstOf_t, fLstOf_l, fTupOf_t, fTupOf_l, fLen_t, fLen_l, ofO_some, at0, at1, at2, NL.run, lenN, startN, DEnds.er, List.getElem?_cons_zero, List.getElem?_cons_succ, List.set_cons_zero, List.set_cons_succ, Bool.false_eq_true, if_true, if_false, reduceIte, dFld, sFldSet, dHp, dMeth, dNewL, sAsgH, hFld, hTup, NL.hCons, NL.hNil, sRaise, sRaise0]
      simp only [encS, at0, ofO_some]
      intro a' ha
      refine ⟨put_at, g, fun xs z => (by cases z; exact l), fun z => (by rw [e] at z; cases z), fun b eb hb p1 q1 h1 hp1 hq1 y fr => ⟨rfl, ?_⟩⟩
      cases eb
      exact hN _ _ ⟨a', p1, q1, rfl, ha, y, fr⟩
    rintro _ h1 ⟨a', p1, q1, rfl, ha, y, fr⟩
    have old : ∀ b, h b ≠ none → h1 b = h b ∧ b ≠ a' := fun b hb => by
      have nb : b ≠ a' := fun z => by rw [z] at hb; exact hb ha
      have e1 : put h a' (.ins C []) b = h b := put_off nb
      exact ⟨(fr b (by rw [e1]; exact hb) (by simpa using nb)).trans e1, nb⟩
    have x1 : DeskAt C a p q h1 s bf af := ⟨(old a (by rw [x.ins]; exact fun z => by cases z)).1.trans x.ins, (old p (by rw [x.bef]; exact fun z => by cases z)).1.trans x.bef, (old q (by rw [x.aft]; exact fun z => by cases z)).1.trans x.aft, x.ne⟩
    simp only [atIns_at x1.ins, f_now, f_before, f_after, lkL, newL, look_at x1.bef, pure1, tab1, dAnd, dOr, dNot, dIf, dCall, dFn, dCons, dNil, dVar, dOwn, dC, dFz, dBin, dCmp, dChn, dIsiB, bCmp, bChn, bVal, bAnd, bOr, bNot, bYes, dSortK, dPget, dGet, sDput, sExp, dLm, keyD, bCmpL, lk2, fI0, fI, sSeq, sIf, sRet, sRetL, sSet, sPar, sOwn, sFor, sNext, tName, NL.tCons, NL.tNil, tTups, dTup, dLst, dSl, oNo, oIs, fIx, fSl, iA, fAdd_t, fAdd_l, fAdd_s, fAdd_i, fLstOf_t, fLstOf_l, fTupOf_t, fTupOf_l, fLen_t, fLen_l, ofO_some, at0, at1, at2, NL.run, lenN, startN, DEnds.er, List.getElem?_cons_zero, List.getElem?_cons_succ, List.set_cons_zero, List.set_cons_succ, Bool.false_eq_true, if_true, if_false, reduceIte, dFld, sFldSet, dHp, dMeth, dNewL, sAsgH, hFld, hTup, NL.hCons, NL.hNil, sRaise, sRaise0]
    intro p2 hp2
    have np : ∀ {o : AO} {b : Addr} {u : AO}, h1 b = some u → put h1 p2 o b = some u := fun {o b u} z => (put_off (fun w => by rw [w, hp2] at z; cases z)).trans z
    rw [atIns_at (np x1.ins), f_after, ofO_some, look_at (np x1.aft)]
    intro p3 hp3
    obtain ⟨n1, hp3⟩ := put_none hp3
    have na : a' ≠ p2 := fun z => by have := y.ins; rw [z, hp2] at this; cases this
    have nb : a' ≠ p3 := fun z => by have := y.ins; rw [z, hp3] at this; cases this
    have i1 : put (put h1 p2 (.lst (bf.map encS))) p3 (.lst (af.map encS)) a' = some (.ins C (deskF p1 q1 (encS (s.1, [])))) := ((put_off nb).trans (put_off na)).trans y.ins
    refine ⟨sizeLine_ge (by simp), rfl, ?_⟩
    rw [atIns_at i1, w_now]
    refine ⟨f_len, ?_⟩
    rw [atIns_at put_at, w_before]
    refine ⟨f_len, ?_⟩
    rw [atIns_at put_at, w_after]
    have new : ∀ b, h1 b = none → h b = none := fun b z => Classical.byContradiction fun w => by
      have := (old b w).1
      rw [z] at this
      exact w this.symm
    refine ⟨f_len, k a' p2 p3 _ ha (new _ hp2) (new _ hp3) ⟨put_at, ?_, ?_, n1.symm⟩ fun b hb _ => ?_⟩
    · rw [put_off na.symm, put_off na.symm, put_off na.symm, put_off n1.symm, put_at]
    · rw [put_off nb.symm, put_off nb.symm, put_off nb.symm, put_at]
    · obtain ⟨e1, n⟩ := old b hb
      have m2 : b ≠ p2 := fun z => by rw [z, new p2 hp2] at hb; exact hb rfl
      have m3 : b ≠ p3 := fun z => by rw [z, new p3 hp3] at hb; exact hb rfl
      rw [put_off n, put_off n, put_off n, put_off m3, put_off m2, e1]
end
end T69
set_option Elab.async false
set_option linter.all false
set_option maxRecDepth 100000
set_option maxHeartbeats 4300000
namespace T69
open PySem PySem.Spec PyProof.Rows L2 LamX NL
/-- what the module says of the three exceptions -/
structure ToldX (K : PySem.W.Frag) (mg : Str → Option Value) (CD CU CR : Addr) : Prop where
  bd : mg "BadDeed" = some (.ref CD)
  bu : mg "NothingToUndo" = some (.ref CU)
  br : mg "NothingToRedo" = some (.ref CR)
  dd : PySem.W.exmOne K (.ref CD) (.ref CD) = some true
  ud : PySem.W.exmOne K (.ref CU) (.ref CD) = some false
  uu : PySem.W.exmOne K (.ref CU) (.ref CU) = some true
  rd : PySem.W.exmOne K (.ref CR) (.ref CD) = some false
  ru : PySem.W.exmOne K (.ref CR) (.ref CU) = some false
  rr : PySem.W.exmOne K (.ref CR) (.ref CR) = some true
  xf : XfC K CD
  hno : PySem.W.findIn K (.ref CD) "thing" = some none
def toldCs (CD CU CR : Addr) : List Cl := [⟨.ref CD, some 1, fun a cls d => sRet (dTup (dCons (dC (.str "bad")) (dCons (dXf 1 a cls d CD "thing") dNil)))⟩, ⟨.ref CU, none, fun _ _ _ => sRet (dTup (dCons (dC (.str "undo")) dNil))⟩, ⟨.ref CR, none, fun _ _ _ => sRet (dTup (dCons (dC (.str "redo")) dNil))⟩]
section
variable {K : PySem.W.Frag} {mg : Str → Option Value} {CD CU CR : Addr} {Q : QD} {E : QX} {f : Addr} {h : AH} {d : D}
theorem wt_bad (T : ToldX K mg CD CU CR) (q : Q (.tup [.str "bad", d]) h) : wTry K (toldE Q E) (toldCs CD CU CR) ⟨CD, [("thing", d)]⟩ (startN 2 [.obj f]) h :=
  ⟨true, T.dd, fun _ a dd => by
    simp only [sRet, dTup, NL.dCons, dC, dNil, dXf, inN, startN, List.set_cons_succ, List.set_cons_zero, List.getElem?_cons_succ, List.getElem?_cons_zero]
    exact ⟨True.intro, True.intro, True.intro, by
      show ofO (some d) _
      rw [ofO_some]
      exact ⟨sizeLine_ge (by simp), q⟩⟩, fun z => by cases z⟩
theorem wt_undo {fs : List (Str × D)} (T : ToldX K mg CD CU CR) (q : Q (.tup [.str "undo"]) h) : wTry K (toldE Q E) (toldCs CD CU CR) ⟨CU, fs⟩ (startN 2 [.obj f]) h :=
  ⟨false, T.ud, (fun z => by cases z), fun _ => ⟨true, T.uu, fun _ a dd => ⟨sizeLine_ge (by simp), q⟩, fun z => by cases z⟩⟩
theorem wt_redo {fs : List (Str × D)} (T : ToldX K mg CD CU CR) (q : Q (.tup [.str "redo"]) h) : wTry K (toldE Q E) (toldCs CD CU CR) ⟨CR, fs⟩ (startN 2 [.obj f]) h :=
  ⟨false, T.rd, (fun z => by cases z), fun _ => ⟨false, T.ru, (fun z => by cases z), fun _ => ⟨true, T.rr, fun _ a dd => ⟨sizeLine_ge (by simp), q⟩, fun z => by cases z⟩⟩⟩
end
section
variable {base : Heap} {mg : Str → Option Value} {K : PySem.W.Frag} {P : Program} {w : World} {C CD CU CR : Addr}
abbrev st_told : Stmt := top 50
theorem sc_told : FnScope ["deed", "e"] ["deed"] (defScope st_told) := ⟨rfl, rfl, rfl, by decide +kernel, rfl, by decide +kernel, by decide +kernel⟩
theorem is_told (T : ToldX K mg CD CU CR) (A : At K mg "_law_told" st_told) : ToldN P w K mg base "_law_told" ["deed", "e"] "told" (toldCs CD CU CR) :=
  ⟨st_told, "deed", _, _, _, _, _, _, _, _, _, _, A, rfl, sc_told, rfl, .inl rfl, by decide, by decide, fun f fd F => F.bindsN fun _ _ _ _ _ _ us hl => match us, hl with | [_], _ => rfl, fun g cdv A outer s H E c =>
    h_nm ⟨rfl, by decide, .inl T.bd⟩ (fun a oe cls d pn hz hf => ss_one (st_ret (e_tup (a_cons c_str (a_cons (e_xf 1 T.xf T.hno hz hf) a_nil)))))
      (h_un ⟨rfl, by decide, .inl T.bu⟩ (fun a oe cls d pn hz hf => ss_one (st_ret (e_tup (a_cons c_str a_nil))))
        (h_un ⟨rfl, by decide, .inl T.br⟩ (fun a oe cls d pn hz hf => ss_one (st_ret (e_tup (a_cons c_str a_nil)))) h_nil))⟩
end
end T69
set_option Elab.async false
set_option linter.all false
set_option maxRecDepth 100000
set_option maxHeartbeats 4300000
namespace T69
open PySem PySem.Spec PyProof.Rows L2 LamX NL
def ownK (u v : Addr) (s : D) : List (Key × D) := [(.inr "now", s), (.inr "past", .obj u), (.inr "next", .obj v)]
theorem o_now {u v : Addr} {s : D} : valD (ownK u v s) (.inr "now") = some s := by rfl
theorem o_past {u v : Addr} {s : D} : valD (ownK u v s) (.inr "past") = some (.obj u) := by rfl
theorem o_next {u v : Addr} {s : D} : valD (ownK u v s) (.inr "next") = some (.obj v) := by rfl
theorem p_now {u v : Addr} {s d : D} : putKD (ownK u v s) (.inr "now") d = ownK u v d := by rfl
theorem p_next {u v z : Addr} {s : D} : putKD (ownK u v s) (.inr "next") (.obj z) = ownK u z s := by rfl
/-- a desk and its own record: both tell the same -/
structure RecAt (C a p q o u v : Addr) (h : AH) (s : St) (bf af : List St) : Prop where
  dk : DeskAt C a p q h s bf af
  own : h o = some (.dK (ownK u v (encS s)))
  past : h u = some (.lst (bf.map encS))
  next : h v = some (.lst (af.map encS))
  ne : [a, p, q, o, u, v].Nodup
theorem fEq_one {x : Str} {Q : Bool → Prop} (g : good (.str x)) (q : Q true) : fEq (.tup [.str x]) (.tup [.str x]) Q := by
  have h : good (.tup [.str x]) := (good_tup (fun y m => by rw [List.mem_singleton.mp m]; exact g) 0 (fun y m => by rw [List.mem_singleton.mp m]; exact Nat.le_refl _)).1
  refine ⟨h, h, ?_⟩
  rw [eqD_tup, show eqDs [.str x] [.str x] = true by simp [eqDs]]
  exact q
theorem sizeLine_gt {n : Nat} (h : n ≤ 1000) : n < sizeLine := by rw [sizeLine_eq]; omega
section
variable {base : Heap} {mg : Str → Option Value} {K : PySem.W.Frag} {P : Program} {w : World} {C CD CU CR P1 : Addr}
abbrev st__law_is_moved : Stmt := top 51
theorem sc__law_is_moved : FnScope ["desk", "own", "undo", "told", "here", "there"] ["desk", "own", "undo"] (defScope st__law_is_moved) := ⟨rfl, rfl, rfl, by decide +kernel, rfl, by decide +kernel, by decide +kernel⟩

def G_moved (C P1 : Addr) : SG := fun ds h Q E => match ds with
  | [.obj a, .obj o, .bl b] => h P1 = some (.tb "_law_is_moved.<locals>.<lambda>") ∧ ∃ p q u v s bf af, RecAt C a p q o u v h s bf af ∧ good (.lst (bf.map encS)) ∧ good (.lst (af.map encS)) ∧ bf.length + af.length < 1000 ∧
      (b = true → (bf = [] → Q (.bl true) h) ∧ ∀ bf' s', bf = bf' ++ [s'] → ∀ h', RecAt C a p q o u v h' s' bf' (af ++ [s]) → Fr1 [a, p, q, o, u, v] h h' → Q (.bl true) h') ∧
      (b = false → (af = [] → Q (.bl true) h) ∧ ∀ af' s', af = af' ++ [s'] → ∀ h', RecAt C a p q o u v h' s' (bf ++ [s]) af' → Fr1 [a, p, q, o, u, v] h h' → Q (.bl true) h')
  | _ => False
theorem dn_moved (T : Txt mg K) (L : LamA K mg base "_law_is_moved" P1 st__law_is_moved) (KD : DeskK K C) (TX : ToldX K mg CD CU CR) (tD : ToldN P w K mg base "_law_told" ["deed", "e"] "told" (toldCs CD CU CR))
    (mU : Mn P w K mg base 1 C "undo" ["self"] (G_undo C CU)) (mR : Mn P w K mg base 1 C "redo" ["self"] (G_redo C CR)) : Dn P w K mg base 6 "_law_is_moved" ["desk", "own", "undo"] (G_moved C P1) := by
  refine Dn.ofC L sc__law_is_moved (fun F => F.bindsN fun _ _ _ _ _ _ us hl => match us, hl with | [_, _, _], _ => rfl) (fun f c' A outer s H E tB hr c => (ss_cons (st_asg (e_tup (a_cons c_non (a_cons c_str (a_cons c_str a_nil)))) (pg_tup (n := 3) rfl (pgs_cons (pg_name (i := 3) sc__law_is_moved.nd rfl (by first | exact Or.inl rfl | exact Or.inr rfl)) (pgs_cons (pg_name (i := 4) sc__law_is_moved.nd rfl (by first | exact Or.inl rfl | exact Or.inr rfl)) (pgs_cons (pg_name (i := 5) sc__law_is_moved.nd rfl (by first | exact Or.inl rfl | exact Or.inr rfl)) pgs_nil)))) (gd_tup (n := 3) (gds_cons gd_name (gds_cons gd_name (gds_cons gd_name gds_nil)))))
      (ss_cons (st_if (t_val (wk (nm 2)))
      (ss_one (st_par3 (i := 3) (j := 4) (l := 5) c rfl rfl rfl (by decide) (by decide) (by decide) rfl rfl rfl (a_cons (e_toldK (K := K) (k := 3) (q := "_law_is_moved.<locals>.<lambda>") tD c hr tB rfl (by exact lamS_by (sc := defScope st__law_is_moved) (by decide +kernel)) (fun _ _ _ _ _ _ _ hr c => (e_meth0X mU c hr (nm 0)))) (a_cons c_str (a_cons c_str a_nil))) rfl))
      (ss_one (st_set (i := 3) c rfl (by first | exact Or.inl rfl | exact Or.inr rfl) (e_toldK (K := K) (k := 3) (q := "_law_is_moved.<locals>.<lambda>") tD c hr tB rfl (by exact lamS_by (sc := defScope st__law_is_moved) (by decide +kernel)) (fun _ _ _ _ _ _ _ hr c => (e_meth0X mR c hr (nm 0)))))))
      (ss_cons (st_if (t_cmpL (op_eqD hr.u64) ob_eq (wk (e_dget hr (nm 1) (nm 4))) (wk (fzn (e_lst a_nil))))
      (ss_one (st_ret (e_cmp (op_eqD hr.u64) ob_eq (wk (nm 3)) (wk (e_if (t_val (wk (nm 2))) (e_tup (a_cons c_str a_nil)) (e_tup (a_cons c_str a_nil)))))))
      ss_nil)
      (ss_cons (st_exp (e_app (e_dget hr (nm 1) (nm 5)) (e_dget hr (nm 1) c_str)))
      (ss_cons (st_dput hr (nm 1) c_str (e_pop (e_dget hr (nm 1) (nm 4))))
      (ss_one (st_ret (e_and (wk (e_cmp (op_eqD hr.u64) ob_eq (wk (e_ix (wk (nm 3)) (wk c_int))) (wk c_str))) (e_one (e_or (wk (e_not (wk (nm 2)))) (e_one (e_cmp o_is ob_is (wk (e_ix (wk (nm 3)) (wk c_int))) (wk c_non)))))))))))))) (fun ds h Q E w => ?_)
  match ds, w with
  | [.obj a, .obj o, .bl b], ⟨tb, p, q, u, v, s, bf, af, x, g1, g2, l, kt, kf⟩ =>
    refine ⟨rfl, ?_⟩
    have ne := x.ne
    simp only [List.nodup_cons, List.mem_cons, List.not_mem_nil, or_false, not_or, List.nodup_nil, and_true, not_false_eq_true] at ne
    obtain ⟨⟨ap, aq, ao, au, av⟩, ⟨pq, po, pu, pv⟩, ⟨qo, qu, qv⟩, ⟨ou, ov⟩, uv⟩ := ne
    have kp : ∀ {h1 : AH} {b : Addr} {z : AO}, Fr1 [a, p, q] h h1 → h b = some z → b ≠ a → b ≠ p → b ≠ q → h1 b = some z := fun {h1 b z} fr e n1 n2 n3 =>
      (fr b (by rw [e]; exact fun w => by cases w) (by simp [n1, n2, n3])).trans e
    cases b with
    | true =>
      simp only [atIns_at x.dk.ins, pure1, tab1, dAnd, dOr, dNot, dIf, dCall, dFn, dCons, dNil, dVar, dOwn, dC, dFz, dBin, dCmp, dChn, dIsiB, bCmp, bChn, bVal, bAnd, bOr, bNot, bYes, dSortK, dPget, dGet, sDput, sExp, dLm, keyD, bCmpL, lk2, fI0, fI, sSeq, sIf, sRet, sRetL, sSet, sPar, sOwn, sFor, sNext, tName, NL.tCons, NL.tNil, tTups, dTup, dLst, dSl, oNo, oIs, fIx, fSl, iA, fAdd_t, fAdd_l, fAdd_s, fAdd_i, fLstOf_t, fLstOf_l, fTupOf_t, fTupOf_l, fLen_t, fLen_l, ofO_some, at0, at1, at2, NL.run, lenN, startN, DEnds.er, List.getElem?_cons_zero, List.getElem?_cons_succ, List.set_cons_zero, List.set_cons_succ, Bool.false_eq_true, if_true, if_false, reduceIte, dFld, sFldSet, dHp, dMeth, dNewL, sPar3, dTold, bCmpL, sExp]
      refine ⟨sizeLine_ge (by simp), rfl, tb, rfl, p, q, s, bf, af, x.dk, g1, by omega, fun e f => wt_undo TX ?_, fun bf' s' e h1 y fr => ?_⟩
      · subst e
        simp only [atDic_at x.own, o_past, ofO_some, look_at x.past, look_lst]
        refine ⟨sizeLine_ge (by simp), g1, good_nil, ?_⟩
        rw [eqD_nil]
        exact ⟨sizeLine_ge (by simp), fEq_one (strl "undo") ((kt rfl).1 rfl)⟩
      · subst e
        have own1 := kp fr x.own (Ne.symm ao) (Ne.symm po) (Ne.symm qo)
        have past1 := kp fr x.past (Ne.symm au) (Ne.symm pu) (Ne.symm qu)
        have next1 := kp fr x.next (Ne.symm av) (Ne.symm pv) (Ne.symm qv)
        simp only [atDic_at own1, o_past, o_next, o_now, ofO_some, look_at past1, look_lst]
        refine ⟨sizeLine_ge (by simp), g1, good_nil, ?_⟩
        rw [eqD_nil, show ((bf' ++ [s']).map encS).isEmpty = false by simp]
        dsimp only
        rw [if_neg (by decide)]
        refine ⟨⟨_, next1⟩, _, next1, by rw [List.length_map, sizeLine_eq]; omega, ?_⟩
        have own2 : put h1 v (.lst (af.map encS ++ [encS s])) o = some (.dK (ownK u v (encS s))) := (put_off ov).trans own1
        have past2 : put h1 v (.lst (af.map encS ++ [encS s])) u = some (.lst ((bf' ++ [s']).map encS)) := (put_off uv).trans past1
        dsimp only
        rw [atDic_at own2, o_past, ofO_some]
        refine ⟨⟨_, past2⟩, _, past2, ?_⟩
        rw [fPop_snoc, atDicO_at ((put_off ou).trans own2), p_now]
        refine ⟨sizeLine_gt (by show 3 ≤ 1000; decide), fEq_s (v := true) (strl "told") (strl "told") (by decide +kernel) ?_⟩
        rw [if_pos rfl, if_neg (by decide)]
        show Q (.bl true) _
        have off : ∀ {z : AO} {b : Addr}, b ≠ o → b ≠ u → b ≠ v → put (put (put h1 v (.lst (af.map encS ++ [encS s]))) u (.lst (bf'.map encS))) o z b = h1 b := fun n1 n2 n3 => ((put_off n1).trans (put_off n2)).trans (put_off n3)
        refine (kt rfl).2 bf' s' rfl _ ⟨⟨(off ao au av).trans y.ins, (off po pu pv).trans y.bef, (off qo qu qv).trans y.aft, y.ne⟩, put_at, ?_, ?_, x.ne⟩ fun b hb nb => ?_
        · rw [put_off (Ne.symm ou), put_at]
        · rw [put_off (Ne.symm ov), put_off (Ne.symm uv), put_at, List.map_append]
          rfl
        · simp only [List.mem_cons, List.not_mem_nil, or_false, not_or] at nb
          rw [off nb.2.2.2.1 nb.2.2.2.2.1 nb.2.2.2.2.2]
          exact fr b hb (by simp [nb.1, nb.2.1, nb.2.2.1])
    | false =>
      simp only [atIns_at x.dk.ins, pure1, tab1, dAnd, dOr, dNot, dIf, dCall, dFn, dCons, dNil, dVar, dOwn, dC, dFz, dBin, dCmp, dChn, dIsiB, bCmp, bChn, bVal, bAnd, bOr, bNot, bYes, dSortK, dPget, dGet, sDput, sExp, dLm, keyD, bCmpL, lk2, fI0, fI, sSeq, sIf, sRet, sRetL, sSet, sPar, sOwn, sFor, sNext, tName, NL.tCons, NL.tNil, tTups, dTup, dLst, dSl, oNo, oIs, fIx, fSl, iA, fAdd_t, fAdd_l, fAdd_s, fAdd_i, fLstOf_t, fLstOf_l, fTupOf_t, fTupOf_l, fLen_t, fLen_l, ofO_some, at0, at1, at2, NL.run, lenN, startN, DEnds.er, List.getElem?_cons_zero, List.getElem?_cons_succ, List.set_cons_zero, List.set_cons_succ, Bool.false_eq_true, if_true, if_false, reduceIte, dFld, sFldSet, dHp, dMeth, dNewL, sPar3, dTold, bCmpL, sExp]
      refine ⟨sizeLine_ge (by simp), rfl, tb, rfl, p, q, s, bf, af, x.dk, g2, by omega, fun e f => wt_redo TX ?_, fun af' s' e h1 y fr => ?_⟩
      · subst e
        simp only [atDic_at x.own, o_next, ofO_some, look_at x.next, look_lst]
        refine ⟨sizeLine_ge (by simp), g2, good_nil, ?_⟩
        rw [eqD_nil]
        exact ⟨sizeLine_ge (by simp), fEq_one (strl "redo") ((kf rfl).1 rfl)⟩
      · subst e
        have own1 := kp fr x.own (Ne.symm ao) (Ne.symm po) (Ne.symm qo)
        have past1 := kp fr x.past (Ne.symm au) (Ne.symm pu) (Ne.symm qu)
        have next1 := kp fr x.next (Ne.symm av) (Ne.symm pv) (Ne.symm qv)
        simp only [atDic_at own1, o_past, o_next, o_now, ofO_some, look_at next1, look_lst]
        refine ⟨sizeLine_ge (by simp), g2, good_nil, ?_⟩
        rw [eqD_nil, show ((af' ++ [s']).map encS).isEmpty = false by simp]
        dsimp only
        rw [if_neg (by decide)]
        refine ⟨⟨_, past1⟩, _, past1, by rw [List.length_map, sizeLine_eq]; omega, ?_⟩
        have own2 : put h1 u (.lst (bf.map encS ++ [encS s])) o = some (.dK (ownK u v (encS s))) := (put_off ou).trans own1
        have next2 : put h1 u (.lst (bf.map encS ++ [encS s])) v = some (.lst ((af' ++ [s']).map encS)) := (put_off (Ne.symm uv)).trans next1
        dsimp only
        rw [atDic_at own2, o_next, ofO_some]
        refine ⟨⟨_, next2⟩, _, next2, ?_⟩
        rw [fPop_snoc, atDicO_at ((put_off ov).trans own2), p_now]
        refine ⟨sizeLine_gt (by show 3 ≤ 1000; decide), fEq_s (v := true) (strl "told") (strl "told") (by decide +kernel) ?_⟩
        rw [if_pos rfl]
        show Q (.bl true) _
        have off : ∀ {z : AO} {b : Addr}, b ≠ o → b ≠ u → b ≠ v → put (put (put h1 u (.lst (bf.map encS ++ [encS s]))) v (.lst (af'.map encS))) o z b = h1 b := fun n1 n2 n3 => ((put_off n1).trans (put_off n3)).trans (put_off n2)
        refine (kf rfl).2 af' s' rfl _ ⟨⟨(off ao au av).trans y.ins, (off po pu pv).trans y.bef, (off qo qu qv).trans y.aft, y.ne⟩, put_at, ?_, ?_, x.ne⟩ fun b hb nb => ?_
        · rw [put_off (Ne.symm ou), put_off uv, put_at, List.map_append]
          rfl
        · rw [put_off (Ne.symm ov), put_at]
        · simp only [List.mem_cons, List.not_mem_nil, or_false, not_or] at nb
          rw [off nb.2.2.2.1 nb.2.2.2.2.1 nb.2.2.2.2.2]
          exact fr b hb (by simp [nb.1, nb.2.1, nb.2.2.1])
end
end T69
set_option Elab.async false
set_option linter.all false
set_option maxRecDepth 100000
set_option maxHeartbeats 4300000
namespace T69
open PySem PySem.Spec PyProof.Rows L2 LamX NL
theorem fIsNot_enc {s : St} {Q : Bool → Prop} : fIsNot (encS s) .non Q = Q true := rfl
theorem _root_.NL.Dr.none {d c b : Addr} {h h' : AH} (r : Dr d c h h') (n : h' b = none) : h b = none := by
  obtain ⟨cs, m, k, e1, e2, _⟩ := r.dk.at_
  rw [← r.off b (fun z => by rw [z, e1] at n; cases n) (fun z => by rw [z, e2] at n; cases n)]
  exact n
section
variable {base : Heap} {mg : Str → Option Value} {K : PySem.W.Frag} {P : Program} {w : World} {C CD CU CR P0 P2 : Addr}
abbrev st__law_is_done : Stmt := top 52
theorem sc__law_is_done : FnScope ["deck", "desk", "own", "deed", "state", "told"] ["deck", "desk", "own", "deed"] (defScope st__law_is_done) := ⟨rfl, rfl, rfl, by decide +kernel, rfl, by decide +kernel, by decide +kernel⟩

def G_done (C P0 P2 : Addr) : SG := fun ds h Q E => match ds with
  | [.obj d, .obj a, .obj o, x] => h P2 = some (.tb "_law_is_done.<locals>.<lambda>") ∧ h P0 = some (.tb "with_mark.<locals>.<lambda>") ∧ ∃ c p q u v s bf af, Dk d c h ∧ RecAt C a p q o u v h s bf af ∧ (∀ b ∈ [a, p, q, o, u, v], b ≠ d ∧ b ≠ c) ∧
      Ax 1000 s.1 ∧ MkOk s.2 ∧ (∃ y : LDeed, x = y.enc ∧ y.ok) ∧ good x ∧ Sho (.tup [.str "bad", x]) ∧ bf.length < 1000 ∧ (∀ h', Dr d c h h' → Q (.bl true) h') ∧
      ∀ s', aft s.1 s.2 x = some s' → s'.1.length ≤ 6 → ∀ q' v' h', h q' = none → h v' = none → RecAt C a p q' o u v' h' s' (bf ++ [s]) [] → Dk d c h' → Fr1 [a, p, o, u, d, c] h h' → Q (.bl true) h'
  | _ => False
theorem dn_done (T : Txt mg K) (L : LamA K mg base "_law_is_done" P2 st__law_is_done) (KD : DeskK K C) (TX : ToldX K mg CD CU CR) (tD : ToldN P w K mg base "_law_told" ["deed", "e"] "told" (toldCs CD CU CR)) (h__law_after : Dn P w K mg base 68 "_law_after" ["state", "deed"] (pure1 G__law_after)) (h__law_draw : Dn P w K mg base 4 "_law_draw" ["deck", "many"] G_draw)
    (mD : Mn P w K mg base 71 C "do" ["self", "deed"] (G_do C CD P0)) (mDk : MnK P w K mg base 71 C "do" ["self", "deed"] "deed" (G_do C CD P0)) : Dn P w K mg base 74 "_law_is_done" ["deck", "desk", "own", "deed"] (G_done C P0 P2) := by
  refine Dn.ofC L sc__law_is_done (fun F => F.bindsN fun _ _ _ _ _ _ us hl => match us, hl with | [_, _, _, _], _ => rfl) (fun f c' A outer s H E tB hr c => (ss_cons (st_set (i := 4) c rfl (by first | exact Or.inl rfl | exact Or.inr rfl) (e_fn h__law_after c hr (a_cons (e_dget hr (nm 2) c_str) (a_cons (nm 3) a_nil))))
      (ss_cons (st_if (PW.pt (w_and (t_cmp o_isnt ob_isnt (wk (nm 4)) (wk c_non)) (w_and1 (t_cmp o_gt ob_ord (wk (c_len T.b (v_cons (wk (e_ix (wk (nm 4)) (wk c_int))) v_nil))) (wk c_int)))))
      (ss_one (st_ret c_bl))
      ss_nil)
      (ss_cons (st_if (t_cmp (op_eqD hr.u64) ob_eq (wk (e_fn h__law_draw c hr (a_cons (nm 0) (a_cons c_int a_nil)))) (wk c_int))
      (ss_one (st_set (i := 5) c rfl (by first | exact Or.inl rfl | exact Or.inr rfl) (e_toldK (K := K) (k := 71) (q := "_law_is_done.<locals>.<lambda>") tD c hr tB rfl (by exact lamS_by (sc := defScope st__law_is_done) (by decide +kernel)) (fun _ _ _ _ _ _ _ hr c => (e_methX mD c hr (nm 1) (a_cons (nm 3) a_nil))))))
      (ss_one (st_set (i := 5) c rfl (by first | exact Or.inl rfl | exact Or.inr rfl) (e_toldK (K := K) (k := 71) (q := "_law_is_done.<locals>.<lambda>") tD c hr tB rfl (by exact lamS_by (sc := defScope st__law_is_done) (by decide +kernel)) (fun _ _ _ _ _ _ _ hr c => (e_methK mDk c hr (nm 1) (nm 3)))))))
      (ss_cons (st_if (t_cmp o_is ob_is (wk (nm 4)) (wk c_non))
      (ss_one (st_ret (e_cmp op_eq ob_eqT (wk (c_repr T.b c hr (v_cons (wk (nm 5)) v_nil))) (wk (c_repr T.b c hr (v_cons (wk (e_tup (a_cons c_str (a_cons (nm 3) a_nil)))) v_nil))))))
      ss_nil)
      (ss_cons (st_exp (e_app (e_dget hr (nm 2) c_str) (e_dget hr (nm 2) c_str)))
      (ss_cons (st_asgH (e_tup (a_cons (nm 4) (a_cons (hpn (e_lst a_nil)) a_nil))) (h_tup (n := 2) c (hs_cons (h_sub hr (nm 2) c_str) (hs_cons (h_sub hr (nm 2) c_str) hs_nil))))
      (ss_one (st_ret (e_and (wk (e_cmp (op_eqD hr.u64) ob_eq (wk (e_ix (wk (nm 5)) (wk c_int))) (wk c_str))) (e_one (e_cmp o_is ob_is (wk (e_ix (wk (nm 5)) (wk c_int))) (wk c_non))))))))))))) (fun ds h Q E w => ?_)
  match ds, w with
  | [.obj d, .obj a, .obj o, x], ⟨t2, t0, c, p, q, u, v, s, bf, af, dk, r, ndk, ax, mk, hx, gx, sx, l, k1, k2⟩ =>
    refine ⟨rfl, ?_⟩
    refine seqP (fun ρ => ρ = [some (.d (.obj d)), some (.d (.obj a)), some (.d (.obj o)), some (.d x), some (.d (encT (aft s.1 s.2 x))), none]) (fun N hN => ?_) ?_
    · simp only [atDic_at r.own, o_now, pure1, tab1, dAnd, dOr, dNot, dIf, dCall, dFn, dCons, dNil, dVar, dOwn, dC, dFz, dBin, dCmp, dChn, dIsiB, bCmp, bChn, bVal, bAnd, bOr, bNot, bYes, dSortK, dPget, dGet, sDput, sExp, dLm, keyD, bCmpL, lk2, fI0, fI, sSeq, sIf, sRet, sRetL, sSet, sPar, sOwn, sFor, sNext, tName, NL.tCons, NL.tNil, tTups, dTup, dLst, dSl, oNo, oIs, fIx, fSl, iA, fAdd_t, fAdd_l, fAdd_s, fAdd_i, fLstOf_t, fLstOf_l, fTupOf_t, fTupOf_l, fLen_t, fLen_l, ofO_some, at0, at1, at2, NL.run, lenN, startN, DEnds.er, List.getElem?_cons_zero, List.getElem?_cons_succ, List.set_cons_zero, List.set_cons_succ, Bool.false_eq_true, if_true, if_false, reduceIte, dFld, sFldSet, dHp, dMeth, dNewL, dTold, bCmpL, sExp, sAsgH, hSub, hTup, NL.hCons, NL.hNil, fEqT]
      obtain ⟨y, ey, oy⟩ := hx
      exact ⟨ax, s.2, rfl, mk, y, ey, oy, hN _ rfl⟩
    rintro _ rfl
    have r0 : Dr d c h h := .refl dk
    by_cases big : ∃ s', aft s.1 s.2 x = some s' ∧ 6 < s'.1.length
    · obtain ⟨s', e, lg⟩ := big
      refine take_if (fun R Z z => ?_) (k1 h r0)
      rw [e]
      simp only [encT, pure1, tab1, dAnd, dOr, dNot, dIf, dCall, dFn, dCons, dNil, dVar, dOwn, dC, dFz, dBin, dCmp, dChn, dIsiB, bCmp, bChn, bVal, bAnd, bOr, bNot, bYes, dSortK, dPget, dGet, sDput, sExp, dLm, keyD, bCmpL, lk2, fI0, fI, sSeq, sIf, sRet, sRetL, sSet, sPar, sOwn, sFor, sNext, tName, NL.tCons, NL.tNil, tTups, dTup, dLst, dSl, oNo, oIs, fIx, fSl, iA, fAdd_t, fAdd_l, fAdd_s, fAdd_i, fLstOf_t, fLstOf_l, fTupOf_t, fTupOf_l, fLen_t, fLen_l, ofO_some, at0, at1, at2, NL.run, lenN, startN, DEnds.er, List.getElem?_cons_zero, List.getElem?_cons_succ, List.set_cons_zero, List.set_cons_succ, Bool.false_eq_true, if_true, if_false, reduceIte, dFld, sFldSet, dHp, dMeth, dNewL, dTold, bCmpL, sExp, sAsgH, hSub, hTup, NL.hCons, NL.hNil, fEqT]
      show fIsNot (encS s') .non _
      rw [fIsNot_enc, if_pos rfl]
      simp only [encS, at0, ofO_some, fLen_t]
      rw [fOrd_ii, show decide ((6 : Int) < (s'.1.length : Nat)) = true from decide_eq_true (by omega)]
      exact z
    have small : ∀ s', aft s.1 s.2 x = some s' → s'.1.length ≤ 6 := fun s' e => Nat.le_of_not_lt fun lg => big ⟨s', e, lg⟩
    refine skip_if (fun R Z z => ?_) ?_
    · cases e : aft s.1 s.2 x with
      | none =>
        simp only [encT, pure1, tab1, dAnd, dOr, dNot, dIf, dCall, dFn, dCons, dNil, dVar, dOwn, dC, dFz, dBin, dCmp, dChn, dIsiB, bCmp, bChn, bVal, bAnd, bOr, bNot, bYes, dSortK, dPget, dGet, sDput, sExp, dLm, keyD, bCmpL, lk2, fI0, fI, sSeq, sIf, sRet, sRetL, sSet, sPar, sOwn, sFor, sNext, tName, NL.tCons, NL.tNil, tTups, dTup, dLst, dSl, oNo, oIs, fIx, fSl, iA, fAdd_t, fAdd_l, fAdd_s, fAdd_i, fLstOf_t, fLstOf_l, fTupOf_t, fTupOf_l, fLen_t, fLen_l, ofO_some, at0, at1, at2, NL.run, lenN, startN, DEnds.er, List.getElem?_cons_zero, List.getElem?_cons_succ, List.set_cons_zero, List.set_cons_succ, Bool.false_eq_true, if_true, if_false, reduceIte, dFld, sFldSet, dHp, dMeth, dNewL, dTold, bCmpL, sExp, sAsgH, hSub, hTup, NL.hCons, NL.hNil, fEqT]
        exact z
      | some s' =>
        simp only [encT, pure1, tab1, dAnd, dOr, dNot, dIf, dCall, dFn, dCons, dNil, dVar, dOwn, dC, dFz, dBin, dCmp, dChn, dIsiB, bCmp, bChn, bVal, bAnd, bOr, bNot, bYes, dSortK, dPget, dGet, sDput, sExp, dLm, keyD, bCmpL, lk2, fI0, fI, sSeq, sIf, sRet, sRetL, sSet, sPar, sOwn, sFor, sNext, tName, NL.tCons, NL.tNil, tTups, dTup, dLst, dSl, oNo, oIs, fIx, fSl, iA, fAdd_t, fAdd_l, fAdd_s, fAdd_i, fLstOf_t, fLstOf_l, fTupOf_t, fTupOf_l, fLen_t, fLen_l, ofO_some, at0, at1, at2, NL.run, lenN, startN, DEnds.er, List.getElem?_cons_zero, List.getElem?_cons_succ, List.set_cons_zero, List.set_cons_succ, Bool.false_eq_true, if_true, if_false, reduceIte, dFld, sFldSet, dHp, dMeth, dNewL, dTold, bCmpL, sExp, sAsgH, hSub, hTup, NL.hCons, NL.hNil, fEqT]
        show fIsNot (encS s') .non _
        rw [fIsNot_enc, if_pos rfl]
        simp only [encS, at0, ofO_some, fLen_t]
        rw [fOrd_ii, show decide ((6 : Int) < (s'.1.length : Nat)) = false from decide_eq_false (by have := small s' e; omega)]
        exact z
    refine seqD (fun ρ h' => ∃ t, ρ = [some (.d (.obj d)), some (.d (.obj a)), some (.d (.obj o)), some (.d x), some (.d (encT (aft s.1 s.2 x))), some (.d t)] ∧
      ((aft s.1 s.2 x = none ∧ t = .tup [.str "bad", x] ∧ Dr d c h h') ∨ ∃ s' q', aft s.1 s.2 x = some s' ∧ t = .tup [.str "told", .non] ∧ h q' = none ∧ DeskAt C a p q' h' s' (bf ++ [s]) [] ∧ ∃ h1, Dr d c h h1 ∧ Fr1 [a, p] h1 h')) (fun N hN => ?_) ?_
    · simp only [pure1, tab1, dAnd, dOr, dNot, dIf, dCall, dFn, dCons, dNil, dVar, dOwn, dC, dFz, dBin, dCmp, dChn, dIsiB, bCmp, bChn, bVal, bAnd, bOr, bNot, bYes, dSortK, dPget, dGet, sDput, sExp, dLm, keyD, bCmpL, lk2, fI0, fI, sSeq, sIf, sRet, sRetL, sSet, sPar, sOwn, sFor, sNext, tName, NL.tCons, NL.tNil, tTups, dTup, dLst, dSl, oNo, oIs, fIx, fSl, iA, fAdd_t, fAdd_l, fAdd_s, fAdd_i, fLstOf_t, fLstOf_l, fTupOf_t, fTupOf_l, fLen_t, fLen_l, ofO_some, at0, at1, at2, NL.run, lenN, startN, DEnds.er, List.getElem?_cons_zero, List.getElem?_cons_succ, List.set_cons_zero, List.set_cons_succ, Bool.false_eq_true, if_true, if_false, reduceIte, dFld, sFldSet, dHp, dMeth, dNewL, dTold, bCmpL, sExp, sAsgH, hSub, hTup, NL.hCons, NL.hNil, fEqT]
      refine ⟨c, dk, by omega, by omega, fun i h1 i0 i1 r1 => ?_⟩
      have kp : ∀ {b : Addr}, b ∈ [a, p, q, o, u, v] → h1 b = h b := fun {b} m => r1.off b (ndk b m).1 (ndk b m).2
      have x1 : DeskAt C a p q h1 s bf af := ⟨(kp (by simp)).trans r.dk.ins, (kp (by simp)).trans r.dk.bef, (kp (by simp)).trans r.dk.aft, r.dk.ne⟩
      have tbk : ∀ {b : Addr} {z : Str}, h b = some (.tb z) → h1 b = some (.tb z) := fun {b z} e => by
        obtain ⟨cs, mm, kk, e1, e2, _⟩ := dk.at_
        refine (r1.off b (fun zz => ?_) (fun zz => ?_)).trans e
        · rw [zz, e1] at e
          cases e
        · rw [zz, e2] at e
          cases e
      have key : G_do C CD P0 [.obj a, x] h1 (fun d_2 h' => N [some (.d (.obj d)), some (.d (.obj a)), some (.d (.obj o)), some (.d x), some (.d (encT (aft s.1 s.2 x))), some (.d (.tup [.str "told", d_2]))] h')
          (fun y h' => ∀ f, wTry K (toldE (fun d_2 h' => N [some (.d (.obj d)), some (.d (.obj a)), some (.d (.obj o)), some (.d x), some (.d (encT (aft s.1 s.2 x))), some (.d d_2)] h') (fun y h' => E y h')) (toldCs CD CU CR) y (startN 2 [.obj f]) h') := by
        refine ⟨p, q, s, bf, af, x1, tbk t0, ax, mk, gx, l, fun e f => wt_bad TX (hN _ _ ⟨_, rfl, .inl ⟨e, rfl, r1⟩⟩), fun s' e q' h' nq y fr => hN _ _ ⟨_, rfl, .inr ⟨s', q', e, rfl, r1.none nq, y, h1, r1, fr⟩⟩⟩
      dsimp only
      rw [fEq_ii]
      by_cases z : i = 0
      · subst z
        rw [show ((0 : Int) == 0) = true from rfl, if_pos rfl]
        refine ⟨tbk t2, ?_⟩
        rw [atIns_at x1.ins]
        exact ⟨rfl, key⟩
      · rw [show (i == 0) = false by simpa using z, if_neg (by decide)]
        refine ⟨tbk t2, ?_⟩
        rw [atIns_at x1.ins]
        exact ⟨rfl, key⟩
    rintro _ h' ⟨t, rfl, hh⟩
    rcases hh with ⟨e, rfl, r1⟩ | ⟨s', q', e, rfl, nq, y, h1, r1, fr⟩
    · rw [e]
      simp only [encT, pure1, tab1, dAnd, dOr, dNot, dIf, dCall, dFn, dCons, dNil, dVar, dOwn, dC, dFz, dBin, dCmp, dChn, dIsiB, bCmp, bChn, bVal, bAnd, bOr, bNot, bYes, dSortK, dPget, dGet, sDput, sExp, dLm, keyD, bCmpL, lk2, fI0, fI, sSeq, sIf, sRet, sRetL, sSet, sPar, sOwn, sFor, sNext, tName, NL.tCons, NL.tNil, tTups, dTup, dLst, dSl, oNo, oIs, fIx, fSl, iA, fAdd_t, fAdd_l, fAdd_s, fAdd_i, fLstOf_t, fLstOf_l, fTupOf_t, fTupOf_l, fLen_t, fLen_l, ofO_some, at0, at1, at2, NL.run, lenN, startN, DEnds.er, List.getElem?_cons_zero, List.getElem?_cons_succ, List.set_cons_zero, List.set_cons_succ, Bool.false_eq_true, if_true, if_false, reduceIte, dFld, sFldSet, dHp, dMeth, dNewL, dTold, bCmpL, sExp, sAsgH, hSub, hTup, NL.hCons, NL.hNil, fEqT]
      rw [show ∀ R : Bool → Prop, fIs .non .non R = R true from fun _ => rfl, if_pos rfl]
      refine ⟨sx, sizeLine_ge (by simp), sx, ?_⟩
      show Q (.bl (_ == _)) h'
      rw [beq_self_eq_true]
      exact k1 h' r1
    · have ne := r.ne
      simp only [List.nodup_cons, List.mem_cons, List.not_mem_nil, or_false, not_or, List.nodup_nil, and_true, not_false_eq_true] at ne
      obtain ⟨⟨ap, aq, ao, au, av⟩, ⟨pq, po, pu, pv⟩, ⟨qo, qu, qv⟩, ⟨ou, ov⟩, uv⟩ := ne
      have kp : ∀ {b : Addr} {z : AO}, b ∈ [a, p, q, o, u, v] → h b = some z → b ≠ a → b ≠ p → h' b = some z := fun {b z} m eb n1 n2 => by
        have e1 := (r1.off b (ndk b m).1 (ndk b m).2).trans eb
        exact (fr b (by rw [e1]; exact fun w => by cases w) (by simp [n1, n2])).trans e1
      have own1 := kp (by simp) r.own (Ne.symm ao) (Ne.symm po)
      have past1 := kp (by simp) r.past (Ne.symm au) (Ne.symm pu)
      rw [e]
      simp only [encT, pure1, tab1, dAnd, dOr, dNot, dIf, dCall, dFn, dCons, dNil, dVar, dOwn, dC, dFz, dBin, dCmp, dChn, dIsiB, bCmp, bChn, bVal, bAnd, bOr, bNot, bYes, dSortK, dPget, dGet, sDput, sExp, dLm, keyD, bCmpL, lk2, fI0, fI, sSeq, sIf, sRet, sRetL, sSet, sPar, sOwn, sFor, sNext, tName, NL.tCons, NL.tNil, tTups, dTup, dLst, dSl, oNo, oIs, fIx, fSl, iA, fAdd_t, fAdd_l, fAdd_s, fAdd_i, fLstOf_t, fLstOf_l, fTupOf_t, fTupOf_l, fLen_t, fLen_l, ofO_some, at0, at1, at2, NL.run, lenN, startN, DEnds.er, List.getElem?_cons_zero, List.getElem?_cons_succ, List.set_cons_zero, List.set_cons_succ, Bool.false_eq_true, if_true, if_false, reduceIte, dFld, sFldSet, dHp, dMeth, dNewL, dTold, bCmpL, sExp, sAsgH, hSub, hTup, NL.hCons, NL.hNil, fEqT]
      rw [fIs_enc, if_neg (by decide)]
      rw [atDic_at own1, o_past, ofO_some]
      refine ⟨⟨_, past1⟩, ?_⟩
      rw [atDic_at own1, o_now, ofO_some]
      refine ⟨_, past1, by rw [List.length_map, sizeLine_eq]; omega, ?_⟩
      dsimp only
      refine ⟨sizeLine_ge (by simp), fun v' nv => ?_⟩
      obtain ⟨n1, nv⟩ := put_none nv
      refine ⟨sizeLine_ge (by simp), rfl, ?_⟩
      have dif : ∀ {b : Addr} {z : AO}, h' b = some z → b ≠ v' := fun {b z} eb zz => by rw [zz, nv] at eb; cases eb
      have nh : ∀ {b : Addr} {z : AO}, h b = some z → b ≠ q' := fun {b z} eb zz => by rw [zz, nq] at eb; cases eb
      have vo := dif own1
      have nv1 : h1 v' = none := Classical.byContradiction fun z => by
        have := fr v' z (by
          simp only [List.mem_cons, List.not_mem_nil, or_false, not_or]
          exact ⟨(dif y.ins).symm, (dif y.bef).symm⟩)
        rw [nv] at this
        exact z this.symm
      have own2 : put (put h' u (.lst (bf.map encS ++ [encS s]))) v' (.lst []) o = some (.dK (ownK u v (encS s))) := (put_off vo).trans ((put_off ou).trans own1)
      rw [atDicO_at own2, p_now]
      refine ⟨sizeLine_gt (by show 3 ≤ 1000; decide), ?_⟩
      rw [atDicO_at put_at, p_next]
      refine ⟨sizeLine_gt (by show 3 ≤ 1000; decide), fEq_s (v := true) (strl "told") (strl "told") (by decide +kernel) ?_⟩
      rw [if_pos rfl]
      show Q (.bl true) _
      have off : ∀ {b : Addr}, b ≠ o → b ≠ u → b ≠ v' → put (put (put (put h' u (.lst (bf.map encS ++ [encS s]))) v' (.lst [])) o (.dK (ownK u v (encS s')))) o (.dK (ownK u v' (encS s'))) b = h' b := fun m1 m2 m3 => (((put_off m1).trans (put_off m1)).trans (put_off m3)).trans (put_off m2)
      have qo' := (nh r.own).symm
      have qu' := (nh r.past).symm
      have qv' := dif y.aft
      refine k2 s' e (small s' e) q' v' _ nq (r1.none nv1) ⟨⟨(off ao au (dif y.ins)).trans y.ins, (off po pu (dif y.bef)).trans y.bef, (off qo' qu' qv').trans y.aft, y.ne⟩, put_at, ?_, ?_, ?_⟩ ?_ fun b hb nb => ?_
      · rw [put_off (Ne.symm ou), put_off (Ne.symm ou), put_off (dif past1), put_at, List.map_append]
        rfl
      · rw [put_off vo.symm, put_off vo.symm, put_at]
        rfl
      · simp only [List.nodup_cons, List.mem_cons, List.not_mem_nil, or_false, not_or, List.nodup_nil, and_true, not_false_eq_true]
        exact ⟨⟨ap, y.aq, ao, au, dif y.ins⟩, ⟨y.ne, po, pu, dif y.bef⟩, ⟨qo', qu', qv'⟩, ⟨ou, vo⟩, dif past1⟩
      · obtain ⟨cs, m, k, e1, e2, lc⟩ := r1.dk.at_
        have ed := (fr d (by rw [e1]; exact fun w => by cases w) (by simp [((ndk a (by simp)).1).symm, ((ndk p (by simp)).1).symm])).trans e1
        have ec := (fr c (by rw [e2]; exact fun w => by cases w) (by simp [((ndk a (by simp)).2).symm, ((ndk p (by simp)).2).symm])).trans e2
        exact ⟨dk.ne, cs, m, k, (off (ndk o (by simp)).1.symm (ndk u (by simp)).1.symm (dif ed)).trans ed, (off (ndk o (by simp)).2.symm (ndk u (by simp)).2.symm (dif ec)).trans ec, lc⟩
      · simp only [List.mem_cons, List.not_mem_nil, or_false, not_or] at nb
        have e1 := r1.off b nb.2.2.2.2.1 nb.2.2.2.2.2
        have e2 := fr b (by rw [e1]; exact hb) (by simp [nb.1, nb.2.1])
        exact (off nb.2.2.1 nb.2.2.2.1 (fun zz => by rw [zz, r1.none nv1] at hb; exact hb rfl)).trans (e2.trans e1)
end
end T69
set_option Elab.async false
set_option linter.all false
set_option maxRecDepth 100000
set_option maxHeartbeats 4300000
namespace T69
open PySem PySem.Spec PyProof.Rows L2 LamX NL
section
variable {base : Heap} {mg : Str → Option Value} {K : PySem.W.Frag} {P : Program} {w : World} {C CD CU CR P0 P1 P2 : Addr}
abbrev st__law_is_desk : Stmt := top 53
theorem sc__law_is_desk : FnScope ["desk", "own"] ["desk", "own"] (defScope st__law_is_desk) := ⟨rfl, rfl, rfl, by decide +kernel, rfl, by decide +kernel, by decide +kernel⟩

def G_isdesk (C : Addr) : SG := fun ds h Q E => match ds with
  | [.obj a, .obj o] => ∃ p q u v s bf af, DeskAt C a p q h s bf af ∧ h o = some (.dK (ownK u v (encS s))) ∧ Sho (encS s) ∧ Q (.bl true) h
  | _ => False
theorem dn_isdesk (T : Txt mg K) (KD : DeskK K C) (KN : mg "Desk" = some (.ref C)) (A : At K mg "_law_is_desk" st__law_is_desk) (mB : Mn P w K mg base 1 C "book" ["self"] (G_dbook C)) (mM : Mn P w K mg base 1 C "marks" ["self"] (G_dmarks C)) : Dn P w K mg base 3 "_law_is_desk" ["desk", "own"] (G_isdesk C) := by
  have KN : KmG mg "Desk" C := ⟨KN⟩
  refine Dn.of A sc__law_is_desk (fun F => F.bindsN fun _ _ _ _ _ _ us hl => match us, hl with | [_, _], _ => rfl) (fun f cdv A outer s H E hr c => (ss_one (st_ret (e_and (wk (c_isiK (K := K) T.b KN.km (wk (nm 0)))) (e_one (e_cmp op_eq ob_eqT (wk (c_repr T.b c hr (v_cons (wk (e_tup (a_cons (e_meth0X mB c hr (nm 0)) (a_cons (e_meth0X mM c hr (nm 0)) a_nil)))) v_nil))) (wk (c_repr T.b c hr (v_cons (wk (e_dget hr (nm 1) c_str)) v_nil))))))))) (fun ds h Q E w => ?_)
  match ds, w with
  | [.obj a, .obj o], ⟨p, q, u, v, s, bf, af, x, e, sh, k⟩ =>
    refine ⟨rfl, ?_⟩
    simp only [dIsi, pure1, tab1, dAnd, dOr, dNot, dIf, dCall, dFn, dCons, dNil, dVar, dOwn, dC, dFz, dBin, dCmp, dChn, dIsiB, bCmp, bChn, bVal, bAnd, bOr, bNot, bYes, dSortK, dPget, dGet, sDput, sExp, dLm, keyD, bCmpL, lk2, fI0, fI, sSeq, sIf, sRet, sRetL, sSet, sPar, sOwn, sFor, sNext, tName, NL.tCons, NL.tNil, tTups, dTup, dLst, dSl, oNo, oIs, fIx, fSl, iA, fAdd_t, fAdd_l, fAdd_s, fAdd_i, fLstOf_t, fLstOf_l, fTupOf_t, fTupOf_l, fLen_t, fLen_l, ofO_some, at0, at1, at2, NL.run, lenN, startN, DEnds.er, List.getElem?_cons_zero, List.getElem?_cons_succ, List.set_cons_zero, List.set_cons_succ, Bool.false_eq_true, if_true, if_false, reduceIte, dFld, sFldSet, dHp, dMeth, fEqT]
    rw [show tyH h (.obj a) = some (.ref C) by simp only [tyH, x.ins], ofO_some]
    refine ⟨fun C' e => (by cases e; exact KD.isc), ?_⟩
    rw [KD.yes, ofO_some, if_pos rfl, atIns_at x.ins]
    refine ⟨rfl, p, q, s, bf, af, x, ?_⟩
    dsimp only
    rw [atIns_at x.ins]
    refine ⟨rfl, p, q, s, bf, af, x, sizeLine_ge (by simp), ?_⟩
    refine ⟨sh, ?_⟩
    dsimp only
    rw [atDic_at e, o_now, ofO_some]
    refine ⟨sh, ?_⟩
    show Q (.bl (_ == _)) h
    rw [beq_self_eq_true]
    exact k
abbrev st__law_is_undone : Stmt := top 55
theorem sc__law_is_undone : FnScope ["desk", "own", "undo", "turn"] ["desk", "own"] (defScope st__law_is_undone) := ⟨rfl, rfl, rfl, by decide +kernel, rfl, by decide +kernel, by decide +kernel⟩

/-- a state that may be shown and compared -/
structure StOk (z : St) : Prop where
  gd : good (encS z)
  dp : dep (encS z) ≤ 62
  sh : Sho (encS z)
theorem StOk.list {zs : List St} (h : ∀ z ∈ zs, StOk z) : good (.lst (zs.map encS)) := (good_tup (fun x m => by
  obtain ⟨z, mz, rfl⟩ := List.mem_map.mp m
  exact (h z mz).gd) 62 (fun x m => by
  obtain ⟨z, mz, rfl⟩ := List.mem_map.mp m
  exact (h z mz).dp)).2
/-- the record holds the states zs, wherever it stands in them -/
def Walk (C a p q o u v : Addr) (zs : List St) (h : AH) : Prop := ∃ s bf af, RecAt C a p q o u v h s bf af ∧ zs = bf ++ s :: af.reverse
theorem Fr1.trans {as : List Addr} {h h1 h2 : AH} (x : Fr1 as h h1) (y : Fr1 as h1 h2) : Fr1 as h h2 := fun b n m => by
  have e := x b n m
  exact (y b (by rw [e]; exact n) m).trans e
theorem Fr1.refl {as : List Addr} {h : AH} : Fr1 as h h := fun _ _ _ => rfl
theorem Walk.moved {C a p q o u v P1 : Addr} {zs : List St} {h : AH} {b : Bool} {Q : QD} {E : QX} (w : Walk C a p q o u v zs h) (ok : ∀ z ∈ zs, StOk z) (l : zs.length ≤ 1000) (t : h P1 = some (.tb "_law_is_moved.<locals>.<lambda>"))
    (k : ∀ h', Walk C a p q o u v zs h' → Fr1 [a, p, q, o, u, v] h h' → Q (.bl true) h') : G_moved C P1 [.obj a, .obj o, .bl b] h Q E := by
  obtain ⟨s, bf, af, r, e⟩ := w
  subst e
  refine ⟨t, p, q, u, v, s, bf, af, r, StOk.list fun z m => ok z (by simp [m]), StOk.list fun z m => ok z (by simp [m]), ?_, fun _ => ⟨fun _ => k h ⟨s, bf, af, r, rfl⟩ .refl, fun bf' s' e h' r' fr => k h' ⟨s', bf', af ++ [s], r', by simp [e]⟩ fr⟩,
    fun _ => ⟨fun _ => k h ⟨s, bf, af, r, rfl⟩ .refl, fun af' s' e h' r' fr => k h' ⟨s', bf ++ [s], af', r', by simp [e]⟩ fr⟩⟩
  simp only [List.length_append, List.length_cons, List.length_reverse] at l
  omega
theorem Walk.shown {C a p q o u v : Addr} {zs : List St} {h : AH} {Q : QD} {E : QX} (w : Walk C a p q o u v zs h) (ok : ∀ z ∈ zs, StOk z) (k : Q (.bl true) h) : G_isdesk C [.obj a, .obj o] h Q E := by
  obtain ⟨s, bf, af, r, e⟩ := w
  exact ⟨p, q, u, v, s, bf, af, r.dk, r.own, (ok s (by simp [e])).sh, k⟩
def G_undone (C P1 : Addr) : SG := fun ds h Q E => match ds with
  | [.obj a, .obj o] => h P1 = some (.tb "_law_is_moved.<locals>.<lambda>") ∧ ∃ p q u v zs, Walk C a p q o u v zs h ∧ (∀ z ∈ zs, StOk z) ∧ zs.length ≤ 1000 ∧ ∀ h', Walk C a p q o u v zs h' → Fr1 [a, p, q, o, u, v] h h' → Q (.bl true) h'
  | _ => False
theorem dn_undone (T : Txt mg K) (A : At K mg "_law_is_undone" st__law_is_undone) (h__law_is_moved : Dn P w K mg base 6 "_law_is_moved" ["desk", "own", "undo"] (G_moved C P1)) (h__law_is_desk : Dn P w K mg base 3 "_law_is_desk" ["desk", "own"] (G_isdesk C)) :
    Dn P w K mg base 7 "_law_is_undone" ["desk", "own"] (G_undone C P1) := by
  refine Dn.of A sc__law_is_undone (fun F => F.bindsN fun _ _ _ _ _ _ us hl => match us, hl with | [_, _], _ => rfl) (fun f cdv A outer s H E hr c => (ss_cons (st_for c (i_any (e_tup (a_cons c_bl (a_cons c_bl a_nil)))) (pg_name (i := 2) sc__law_is_undone.nd rfl (by first | exact Or.inl rfl | exact Or.inr rfl)) gd_name
      (ss_one (st_for c (i_rng1 rfl T.b.range (wk (e_bin op_plus od_add (wk (c_lenL T.b (v_cons (wk (e_if (t_val (wk (nm 2))) (e_dget hr (nm 1) c_str) (e_dget hr (nm 1) c_str))) v_nil))) (wk c_int)))) (pg_name (i := 3) sc__law_is_undone.nd rfl (by first | exact Or.inl rfl | exact Or.inr rfl)) gd_name
      (ss_one (st_if (PW.pt (w_or (t_not (t_val (wk (e_fn h__law_is_moved c hr (a_cons (nm 0) (a_cons (nm 1) (a_cons (nm 2) a_nil))))))) (w_or1 (t_not (t_val (wk (e_fn h__law_is_desk c hr (a_cons (nm 0) (a_cons (nm 1) a_nil)))))))))
      (ss_one (st_ret c_bl))
      ss_nil)))))
      (ss_one (st_ret c_bl)))) (fun ds h Q E w => ?_)
  match ds, w with
  | [.obj a, .obj o], ⟨t, p, q, u, v, zs, wk, ok, l, k⟩ =>
    refine ⟨rfl, ?_⟩
    have keep : ∀ {h' : AH}, Fr1 [a, p, q, o, u, v] h h' → h' P1 = some (.tb "_law_is_moved.<locals>.<lambda>") := fun {h'} fr => by
      refine (fr P1 (by rw [t]; exact fun z => by cases z) fun m => ?_).trans t
      obtain ⟨s, bf, af, r, _⟩ := wk
      simp only [List.mem_cons, List.not_mem_nil, or_false] at m
      rcases m with z | z | z | z | z | z <;> rw [z] at t
      · rw [r.dk.ins] at t; cases t
      · rw [r.dk.bef] at t; cases t
      · rw [r.dk.aft] at t; cases t
      · rw [r.own] at t; cases t
      · rw [r.past] at t; cases t
      · rw [r.next] at t; cases t
    refine seqD (fun ρ h' => Walk C a p q o u v zs h' ∧ Fr1 [a, p, q, o, u, v] h h') (fun N hN => ?_) ?_
    · simp only [pure1, tab1, dAnd, dOr, dNot, dIf, dCall, dFn, dCons, dNil, dVar, dOwn, dC, dFz, dBin, dCmp, dChn, dIsiB, bCmp, bChn, bVal, bAnd, bOr, bNot, bYes, dSortK, dPget, dGet, sDput, sExp, dLm, keyD, bCmpL, lk2, fI0, fI, sSeq, sIf, sRet, sRetL, sSet, sPar, sOwn, sFor, sNext, tName, NL.tCons, NL.tNil, tTups, dTup, dLst, dSl, oNo, oIs, fIx, fSl, iA, fAdd_t, fAdd_l, fAdd_s, fAdd_i, fLstOf_t, fLstOf_l, fTupOf_t, fTupOf_l, fLen_t, fLen_l, ofO_some, at0, at1, at2, NL.run, lenN, startN, DEnds.er, List.getElem?_cons_zero, List.getElem?_cons_succ, List.set_cons_zero, List.set_cons_succ, Bool.false_eq_true, if_true, if_false, reduceIte, dFld, sFldSet, dHp, dMeth, fEqT]
      refine ⟨sizeLine_ge (by simp), loop_inv (fun i ρ h' => (∃ t2 t3, ρ = [some (.d (.obj a)), some (.d (.obj o)), t2, t3]) ∧ Walk C a p q o u v zs h' ∧ Fr1 [a, p, q, o, u, v] h h') (fun _ _ _ _ => trivial) _ 0 _ _ ⟨⟨_, _, rfl⟩, wk, .refl⟩ (fun j dd ρ1 h1 N1 hdd _ hI hN1 => ?_) (fun ρ h' hI => hN _ _ hI.2)⟩
      obtain ⟨⟨t2, t3, rfl⟩, w1, f1⟩ := hI
      obtain ⟨b, rfl⟩ : ∃ b, dd = .bl b := by
        have m := List.mem_of_getElem? hdd
        simp only [List.mem_cons, List.not_mem_nil, or_false] at m
        rcases m with rfl | rfl <;> exact ⟨_, rfl⟩
      obtain ⟨s1, bf1, af1, r1, e1⟩ := w1
      have w1 : Walk C a p q o u v zs h1 := ⟨s1, bf1, af1, r1, e1⟩
      have ll : bf1.length < 1000 ∧ af1.length < 1000 := by
        rw [e1] at l
        simp only [List.length_append, List.length_cons, List.length_reverse] at l
        omega
      simp only [tName, iRg1, dCallL, pure1, tab1, dAnd, dOr, dNot, dIf, dCall, dFn, dCons, dNil, dVar, dOwn, dC, dFz, dBin, dCmp, dChn, dIsiB, bCmp, bChn, bVal, bAnd, bOr, bNot, bYes, dSortK, dPget, dGet, sDput, sExp, dLm, keyD, bCmpL, lk2, fI0, fI, sSeq, sIf, sRet, sRetL, sSet, sPar, sOwn, sFor, sNext, tName, NL.tCons, NL.tNil, tTups, dTup, dLst, dSl, oNo, oIs, fIx, fSl, iA, fAdd_t, fAdd_l, fAdd_s, fAdd_i, fLstOf_t, fLstOf_l, fTupOf_t, fTupOf_l, fLen_t, fLen_l, ofO_some, at0, at1, at2, NL.run, lenN, startN, DEnds.er, List.getElem?_cons_zero, List.getElem?_cons_succ, List.set_cons_zero, List.set_cons_succ, Bool.false_eq_true, if_true, if_false, reduceIte, dFld, sFldSet, dHp, dMeth, fEqT]
      cases b with
      | true =>
        rw [if_pos rfl, atDic_at r1.own, o_past, ofO_some]
        simp only [lkL, look_at r1.past, fLen_l, fAdd_i, List.length_map]
        refine ⟨⟨by omega, by omega⟩, loop_inv (fun i ρ h' => (∃ t3, ρ = [some (.d (.obj a)), some (.d (.obj o)), some (.d (.bl true)), t3]) ∧ Walk C a p q o u v zs h' ∧ Fr1 [a, p, q, o, u, v] h h') (fun _ _ _ _ => trivial) _ 0 _ _ ⟨⟨_, rfl⟩, w1, f1⟩ (fun j dd ρ2 h2 N2 hdd _ hI hN2 => ?_) (fun ρ h' ⟨⟨t3, e3⟩, x3⟩ => hN1 _ _ ⟨⟨_, t3, e3⟩, x3⟩)⟩
        obtain ⟨⟨t3, rfl⟩, w2, f2⟩ := hI
        simp only [tName, pure1, tab1, dAnd, dOr, dNot, dIf, dCall, dFn, dCons, dNil, dVar, dOwn, dC, dFz, dBin, dCmp, dChn, dIsiB, bCmp, bChn, bVal, bAnd, bOr, bNot, bYes, dSortK, dPget, dGet, sDput, sExp, dLm, keyD, bCmpL, lk2, fI0, fI, sSeq, sIf, sRet, sRetL, sSet, sPar, sOwn, sFor, sNext, tName, NL.tCons, NL.tNil, tTups, dTup, dLst, dSl, oNo, oIs, fIx, fSl, iA, fAdd_t, fAdd_l, fAdd_s, fAdd_i, fLstOf_t, fLstOf_l, fTupOf_t, fTupOf_l, fLen_t, fLen_l, ofO_some, at0, at1, at2, NL.run, lenN, startN, DEnds.er, List.getElem?_cons_zero, List.getElem?_cons_succ, List.set_cons_zero, List.set_cons_succ, Bool.false_eq_true, if_true, if_false, reduceIte, dFld, sFldSet, dHp, dMeth, fEqT]
        refine w2.moved ok l (keep f2) fun h3 w3 f3 => ?_
        dsimp only
        rw [if_neg (by decide)]
        refine w3.shown ok ?_
        dsimp only
        rw [if_neg (by decide)]
        exact hN2 _ _ ⟨⟨_, rfl⟩, w3, f2.trans f3⟩
      | false =>
        rw [if_neg (by decide), atDic_at r1.own, o_next, ofO_some]
        simp only [lkL, look_at r1.next, fLen_l, fAdd_i, List.length_map]
        refine ⟨⟨by omega, by omega⟩, loop_inv (fun i ρ h' => (∃ t3, ρ = [some (.d (.obj a)), some (.d (.obj o)), some (.d (.bl false)), t3]) ∧ Walk C a p q o u v zs h' ∧ Fr1 [a, p, q, o, u, v] h h') (fun _ _ _ _ => trivial) _ 0 _ _ ⟨⟨_, rfl⟩, w1, f1⟩ (fun j dd ρ2 h2 N2 hdd _ hI hN2 => ?_) (fun ρ h' ⟨⟨t3, e3⟩, x3⟩ => hN1 _ _ ⟨⟨_, t3, e3⟩, x3⟩)⟩
        obtain ⟨⟨t3, rfl⟩, w2, f2⟩ := hI
        simp only [tName, pure1, tab1, dAnd, dOr, dNot, dIf, dCall, dFn, dCons, dNil, dVar, dOwn, dC, dFz, dBin, dCmp, dChn, dIsiB, bCmp, bChn, bVal, bAnd, bOr, bNot, bYes, dSortK, dPget, dGet, sDput, sExp, dLm, keyD, bCmpL, lk2, fI0, fI, sSeq, sIf, sRet, sRetL, sSet, sPar, sOwn, sFor, sNext, tName, NL.tCons, NL.tNil, tTups, dTup, dLst, dSl, oNo, oIs, fIx, fSl, iA, fAdd_t, fAdd_l, fAdd_s, fAdd_i, fLstOf_t, fLstOf_l, fTupOf_t, fTupOf_l, fLen_t, fLen_l, ofO_some, at0, at1, at2, NL.run, lenN, startN, DEnds.er, List.getElem?_cons_zero, List.getElem?_cons_succ, List.set_cons_zero, List.set_cons_succ, Bool.false_eq_true, if_true, if_false, reduceIte, dFld, sFldSet, dHp, dMeth, fEqT]
        refine w2.moved ok l (keep f2) fun h3 w3 f3 => ?_
        dsimp only
        rw [if_neg (by decide)]
        refine w3.shown ok ?_
        dsimp only
        rw [if_neg (by decide)]
        exact hN2 _ _ ⟨⟨_, rfl⟩, w3, f2.trans f3⟩
    rintro ρ h' ⟨w', fr⟩
    exact k h' w' fr
end
end T69
set_option Elab.async false
set_option linter.all false
set_option maxRecDepth 100000
set_option maxHeartbeats 4300000
namespace T69
open PySem PySem.Spec PyProof.Rows L2 LamX NL
/-- what the machine says of the class when it is compared -/
structure DeskE (K : PySem.W.Frag) (C : Addr) : Prop where
  nt : ∀ n ∈ (["NoneType", "int", "str", "tuple", "list"] : List String), PySem.W.notFirst K C (.type n) = true
  nc : PySem.W.notFirst K C (.ref C) = true
theorem sho_bb (b c : Bool) : Sho (.tup [.bl b, .bl c]) := by
  cases b <;> cases c <;> exact ⟨by decide, by decide, by decide, by decide, by decide +kernel⟩
section
variable {base : Heap} {mg : Str → Option Value} {K : PySem.W.Frag} {P : Program} {w : World} {C CD CU CR P0 P1 P2 : Addr}
abbrev st__law_are_equal : Stmt := top 54
theorem sc__law_are_equal : FnScope ["desks", "desk", "own", "thing", "other", "near", "same"] ["desks"] (defScope st__law_are_equal) := ⟨rfl, rfl, rfl, by decide +kernel, rfl, by decide +kernel, by decide +kernel⟩

/-- the desks of the list at e: one record each -/
def G_equal (C : Addr) : SG := fun ds h Q E => match ds with
  | [.obj e] => ∃ zs : List (Addr × Addr), h e = some (.lst (zs.map fun z => .tup [.obj z.1, .obj z.2])) ∧ zs.length ≤ 1000 ∧ (∀ z ∈ zs, ∃ p q u v s bf af, RecAt C z.1 p q z.2 u v h s bf af ∧ StOk s) ∧ Q (.bl true) h
  | _ => False
theorem dn_equal (T : Txt mg K) (KD : DeskK K C) (DE : DeskE K C) (eC : EqC K C) (eO : EqO K C) (A : At K mg "_law_are_equal" st__law_are_equal) (mE : Mn P w K mg base 1 C "__eq__" ["self", "other"] (G_eq C)) (mM : Mn P w K mg base 1 C "marks" ["self"] (G_dmarks C)) : Dn P w K mg base 4 "_law_are_equal" ["desks"] (G_equal C) := by
  refine Dn.of A sc__law_are_equal (fun F => F.bindsN fun _ _ _ _ _ _ us hl => match us, hl with | [_], _ => rfl) (fun f cdv A outer s H E hr c => (ss_cons (st_for c (i_any (nm 0)) (pg_tup (n := 2) rfl (pgs_cons (pg_name (i := 1) sc__law_are_equal.nd rfl (by first | exact Or.inl rfl | exact Or.inr rfl)) (pgs_cons (pg_name (i := 2) sc__law_are_equal.nd rfl (by first | exact Or.inl rfl | exact Or.inr rfl)) pgs_nil))) (gd_tup (n := 2) (gds_cons gd_name (gds_cons gd_name gds_nil)))
      (ss_cons (st_for c (i_any (nm 0)) (pg_tup (n := 2) rfl (pgs_cons (pg_name (i := 4) sc__law_are_equal.nd rfl (by first | exact Or.inl rfl | exact Or.inr rfl)) (pgs_cons (pg_name (i := 5) sc__law_are_equal.nd rfl (by first | exact Or.inl rfl | exact Or.inr rfl)) pgs_nil))) (gd_tup (n := 2) (gds_cons gd_name (gds_cons gd_name gds_nil)))
      (ss_cons (st_set (i := 6) c rfl (by first | exact Or.inl rfl | exact Or.inr rfl) (e_cmp (op_eqD hr.u64) ob_eq (wk (e_dget hr (nm 2) c_str)) (wk (e_dget hr (nm 5) c_str))))
      (ss_one (st_if (t_cmp op_ne ob_neT (wk (c_repr T.b c hr (v_cons (wk (e_tup (a_cons (e_eqI (K := K) mE c hr (nm 1) (nm 4)) (a_cons (e_neI mE eC c hr (nm 1) (nm 4)) a_nil)))) v_nil))) (wk (c_repr T.b c hr (v_cons (wk (e_tup (a_cons (nm 6) (a_cons (e_not (wk (nm 6))) a_nil)))) v_nil))))
      (ss_one (st_ret c_bl))
      ss_nil))))
      (ss_one (st_for c (i_any (e_tup (a_cons (e_ix (wk (e_dget hr (nm 2) c_str)) (wk c_int)) (a_cons (e_dget hr (nm 2) c_str) (a_cons c_non (a_cons c_int (a_cons c_str (a_cons (e_dget hr (nm 2) c_str) (a_cons (e_meth0X mM c hr (nm 1)) a_nil))))))))) (pg_name (i := 3) sc__law_are_equal.nd rfl (by first | exact Or.inl rfl | exact Or.inr rfl)) gd_name
      (ss_one (st_if (PW.pt (w_or (t_cmp o_notB ob_notB (wk (e_eqI (K := K) mE c hr (nm 1) (nm 3))) (wk c_bl)) (w_or1 (t_cmp o_notB ob_notB (wk (e_eqR mE eO c hr (nm 3) (nm 1))) (wk c_bl)))))
      (ss_one (st_ret c_bl))
      ss_nil))))))
      (ss_one (st_ret c_bl)))) (fun ds h Q E w => ?_)
  match ds, w with
  | [.obj e], ⟨zs, he, lz, hz, k⟩ =>
    refine ⟨rfl, ?_⟩
    refine seqD (fun ρ h' => h' = h) (fun N hN => ?_) ?_
    · simp only [pure1, tab1, dAnd, dOr, dNot, dIf, dCall, dFn, dCons, dNil, dVar, dOwn, dC, dFz, dBin, dCmp, dChn, dIsiB, bCmp, bChn, bVal, bAnd, bOr, bNot, bYes, dSortK, dPget, dGet, sDput, sExp, dLm, keyD, bCmpL, lk2, fI0, fI, sSeq, sIf, sRet, sRetL, sSet, sPar, sOwn, sFor, sNext, tName, NL.tCons, NL.tNil, tTups, dTup, dLst, dSl, oNo, oIs, fIx, fSl, iA, fAdd_t, fAdd_l, fAdd_s, fAdd_i, fLstOf_t, fLstOf_l, fTupOf_t, fTupOf_l, fLen_t, fLen_l, ofO_some, at0, at1, at2, NL.run, lenN, startN, DEnds.er, List.getElem?_cons_zero, List.getElem?_cons_succ, List.set_cons_zero, List.set_cons_succ, Bool.false_eq_true, if_true, if_false, reduceIte, dFld, dMeth, fNeT, dEqI, dNeI, dEqR]
      simp only [he]
      have elem : ∀ {j : Nat} {dd : D}, (zs.map fun z => D.tup [.obj z.1, .obj z.2])[j]? = some dd → ∃ a o, dd = .tup [.obj a, .obj o] ∧ ∃ p q u v s bf af, RecAt C a p q o u v h s bf af ∧ StOk s := fun {j dd} g => by
        rw [List.getElem?_map, Option.map_eq_some_iff] at g
        obtain ⟨z, g, rfl⟩ := g
        exact ⟨z.1, z.2, rfl, hz z (List.mem_of_getElem? g)⟩
      refine loop_inv (fun i ρ h' => h' = h ∧ ∃ t1 t2 t3 t4 t5 t6, ρ = [some (.d (.obj e)), t1, t2, t3, t4, t5, t6]) (fun i ρ h' hI => by rw [hI.1]; exact he) _ 0 _ _ ⟨rfl, _, _, _, _, _, _, rfl⟩ (fun j dd ρ1 h1 N1 hdd _ hI hN1 => ?_) (fun ρ h' hI => hN _ _ hI.1)
      obtain ⟨rfl, t1, t2, t3, t4, t5, t6, rfl⟩ := hI
      obtain ⟨a, o, rfl, p, q, u, v, s, bf, af, r, sk⟩ := elem hdd
      simp only [tTups, tName, NL.tCons, NL.tNil, List.set_cons_succ, List.set_cons_zero]
      refine ⟨rfl, ?_⟩
      refine seqD (fun ρ h' => h' = h1 ∧ ∃ t3 t4 t5 t6, ρ = [some (.d (.obj e)), some (.d (.obj a)), some (.d (.obj o)), t3, t4, t5, t6]) (fun N2 hN2 => ?_) ?_
      · simp only [pure1, tab1, dAnd, dOr, dNot, dIf, dCall, dFn, dCons, dNil, dVar, dOwn, dC, dFz, dBin, dCmp, dChn, dIsiB, bCmp, bChn, bVal, bAnd, bOr, bNot, bYes, dSortK, dPget, dGet, sDput, sExp, dLm, keyD, bCmpL, lk2, fI0, fI, sSeq, sIf, sRet, sRetL, sSet, sPar, sOwn, sFor, sNext, tName, NL.tCons, NL.tNil, tTups, dTup, dLst, dSl, oNo, oIs, fIx, fSl, iA, fAdd_t, fAdd_l, fAdd_s, fAdd_i, fLstOf_t, fLstOf_l, fTupOf_t, fTupOf_l, fLen_t, fLen_l, ofO_some, at0, at1, at2, NL.run, lenN, startN, DEnds.er, List.getElem?_cons_zero, List.getElem?_cons_succ, List.set_cons_zero, List.set_cons_succ, Bool.false_eq_true, if_true, if_false, reduceIte, dFld, dMeth, fNeT, dEqI, dNeI, dEqR, he]
        refine loop_inv (fun i ρ h' => h' = h1 ∧ ∃ t3 t4 t5 t6, ρ = [some (.d (.obj e)), some (.d (.obj a)), some (.d (.obj o)), t3, t4, t5, t6]) (fun i ρ h' hI => by rw [hI.1]; exact he) _ 0 _ _ ⟨rfl, _, _, _, _, rfl⟩ (fun j dd ρ1 h2 N3 hdd _ hI hN3 => ?_) (fun ρ h' hI => hN2 _ _ hI)
        obtain ⟨rfl, t3, t4, t5, t6, rfl⟩ := hI
        obtain ⟨a', o', rfl, p', q', u', v', s', bf', af', r', sk'⟩ := elem hdd
        simp only [tTups, tName, atDic_at r.own, atDic_at r'.own, o_now, atIns_at r.dk.ins, atIns_at r'.dk.ins, pure1, tab1, dAnd, dOr, dNot, dIf, dCall, dFn, dCons, dNil, dVar, dOwn, dC, dFz, dBin, dCmp, dChn, dIsiB, bCmp, bChn, bVal, bAnd, bOr, bNot, bYes, dSortK, dPget, dGet, sDput, sExp, dLm, keyD, bCmpL, lk2, fI0, fI, sSeq, sIf, sRet, sRetL, sSet, sPar, sOwn, sFor, sNext, tName, NL.tCons, NL.tNil, tTups, dTup, dLst, dSl, oNo, oIs, fIx, fSl, iA, fAdd_t, fAdd_l, fAdd_s, fAdd_i, fLstOf_t, fLstOf_l, fTupOf_t, fTupOf_l, fLen_t, fLen_l, ofO_some, at0, at1, at2, NL.run, lenN, startN, DEnds.er, List.getElem?_cons_zero, List.getElem?_cons_succ, List.set_cons_zero, List.set_cons_succ, Bool.false_eq_true, if_true, if_false, reduceIte, dFld, dMeth, fNeT, dEqI, dNeI, dEqR]
        refine ⟨rfl, sk.gd, sk'.gd, ?_⟩
        dsimp only
        have ty : tyH h2 (.obj a') = some (.ref C) := by simp only [tyH, r'.dk.ins]
        refine ⟨⟨_, ty, fun C' e => (by cases e; exact KD.isc), DE.nc⟩, p, q, s, bf, af, r.dk, .inl ⟨a', p', q', s', bf', af', rfl, r'.dk, sk.gd, sk'.gd, _, rfl, ?_⟩⟩
        rw [atIns_at r.dk.ins, atIns_at r'.dk.ins]
        refine ⟨p, q, s, bf, af, r.dk, .inl ⟨a', p', q', s', bf', af', rfl, r'.dk, sk.gd, sk'.gd, _, rfl, sizeLine_ge (by simp), sho_bb _ _, sizeLine_ge (by simp), sho_bb _ _, ?_⟩⟩
        show (if (!(_ == _)) = true then _ else _)
        rw [beq_self_eq_true, if_neg (by decide)]
        exact hN3 _ _ ⟨rfl, _, _, _, _, rfl⟩
      rintro _ hh ⟨rfl, t3, t4, t5, t6, rfl⟩
      simp only [atDic_at r.own, o_now, o_past, atIns_at r.dk.ins, pure1, tab1, dAnd, dOr, dNot, dIf, dCall, dFn, dCons, dNil, dVar, dOwn, dC, dFz, dBin, dCmp, dChn, dIsiB, bCmp, bChn, bVal, bAnd, bOr, bNot, bYes, dSortK, dPget, dGet, sDput, sExp, dLm, keyD, bCmpL, lk2, fI0, fI, sSeq, sIf, sRet, sRetL, sSet, sPar, sOwn, sFor, sNext, tName, NL.tCons, NL.tNil, tTups, dTup, dLst, dSl, oNo, oIs, fIx, fSl, iA, fAdd_t, fAdd_l, fAdd_s, fAdd_i, fLstOf_t, fLstOf_l, fTupOf_t, fTupOf_l, fLen_t, fLen_l, ofO_some, at0, at1, at2, NL.run, lenN, startN, DEnds.er, List.getElem?_cons_zero, List.getElem?_cons_succ, List.set_cons_zero, List.set_cons_succ, Bool.false_eq_true, if_true, if_false, reduceIte, dFld, dMeth, fNeT, dEqI, dNeI, dEqR]
      show ofO (atI [D.tup s.1, D.tup (s.2.map wpD)] 0) _
      rw [at0, ofO_some]
      refine ⟨rfl, p, q, s, bf, af, r.dk, sizeLine_ge (by simp), ?_⟩
      have tk : ∀ {j : Nat} {dd : D}, ([.tup s.1, encS s, .non, .int 0, .str "", .obj u, .tup (s.2.map wpD)] : List D)[j]? = some dd → (∃ n ∈ (["NoneType", "int", "str", "tuple", "list"] : List String), tyH hh dd = some (.type n)) ∧ kdD hh dd := fun {j dd} g => by
        have m := List.mem_of_getElem? g
        simp only [List.mem_cons, List.not_mem_nil, or_false] at m
        rcases m with rfl | rfl | rfl | rfl | rfl | rfl | rfl
        · exact ⟨⟨"tuple", by simp, rfl⟩, True.intro⟩
        · exact ⟨⟨"tuple", by simp, rfl⟩, True.intro⟩
        · exact ⟨⟨"NoneType", by simp, rfl⟩, True.intro⟩
        · exact ⟨⟨"int", by simp, rfl⟩, True.intro⟩
        · exact ⟨⟨"str", by simp, rfl⟩, True.intro⟩
        · exact ⟨⟨"list", by simp, by simp only [tyH, r.past]⟩, _, r.past⟩
        · exact ⟨⟨"tuple", by simp, rfl⟩, True.intro⟩
      refine loop_inv (fun i ρ h' => h' = hh ∧ ∃ t3 t4 t5 t6, ρ = [some (.d (.obj e)), some (.d (.obj a)), some (.d (.obj o)), t3, t4, t5, t6]) (fun _ _ _ _ => trivial) _ 0 _ _ ⟨rfl, _, _, _, _, rfl⟩ (fun j dd ρ1 h2 N3 hdd _ hI hN3 => ?_) (fun ρ h' hI => hN1 _ _ ⟨hI.1, by
        obtain ⟨_, t3, t4, t5, t6, z⟩ := hI
        exact ⟨_, _, t3, t4, t5, t6, z⟩⟩)
      obtain ⟨rfl, t3, t4, t5, t6, rfl⟩ := hI
      obtain ⟨⟨n, mn, ty⟩, kd⟩ := tk hdd
      have mn7 : n ∈ (["NoneType", "bool", "int", "str", "tuple", "list", "dict"] : List String) := by
        simp only [List.mem_cons, List.not_mem_nil, or_false] at mn ⊢
        rcases mn with z | z | z | z | z <;> simp [z]
      simp only [tName, atIns_at r.dk.ins, pure1, tab1, dAnd, dOr, dNot, dIf, dCall, dFn, dCons, dNil, dVar, dOwn, dC, dFz, dBin, dCmp, dChn, dIsiB, bCmp, bChn, bVal, bAnd, bOr, bNot, bYes, dSortK, dPget, dGet, sDput, sExp, dLm, keyD, bCmpL, lk2, fI0, fI, sSeq, sIf, sRet, sRetL, sSet, sPar, sOwn, sFor, sNext, tName, NL.tCons, NL.tNil, tTups, dTup, dLst, dSl, oNo, oIs, fIx, fSl, iA, fAdd_t, fAdd_l, fAdd_s, fAdd_i, fLstOf_t, fLstOf_l, fTupOf_t, fTupOf_l, fLen_t, fLen_l, ofO_some, at0, at1, at2, NL.run, lenN, startN, DEnds.er, List.getElem?_cons_zero, List.getElem?_cons_succ, List.set_cons_zero, List.set_cons_succ, Bool.false_eq_true, if_true, if_false, reduceIte, dFld, dMeth, fNeT, dEqI, dNeI, dEqR]
      refine ⟨⟨_, ty, fun C' z => (by cases z), DE.nt n mn⟩, p, q, s, bf, af, r.dk, .inr ⟨⟨n, mn7, ty⟩, _, rfl, ?_⟩⟩
      rw [show ∀ R : Bool → Prop, fNotB (.bl false) (.bl false) R = R false from fun _ => rfl, if_neg (by decide)]
      refine ⟨kd, ?_⟩
      rw [atIns_at r.dk.ins]
      refine ⟨p, q, s, bf, af, r.dk, .inr ⟨⟨n, mn7, ty⟩, _, rfl, ?_⟩⟩
      rw [show ∀ R : Bool → Prop, fNotB (.bl false) (.bl false) R = R false from fun _ => rfl, if_neg (by decide)]
      exact hN3 _ _ ⟨rfl, _, _, _, _, rfl⟩
    rintro ρ h' rfl
    exact k
end
end T69
set_option Elab.async false
set_option linter.all false
set_option maxRecDepth 100000
set_option maxHeartbeats 4300000
namespace T69
open PySem PySem.Spec PyProof.Rows L2 LamX NL
theorem cm_small {i : Int} : CMul i 40014 := .inr ⟨by decide, by decide⟩
section
variable {base : Heap} {mg : Str → Option Value} {K : PySem.W.Frag} {P : Program} {w : World}
abbrev st__law_deck : Stmt := top 35
theorem sc__law_deck : FnScope ["script", "mixed", "cell"] ["script"] (defScope st__law_deck) := ⟨rfl, rfl, rfl, by decide +kernel, rfl, by decide +kernel, by decide +kernel⟩

def G_deck : SG := fun ds h Q E => match ds with
  | [.scr cs] => cs.length ≤ 63 ∧ ∀ d c h', h d = none → h c = none → Dk d c h' → Fr1 [] h h' → Q (.obj d) h'
  | _ => False
theorem dn_deck (T : Txt mg K) (A : At K mg "_law_deck" st__law_deck) : Dn P w K mg base 3 "_law_deck" ["script"] G_deck := by
  refine Dn.of A sc__law_deck (fun F => F.bindsN fun _ _ _ _ _ _ us hl => match us, hl with | [_], _ => rfl) (fun f cdv A outer s H E hr c => (ss_cons (st_set (i := 1) c rfl (by first | exact Or.inl rfl | exact Or.inr rfl) c_int)
      (ss_cons (st_for c (i_any (e_sl (wk (nm 0)) p_no (p_is (wk c_int)))) (pg_name (i := 2) sc__law_deck.nd rfl (by first | exact Or.inl rfl | exact Or.inr rfl)) gd_name
      (ss_one (st_set (i := 1) c rfl (by first | exact Or.inl rfl | exact Or.inr rfl) (e_bin op_mod od_I (wk (c_toint T.b (v_cons (wk (e_bin op_plus od_add (wk (e_bin op_plus od_add (wk (e_bin op_mul od_I (wk (nm 1)) (wk c_int))) (wk (e_bin op_mod od_I (wk (c_toint T.b (v_cons (wk (nm 2)) v_nil))) (wk c_int))))) (wk c_int))) v_nil))) (wk c_int)))))
      (ss_one (st_ret (e_disp (pd_cons pk_str (hpn (e_revL (c_list T.b (v_cons (wk (e_sl (wk (nm 0)) p_no (p_is (wk c_int)))) v_nil)))) (pd_cons pk_str (nm 1) (pd_cons pk_str c_int pd_nil))))))))) (fun ds h Q E w => ?_)
  match ds, w with
  | [.scr cs], ⟨l, k⟩ =>
    refine ⟨rfl, ?_⟩
    refine seqP (fun ρ => ρ = [some (.d (.scr cs)), some (.d (.int 14407898)), none]) (fun N hN => ?_) ?_
    · simp only [pure1, tab1, dAnd, dOr, dNot, dIf, dCall, dFn, dCons, dNil, dVar, dOwn, dC, dFz, dBin, dCmp, dChn, dIsiB, bCmp, bChn, bVal, bAnd, bOr, bNot, bYes, dSortK, dPget, dGet, sDput, sExp, dLm, keyD, bCmpL, lk2, fI0, fI, sSeq, sIf, sRet, sRetL, sSet, sPar, sOwn, sFor, sNext, tName, NL.tCons, NL.tNil, tTups, dTup, dLst, dSl, oNo, oIs, fIx, fSl, iA, fAdd_t, fAdd_l, fAdd_s, fAdd_i, fLstOf_t, fLstOf_l, fTupOf_t, fTupOf_l, fLen_t, fLen_l, ofO_some, at0, at1, at2, NL.run, lenN, startN, DEnds.er, List.getElem?_cons_zero, List.getElem?_cons_succ, List.set_cons_zero, List.set_cons_succ, Bool.false_eq_true, if_true, if_false, reduceIte, dHp, dRevL, dDisp, iA]
      exact hN _ rfl
    rintro _ rfl
    have cut : NL.cutD (cs.map D.int) none (some 63) = cs.map D.int := by
      unfold NL.cutD
      rw [show (63 : Int) = ((63 : Nat) : Int) from rfl, HT.sIx_nat, HT.sIx_none, List.length_map, Nat.min_eq_right (by omega), List.drop_zero, Nat.sub_zero, List.take_of_length_le (by rw [List.length_map]; exact Nat.le_refl _)]
    refine seqP (fun ρ => ∃ (i : Int) (t : Option SV), ρ = [some (.d (.scr cs)), some (.d (.int i)), t]) (fun N hN => ?_) ?_
    · simp only [pure1, tab1, dAnd, dOr, dNot, dIf, dCall, dFn, dCons, dNil, dVar, dOwn, dC, dFz, dBin, dCmp, dChn, dIsiB, bCmp, bChn, bVal, bAnd, bOr, bNot, bYes, dSortK, dPget, dGet, sDput, sExp, dLm, keyD, bCmpL, lk2, fI0, fI, sSeq, sIf, sRet, sRetL, sSet, sPar, sOwn, sFor, sNext, tName, NL.tCons, NL.tNil, tTups, dTup, dLst, dSl, oNo, oIs, fIx, fSl, iA, fAdd_t, fAdd_l, fAdd_s, fAdd_i, fLstOf_t, fLstOf_l, fTupOf_t, fTupOf_l, fLen_t, fLen_l, ofO_some, at0, at1, at2, NL.run, lenN, startN, DEnds.er, List.getElem?_cons_zero, List.getElem?_cons_succ, List.set_cons_zero, List.set_cons_succ, Bool.false_eq_true, if_true, if_false, reduceIte, dHp, dRevL, dDisp, iA, cut]
      refine loop_inv (fun _ ρ h' => h' = h ∧ ∃ (i : Int) (t : Option SV), ρ = [some (.d (.scr cs)), some (.d (.int i)), t]) (fun _ _ _ _ => trivial) _ 0 _ _ ⟨rfl, _, _, rfl⟩ (fun j dd ρ1 h1 N1 hdd _ hI hN1 => ?_) (fun ρ h' ⟨e, x⟩ => by rw [e]; exact hN _ x)
      obtain ⟨rfl, i, t, rfl⟩ := hI
      obtain ⟨v, rfl⟩ : ∃ v, dd = .int v := by
        rw [List.getElem?_map, Option.map_eq_some_iff] at hdd
        obtain ⟨v, _, rfl⟩ := hdd
        exact ⟨v, rfl⟩
      simp only [tName, fInt, pure1, tab1, dAnd, dOr, dNot, dIf, dCall, dFn, dCons, dNil, dVar, dOwn, dC, dFz, dBin, dCmp, dChn, dIsiB, bCmp, bChn, bVal, bAnd, bOr, bNot, bYes, dSortK, dPget, dGet, sDput, sExp, dLm, keyD, bCmpL, lk2, fI0, fI, sSeq, sIf, sRet, sRetL, sSet, sPar, sOwn, sFor, sNext, tName, NL.tCons, NL.tNil, tTups, dTup, dLst, dSl, oNo, oIs, fIx, fSl, iA, fAdd_t, fAdd_l, fAdd_s, fAdd_i, fLstOf_t, fLstOf_l, fTupOf_t, fTupOf_l, fLen_t, fLen_l, ofO_some, at0, at1, at2, NL.run, lenN, startN, DEnds.er, List.getElem?_cons_zero, List.getElem?_cons_succ, List.set_cons_zero, List.set_cons_succ, Bool.false_eq_true, if_true, if_false, reduceIte, dHp, dRevL, dDisp, iA]
      exact ⟨cm_small, by omega, by omega, hN1 _ _ ⟨rfl, _, _, rfl⟩⟩
    rintro _ ⟨i, t, rfl⟩
    simp only [pure1, tab1, dAnd, dOr, dNot, dIf, dCall, dFn, dCons, dNil, dVar, dOwn, dC, dFz, dBin, dCmp, dChn, dIsiB, bCmp, bChn, bVal, bAnd, bOr, bNot, bYes, dSortK, dPget, dGet, sDput, sExp, dLm, keyD, bCmpL, lk2, fI0, fI, sSeq, sIf, sRet, sRetL, sSet, sPar, sOwn, sFor, sNext, tName, NL.tCons, NL.tNil, tTups, dTup, dLst, dSl, oNo, oIs, fIx, fSl, iA, fAdd_t, fAdd_l, fAdd_s, fAdd_i, fLstOf_t, fLstOf_l, fTupOf_t, fTupOf_l, fLen_t, fLen_l, ofO_some, at0, at1, at2, NL.run, lenN, startN, DEnds.er, List.getElem?_cons_zero, List.getElem?_cons_succ, List.set_cons_zero, List.set_cons_succ, Bool.false_eq_true, if_true, if_false, reduceIte, dHp, dRevL, dDisp, iA, cut]
    intro c hc d hd
    obtain ⟨nd, hd⟩ := put_none hd
    refine k d c _ hd hc ⟨nd, cs.reverse, i, 0, put_at, ?_, by rw [List.length_reverse]; omega⟩ fun b hb _ => ?_
    · rw [put_off (Ne.symm nd), put_at, List.map_reverse]
    · rw [put_off (fun z => by rw [z, hd] at hb; exact hb rfl), put_off (fun z => by rw [z, hc] at hb; exact hb rfl)]
end
end T69
set_option Elab.async false
set_option linter.all false
set_option maxRecDepth 100000
set_option maxHeartbeats 4300000
namespace T69
open PySem PySem.Spec PyProof.Rows L2 LamX NL
theorem gax_ax {n : Nat} {b : List D} (l : b.length ≤ n) (h : ∀ x ∈ b, gax x) : Ax n b := ⟨l, fun a m => ⟨(h a m).1, by have := (h a m).2.1; omega⟩⟩
/-- a state of the law's own record, after at most n steps -/
structure StL (n : Nat) (z : St) : Prop where
  bl : z.1.length ≤ 6
  ax : ∀ x ∈ z.1, gax x
  ml : z.2.length ≤ n
  nd : (z.2.map (·.1)).Nodup
  so : z.2.Pairwise (fun p q => ltS q.1 p.1 = false)
  wd : ∀ p ∈ z.2, good (.str p.1) ∧ wordS p.1 = true
  bk : ∀ p ∈ z.2, ∃ b, p.2 = .tup b ∧ b.length ≤ 6 ∧ ∀ x ∈ b, gax x
theorem StL.mkok {n : Nat} {z : St} (h : StL n z) (l : n ≤ 1000) : MkOk z.2 := ⟨Nat.le_trans h.ml l, h.nd, h.so, h.wd, fun p m => by
  obtain ⟨b, e, lb, g⟩ := h.bk p m
  exact ⟨b, e, gax_ax (by omega) g⟩⟩
theorem StL.up {n m : Nat} {z : St} (h : StL n z) (l : n ≤ m) : StL m z := ⟨h.bl, h.ax, Nat.le_trans h.ml l, h.nd, h.so, h.wd, h.bk⟩
theorem StL.book {n : Nat} {z : St} (h : StL n z) (l : n ≤ 1000) {w : Str} {k : List D} (e : lookB z.2 (.str w) = some k) : k.length ≤ 6 ∧ ∀ x ∈ k, gax x := by
  obtain ⟨p, m, _, e2⟩ := look_some (look_is (h.mkok l) e)
  obtain ⟨b, e3, r⟩ := h.bk p m
  rw [e2] at e3
  cases e3
  exact r
theorem ded_mem : ∀ (xs acc : List D) (x : D), x ∈ dedD acc xs → x ∈ acc ∨ x ∈ xs
  | [], acc, x, m => .inl m
  | y :: ys, acc, x, m => by
    rw [show dedD acc (y :: ys) = dedD (if inD acc y then acc else acc ++ [y]) ys from rfl] at m
    split at m
    · exact (ded_mem ys _ x m).imp id (List.mem_cons_of_mem _)
    · rcases ded_mem ys _ x m with h | h
      · rcases (List.mem_append.mp h) with h | h
        · exact .inl h
        · rw [List.mem_singleton.mp h]; exact .inr List.mem_cons_self
      · exact .inr (List.mem_cons_of_mem _ h)
theorem joinD_mem {b l r : List D} {x : D} (m : x ∈ joinD b l r) : x ∈ b ∨ x ∈ l ∨ x ∈ r := by
  unfold joinD at m
  rcases ded_mem _ _ _ m with h | h
  · cases h
  · rcases (List.mem_append.mp h) with h | h
    · exact .inl (List.mem_filter.mp h).1
    · exact .inr (List.mem_append.mp (List.mem_filter.mp h).1)
/-- a deed keeps the bounds -/
theorem StL.after {n : Nat} {z z' : St} {y : LDeed} (h : StL n z) (l : n < 1000) (ok : y.ok) (gy : ∀ x, (y = .add x ∨ ∃ i, y = .put i x) → gax x) (e : aft z.1 z.2 y.enc = some z') (lz : z'.1.length ≤ 6) : StL (n + 1) z' := by
  have h1 := h.up (Nat.le_succ n)
  have same : ∀ b' : List D, z' = (b', z.2) → (∀ x ∈ b', gax x) → StL (n + 1) z' := fun b' eb g => by
    subst eb
    exact ⟨lz, g, h1.ml, h.nd, h.so, h.wd, h.bk⟩
  cases y with
  | add x =>
    rw [LDeed.enc, aft_add ok.2.2] at e
    cases e
    exact same _ rfl fun a m => (List.mem_append.mp m).elim (h.ax a) fun m => by rw [List.mem_singleton.mp m]; exact gy x (.inl rfl)
  | drop i =>
    rw [LDeed.enc, aft_drop] at e
    obtain ⟨k, _, e⟩ := Option.map_eq_some_iff.mp e
    exact same _ e.symm fun a m => (List.mem_append.mp m).elim (fun m => h.ax a (List.mem_of_mem_take m)) fun m => h.ax a (List.mem_of_mem_drop m)
  | put i x =>
    rw [LDeed.enc, aft_put ok.2.2] at e
    obtain ⟨k, _, e⟩ := Option.map_eq_some_iff.mp e
    exact same _ e.symm fun a m => (List.mem_append.mp m).elim (fun m => (List.mem_append.mp m).elim (fun m => h.ax a (List.mem_of_mem_take m)) fun m => by rw [List.mem_singleton.mp m]; exact gy x (.inr ⟨i, rfl⟩)) fun m => h.ax a (List.mem_of_mem_drop m)
  | mark w =>
    rw [LDeed.enc, aft_mark ok.2] at e
    cases e
    have pm := insM_perm z.2 w (.tup z.1)
    have mem : ∀ p ∈ insM z.2 w (.tup z.1), p ∈ z.2 ∨ p = (w, .tup z.1) := fun p m => (List.mem_append.mp (pm.mem_iff.mp m)).imp (fun m => (List.mem_filter.mp m).1) List.mem_singleton.mp
    refine ⟨h.bl, h.ax, ?_, ?_, insM_so _ _ _, fun p m => ?_, fun p m => ?_⟩
    · rw [pm.length_eq, List.length_append]
      have := List.length_filter_le (fun p : Str × D => !(p.1 == w)) z.2
      have := h.ml
      simp only [List.length_nil, List.length_cons]
      omega
    · rw [(pm.map (·.1)).nodup_iff, List.map_append, List.nodup_append]
      refine ⟨(List.filter_sublist.map _).nodup h.nd, by simp, fun a ma b mb => ?_⟩
      obtain ⟨p, mp, rfl⟩ := List.mem_map.mp ma
      rw [List.map_cons, List.map_nil, List.mem_singleton] at mb
      subst mb
      have := (List.mem_filter.mp mp).2
      simpa using this
    · rcases mem p m with m | rfl
      · exact h.wd p m
      · exact ok
    · rcases mem p m with m | rfl
      · exact h.bk p m
      · exact ⟨_, rfl, h.bl, h.ax⟩
  | unmark w =>
    rw [LDeed.enc, aft_unmark] at e
    obtain ⟨k, _, e⟩ := Option.map_eq_some_iff.mp e
    cases e
    exact ⟨h.bl, h.ax, Nat.le_trans (List.length_filter_le _ _) h1.ml, (List.filter_sublist.map _).nodup h.nd, h.so.filter _, fun p m => h.wd p (List.mem_filter.mp m).1, fun p m => h.bk p (List.mem_filter.mp m).1⟩
  | back w =>
    rw [LDeed.enc, aft_back] at e
    obtain ⟨k, ek, e⟩ := Option.map_eq_some_iff.mp e
    exact same _ e.symm (h.book (Nat.le_of_lt l) ek).2
  | join w v =>
    rw [LDeed.enc, aft_join] at e
    obtain ⟨k, ek, e⟩ := Option.bind_eq_some_iff.mp e
    obtain ⟨k2, ek2, e⟩ := Option.map_eq_some_iff.mp e
    exact same _ e.symm fun a m => by
      rcases joinD_mem m with m | m | m
      · exact (h.book (Nat.le_of_lt l) ek).2 a m
      · exact h.ax a m
      · exact (h.book (Nat.le_of_lt l) ek2).2 a m
end T69
set_option Elab.async false
set_option linter.all false
set_option maxRecDepth 100000
set_option maxHeartbeats 4300000
namespace T69
open PySem PySem.Spec PyProof.Rows L2 LamX NL
/-- data that are small enough to be shown -/
structure Sm (W : Nat) (d : D) : Prop where
  gd : good d
  wt : d.py.weight ≤ W
  is : d.py.intsShort 13 = true
  sh : d.py.showable = true
theorem Sm.sho {d : D} (h : Sm (2 ^ 20) d) : Sho d := by
  obtain ⟨o, c, p⟩ := good_iff.mp h.gd
  refine ⟨o, h.sh, PyData.hasDict_of_canLay _ c, p, Nat.le_trans (shown_le13 ?_ h.is) (sizeLine_ge (by omega))⟩
  show (PyData.canLay0 d.py && decide (PyData.depth d.py ≤ 64) && decide (PyData.weight d.py ≤ 2 ^ 20)) = true
  rw [c, decide_eq_true p, decide_eq_true h.wt]
  rfl
theorem Sm.up {W V : Nat} {d : D} (h : Sm W d) (l : W ≤ V) : Sm V d := ⟨h.gd, Nat.le_trans h.wt l, h.is, h.sh⟩
theorem Sm.str {s : Str} (g : good (.str s)) : Sm s.cps.size (.str s) := ⟨g, by simp [D.py, PyData.weight], by simp [D.py, PyData.intsShort], by simp [D.py, PyData.showable]⟩
theorem Sm.all {W : Nat} : ∀ {xs : List D}, (∀ x ∈ xs, Sm W x) → PyData.weightAll (D.pys xs) ≤ xs.length * (W + 1) ∧ PyData.intsShortAll 13 (D.pys xs) = true ∧ PyData.showableAll (D.pys xs) = true
  | [], _ => ⟨by simp [D.pys, PyData.weightAll], by simp [D.pys, PyData.intsShortAll], by simp [D.pys, PyData.showableAll]⟩
  | x :: xs, h => by
    obtain ⟨a, b, c⟩ := Sm.all fun y m => h y (List.mem_cons_of_mem _ m)
    have hx := h x List.mem_cons_self
    refine ⟨?_, by simp [D.pys, PyData.intsShortAll, hx.is, b], by simp [D.pys, PyData.showableAll, hx.sh, c]⟩
    have := hx.wt
    simp only [D.pys, PyData.weightAll, List.length_cons, Nat.add_mul, Nat.one_mul]
    omega
theorem Sm.tup {W n : Nat} {xs : List D} (h : ∀ x ∈ xs, Sm W x) (hd : ∀ x ∈ xs, dep x ≤ 62) (l : xs.length ≤ n) : Sm (n * (W + 1)) (.tup xs) := by
  obtain ⟨a, b, c⟩ := Sm.all h
  refine ⟨(good_tup (fun x m => (h x m).gd) 62 hd).1, ?_, by simpa [D.py, PyData.intsShort] using b, by simpa [D.py, PyData.showable] using c⟩
  have e : (D.tup xs).py.weight = PyData.weightAll (D.pys xs) := by simp [D.py, PyData.weight]
  rw [e]
  exact Nat.le_trans a (Nat.mul_le_mul_right _ l)
end T69
set_option Elab.async false
set_option linter.all false
set_option maxRecDepth 100000
set_option maxHeartbeats 4300000
namespace T69
open PySem PySem.Spec PyProof.Rows L2 LamX NL
def Wc : Nat → Nat
  | 0 => 10
  | k + 1 => 3 * (Wc k + 1)
theorem Wc_ten : ∀ k, 10 ≤ Wc k
  | 0 => Nat.le_refl _
  | k + 1 => by
    have := Wc_ten k
    unfold Wc
    omega
theorem word_sm {s : Str} {W : Nat} (g : good (.str s)) (h : wordS s = true) (l : 10 ≤ W) : Sm W (.str s) := (Sm.str g).up (by
  unfold wordS at h; simp only [Bool.and_eq_true, decide_eq_true_eq] at h
  have h2 : s.cps.size ≤ 10 := h.1.1.2
  omega)
theorem tag_sm {s t : Str} {W : Nat} (g : good (.str s)) (e : (s == t) = true) (lt : t.cps.size ≤ 10 := by decide) (l : 10 ≤ W) : Sm W (.str s) := by
  have e : s = t := by simpa using e
  subst e
  exact (Sm.str g).up (by omega)
theorem con_sm : ∀ (k : Nat) (x : D), conD x = true → good x → dep x ≤ k → k ≤ 62 → Sm (Wc k) x
  | 0, x, h, g, d, _ => by
    exfalso
    unfold conD at h
    split at h
    · have := dep_mem (List.mem_cons_self (a := D.str ‹_›) (l := [])); omega
    · have := dep_mem (List.mem_cons_self (a := D.str ‹_›) (l := [‹D›])); omega
    · rename_i s y z
      have := dep_mem (List.mem_cons_self (a := D.str s) (l := [y, z])); omega
    · cases h
  | k + 1, x, h, g, d, l => by
    have w := Wc_ten k
    have dm : ∀ {xs : List D} {z : D}, x = .tup xs → z ∈ xs → dep z ≤ k ∧ good z := fun {xs z} e m => by
      subst e
      have := dep_mem m
      exact ⟨by omega, good_mem (.inl g) m⟩
    have fin : ∀ xs : List D, x = .tup xs → xs.length ≤ 3 → (∀ z ∈ xs, Sm (Wc k) z) → Sm (Wc (k + 1)) x := fun xs e lx hz => by
      have d2 : ∀ z ∈ xs, dep z ≤ 62 := fun z m => by have := (dm e m).1; omega
      rw [e]
      exact Sm.tup hz d2 lx
    have wd : ∀ {z : D}, wordD z = true → good z → Sm (Wc k) z := fun {z} hz gz => by
      cases z with
      | str s => exact word_sm gz hz w
      | _ => cases hz
    unfold conD at h
    split at h
    · rename_i s
      have gs := (dm rfl (List.mem_cons_self (a := D.str s) (l := []))).2
      refine fin _ rfl (by simp) fun z m => ?_
      rw [List.mem_singleton.mp m]
      rcases Bool.or_eq_true_iff.mp h with e | e
      · exact tag_sm gs e (by decide) w
      · exact tag_sm gs e (by decide) w
    · rename_i s y
      rw [Bool.and_eq_true] at h
      refine fin _ rfl (by simp) fun z m => ?_
      have gz := (dm rfl m).2
      simp only [List.mem_cons, List.not_mem_nil, or_false] at m
      rcases m with rfl | rfl
      · exact tag_sm gz h.1 (by decide) w
      · exact wd h.2 gz
    · rename_i s y v
      refine fin _ rfl (by simp) fun z m => ?_
      have dz := dm rfl m
      simp only [List.mem_cons, List.not_mem_nil, or_false] at m; rcases Bool.or_eq_true_iff.mp h with h | h
      · rw [Bool.and_eq_true, Bool.and_eq_true] at h
        rcases m with rfl | rfl | rfl
        · exact tag_sm dz.2 h.1 (by decide) w
        · exact con_sm k _ h.2.1 dz.2 dz.1 (by omega)
        · exact con_sm k _ h.2.2 dz.2 dz.1 (by omega)
      · rw [Bool.and_eq_true, Bool.and_eq_true] at h
        rcases m with rfl | rfl | rfl
        · exact tag_sm dz.2 h.1 (by decide) w
        · exact wd h.2.1 dz.2
        · exact con_sm k _ h.2.2 dz.2 dz.1 (by omega)
    · cases h
theorem gax_sm {x : D} (h : gax x) : Sm 620 x := by
  obtain ⟨g, d, s⟩ := h
  unfold senD at s
  split at s
  · rename_i l r
    rw [Bool.and_eq_true] at s
    refine Sm.tup (W := 309) (n := 2) (fun z m => ?_) (fun z m => by have := dep_mem m; omega) (by simp)
    have dz : dep z ≤ 3 := by have := dep_mem m; omega
    have gz := good_mem (.inl g) m
    simp only [List.mem_cons, List.not_mem_nil, or_false] at m
    rcases m with rfl | rfl
    · exact con_sm 3 _ s.1 gz dz (by omega)
    · exact con_sm 3 _ s.2 gz dz (by omega)
  · cases s
end T69
set_option Elab.async false
set_option linter.all false
set_option maxRecDepth 100000
set_option maxHeartbeats 4300000
namespace T69
open PySem PySem.Spec PyProof.Rows L2 LamX NL
theorem book_sm {b : List D} (l : b.length ≤ 6) (h : ∀ x ∈ b, gax x) : Sm 3726 (.tup b) ∧ dep (.tup b) ≤ 5 :=
  ⟨Sm.tup (W := 620) (n := 6) (fun x m => gax_sm (h x m)) (fun x m => by have := (h x m).2.1; omega) l, dep_tup fun x m => (h x m).2.1⟩
theorem StL.small {n : Nat} {z : St} (h : StL n z) (l : n ≤ 60) : Sm (2 ^ 20) (encS z) ∧ dep (encS z) ≤ 8 := by
  have b := book_sm h.bl h.ax
  have pr : ∀ x ∈ z.2.map wpD, Sm 7454 x ∧ dep x ≤ 6 := fun x m => by
    obtain ⟨p, mp, rfl⟩ := List.mem_map.mp m
    obtain ⟨k, e, lk, gk⟩ := h.bk p mp
    have bk := book_sm lk gk
    have wp := h.wd p mp
    have es : ∀ y ∈ ([.str p.1, p.2] : List D), Sm 3726 y ∧ dep y ≤ 5 := fun y my => by
      simp only [List.mem_cons, List.not_mem_nil, or_false] at my
      rcases my with rfl | rfl
      · exact ⟨word_sm wp.1 wp.2 (by omega), by rw [dep_str]; omega⟩
      · rw [e]; exact bk
    exact ⟨Sm.tup (W := 3726) (n := 2) (fun y my => (es y my).1) (fun y my => by have := (es y my).2; omega) (by simp), dep_tup fun y my => (es y my).2⟩
  have ms : Sm (60 * 7455) (.tup (z.2.map wpD)) ∧ dep (.tup (z.2.map wpD)) ≤ 7 :=
    ⟨Sm.tup (W := 7454) (n := 60) (fun y my => (pr y my).1) (fun y my => by have := (pr y my).2; omega) (by rw [List.length_map]; exact Nat.le_trans h.ml l), dep_tup fun y my => (pr y my).2⟩
  have es : ∀ y ∈ ([.tup z.1, .tup (z.2.map wpD)] : List D), Sm (60 * 7455) y ∧ dep y ≤ 7 := fun y my => by
    simp only [List.mem_cons, List.not_mem_nil, or_false] at my
    rcases my with rfl | rfl
    · exact ⟨b.1.up (by omega), by have := b.2; omega⟩
    · exact ms
  exact ⟨(Sm.tup (W := 60 * 7455) (n := 2) (fun y my => (es y my).1) (fun y my => by have := (es y my).2; omega) (by simp)).up (by decide), dep_tup fun y my => (es y my).2⟩
theorem StL.ok {n : Nat} {z : St} (h : StL n z) (l : n ≤ 60) : StOk z := by
  have s := h.small l
  exact ⟨s.1.gd, by have := s.2; omega, s.1.sho⟩
theorem int_sm {i : Int} (h0 : 0 ≤ i) (h1 : i ≤ 6) {W : Nat} (l : 10 ≤ W) : Sm W (.int i) := by
  have c : i = 0 ∨ i = 1 ∨ i = 2 ∨ i = 3 ∨ i = 4 ∨ i = 5 ∨ i = 6 := by omega
  rcases c with rfl | rfl | rfl | rfl | rfl | rfl | rfl <;> exact ⟨good_int _, Nat.le_trans (by decide +kernel : _ ≤ 10) l, by decide +kernel, by decide +kernel⟩
end T69
set_option Elab.async false
set_option linter.all false
set_option maxRecDepth 100000
set_option maxHeartbeats 4300000
namespace T69
open PySem PySem.Spec PyProof.Rows L2 LamX NL
theorem lit_sm (s : String) (g : good (.str (Str.ofString s))) (l : (Str.ofString s).cps.size ≤ 10 := by decide) : Sm 620 (.str (Str.ofString s)) ∧ dep (.str (Str.ofString s)) ≤ 4 := ⟨(Sm.str g).up (by omega), by rw [dep_str]; omega⟩
theorem wrd_sm {w : Str} (h : gwrd w) : Sm 620 (.str w) ∧ dep (.str w) ≤ 4 := ⟨word_sm h.1 h.2 (by omega), by rw [dep_str]; omega⟩
theorem plc_sm {i : Int} (h0 : 0 ≤ i) (h1 : i ≤ 6) : Sm 620 (.int i) ∧ dep (.int i) ≤ 4 := ⟨int_sm h0 h1 (by omega), by simp [dep, D.py, PyData.depth]⟩
/-- a drawn deed may be compared and shown -/
theorem deed_sm {y : LDeed} (ok : y.ok) (gy : ∀ x, (y = .add x ∨ ∃ i, y = .put i x) → gax x) (pl : ∀ i, (y = .drop i ∨ ∃ x, y = .put i x) → 0 ≤ i ∧ i ≤ 6) : good y.enc ∧ Sho (.tup [.str "bad", y.enc]) := by
  have key : ∃ xs : List D, y.enc = .tup xs ∧ xs.length ≤ 3 ∧ ∀ x ∈ xs, Sm 620 x ∧ dep x ≤ 4 := by
    have ax : ∀ {x : D}, gax x → Sm 620 x ∧ dep x ≤ 4 := fun h => ⟨gax_sm h, h.2.1⟩
    cases y with
    | add x => exact ⟨_, rfl, by simp, by simp only [List.forall_mem_cons]; exact ⟨lit_sm "add" (strl "add"), ax (gy x (.inl rfl)), fun _ m => by cases m⟩⟩
    | drop i => exact ⟨_, rfl, by simp, by simp only [List.forall_mem_cons]; exact ⟨lit_sm "drop" (strl "drop"), plc_sm (pl i (.inl rfl)).1 (pl i (.inl rfl)).2, fun _ m => by cases m⟩⟩
    | put i x => exact ⟨_, rfl, by simp, by simp only [List.forall_mem_cons]; exact ⟨lit_sm "put" (strl "put"), plc_sm (pl i (.inr ⟨x, rfl⟩)).1 (pl i (.inr ⟨x, rfl⟩)).2, ax (gy x (.inr ⟨i, rfl⟩)), fun _ m => by cases m⟩⟩
    | mark w => exact ⟨_, rfl, by simp, by simp only [List.forall_mem_cons]; exact ⟨lit_sm "mark" (strl "mark"), wrd_sm ok, fun _ m => by cases m⟩⟩
    | unmark w => exact ⟨_, rfl, by simp, by simp only [List.forall_mem_cons]; exact ⟨lit_sm "unmark" (strl "unmark"), wrd_sm ok, fun _ m => by cases m⟩⟩
    | back w => exact ⟨_, rfl, by simp, by simp only [List.forall_mem_cons]; exact ⟨lit_sm "back" (strl "back"), wrd_sm ok, fun _ m => by cases m⟩⟩
    | join w v => exact ⟨_, rfl, by simp, by simp only [List.forall_mem_cons]; exact ⟨lit_sm "join" (strl "join"), wrd_sm ok.1, wrd_sm ok.2, fun _ m => by cases m⟩⟩
  obtain ⟨xs, e, l, h⟩ := key
  have s1 : Sm (3 * 621) y.enc ∧ dep y.enc ≤ 5 := by
    rw [e]
    exact ⟨Sm.tup (W := 620) (n := 3) (fun x m => (h x m).1) (fun x m => by have := (h x m).2; omega) l, dep_tup fun x m => (h x m).2⟩
  refine ⟨s1.1.gd, Sm.sho ((Sm.tup (W := 3 * 621) (n := 2) (fun x m => ?_) (fun x m => ?_) (by simp)).up (by decide))⟩
  · simp only [List.mem_cons, List.not_mem_nil, or_false] at m
    rcases m with rfl | rfl
    · exact (lit_sm "bad" (strl "bad")).1.up (by omega)
    · exact s1.1
  · simp only [List.mem_cons, List.not_mem_nil, or_false] at m
    rcases m with rfl | rfl
    · have := (lit_sm "bad" (strl "bad")).2; omega
    · have := s1.2; omega
end T69
set_option Elab.async false
set_option linter.all false
set_option maxRecDepth 100000
set_option maxHeartbeats 4300000
namespace T69
open PySem PySem.Spec PyProof.Rows L2 LamX NL
/-- one desk and its record -/
structure Rw where
  a : Addr
  p : Addr
  q : Addr
  o : Addr
  u : Addr
  v : Addr
  s : St
  bf : List St
  af : List St
def Rw.ad (r : Rw) : List Addr := [r.a, r.p, r.q, r.o, r.u, r.v]
def Rw.all (r : Rw) : List St := r.bf ++ r.s :: r.af.reverse
abbrev Rw.at (C : Addr) (r : Rw) (h : AH) : Prop := RecAt C r.a r.p r.q r.o r.u r.v h r.s r.bf r.af
/-- what is known of a row after n steps -/
structure RwOk (C : Addr) (n : Nat) (d c e : Addr) (h : AH) (r : Rw) : Prop where
  at_ : r.at C h
  st : ∀ z ∈ r.all, StL n z
  ln : r.all.length ≤ n + 1
  off : ∀ b ∈ r.ad, b ≠ d ∧ b ≠ c ∧ b ≠ e
def Apart (r r' : Rw) : Prop := ∀ b ∈ r.ad, b ∉ r'.ad
/-- the law's world -/
structure Wd (C : Addr) (n : Nat) (d c e : Addr) (rs : List Rw) (h : AH) : Prop where
  dk : Dk d c h
  ne : e ≠ d ∧ e ≠ c
  lst : h e = some (.lst (rs.map fun r => .tup [.obj r.a, .obj r.o]))
  row : ∀ r ∈ rs, RwOk C n d c e h r
  ap : rs.Pairwise Apart
theorem Rw.here {C : Addr} {r : Rw} {h : AH} (x : r.at C h) : ∀ b ∈ r.ad, h b ≠ none := fun b m => by
  simp only [Rw.ad, List.mem_cons, List.not_mem_nil, or_false] at m
  rcases m with z | z | z | z | z | z <;> rw [z]
  · rw [x.dk.ins]; exact fun w => by cases w
  · rw [x.dk.bef]; exact fun w => by cases w
  · rw [x.dk.aft]; exact fun w => by cases w
  · rw [x.own]; exact fun w => by cases w
  · rw [x.past]; exact fun w => by cases w
  · rw [x.next]; exact fun w => by cases w
/-- a record that nothing has touched -/
theorem Rw.keep {C : Addr} {r : Rw} {h h' : AH} (x : r.at C h) (k : ∀ b ∈ r.ad, h' b = h b) : r.at C h' :=
  ⟨⟨(k _ (by simp [Rw.ad])).trans x.dk.ins, (k _ (by simp [Rw.ad])).trans x.dk.bef, (k _ (by simp [Rw.ad])).trans x.dk.aft, x.dk.ne⟩, (k _ (by simp [Rw.ad])).trans x.own, (k _ (by simp [Rw.ad])).trans x.past, (k _ (by simp [Rw.ad])).trans x.next, x.ne⟩
theorem Apart.symm {r r' : Rw} (x : Apart r r') : Apart r' r := fun b m m' => x b m' m
/-- one row goes on -/
theorem Wd.step {C d c e : Addr} {n m : Nat} {l1 l2 : List Rw} {r r' : Rw} {h h' : AH} (x : Wd C n d c e (l1 ++ r :: l2) h) (le : n ≤ m) (y : r'.at C h') (ea : r'.a = r.a) (eo : r'.o = r.o) (dk : Dk d c h') (fr : ∀ b, h b ≠ none → b ∉ r.ad → b ≠ d → b ≠ c → h' b = h b)
    (nw : ∀ b ∈ r'.ad, b ∈ r.ad ∨ h b = none) (st : ∀ z ∈ r'.all, StL m z) (ln : r'.all.length ≤ m + 1) : Wd C m d c e (l1 ++ r' :: l2) h' := by
  have hr := x.row r (by simp)
  have he : h e ≠ none := by rw [x.lst]; exact fun w => by cases w
  have hd : h d ≠ none ∧ h c ≠ none := by
    obtain ⟨cs, m, k, e1, e2, _⟩ := x.dk.at_
    exact ⟨by rw [e1]; exact fun w => (by cases w), by rw [e2]; exact fun w => by cases w⟩
  have oth : ∀ r2 : Rw, r2 ∈ l1 ∨ r2 ∈ l2 → RwOk C n d c e h r2 ∧ Apart r2 r := fun r2 m => by
    refine ⟨x.row r2 (by rcases m with m | m <;> simp [m]), ?_⟩
    have := x.ap
    rw [List.pairwise_append] at this
    rcases m with m | m
    · exact this.2.2 r2 m r List.mem_cons_self
    · exact ((List.pairwise_cons.mp this.2.1).1 r2 m).symm
  have ap2 : ∀ r2 : Rw, r2 ∈ l1 ∨ r2 ∈ l2 → Apart r2 r' := fun r2 m b mb mb' => by
    obtain ⟨k, ap⟩ := oth r2 m
    rcases nw b mb' with z | z
    · exact ap b mb z
    · exact Rw.here k.at_ b mb z
  have keep : ∀ r2 : Rw, r2 ∈ l1 ∨ r2 ∈ l2 → RwOk C m d c e h' r2 := fun r2 mr => by
    obtain ⟨k, ap⟩ := oth r2 mr
    exact ⟨Rw.keep k.at_ fun b mb => fr b (Rw.here k.at_ b mb) (ap b mb) (k.off b mb).1 (k.off b mb).2.1, fun z mz => (k.st z mz).up le, Nat.le_trans k.ln (by omega), k.off⟩
  refine ⟨dk, x.ne, ?_, fun r2 m2 => ?_, ?_⟩
  · rw [fr e he (fun m => (hr.off e m).2.2 rfl) x.ne.1 x.ne.2, x.lst]
    simp [ea, eo]
  · rcases List.mem_append.mp m2 with m2 | m2
    · exact keep r2 (.inl m2)
    · rcases List.mem_cons.mp m2 with rfl | m2
      · exact ⟨y, st, ln, fun b mb => by
          rcases nw b mb with z | z
          · exact hr.off b z
          · exact ⟨fun w => hd.1 (w ▸ z), fun w => hd.2 (w ▸ z), fun w => he (w ▸ z)⟩⟩
      · exact keep r2 (.inr m2)
  · have := x.ap
    rw [List.pairwise_append] at this ⊢
    have t2 := List.pairwise_cons.mp this.2.1
    refine ⟨this.1, List.pairwise_cons.mpr ⟨fun r2 m => (ap2 r2 (.inr m)).symm, t2.2⟩, fun r2 m2 r3 m3 => ?_⟩
    rcases List.mem_cons.mp m3 with rfl | m3
    · exact ap2 r2 (.inl m2)
    · exact this.2.2 r2 m2 r3 (List.mem_cons_of_mem _ m3)
theorem Wd.up {C d c e : Addr} {n m : Nat} {rs : List Rw} {h : AH} (x : Wd C n d c e rs h) (le : n ≤ m) : Wd C m d c e rs h :=
  ⟨x.dk, x.ne, x.lst, fun r mr => by
    have k := x.row r mr
    exact ⟨k.at_, fun z mz => (k.st z mz).up le, Nat.le_trans k.ln (by omega), k.off⟩, x.ap⟩
/-- a draw -/
theorem Wd.drawn {C d c e : Addr} {n : Nat} {rs : List Rw} {h h' : AH} (x : Wd C n d c e rs h) (r : Dr d c h h') : Wd C n d c e rs h' :=
  ⟨r.dk, x.ne, (r.off e x.ne.1 x.ne.2).trans x.lst, fun r2 mr => by
    have k := x.row r2 mr
    exact ⟨Rw.keep k.at_ fun b mb => r.off b (k.off b mb).1 (k.off b mb).2.1, k.st, k.ln, k.off⟩, x.ap⟩
/-- a new desk -/
theorem Wd.add {C d c e : Addr} {n : Nat} {rs : List Rw} {r' : Rw} {h h' : AH} (x : Wd C n d c e rs h) (y : r'.at C h') (fr : ∀ b, h b ≠ none → b ≠ e → h' b = h b) (le : h' e = some (.lst ((rs ++ [r']).map fun r => .tup [.obj r.a, .obj r.o])))
    (nw : ∀ b ∈ r'.ad, h b = none) (st : ∀ z ∈ r'.all, StL n z) (ln : r'.all.length ≤ n + 1) : Wd C n d c e (rs ++ [r']) h' := by
  have he : h e ≠ none := by rw [x.lst]; exact fun w => by cases w
  obtain ⟨cs, m, k, e1, e2, lc⟩ := x.dk.at_
  have hd : h d ≠ none := by rw [e1]; exact fun w => by cases w
  have hc : h c ≠ none := by rw [e2]; exact fun w => by cases w
  refine ⟨⟨x.dk.ne, cs, m, k, (fr d hd (Ne.symm x.ne.1)).trans e1, (fr c hc (Ne.symm x.ne.2)).trans e2, lc⟩, x.ne, le, fun r2 m2 => ?_, ?_⟩
  · rcases List.mem_append.mp m2 with m2 | m2
    · have kk := x.row r2 m2
      exact ⟨Rw.keep kk.at_ fun b mb => fr b (Rw.here kk.at_ b mb) (kk.off b mb).2.2, kk.st, kk.ln, kk.off⟩
    · rw [List.mem_singleton.mp m2]
      exact ⟨y, st, ln, fun b mb => ⟨fun w => hd (w ▸ nw b mb), fun w => hc (w ▸ nw b mb), fun w => he (w ▸ nw b mb)⟩⟩
  · rw [List.pairwise_append]
    refine ⟨x.ap, by simp, fun r2 m2 r3 m3 b mb mb' => ?_⟩
    rw [List.mem_singleton.mp m3] at mb'
    exact Rw.here (x.row r2 m2).at_ b mb (nw b mb')
end T69
set_option Elab.async false
set_option linter.all false
set_option maxRecDepth 100000
set_option maxHeartbeats 4300000
namespace T69
open PySem PySem.Spec PyProof.Rows L2 LamX NL
/-- the code tables of the three defs that make a lambda -/
structure Tbs (P0 P1 P2 : Addr) (h : AH) : Prop where
  t0 : h P0 = some (.tb "with_mark.<locals>.<lambda>")
  t1 : h P1 = some (.tb "_law_is_moved.<locals>.<lambda>")
  t2 : h P2 = some (.tb "_law_is_done.<locals>.<lambda>")
theorem Tbs.to {P0 P1 P2 : Addr} {h h' : AH} (t : Tbs P0 P1 P2 h) (k : ∀ b q, h b = some (.tb q) → h' b = h b) : Tbs P0 P1 P2 h' :=
  ⟨(k _ _ t.t0).trans t.t0, (k _ _ t.t1).trans t.t1, (k _ _ t.t2).trans t.t2⟩
theorem no_tb {h : AH} {b : Addr} {o : AO} {q : Str} (e : h b = some o) (n : ∀ z, o ≠ .tb z) : h b ≠ some (.tb q) := fun z => by
  rw [e] at z
  exact n q (Option.some.inj z)
theorem dk_notb {d c : Addr} {h : AH} (x : Dk d c h) {q : Str} : h d ≠ some (.tb q) ∧ h c ≠ some (.tb q) := by
  obtain ⟨cs, m, k, e1, e2, _⟩ := x.at_
  exact ⟨no_tb e1 fun z w => by (cases w), no_tb e2 fun z w => by cases w⟩
theorem dk_here {d c : Addr} {h : AH} (x : Dk d c h) : h d ≠ none ∧ h c ≠ none := by
  obtain ⟨cs, m, k, e1, e2, _⟩ := x.at_
  exact ⟨by rw [e1]; exact fun w => by (cases w), by rw [e2]; exact fun w => by cases w⟩
theorem Tbs.dr {P0 P1 P2 d c : Addr} {h h' : AH} (t : Tbs P0 P1 P2 h) (x : Dk d c h) (r : Dr d c h h') : Tbs P0 P1 P2 h' :=
  t.to fun b q e => r.off b (fun z => (dk_notb x).1 (z ▸ e)) fun z => (dk_notb x).2 (z ▸ e)
theorem Rw.notb {C : Addr} {r : Rw} {h : AH} (x : r.at C h) {b : Addr} {q : Str} (m : b ∈ r.ad) : h b ≠ some (.tb q) := by
  simp only [Rw.ad, List.mem_cons, List.not_mem_nil, or_false] at m
  rcases m with z | z | z | z | z | z <;> rw [z]
  · exact no_tb x.dk.ins fun z w => by cases w
  · exact no_tb x.dk.bef fun z w => by cases w
  · exact no_tb x.dk.aft fun z w => by cases w
  · exact no_tb x.own fun z w => by cases w
  · exact no_tb x.past fun z w => by cases w
  · exact no_tb x.next fun z w => by cases w
/-- what the list of desks holds of a row -/
def Rw.pr (r : Rw) : D := .tup [.obj r.a, .obj r.o]
/-- the law's world with its tables -/
structure Lw (C P0 P1 P2 : Addr) (n : Nat) (d c e : Addr) (rs : List Rw) (h : AH) : Prop where
  wd : Wd C n d c e rs h
  tb : Tbs P0 P1 P2 h
  l1 : 1 ≤ rs.length
  l3 : rs.length ≤ 3
section
variable {C P0 P1 P2 d c e : Addr} {n m : Nat} {rs l1 l2 : List Rw} {r : Rw} {h h' : AH}
theorem Lw.list (x : Lw C P0 P1 P2 n d c e rs h) : h e = some (.lst (rs.map Rw.pr)) := x.wd.lst
theorem Lw.up (x : Lw C P0 P1 P2 n d c e rs h) (le : n ≤ m) : Lw C P0 P1 P2 m d c e rs h := ⟨x.wd.up le, x.tb, x.l1, x.l3⟩
theorem Lw.dr (x : Lw C P0 P1 P2 n d c e rs h) (r : Dr d c h h') : Lw C P0 P1 P2 n d c e rs h' := ⟨x.wd.drawn r, x.tb.dr x.wd.dk r, x.l1, x.l3⟩
theorem Lw.rcd (x : Lw C P0 P1 P2 n d c e rs h) (mr : r ∈ rs) : RecAt C r.a r.p r.q r.o r.u r.v h r.s r.bf r.af := (x.wd.row r mr).at_
theorem Lw.ok (x : Lw C P0 P1 P2 n d c e rs h) (mr : r ∈ rs) (l : n ≤ 60) : ∀ z ∈ r.all, StOk z := fun z m => ((x.wd.row r mr).st z m).ok l
theorem Lw.now (x : Lw C P0 P1 P2 n d c e rs h) (mr : r ∈ rs) : StL n r.s := (x.wd.row r mr).st r.s (by simp [Rw.all])
theorem Lw.walk (x : Lw C P0 P1 P2 n d c e rs h) (mr : r ∈ rs) : Walk C r.a r.p r.q r.o r.u r.v r.all h := ⟨r.s, r.bf, r.af, x.rcd mr, rfl⟩
theorem Lw.len (x : Lw C P0 P1 P2 n d c e rs h) (mr : r ∈ rs) : r.all.length ≤ n + 1 := (x.wd.row r mr).ln
theorem Lw.shown {Q : QD} {E : QX} (x : Lw C P0 P1 P2 n d c e rs h) (mr : r ∈ rs) (l : n ≤ 60) (k : Q (.bl true) h) : G_isdesk C [.obj r.a, .obj r.o] h Q E := (x.walk mr).shown (x.ok mr l) k
theorem Lw.equal {Q : QD} {E : QX} (x : Lw C P0 P1 P2 n d c e rs h) (l : n ≤ 60) (k : Q (.bl true) h) : G_equal C [.obj e] h Q E := by
  refine ⟨rs.map fun r => (r.a, r.o), ?_, by rw [List.length_map]; have := x.l3; omega, fun z mz => ?_, k⟩
  · rw [x.list, List.map_map]
    rfl
  · obtain ⟨r, mr, rfl⟩ := List.mem_map.mp mz
    exact ⟨r.p, r.q, r.u, r.v, r.s, r.bf, r.af, x.rcd mr, (x.now mr).ok l⟩
/-- a row that was walked along -/
theorem Lw.walked (x : Lw C P0 P1 P2 n d c e (l1 ++ r :: l2) h) (wk : Walk C r.a r.p r.q r.o r.u r.v r.all h') (fr : Fr1 [r.a, r.p, r.q, r.o, r.u, r.v] h h') : ∃ r' : Rw, r'.a = r.a ∧ r'.o = r.o ∧ Lw C P0 P1 P2 n d c e (l1 ++ r' :: l2) h' := by
  obtain ⟨s, bf, af, y, ez⟩ := wk
  have mr : r ∈ l1 ++ r :: l2 := by simp
  have kk := x.wd.row r mr
  obtain ⟨hd, hc⟩ := dk_here x.wd.dk
  obtain ⟨cs, m, k, e1, e2, lc⟩ := x.wd.dk.at_
  have dk : Dk d c h' := ⟨x.wd.dk.ne, cs, m, k, (fr d hd fun w => (kk.off d w).1 rfl).trans e1, (fr c hc fun w => (kk.off c w).2.1 rfl).trans e2, lc⟩
  refine ⟨⟨r.a, r.p, r.q, r.o, r.u, r.v, s, bf, af⟩, rfl, rfl, ?_, x.tb.to fun b q eb => fr b (by rw [eb]; exact fun w => by cases w) fun mb => Rw.notb kk.at_ mb eb, ?_, ?_⟩
  · refine x.wd.step (Nat.le_refl _) y rfl rfl dk (fun b hb nb _ _ => fr b hb nb) (fun b mb => .inl mb) (fun z mz => kk.st z ?_) ?_
    · rw [ez]; exact mz
    · show (bf ++ s :: af.reverse).length ≤ _
      rw [← ez]; exact kk.ln
  · have := x.l1; simpa using this
  · have := x.l3; simpa using this
/-- a row whose deed was done -/
theorem Lw.did {q' v' : Addr} {s' : St} (x : Lw C P0 P1 P2 n d c e (l1 ++ r :: l2) h) (nq : h q' = none) (nv : h v' = none) (y : RecAt C r.a r.p q' r.o r.u v' h' s' (r.bf ++ [r.s]) []) (dk : Dk d c h') (fr : Fr1 [r.a, r.p, r.o, r.u, d, c] h h') (st : StL (n + 1) s') :
    ∃ r' : Rw, Lw C P0 P1 P2 (n + 1) d c e (l1 ++ r' :: l2) h' := by
  have mr : r ∈ l1 ++ r :: l2 := by simp
  have kk := x.wd.row r mr
  refine ⟨⟨r.a, r.p, q', r.o, r.u, v', s', r.bf ++ [r.s], []⟩, ?_, x.tb.to fun b q eb => fr b (by rw [eb]; exact fun w => by cases w) fun mb => ?_, ?_, ?_⟩
  · refine x.wd.step (Nat.le_succ _) y rfl rfl dk (fun b hb nb n1 n2 => fr b hb fun mb => ?_) (fun b mb => ?_) (fun z mz => ?_) ?_
    · simp only [Rw.ad, List.mem_cons, List.not_mem_nil, or_false, not_or] at mb nb
      rcases mb with z | z | z | z | z | z
      · exact nb.1 z
      · exact nb.2.1 z
      · exact nb.2.2.2.1 z
      · exact nb.2.2.2.2.1 z
      · exact n1 z
      · exact n2 z
    · simp only [Rw.ad, List.mem_cons, List.not_mem_nil, or_false] at mb ⊢
      rcases mb with z | z | z | z | z | z
      · exact .inl (.inl z)
      · exact .inl (.inr (.inl z))
      · exact .inr (z ▸ nq)
      · exact .inl (.inr (.inr (.inr (.inl z))))
      · exact .inl (.inr (.inr (.inr (.inr (.inl z)))))
      · exact .inr (z ▸ nv)
    · simp only [Rw.all, List.reverse_nil, List.mem_append, List.mem_cons, List.not_mem_nil, or_false] at mz
      rcases mz with (mz | mz) | mz
      · exact (kk.st z (by simp [Rw.all, mz])).up (Nat.le_succ _)
      · exact (kk.st z (by simp [Rw.all, mz])).up (Nat.le_succ _)
      · rw [mz]; exact st
    · have := kk.ln
      simp only [Rw.all, List.length_append, List.length_cons, List.length_reverse, List.reverse_nil, List.length_nil] at this ⊢
      omega
  · simp only [List.mem_cons, List.not_mem_nil, or_false] at mb
    rcases mb with z | z | z | z | z | z
    · exact Rw.notb kk.at_ (b := b) (by simp [Rw.ad, z]) eb
    · exact Rw.notb kk.at_ (b := b) (by simp [Rw.ad, z]) eb
    · exact Rw.notb kk.at_ (b := b) (by simp [Rw.ad, z]) eb
    · exact Rw.notb kk.at_ (b := b) (by simp [Rw.ad, z]) eb
    · exact (dk_notb x.wd.dk).1 (z ▸ eb)
    · exact (dk_notb x.wd.dk).2 (z ▸ eb)
  · have := x.l1; simpa using this
  · have := x.l3; simpa using this
/-- a copy -/
theorem Lw.copied {a p q o u v : Addr} (x : Lw C P0 P1 P2 n d c e rs h) (mr : r ∈ rs) (l : rs.length < 3) (y : RecAt C a p q o u v h' r.s r.bf r.af) (fr : ∀ b, h b ≠ none → b ≠ e → h' b = h b) (le : h' e = some (.lst (rs.map Rw.pr ++ [.tup [.obj a, .obj o]])))
    (nw : ∀ b ∈ [a, p, q, o, u, v], h b = none) : ∃ r' : Rw, Lw C P0 P1 P2 n d c e (rs ++ [r']) h' := by
  have kk := x.wd.row r mr
  refine ⟨⟨a, p, q, o, u, v, r.s, r.bf, r.af⟩, x.wd.add y fr ?_ nw (fun z mz => kk.st z mz) kk.ln, x.tb.to fun b q eb => fr b (by rw [eb]; exact fun w => by cases w) fun z => ?_, by simp, ?_⟩
  · rw [le, List.map_append]
    rfl
  · rw [z, x.list] at eb
    cases eb
  · rw [List.length_append]
    simp only [List.length_nil, List.length_cons]
    omega
/-- the first desk -/
theorem Lw.first {a p q o u v : Addr} {s : St} (dk : Dk d c h) (tb : Tbs P0 P1 P2 h) (y : RecAt C a p q o u v h' s [] []) (fr : ∀ b, h b ≠ none → h' b = h b) (ne : h e = none) (le : h' e = some (.lst [.tup [.obj a, .obj o]])) (nw : ∀ b ∈ [a, p, q, o, u, v], h b = none ∧ b ≠ e) (st : StL 0 s) :
    Lw C P0 P1 P2 0 d c e [⟨a, p, q, o, u, v, s, [], []⟩] h' := by
  obtain ⟨hd, hc⟩ := dk_here dk
  obtain ⟨cs, m, k, e1, e2, lc⟩ := dk.at_
  refine ⟨⟨⟨dk.ne, cs, m, k, (fr d hd).trans e1, (fr c hc).trans e2, lc⟩, ⟨fun w => hd (w ▸ ne), fun w => hc (w ▸ ne)⟩, le, fun r mr => ?_, by simp⟩, tb.to fun b q eb => fr b (by rw [eb]; exact fun w => by cases w), by simp, by simp⟩
  rw [List.mem_singleton.mp mr]
  exact ⟨y, fun z mz => by
    simp only [Rw.all, List.reverse_nil, List.nil_append, List.mem_singleton] at mz
    rw [mz]; exact st, by simp [Rw.all], fun b mb => ⟨fun w => hd (w ▸ (nw b mb).1), fun w => hc (w ▸ (nw b mb).1), (nw b mb).2⟩⟩
end
end T69
set_option Elab.async false
set_option linter.all false
set_option maxRecDepth 100000
set_option maxHeartbeats 4300000
namespace T69
open PySem PySem.Spec PyProof.Rows L2 LamX NL
/-- good data are equal to themselves -/
theorem eqD_self {x : D} (g : good x) : eqD x x = true := PySem.SeqAt.eqv_refl_plain _ (PyData.plain_of_canLay0 _ (good_iff.mp g).2.1)
section
variable {C P0 P1 P2 a p q o u v d c e : Addr} {n : Nat} {s : St} {bf af : List St} {L M : List D} {h0 h6 : AH} {rs : List Rw} {r : Rw}
/-- the heap behind a record's display -/
abbrev hRec (u v o : Addr) (s : D) (L M : List D) (h : AH) : AH := put (put (put h u (.lst L)) v (.lst M)) o (.dK (ownK u v s))
theorem rec_made (ha : h0 a = none) (hp : h0 p = none) (hq : h0 q = none) (old : ∀ b, h0 b ≠ none → h6 b = h0 b) (y : DeskAt C a p q h6 s bf af) (hu : h6 u = none) (hv : put h6 u (.lst L) v = none) (ho : put (put h6 u (.lst L)) v (.lst M) o = none) (eL : L = bf.map encS) (eM : M = af.map encS) :
    RecAt C a p q o u v (hRec u v o (encS s) L M h6) s bf af ∧ (∀ b, h0 b ≠ none → hRec u v o (encS s) L M h6 b = h0 b) ∧ ∀ b ∈ [a, p, q, o, u, v], h0 b = none ∧ hRec u v o (encS s) L M h6 b ≠ none := by
  obtain ⟨vu, hv⟩ := put_none hv
  obtain ⟨ov, ho⟩ := put_none ho
  obtain ⟨ou, ho⟩ := put_none ho
  have new : ∀ b, h6 b = none → h0 b = none := fun b z => Classical.byContradiction fun w => by
    rw [old b w] at z
    exact w z
  have away : ∀ {b : Addr} {x : AO}, h6 b = some x → b ≠ u ∧ b ≠ v ∧ b ≠ o := fun {b x} e => ⟨fun z => (by rw [z, hu] at e; cases e), fun z => (by rw [z, hv] at e; cases e), fun z => (by rw [z, ho] at e; cases e)⟩
  have g6 : ∀ {b : Addr} {x : AO}, h6 b = some x → hRec u v o (encS s) L M h6 b = some x := fun {b x} e => by
    obtain ⟨n1, n2, n3⟩ := away e
    exact ((put_off n3).trans ((put_off n2).trans (put_off n1))).trans e
  have go : hRec u v o (encS s) L M h6 o = some (.dK (ownK u v (encS s))) := put_at
  have gu : hRec u v o (encS s) L M h6 u = some (.lst (bf.map encS)) := by
    rw [← eL]
    exact (put_off (Ne.symm ou)).trans ((put_off (Ne.symm vu)).trans put_at)
  have gv : hRec u v o (encS s) L M h6 v = some (.lst (af.map encS)) := by
    rw [← eM]
    exact (put_off (Ne.symm ov)).trans put_at
  have na := away y.ins
  have np := away y.bef
  have nq := away y.aft
  refine ⟨⟨⟨g6 y.ins, g6 y.bef, g6 y.aft, y.ne⟩, go, gu, gv, ?_⟩, fun b hb => ?_, fun b mb => ?_⟩
  · simp only [List.nodup_cons, List.mem_cons, List.not_mem_nil, or_false, not_or, List.nodup_nil, and_true, not_false_eq_true]
    exact ⟨⟨y.ap, y.aq, na.2.2, na.1, na.2.1⟩, ⟨y.ne, np.2.2, np.1, np.2.1⟩, ⟨nq.2.2, nq.1, nq.2.1⟩, ⟨ou, ov⟩, Ne.symm vu⟩
  · have e1 := old b hb
    cases e2 : h0 b with
    | none => exact absurd e2 hb
    | some x => exact g6 (e1.trans e2)
  · simp only [List.mem_cons, List.not_mem_nil, or_false] at mb
    rcases mb with z | z | z | z | z | z <;> rw [z]
    · exact ⟨ha, by rw [g6 y.ins]; exact fun w => by cases w⟩
    · exact ⟨hp, by rw [g6 y.bef]; exact fun w => by cases w⟩
    · exact ⟨hq, by rw [g6 y.aft]; exact fun w => by cases w⟩
    · exact ⟨new o ho, by rw [go]; exact fun w => by cases w⟩
    · exact ⟨new u hu, by rw [gu]; exact fun w => by cases w⟩
    · exact ⟨new v hv, by rw [gv]; exact fun w => by cases w⟩
theorem rec_off {g : AH} {x : AO} (r : RecAt C a p q o u v g s bf af) (n : ∀ b ∈ [a, p, q, o, u, v], b ≠ e) : RecAt C a p q o u v (put g e x) s bf af :=
  Rw.keep (r := ⟨a, p, q, o, u, v, s, bf, af⟩) r fun b mb => put_off (n b mb)
/-- the list of desks is made -/
theorem Lw.made (dk : Dk d c h0) (tb : Tbs P0 P1 P2 h0) (ha : h0 a = none) (hp : h0 p = none) (hq : h0 q = none) (old : ∀ b, h0 b ≠ none → h6 b = h0 b) (y : DeskAt C a p q h6 s [] []) (hu : h6 u = none) (hv : put h6 u (.lst []) v = none) (ho : put (put h6 u (.lst [])) v (.lst []) o = none)
    (he : hRec u v o (encS s) [] [] h6 e = none) (st : StL 0 s) : ∃ rws, Lw C P0 P1 P2 0 d c e rws (put (hRec u v o (encS s) [] [] h6) e (.lst [.tup [.obj a, .obj o]])) := by
  obtain ⟨r, keep, new⟩ := rec_made ha hp hq old y hu hv ho rfl rfl
  have ne : ∀ b ∈ [a, p, q, o, u, v], b ≠ e := fun b mb z => (new b mb).2 (z ▸ he)
  have h0e : h0 e = none := Classical.byContradiction fun z => by
    have := keep e z
    rw [he] at this
    exact z this.symm
  exact ⟨_, Lw.first dk tb (rec_off r ne) (fun b hb => (put_off fun z => hb (by rw [z]; exact h0e)).trans (keep b hb)) h0e put_at (fun b mb => ⟨(new b mb).1, ne b mb⟩) st⟩
/-- a copy joins the list of desks -/
theorem Lw.joins (x : Lw C P0 P1 P2 n d c e rs h0) (mr : r ∈ rs) (l : rs.length < 3) (ha : h0 a = none) (hp : h0 p = none) (hq : h0 q = none) (old : ∀ b, h0 b ≠ none → h6 b = h0 b) (y : DeskAt C a p q h6 r.s r.bf r.af) (hu : h6 u = none) (hv : put h6 u (.lst (r.bf.map encS)) v = none)
    (ho : put (put h6 u (.lst (r.bf.map encS))) v (.lst (r.af.map encS)) o = none) : hRec u v o (encS r.s) (r.bf.map encS) (r.af.map encS) h6 e = some (.lst (rs.map Rw.pr)) ∧ ∃ r', Lw C P0 P1 P2 n d c e (rs ++ [r']) (put (hRec u v o (encS r.s) (r.bf.map encS) (r.af.map encS) h6) e (.lst (rs.map Rw.pr ++ [.tup [.obj a, .obj o]]))) := by
  obtain ⟨rr, keep, new⟩ := rec_made ha hp hq old y hu hv ho rfl rfl
  have he : h0 e ≠ none := by rw [x.list]; exact fun w => by cases w
  have ne : ∀ b ∈ [a, p, q, o, u, v], b ≠ e := fun b mb z => he (by rw [← z]; exact (new b mb).1)
  exact ⟨(keep e he).trans x.list, x.copied mr l (rec_off rr ne) (fun b hb n => (put_off n).trans (keep b hb)) put_at fun b mb => (new b mb).1⟩
end
end T69
set_option Elab.async false
set_option linter.all false
set_option maxRecDepth 100000
set_option maxHeartbeats 4300000
namespace T69
open PySem PySem.Spec PyProof.Rows L2 LamX NL
structure KmL (P : Program) (w : World) (K : PySem.W.Frag) (mg : Str → Option Value) (base : Heap) (k : Nat) (x : Str) (C : Addr) (ps : List Str) (kw : Str) (G : SG) : Prop where
  kn : Kn P w K mg base k x C ps G
  knk : KnK P w K mg base k x C ps kw G
section
variable {base : Heap} {mg : Str → Option Value} {K : PySem.W.Frag} {P : Program} {w : World} {C CB CD CU CR P0 P1 P2 : Addr}
abbrev st_law : Stmt := top 56
theorem sc_law : FnScope ["script", "deck", "words", "book", "desks", "turn", "names", "roles", "pool", "way", "desk", "own", "near", "due"] ["script"] (defScope st_law) := ⟨rfl, rfl, rfl, by decide +kernel, rfl, by decide +kernel, by decide +kernel⟩

def G_law (P0 P1 P2 : Addr) : SG := fun ds h Q E => match ds with
  | [.scr cs] => cs.length ≤ 63 ∧ h P0 = some (.tb "with_mark.<locals>.<lambda>") ∧ h P1 = some (.tb "_law_is_moved.<locals>.<lambda>") ∧ h P2 = some (.tb "_law_is_done.<locals>.<lambda>") ∧ ∀ h', Q (.bl true) h'
  | _ => False
theorem dn_law (T : Txt mg K) (KD : DeskK K C) (KN : KmL P w K mg base 70 "Desk" C ["self", "book"] "book" (G_init C CB)) (A : At K mg "law" st_law) (h__law_deck : Dn P w K mg base 3 "_law_deck" ["script"] G_deck) (h__law_words : Dn P w K mg base 6 "_law_words" ["deck", "many"] G_words) (h__law_draw : Dn P w K mg base 4 "_law_draw" ["deck", "many"] G_draw)
    (h__law_book : Dn P w K mg base 57 "_law_book" ["deck", "names", "roles", "many", "most"] G_book) (h__law_pick : Dn P w K mg base 5 "_law_pick" ["deck", "some"] G_pick) (h__law_is_moved : Dn P w K mg base 6 "_law_is_moved" ["desk", "own", "undo"] (G_moved C P1)) (h__law_is_done : Dn P w K mg base 74 "_law_is_done" ["deck", "desk", "own", "deed"] (G_done C P0 P2))
    (h__law_deed : Dn P w K mg base 58 "_law_deed" ["deck", "state", "names", "roles", "pool"] G_deed) (h__law_is_desk : Dn P w K mg base 3 "_law_is_desk" ["desk", "own"] (G_isdesk C)) (h__law_are_equal : Dn P w K mg base 4 "_law_are_equal" ["desks"] (G_equal C)) (h__law_is_undone : Dn P w K mg base 7 "_law_is_undone" ["desk", "own"] (G_undone C P1))
    (mC : Mn P w K mg base 72 C "copied" ["self"] (G_copied C)) (mB : Mn P w K mg base 1 C "book" ["self"] (G_dbook C)) (mM : Mn P w K mg base 1 C "marks" ["self"] (G_dmarks C)) : Dn P w K mg base 80 "law" ["script"] (G_law P0 P1 P2) := by
  refine Dn.of A sc_law (fun F => F.bindsN fun _ _ _ _ _ _ us hl => match us, hl with | [_], _ => rfl) (fun f cdv A outer s H E hr c => (ss_cons (st_set (i := 1) c rfl (by first | exact Or.inl rfl | exact Or.inr rfl) (e_fn h__law_deck c hr (a_cons (nm 0) a_nil)))
      (ss_cons (st_set (i := 2) c rfl (by first | exact Or.inl rfl | exact Or.inr rfl) (e_fn h__law_words c hr (a_cons (nm 1) (a_cons c_int a_nil))))
      (ss_cons (st_par3 (i := 6) (j := 7) (l := 8) c rfl rfl rfl (by decide) (by decide) (by decide) rfl rfl rfl (a_cons (e_sl (wk (nm 2)) p_no (p_is (wk c_int))) (a_cons (e_sl (wk (nm 2)) (p_is (wk c_int)) (p_is (wk (e_bin op_plus od_add (wk c_int) (wk (e_fn h__law_draw c hr (a_cons (nm 1) (a_cons c_int a_nil)))))))) (a_cons (e_sl (wk (nm 2)) (p_is (wk c_int)) (p_is (wk (e_bin op_plus od_add (wk c_int) (wk (e_fn h__law_draw c hr (a_cons (nm 1) (a_cons c_int a_nil)))))))) a_nil))) rfl)
      (ss_cons (st_if (t_cmp (op_eqD hr.u64) ob_eq (wk (e_fn h__law_draw c hr (a_cons (nm 1) (a_cons c_int a_nil)))) (wk c_int))
      (ss_one (st_set (i := 8) c rfl (by first | exact Or.inl rfl | exact Or.inr rfl) (e_bin op_plus od_add (wk (fzn (e_lst (a_cons (e_ix (wk (nm 6)) (wk c_int)) (a_cons (e_ix (wk (nm 7)) (wk c_int)) a_nil))))) (wk (e_sl (wk (nm 8)) (p_is (wk c_int)) p_no)))))
      ss_nil)
      (ss_cons (st_set (i := 3) c rfl (by first | exact Or.inl rfl | exact Or.inr rfl) (e_fn h__law_book c hr (a_cons (nm 1) (a_cons (nm 6) (a_cons (nm 7) (a_cons (e_fn h__law_draw c hr (a_cons (nm 1) (a_cons c_int a_nil))) (a_cons c_int a_nil)))))))
      (ss_cons (st_set (i := 4) c rfl (by first | exact Or.inl rfl | exact Or.inr rfl) (hpn (e_lst (a_cons (e_tup (a_cons (e_make KN.kn c hr (a_cons (nm 3) a_nil)) (a_cons (e_disp (pd_cons pk_str (e_tup (a_cons (nm 3) (a_cons (e_tup a_nil) a_nil))) (pd_cons pk_str (hpn (e_lst a_nil)) (pd_cons pk_str (hpn (e_lst a_nil)) pd_nil)))) a_nil))) a_nil))))
      (ss_cons (st_for c (i_rng1 rfl T.b.range (wk (e_bin op_plus od_add (wk c_int) (wk (e_fn h__law_draw c hr (a_cons (nm 1) (a_cons c_int a_nil))))))) (pg_name (i := 5) sc_law.nd rfl (by first | exact Or.inl rfl | exact Or.inr rfl)) gd_name
      (ss_cons (st_asg (e_fn h__law_pick c hr (a_cons (nm 1) (a_cons (nm 4) a_nil))) (pg_tup (n := 2) rfl (pgs_cons (pg_name (i := 10) sc_law.nd rfl (by first | exact Or.inl rfl | exact Or.inr rfl)) (pgs_cons (pg_name (i := 11) sc_law.nd rfl (by first | exact Or.inl rfl | exact Or.inr rfl)) pgs_nil))) (gd_tup (n := 2) (gds_cons gd_name (gds_cons gd_name gds_nil))))
      (ss_cons (st_set (i := 9) c rfl (by first | exact Or.inl rfl | exact Or.inr rfl) (e_fn h__law_draw c hr (a_cons (nm 1) (a_cons c_int a_nil))))
      (ss_cons (st_if (PW.pt (w_and (t_cmp (op_eqD hr.u64) ob_eq (wk (nm 9)) (wk c_int)) (w_and1 (t_cmp o_lt ob_ord (wk (c_lenL T.b (v_cons (wk (nm 4)) v_nil))) (wk c_int)))))
      (ss_one (st_exp (e_app (nm 4) (e_tup (a_cons (e_meth0X mC c hr (nm 10)) (a_cons (e_disp (pd_cons pk_str (e_dget hr (nm 11) c_str) (pd_cons pk_str (hpn (c_nlist T.b (v_cons (wk (e_dget hr (nm 11) c_str)) v_nil))) (pd_cons pk_str (hpn (c_nlist T.b (v_cons (wk (e_dget hr (nm 11) c_str)) v_nil))) pd_nil)))) a_nil))))))
      ss_nil)
      (ss_cons (st_if (PW.pt (w_and (t_cmp (o_in hr.u65) ob_in (wk (nm 9)) (wk (e_tup (a_cons c_int (a_cons c_int a_nil))))) (w_and1 (t_not (t_val (wk (e_fn h__law_is_moved c hr (a_cons (nm 10) (a_cons (nm 11) (a_cons (e_or (wk (e_cmp (op_eqD hr.u64) ob_eq (wk (nm 9)) (wk c_int))) (e_one (e_cmp (op_eqD hr.u64) ob_eq (wk (e_fn h__law_draw c hr (a_cons (nm 1) (a_cons c_int a_nil)))) (wk c_int)))) a_nil))))))))))
      (ss_one (st_ret c_bl))
      ss_nil)
      (ss_cons (st_if (PW.pt (w_and (t_cmp o_lt ob_ord (wk (nm 9)) (wk c_int)) (w_and1 (t_not (t_val (wk (e_fn h__law_is_done c hr (a_cons (nm 1) (a_cons (nm 10) (a_cons (nm 11) (a_cons (e_fn h__law_deed c hr (a_cons (nm 1) (a_cons (e_dget hr (nm 11) c_str) (a_cons (nm 6) (a_cons (nm 7) (a_cons (nm 8) a_nil)))))) a_nil)))))))))))
      (ss_one (st_ret c_bl))
      ss_nil)
      (ss_one (st_for c (i_any (nm 4)) (pg_tup (n := 2) rfl (pgs_cons (pg_name (i := 12) sc_law.nd rfl (by first | exact Or.inl rfl | exact Or.inr rfl)) (pgs_cons (pg_name (i := 13) sc_law.nd rfl (by first | exact Or.inl rfl | exact Or.inr rfl)) pgs_nil))) (gd_tup (n := 2) (gds_cons gd_name (gds_cons gd_name gds_nil)))
      (ss_one (st_if (t_not (t_val (wk (e_fn h__law_is_desk c hr (a_cons (nm 12) (a_cons (nm 13) a_nil))))))
      (ss_one (st_ret c_bl))
      ss_nil))))))))))
      (ss_cons (st_if (t_not (t_val (wk (e_fn h__law_are_equal c hr (a_cons (nm 4) a_nil)))))
      (ss_one (st_ret c_bl))
      ss_nil)
      (ss_cons (st_for c (i_any (nm 4)) (pg_tup (n := 2) rfl (pgs_cons (pg_name (i := 10) sc_law.nd rfl (by first | exact Or.inl rfl | exact Or.inr rfl)) (pgs_cons (pg_name (i := 11) sc_law.nd rfl (by first | exact Or.inl rfl | exact Or.inr rfl)) pgs_nil))) (gd_tup (n := 2) (gds_cons gd_name (gds_cons gd_name gds_nil)))
      (ss_one (st_if (t_not (t_val (wk (e_fn h__law_is_undone c hr (a_cons (nm 10) (a_cons (nm 11) a_nil))))))
      (ss_one (st_ret c_bl))
      ss_nil)))
      (ss_one (st_ret (e_and (wk (e_fn h__law_are_equal c hr (a_cons (nm 4) a_nil))) (e_and (wk (e_cmp (op_eqD hr.u64) ob_eq (wk (e_meth0X mB c hr (e_makeK KN.knk c hr (nm 3)))) (wk (nm 3)))) (e_one (e_cmp (op_eqD hr.u64) ob_eq (wk (e_meth0X mM c hr (e_make KN.kn c hr (a_cons (nm 3) a_nil)))) (wk (e_tup a_nil)))))))))))))))))) (fun ds h Q E w => ?_)
  match ds, w with
  | [.scr cs], ⟨lc, t0, t1, t2, k⟩ =>
    refine ⟨rfl, ?_⟩
    refine seqD (fun ρ h1 => ∃ d c, h d = none ∧ h c = none ∧ Dk d c h1 ∧ Fr1 [] h h1 ∧ ρ = [some (.d (.scr cs)), some (.d (.obj d)), none, none, none, none, none, none, none, none, none, none, none, none]) (fun N hN => ?_) ?_
    · simp only [pure1, tab1, dAnd, dOr, dNot, dIf, dCall, dFn, dCons, dNil, dVar, dOwn, dC, dFz, dBin, dCmp, dChn, dIsiB, bCmp, bChn, bVal, bAnd, bOr, bNot, bYes, dSortK, dPget, dGet, sDput, sExp, dLm, keyD, bCmpL, lk2, fI0, fI, sSeq, sIf, sRet, sRetL, sSet, sPar, sOwn, sFor, sNext, tName, NL.tCons, NL.tNil, tTups, dTup, dLst, dSl, oNo, oIs, fIx, fSl, iA, fAdd_t, fAdd_l, fAdd_s, fAdd_i, fLstOf_t, fLstOf_l, fTupOf_t, fTupOf_l, fLen_t, fLen_l, ofO_some, at0, at1, at2, NL.run, lenN, startN, DEnds.er, List.getElem?_cons_zero, List.getElem?_cons_succ, List.set_cons_zero, List.set_cons_succ, Bool.false_eq_true, if_true, if_false, reduceIte, dHp, dDisp, iA, dNewL, sPar3]
      exact ⟨lc, fun d c h1 hd hc dk fr => hN _ _ ⟨d, c, hd, hc, dk, fr, rfl⟩⟩
    rintro _ h1 ⟨d, c, hd, hc, dk, fr, rfl⟩
    refine seqD (fun ρ h2 => Dr d c h1 h2 ∧ ∃ ws : List Str, ws.length = 8 ∧ ws.Nodup ∧ (∀ w ∈ ws, gwrd w) ∧ ρ = [some (.d (.scr cs)), some (.d (.obj d)), some (.d (.lst (ws.map D.str))), none, none, none, none, none, none, none, none, none, none, none]) (fun N hN => ?_) ?_
    · simp only [pure1, tab1, dAnd, dOr, dNot, dIf, dCall, dFn, dCons, dNil, dVar, dOwn, dC, dFz, dBin, dCmp, dChn, dIsiB, bCmp, bChn, bVal, bAnd, bOr, bNot, bYes, dSortK, dPget, dGet, sDput, sExp, dLm, keyD, bCmpL, lk2, fI0, fI, sSeq, sIf, sRet, sRetL, sSet, sPar, sOwn, sFor, sNext, tName, NL.tCons, NL.tNil, tTups, dTup, dLst, dSl, oNo, oIs, fIx, fSl, iA, fAdd_t, fAdd_l, fAdd_s, fAdd_i, fLstOf_t, fLstOf_l, fTupOf_t, fTupOf_l, fLen_t, fLen_l, ofO_some, at0, at1, at2, NL.run, lenN, startN, DEnds.er, List.getElem?_cons_zero, List.getElem?_cons_succ, List.set_cons_zero, List.set_cons_succ, Bool.false_eq_true, if_true, if_false, reduceIte, dHp, dDisp, iA, dNewL, sPar3]
      exact ⟨c, dk, by decide, by decide, fun ws h2 l nd g r => hN _ _ ⟨r, ws, by omega, nd, g, rfl⟩⟩
    rintro _ h2 ⟨r2, ws, wl, wn, wg, rfl⟩
    obtain ⟨w0, w1, w2, w3, w4, w5, w6, w7, rfl⟩ : ∃ a b c d e f g h, ws = [a, b, c, d, e, f, g, h] := by
      match ws, wl with
      | [a, b, c, d, e, f, g, h], _ => exact ⟨a, b, c, d, e, f, g, h, rfl⟩
    refine seqD (fun ρ h3 => Dr d c h2 h3 ∧ ∃ rs ps : List Str, (rs = [w2] ∨ rs = [w2, w3]) ∧ (ps = [w5, w6] ∨ ps = [w5, w6, w7]) ∧ ρ = [some (.d (.scr cs)), some (.d (.obj d)), some (.d (.lst ([w0, w1, w2, w3, w4, w5, w6, w7].map D.str))), none, none, none, some (.d (.lst ([w0, w1].map D.str))), some (.d (.lst (rs.map D.str))), some (.d (.lst (ps.map D.str))), none, none, none, none, none]) (fun N hN => ?_) ?_
    · simp only [pure1, tab1, dAnd, dOr, dNot, dIf, dCall, dFn, dCons, dNil, dVar, dOwn, dC, dFz, dBin, dCmp, dChn, dIsiB, bCmp, bChn, bVal, bAnd, bOr, bNot, bYes, dSortK, dPget, dGet, sDput, sExp, dLm, keyD, bCmpL, lk2, fI0, fI, sSeq, sIf, sRet, sRetL, sSet, sPar, sOwn, sFor, sNext, tName, NL.tCons, NL.tNil, tTups, dTup, dLst, dSl, oNo, oIs, fIx, fSl, iA, fAdd_t, fAdd_l, fAdd_s, fAdd_i, fLstOf_t, fLstOf_l, fTupOf_t, fTupOf_l, fLen_t, fLen_l, ofO_some, at0, at1, at2, NL.run, lenN, startN, DEnds.er, List.getElem?_cons_zero, List.getElem?_cons_succ, List.set_cons_zero, List.set_cons_succ, Bool.false_eq_true, if_true, if_false, reduceIte, dHp, dDisp, iA, dNewL, sPar3]
      refine ⟨c, r2.dk, by decide, by decide, fun i h3 i0 i1 r3 => ?_⟩
      dsimp only
      refine ⟨c, r3.dk, by decide, by decide, fun j h4 j0 j1 r4 => ?_⟩
      dsimp only
      have ci : i = 0 ∨ i = 1 := by omega
      have cj : j = 0 ∨ j = 1 := by omega
      rcases ci with rfl | rfl <;> rcases cj with rfl | rfl
      · exact hN _ _ ⟨r3.trans r4, [w2], [w5, w6], .inl rfl, .inl rfl, rfl⟩
      · exact hN _ _ ⟨r3.trans r4, [w2], [w5, w6, w7], .inl rfl, .inr rfl, rfl⟩
      · exact hN _ _ ⟨r3.trans r4, [w2, w3], [w5, w6], .inr rfl, .inl rfl, rfl⟩
      · exact hN _ _ ⟨r3.trans r4, [w2, w3], [w5, w6, w7], .inr rfl, .inr rfl, rfl⟩
    rintro _ h3 ⟨r3, rs, ps0, ers, eps, rfl⟩
    refine seqD (fun ρ h4 => Dr d c h3 h4 ∧ ∃ ps : List Str, (ps = ps0 ∨ ps = w0 :: w2 :: ps0.tail) ∧ ρ = [some (.d (.scr cs)), some (.d (.obj d)), some (.d (.lst ([w0, w1, w2, w3, w4, w5, w6, w7].map D.str))), none, none, none, some (.d (.lst ([w0, w1].map D.str))), some (.d (.lst (rs.map D.str))), some (.d (.lst (ps.map D.str))), none, none, none, none, none]) (fun N hN => ?_) ?_
    · simp only [pure1, tab1, dAnd, dOr, dNot, dIf, dCall, dFn, dCons, dNil, dVar, dOwn, dC, dFz, dBin, dCmp, dChn, dIsiB, bCmp, bChn, bVal, bAnd, bOr, bNot, bYes, dSortK, dPget, dGet, sDput, sExp, dLm, keyD, bCmpL, lk2, fI0, fI, sSeq, sIf, sRet, sRetL, sSet, sPar, sOwn, sFor, sNext, tName, NL.tCons, NL.tNil, tTups, dTup, dLst, dSl, oNo, oIs, fIx, fSl, iA, fAdd_t, fAdd_l, fAdd_s, fAdd_i, fLstOf_t, fLstOf_l, fTupOf_t, fTupOf_l, fLen_t, fLen_l, ofO_some, at0, at1, at2, NL.run, lenN, startN, DEnds.er, List.getElem?_cons_zero, List.getElem?_cons_succ, List.set_cons_zero, List.set_cons_succ, Bool.false_eq_true, if_true, if_false, reduceIte, dHp, dDisp, iA, dNewL, sPar3]
      refine ⟨c, r3.dk, by decide, by decide, fun i h4 i0 i1 r4 => ?_⟩
      dsimp only
      rw [fEq_ii]
      cases i == 0
      · rw [if_neg (by decide)]
        exact hN _ _ ⟨r4, _, .inl rfl, rfl⟩
      · rw [if_pos rfl]
        rcases ers with rfl | rfl <;> rcases eps with rfl | rfl <;> first
          | exact ⟨sizeLine_ge (by simp), sizeLine_ge (show 3 ≤ 16777216 by decide), hN _ _ ⟨r4, [w0, w2, w6], .inr rfl, rfl⟩⟩
          | exact ⟨sizeLine_ge (by simp), sizeLine_ge (show 4 ≤ 16777216 by decide), hN _ _ ⟨r4, [w0, w2, w6, w7], .inr rfl, rfl⟩⟩
    rintro _ h4 ⟨r4, ps, ep, rfl⟩
    have gs : gwrd w0 ∧ gwrd w1 ∧ gwrd w2 ∧ gwrd w3 ∧ gwrd w5 ∧ gwrd w6 ∧ gwrd w7 := ⟨wg _ (by simp), wg _ (by simp), wg _ (by simp), wg _ (by simp), wg _ (by simp), wg _ (by simp), wg _ (by simp)⟩
    obtain ⟨g0, g1, g2, g3, g5, g6, g7⟩ := gs
    have hn : wrds [w0, w1] := ⟨by simp, fun x m => by simp only [List.mem_cons, List.not_mem_nil, or_false] at m; rcases m with rfl | rfl <;> assumption⟩
    have hr : wrds rs := by
      rcases ers with rfl | rfl <;> exact ⟨by simp, fun x m => by simp only [List.mem_cons, List.not_mem_nil, or_false] at m; rcases m with rfl | rfl <;> assumption⟩
    have hp : wrds ps ∧ ps.Nodup ∧ 2 ≤ ps.length := by
      have sub : ∀ {xs : List Str}, xs.Sublist [w0, w1, w2, w3, w4, w5, w6, w7] → 2 ≤ xs.length → wrds xs ∧ xs.Nodup ∧ 2 ≤ xs.length := fun {xs} s l =>
        ⟨⟨Nat.le_trans s.length_le (by simp), fun x m => wg x (s.subset m)⟩, wn.sublist s, l⟩
      rcases eps with rfl | rfl <;> rcases ep with rfl | rfl
      · exact sub (.cons _ (.cons _ (.cons _ (.cons _ (.cons _ (.cons₂ _ (.cons₂ _ (.cons _ .slnil)))))))) (by simp)
      · exact sub (.cons₂ _ (.cons _ (.cons₂ _ (.cons _ (.cons _ (.cons _ (.cons₂ _ (.cons _ .slnil)))))))) (by simp)
      · exact sub (.cons _ (.cons _ (.cons _ (.cons _ (.cons _ (.cons₂ _ (.cons₂ _ (.cons₂ _ .slnil)))))))) (by simp)
      · exact sub (.cons₂ _ (.cons _ (.cons₂ _ (.cons _ (.cons _ (.cons _ (.cons₂ _ (.cons₂ _ .slnil)))))))) (by simp)
    have tb1 : Tbs P0 P1 P2 h1 := (⟨t0, t1, t2⟩ : Tbs P0 P1 P2 h).to fun b q e => fr b (by rw [e]; exact fun w => by cases w) (by simp)
    have tb4 : Tbs P0 P1 P2 h4 := ((tb1.dr dk r2).dr r2.dk r3).dr r3.dk r4
    have dk4 := r4.dk
    clear t0 t1 t2 tb1 dk fr r2 r3 r4 ers eps ep wg wn g0 g1 g2 g3 g5 g6 g7 hd hc
    generalize eW : ([w0, w1, w2, w3, w4, w5, w6, w7].map D.str) = WS
    generalize eN : [w0, w1] = ns at hn ⊢
    clear eW eN w0 w1 w2 w3 w4 w5 w6 w7 wl ps0 h1 h2 h3
    refine seqD (fun ρ h5 => Dr d c h4 h5 ∧ ∃ bk : List D, bk.length ≤ 3 ∧ (∀ x ∈ bk, gax x) ∧ ρ = [some (.d (.scr cs)), some (.d (.obj d)), some (.d (.lst WS)), some (.d (.tup bk)), none, none, some (.d (.lst (ns.map D.str))), some (.d (.lst (rs.map D.str))), some (.d (.lst (ps.map D.str))), none, none, none, none, none]) (fun N hN => ?_) ?_
    · simp only [pure1, tab1, dAnd, dOr, dNot, dIf, dCall, dFn, dCons, dNil, dVar, dOwn, dC, dFz, dBin, dCmp, dChn, dIsiB, bCmp, bChn, bVal, bAnd, bOr, bNot, bYes, dSortK, dPget, dGet, sDput, sExp, dLm, keyD, bCmpL, lk2, fI0, fI, sSeq, sIf, sRet, sRetL, sSet, sPar, sOwn, sFor, sNext, tName, NL.tCons, NL.tNil, tTups, dTup, dLst, dSl, oNo, oIs, fIx, fSl, iA, fAdd_t, fAdd_l, fAdd_s, fAdd_i, fLstOf_t, fLstOf_l, fTupOf_t, fTupOf_l, fLen_t, fLen_l, ofO_some, at0, at1, at2, NL.run, lenN, startN, DEnds.er, List.getElem?_cons_zero, List.getElem?_cons_succ, List.set_cons_zero, List.set_cons_succ, Bool.false_eq_true, if_true, if_false, reduceIte, dHp, dDisp, iA, dNewL, sPar3]
      refine ⟨c, dk4, by decide, by decide, fun i h5 i0 i1 r5 => ?_⟩
      dsimp only
      refine ⟨c, r5.dk, by omega, by omega, by decide, by decide, ⟨ns, rs, rfl, rfl, hn, hr⟩, fun bk h6 r6 lb gb => ?_⟩
      exact hN _ _ ⟨r5.trans r6, bk, by omega, gb, rfl⟩
    rintro _ h5 ⟨r5, bk, lb, gb, rfl⟩
    have tb5 := tb4.dr dk4 r5
    have dk5 := r5.dk
    clear tb4 r5
    have bkb : bookD (.tup bk) = true := by
      simp only [bookD, List.all_eq_true]
      exact fun x m => (gb x m).2.2
    have bkg : good (.tup bk) := (gax_ax (n := 1000) (by omega) gb).good.1
    refine seqD (fun ρ h6 => ∃ e rws, Lw C P0 P1 P2 0 d c e rws h6 ∧ ρ = [some (.d (.scr cs)), some (.d (.obj d)), some (.d (.lst WS)), some (.d (.tup bk)), some (.d (.obj e)), none, some (.d (.lst (ns.map D.str))), some (.d (.lst (rs.map D.str))), some (.d (.lst (ps.map D.str))), none, none, none, none, none]) (fun N hN => ?_) ?_
    · simp only [dMake, pure1, tab1, dAnd, dOr, dNot, dIf, dCall, dFn, dCons, dNil, dVar, dOwn, dC, dFz, dBin, dCmp, dChn, dIsiB, bCmp, bChn, bVal, bAnd, bOr, bNot, bYes, dSortK, dPget, dGet, sDput, sExp, dLm, keyD, bCmpL, lk2, fI0, fI, sSeq, sIf, sRet, sRetL, sSet, sPar, sOwn, sFor, sNext, tName, NL.tCons, NL.tNil, tTups, dTup, dLst, dSl, oNo, oIs, fIx, fSl, iA, fAdd_t, fAdd_l, fAdd_s, fAdd_i, fLstOf_t, fLstOf_l, fTupOf_t, fTupOf_l, fLen_t, fLen_l, ofO_some, at0, at1, at2, NL.run, lenN, startN, DEnds.er, List.getElem?_cons_zero, List.getElem?_cons_succ, List.set_cons_zero, List.set_cons_succ, Bool.false_eq_true, if_true, if_false, reduceIte, dHp, dDisp, iA, dNewL, sPar3]
      intro a ha
      refine ⟨put_at, bkg, fun xs z => (by cases z; omega), fun z => (by rw [bkb] at z; cases z), fun b eb hb p q h6 hp hq y fr => ⟨rfl, ?_⟩⟩
      cases eb
      refine ⟨sizeLine_ge (by simp), sizeLine_ge (by simp), sizeLine_ge (by simp), fun u hu => ⟨sizeLine_ge (by simp), fun v hv => fun o ho => ⟨sizeLine_ge (by simp), sizeLine_ge (by simp), fun e he => ?_⟩⟩⟩
      have old : ∀ b, h5 b ≠ none → h6 b = h5 b := fun b hb => by
        have nb : b ≠ a := fun z => hb (by rw [z]; exact ha)
        have e1 : put h5 a (.ins C []) b = h5 b := put_off nb
        exact (fr b (by rw [e1]; exact hb) (by simpa using nb)).trans e1
      obtain ⟨rws, W0⟩ := Lw.made (C := C) (s := (bk, [])) dk5 tb5 ha (put_none hp).2 (put_none hq).2 old y hu hv ho he ⟨by show bk.length ≤ 6; omega, gb, Nat.le_refl _, .nil, .nil, (fun p m => by cases m), fun p m => by cases m⟩
      exact hN _ _ ⟨e, rws, W0, rfl⟩
    rintro _ h6 ⟨e, rws, W0, rfl⟩
    clear dk5 tb5
    refine seqD (fun ρ h7 => ∃ rws t5 t9 t10 t11 t12 t13, Lw C P0 P1 P2 30 d c e rws h7 ∧ ρ = [some (.d (.scr cs)), some (.d (.obj d)), some (.d (.lst WS)), some (.d (.tup bk)), some (.d (.obj e)), t5, some (.d (.lst (ns.map D.str))), some (.d (.lst (rs.map D.str))), some (.d (.lst (ps.map D.str))), t9, t10, t11, t12, t13]) (fun N hN => ?_) ?_
    · simp only [iRg1, pure1, tab1, dAnd, dOr, dNot, dIf, dCall, dFn, dCons, dNil, dVar, dOwn, dC, dFz, dBin, dCmp, dChn, dIsiB, bCmp, bChn, bVal, bAnd, bOr, bNot, bYes, dSortK, dPget, dGet, sDput, sExp, dLm, keyD, bCmpL, lk2, fI0, fI, sSeq, sIf, sRet, sRetL, sSet, sPar, sOwn, sFor, sNext, tName, NL.tCons, NL.tNil, tTups, dTup, dLst, dSl, oNo, oIs, fIx, fSl, iA, fAdd_t, fAdd_l, fAdd_s, fAdd_i, fLstOf_t, fLstOf_l, fTupOf_t, fTupOf_l, fLen_t, fLen_l, ofO_some, at0, at1, at2, NL.run, lenN, startN, DEnds.er, List.getElem?_cons_zero, List.getElem?_cons_succ, List.set_cons_zero, List.set_cons_succ, Bool.false_eq_true, if_true, if_false, reduceIte, dHp, dDisp, iA, dNewL, sPar3]
      refine ⟨c, W0.wd.dk, by decide, by decide, fun i h7 i0 i1 r7 => ?_⟩
      dsimp only
      rw [fAdd_i]
      dsimp only
      refine ⟨⟨by omega, by omega⟩, loop_inv (fun i ρ h' => ∃ rws t5 t9 t10 t11 t12 t13, Lw C P0 P1 P2 i d c e rws h' ∧ ρ = [some (.d (.scr cs)), some (.d (.obj d)), some (.d (.lst WS)), some (.d (.tup bk)), some (.d (.obj e)), t5, some (.d (.lst (ns.map D.str))), some (.d (.lst (rs.map D.str))), some (.d (.lst (ps.map D.str))), t9, t10, t11, t12, t13]) (fun _ _ _ _ => trivial) _ 0 _ _ ⟨rws, _, _, _, _, _, _, W0.dr r7, rfl⟩ (fun j dd ρ1 h1 N1 hdd _ hI hN1 => ?_) (fun ρ h' ⟨rws, t5, t9, t10, t11, t12, t13, W1, e1⟩ => hN _ _ ⟨rws, t5, t9, t10, t11, t12, t13, W1.up ?_, e1⟩)⟩
      rotate_left
      · rw [intsD, List.length_map, List.length_range]; omega
      clear W0 hN rws r7
      obtain ⟨rws, t5, t9, t10, t11, t12, t13, W1, rfl⟩ := hI
      have hj : j ≤ 18 := by
        have := (List.getElem?_eq_some_iff.mp hdd).1
        rw [intsD, List.length_map, List.length_range] at this
        omega
      simp only [tName, List.set_cons_succ, List.set_cons_zero]
      clear hdd t5
      -- desk, own
      refine seqD (fun ρ h2 => ∃ l1 r l2, Lw C P0 P1 P2 j d c e (l1 ++ r :: l2) h2 ∧ ρ = [some (.d (.scr cs)), some (.d (.obj d)), some (.d (.lst WS)), some (.d (.tup bk)), some (.d (.obj e)), some (.d dd), some (.d (.lst (ns.map D.str))), some (.d (.lst (rs.map D.str))), some (.d (.lst (ps.map D.str))), t9, some (.d (.obj r.a)), some (.d (.obj r.o)), t12, t13]) (fun N hN => ?_) ?_
      · simp only [G_pick, pure1, tab1, dAnd, dOr, dNot, dIf, dCall, dFn, dCons, dNil, dVar, dOwn, dC, dFz, dBin, dCmp, dChn, dIsiB, bCmp, bChn, bVal, bAnd, bOr, bNot, bYes, dSortK, dPget, dGet, sDput, sExp, dLm, keyD, bCmpL, lk2, fI0, fI, sSeq, sIf, sRet, sRetL, sSet, sPar, sOwn, sFor, sNext, tName, NL.tCons, NL.tNil, tTups, dTup, dLst, dSl, oNo, oIs, fIx, fSl, iA, fAdd_t, fAdd_l, fAdd_s, fAdd_i, fLstOf_t, fLstOf_l, fTupOf_t, fTupOf_l, fLen_t, fLen_l, ofO_some, at0, at1, at2, NL.run, lenN, startN, DEnds.er, List.getElem?_cons_zero, List.getElem?_cons_succ, List.set_cons_zero, List.set_cons_succ, Bool.false_eq_true, if_true, if_false, reduceIte, dHp, dDisp, iA, dNewL, sPar3]
        refine ⟨c, _, W1.wd.dk, W1.list, W1.wd.ne.2, ?_, ?_, fun x mx h2 r2 => ?_⟩
        · intro z
          have := W1.l1
          rw [List.map_eq_nil_iff.mp z] at this
          simp at this
        · rw [List.length_map]
          have := W1.l3
          omega
        · obtain ⟨r, mr, rfl⟩ := List.mem_map.mp mx
          obtain ⟨l1, l2, rfl⟩ := List.append_of_mem mr
          exact ⟨rfl, hN _ _ ⟨l1, r, l2, W1.dr r2, rfl⟩⟩
      clear W1 rws h1 t10 t11 h7
      rintro _ h1 ⟨l1, r, l2, W1, rfl⟩
      -- way
      refine seqD (fun ρ h2 => ∃ way : Int, Lw C P0 P1 P2 j d c e (l1 ++ r :: l2) h2 ∧ ρ = [some (.d (.scr cs)), some (.d (.obj d)), some (.d (.lst WS)), some (.d (.tup bk)), some (.d (.obj e)), some (.d dd), some (.d (.lst (ns.map D.str))), some (.d (.lst (rs.map D.str))), some (.d (.lst (ps.map D.str))), some (.d (.int way)), some (.d (.obj r.a)), some (.d (.obj r.o)), t12, t13]) (fun N hN => ?_) ?_
      · simp only [pure1, tab1, dAnd, dOr, dNot, dIf, dCall, dFn, dCons, dNil, dVar, dOwn, dC, dFz, dBin, dCmp, dChn, dIsiB, bCmp, bChn, bVal, bAnd, bOr, bNot, bYes, dSortK, dPget, dGet, sDput, sExp, dLm, keyD, bCmpL, lk2, fI0, fI, sSeq, sIf, sRet, sRetL, sSet, sPar, sOwn, sFor, sNext, tName, NL.tCons, NL.tNil, tTups, dTup, dLst, dSl, oNo, oIs, fIx, fSl, iA, fAdd_t, fAdd_l, fAdd_s, fAdd_i, fLstOf_t, fLstOf_l, fTupOf_t, fTupOf_l, fLen_t, fLen_l, ofO_some, at0, at1, at2, NL.run, lenN, startN, DEnds.er, List.getElem?_cons_zero, List.getElem?_cons_succ, List.set_cons_zero, List.set_cons_succ, Bool.false_eq_true, if_true, if_false, reduceIte, dHp, dDisp, iA, dNewL, sPar3]
        exact ⟨c, W1.wd.dk, by decide, by decide, fun way h2 _ _ r2 => hN _ _ ⟨way, W1.dr r2, rfl⟩⟩
      clear W1 h1 t9
      rintro _ h1 ⟨way, W1, rfl⟩
      -- a copy
      refine seqD (fun ρ h2 => ∃ l3, Lw C P0 P1 P2 j d c e (l1 ++ r :: l3) h2 ∧ ρ = [some (.d (.scr cs)), some (.d (.obj d)), some (.d (.lst WS)), some (.d (.tup bk)), some (.d (.obj e)), some (.d dd), some (.d (.lst (ns.map D.str))), some (.d (.lst (rs.map D.str))), some (.d (.lst (ps.map D.str))), some (.d (.int way)), some (.d (.obj r.a)), some (.d (.obj r.o)), t12, t13]) (fun N hN => ?_) ?_
      · have mr : r ∈ l1 ++ r :: l2 := by simp
        have kk := W1.rcd mr
        simp only [fEq_ii, pure1, tab1, dAnd, dOr, dNot, dIf, dCall, dFn, dCons, dNil, dVar, dOwn, dC, dFz, dBin, dCmp, dChn, dIsiB, bCmp, bChn, bVal, bAnd, bOr, bNot, bYes, dSortK, dPget, dGet, sDput, sExp, dLm, keyD, bCmpL, lk2, fI0, fI, sSeq, sIf, sRet, sRetL, sSet, sPar, sOwn, sFor, sNext, tName, NL.tCons, NL.tNil, tTups, dTup, dLst, dSl, oNo, oIs, fIx, fSl, iA, fAdd_t, fAdd_l, fAdd_s, fAdd_i, fLstOf_t, fLstOf_l, fTupOf_t, fTupOf_l, fLen_t, fLen_l, ofO_some, at0, at1, at2, NL.run, lenN, startN, DEnds.er, List.getElem?_cons_zero, List.getElem?_cons_succ, List.set_cons_zero, List.set_cons_succ, Bool.false_eq_true, if_true, if_false, reduceIte, dHp, dDisp, iA, dNewL, sPar3]
        by_cases e7 : way = 7
        · subst e7
          rw [if_pos (by decide)]
          simp only [dCallL, lkL, dMeth, look_at W1.list, fOrd_ii, pure1, tab1, dAnd, dOr, dNot, dIf, dCall, dFn, dCons, dNil, dVar, dOwn, dC, dFz, dBin, dCmp, dChn, dIsiB, bCmp, bChn, bVal, bAnd, bOr, bNot, bYes, dSortK, dPget, dGet, sDput, sExp, dLm, keyD, bCmpL, lk2, fI0, fI, sSeq, sIf, sRet, sRetL, sSet, sPar, sOwn, sFor, sNext, tName, NL.tCons, NL.tNil, tTups, dTup, dLst, dSl, oNo, oIs, fIx, fSl, iA, fAdd_t, fAdd_l, fAdd_s, fAdd_i, fLstOf_t, fLstOf_l, fTupOf_t, fTupOf_l, fLen_t, fLen_l, ofO_some, at0, at1, at2, NL.run, lenN, startN, DEnds.er, List.getElem?_cons_zero, List.getElem?_cons_succ, List.set_cons_zero, List.set_cons_succ, Bool.false_eq_true, if_true, if_false, reduceIte, dHp, dDisp, iA, dNewL, sPar3]
          rw [List.length_map]
          by_cases l3 : (l1 ++ r :: l2).length < 3
          · rw [if_pos (decide_eq_true (by omega))]
            refine ⟨⟨_, W1.list⟩, ?_⟩
            rw [atIns_at kk.dk.ins]
            have st := W1.now mr
            refine ⟨rfl, r.p, r.q, r.s, r.bf, r.af, kk.dk, ?_, (gax_ax (n := 1000) (by have := st.bl; omega) st.ax).good.1, by have := st.bl; omega, fun a' p' q' h2 ha hp' hq y fr => ?_⟩
            · simp only [bookD, List.all_eq_true]
              exact fun x m => (st.ax x m).2.2
            have old : ∀ b, h1 b ≠ none → h2 b = h1 b := fun b hb => fr b hb (by simp)
            have k2 : RecAt C r.a r.p r.q r.o r.u r.v h2 r.s r.bf r.af := Rw.keep kk fun b mb => old b (Rw.here kk b mb)
            dsimp only
            rw [atDic_at k2.own, o_now, ofO_some, atDic_at k2.own, o_past, ofO_some]
            simp only [lkL, look_at k2.past, newL]
            intro u hu
            have o3 : put h2 u (.lst (r.bf.map encS)) r.o = some (.dK (ownK r.u r.v (encS r.s))) := (put_off (fun z => by rw [← z, k2.own] at hu; cases hu)).trans k2.own
            have v3 : put h2 u (.lst (r.bf.map encS)) r.v = some (.lst (r.af.map encS)) := (put_off (fun z => by rw [← z, k2.next] at hu; cases hu)).trans k2.next
            rw [atDic_at o3, o_next, ofO_some]
            simp only [look_at v3]
            intro v hv o ho
            obtain ⟨le, r', W2⟩ := W1.joins mr l3 ha hp' hq old y hu hv ho
            refine ⟨sizeLine_ge (by simp), _, le, ?_, hN _ _ ⟨l2 ++ [r'], ?_, rfl⟩⟩
            · rw [List.length_map, sizeLine_eq]; omega
            · rw [List.append_assoc] at W2
              exact W2
          · rw [if_neg (by simp only [decide_eq_true_eq]; omega)]
            exact hN _ _ ⟨l2, W1, rfl⟩
        · rw [if_neg (by simpa using e7)]
          exact hN _ _ ⟨l2, W1, rfl⟩
      clear W1 h1
      rintro _ h1 ⟨l3, W1, rfl⟩
      clear l2
      -- moved
      refine seqD (fun ρ h2 => ∃ r2 : Rw, r2.a = r.a ∧ r2.o = r.o ∧ Lw C P0 P1 P2 j d c e (l1 ++ r2 :: l3) h2 ∧ ρ = [some (.d (.scr cs)), some (.d (.obj d)), some (.d (.lst WS)), some (.d (.tup bk)), some (.d (.obj e)), some (.d dd), some (.d (.lst (ns.map D.str))), some (.d (.lst (rs.map D.str))), some (.d (.lst (ps.map D.str))), some (.d (.int way)), some (.d (.obj r.a)), some (.d (.obj r.o)), t12, t13]) (fun N hN => ?_) ?_
      · have mr : r ∈ l1 ++ r :: l3 := by simp
        have kk := W1.rcd mr
        simp only [pure1, tab1, dAnd, dOr, dNot, dIf, dCall, dFn, dCons, dNil, dVar, dOwn, dC, dFz, dBin, dCmp, dChn, dIsiB, bCmp, bChn, bVal, bAnd, bOr, bNot, bYes, dSortK, dPget, dGet, sDput, sExp, dLm, keyD, bCmpL, lk2, fI0, fI, sSeq, sIf, sRet, sRetL, sSet, sPar, sOwn, sFor, sNext, tName, NL.tCons, NL.tNil, tTups, dTup, dLst, dSl, oNo, oIs, fIx, fSl, iA, fAdd_t, fAdd_l, fAdd_s, fAdd_i, fLstOf_t, fLstOf_l, fTupOf_t, fTupOf_l, fLen_t, fLen_l, ofO_some, at0, at1, at2, NL.run, lenN, startN, DEnds.er, List.getElem?_cons_zero, List.getElem?_cons_succ, List.set_cons_zero, List.set_cons_succ, Bool.false_eq_true, if_true, if_false, reduceIte, dHp, dDisp, iA, dNewL, sPar3]
        refine ⟨sizeLine_ge (by simp), fIn_t (good_int _) (good_tup (fun x m => ints_g [5, 6] x m) 0 (fun x m => ints_d [5, 6] x m)).1 ?_⟩
        rw [bneF]
        have go : ∀ (b : Bool) (h2 : AH) (Q' : QD) (E' : QX), Lw C P0 P1 P2 j d c e (l1 ++ r :: l3) h2 → (∀ h3 (r2 : Rw), r2.a = r.a → r2.o = r.o → Lw C P0 P1 P2 j d c e (l1 ++ r2 :: l3) h3 → Q' (.bl true) h3) → G_moved C P1 [.obj r.a, .obj r.o, .bl b] h2 Q' E' := fun b h2 Q' E' W2 k' =>
          (W2.walk mr).moved (W2.ok mr (by omega)) (by have := W2.len mr; omega) W2.tb.t1 fun h3 wk fr => by
            obtain ⟨r2, e1, e2, W3⟩ := W2.walked wk fr
            exact k' h3 r2 e1 e2 W3
        split
        · rw [fEq_ii]
          split
          · refine go true h1 _ _ W1 fun h3 r2 e1 e2 W3 => ?_
            dsimp only
            rw [if_neg (by decide)]
            exact hN _ _ ⟨r2, e1, e2, W3, rfl⟩
          · refine ⟨c, W1.wd.dk, by decide, by decide, fun i h2 _ _ rr => ?_⟩
            dsimp only
            rw [fEq_ii]
            refine go _ h2 _ _ (W1.dr rr) fun h3 r2 e1 e2 W3 => ?_
            dsimp only
            rw [if_neg (by decide)]
            exact hN _ _ ⟨r2, e1, e2, W3, rfl⟩
        · exact hN _ _ ⟨r, rfl, rfl, W1, rfl⟩
      clear W1 h1
      rintro _ h1 ⟨r2, ea, eo, W1, rfl⟩
      rw [← ea, ← eo]
      clear ea eo r
      -- done
      refine seqD (fun ρ h2 => ∃ rws, Lw C P0 P1 P2 (j + 1) d c e rws h2 ∧ ∃ t10 t11, ρ = [some (.d (.scr cs)), some (.d (.obj d)), some (.d (.lst WS)), some (.d (.tup bk)), some (.d (.obj e)), some (.d dd), some (.d (.lst (ns.map D.str))), some (.d (.lst (rs.map D.str))), some (.d (.lst (ps.map D.str))), some (.d (.int way)), t10, t11, t12, t13]) (fun N hN => ?_) ?_
      · have mr : r2 ∈ l1 ++ r2 :: l3 := by simp
        have kk := W1.rcd mr
        simp only [fOrd_ii, pure1, tab1, dAnd, dOr, dNot, dIf, dCall, dFn, dCons, dNil, dVar, dOwn, dC, dFz, dBin, dCmp, dChn, dIsiB, bCmp, bChn, bVal, bAnd, bOr, bNot, bYes, dSortK, dPget, dGet, sDput, sExp, dLm, keyD, bCmpL, lk2, fI0, fI, sSeq, sIf, sRet, sRetL, sSet, sPar, sOwn, sFor, sNext, tName, NL.tCons, NL.tNil, tTups, dTup, dLst, dSl, oNo, oIs, fIx, fSl, iA, fAdd_t, fAdd_l, fAdd_s, fAdd_i, fLstOf_t, fLstOf_l, fTupOf_t, fTupOf_l, fLen_t, fLen_l, ofO_some, at0, at1, at2, NL.run, lenN, startN, DEnds.er, List.getElem?_cons_zero, List.getElem?_cons_succ, List.set_cons_zero, List.set_cons_succ, Bool.false_eq_true, if_true, if_false, reduceIte, dHp, dDisp, iA, dNewL, sPar3]
        by_cases lt : way < 5
        · rw [if_pos (decide_eq_true lt), atDic_at kk.own, o_now, ofO_some]
          have st := W1.now mr
          refine ⟨c, W1.wd.dk, by have := st.bl; omega, st.ax, ⟨ns, rs, ps, rfl, rfl, rfl, hn, hr, hp.1, hp.2.1, hp.2.2⟩, fun y h2 rr oy gy py => ?_⟩
          have W2 := W1.dr rr
          have kk2 := W2.rcd mr
          dsimp only
          have dm := deed_sm oy gy (fun i e => by
            have := py i e
            have := st.bl
            omega)
          have lb2 : r2.bf.length < 1000 := by
            have := W2.len mr
            simp only [Rw.all, List.length_append, List.length_cons] at this
            omega
          refine ⟨W2.tb.t2, W2.tb.t0, c, r2.p, r2.q, r2.u, r2.v, r2.s, r2.bf, r2.af, W2.wd.dk, kk2, fun b mb => ⟨((W2.wd.row r2 mr).off b mb).1, ((W2.wd.row r2 mr).off b mb).2.1⟩, gax_ax (by have := st.bl; omega) st.ax, st.mkok (by omega), ⟨y, rfl, oy⟩, dm.1, dm.2, lb2, fun h3 r3 => ?_, fun s' e l6 q' v' h3 nq nv rec dk fr => ?_⟩
          · dsimp only
            rw [if_neg (by decide)]
            exact hN _ _ ⟨_, (W2.dr r3).up (Nat.le_succ _), _, _, rfl⟩
          · obtain ⟨r', W3⟩ := W2.did nq nv rec dk fr (st.after (by omega) oy gy e l6)
            dsimp only
            rw [if_neg (by decide)]
            exact hN _ _ ⟨_, W3, _, _, rfl⟩
        · rw [if_neg (by simpa using lt)]
          exact hN _ _ ⟨_, W1.up (Nat.le_succ _), _, _, rfl⟩
      clear W1 h1
      rintro _ h1 ⟨rws, W1, t10, t11, rfl⟩
      simp only [pure1, tab1, dAnd, dOr, dNot, dIf, dCall, dFn, dCons, dNil, dVar, dOwn, dC, dFz, dBin, dCmp, dChn, dIsiB, bCmp, bChn, bVal, bAnd, bOr, bNot, bYes, dSortK, dPget, dGet, sDput, sExp, dLm, keyD, bCmpL, lk2, fI0, fI, sSeq, sIf, sRet, sRetL, sSet, sPar, sOwn, sFor, sNext, tName, NL.tCons, NL.tNil, tTups, dTup, dLst, dSl, oNo, oIs, fIx, fSl, iA, fAdd_t, fAdd_l, fAdd_s, fAdd_i, fLstOf_t, fLstOf_l, fTupOf_t, fTupOf_l, fLen_t, fLen_l, ofO_some, at0, at1, at2, NL.run, lenN, startN, DEnds.er, List.getElem?_cons_zero, List.getElem?_cons_succ, List.set_cons_zero, List.set_cons_succ, Bool.false_eq_true, if_true, if_false, reduceIte, dHp, dDisp, iA, dNewL, sPar3]
      simp only [W1.list]
      refine loop_inv (fun i ρ h' => h' = h1 ∧ ∃ t12 t13, ρ = [some (.d (.scr cs)), some (.d (.obj d)), some (.d (.lst WS)), some (.d (.tup bk)), some (.d (.obj e)), some (.d dd), some (.d (.lst (ns.map D.str))), some (.d (.lst (rs.map D.str))), some (.d (.lst (ps.map D.str))), some (.d (.int way)), t10, t11, t12, t13]) (fun i ρ h' hI => by rw [hI.1]; exact W1.list) _ 0 _ _ ⟨rfl, _, _, rfl⟩ (fun i dd2 ρ2 h2 N2 hdd2 _ hI2 hN2 => ?_) (fun ρ h' ⟨e1, t12, t13, e2⟩ => by
        subst e1
        exact hN1 _ _ ⟨rws, _, _, t10, t11, t12, t13, W1, e2⟩)
      obtain ⟨rfl, t12, t13, rfl⟩ := hI2
      obtain ⟨r, mr, rfl⟩ := List.mem_map.mp (List.mem_of_getElem? hdd2)
      simp only [Rw.pr, pure1, tab1, dAnd, dOr, dNot, dIf, dCall, dFn, dCons, dNil, dVar, dOwn, dC, dFz, dBin, dCmp, dChn, dIsiB, bCmp, bChn, bVal, bAnd, bOr, bNot, bYes, dSortK, dPget, dGet, sDput, sExp, dLm, keyD, bCmpL, lk2, fI0, fI, sSeq, sIf, sRet, sRetL, sSet, sPar, sOwn, sFor, sNext, tName, NL.tCons, NL.tNil, tTups, dTup, dLst, dSl, oNo, oIs, fIx, fSl, iA, fAdd_t, fAdd_l, fAdd_s, fAdd_i, fLstOf_t, fLstOf_l, fTupOf_t, fTupOf_l, fLen_t, fLen_l, ofO_some, at0, at1, at2, NL.run, lenN, startN, DEnds.er, List.getElem?_cons_zero, List.getElem?_cons_succ, List.set_cons_zero, List.set_cons_succ, Bool.false_eq_true, if_true, if_false, reduceIte, dHp, dDisp, iA, dNewL, sPar3]
      refine ⟨rfl, W1.shown mr (by omega) ?_⟩
      dsimp only
      rw [if_neg (by decide)]
      exact hN2 _ _ ⟨rfl, _, _, rfl⟩
    rintro _ h7 ⟨rws2, t5, t9, t10, t11, t12, t13, W7, rfl⟩
    clear W0 h6 rws
    refine seqD (fun ρ h' => h' = h7 ∧ ρ = [some (.d (.scr cs)), some (.d (.obj d)), some (.d (.lst WS)), some (.d (.tup bk)), some (.d (.obj e)), t5, some (.d (.lst (ns.map D.str))), some (.d (.lst (rs.map D.str))), some (.d (.lst (ps.map D.str))), t9, t10, t11, t12, t13]) (fun N hN => ?_) ?_
    · simp only [pure1, tab1, dAnd, dOr, dNot, dIf, dCall, dFn, dCons, dNil, dVar, dOwn, dC, dFz, dBin, dCmp, dChn, dIsiB, bCmp, bChn, bVal, bAnd, bOr, bNot, bYes, dSortK, dPget, dGet, sDput, sExp, dLm, keyD, bCmpL, lk2, fI0, fI, sSeq, sIf, sRet, sRetL, sSet, sPar, sOwn, sFor, sNext, tName, NL.tCons, NL.tNil, tTups, dTup, dLst, dSl, oNo, oIs, fIx, fSl, iA, fAdd_t, fAdd_l, fAdd_s, fAdd_i, fLstOf_t, fLstOf_l, fTupOf_t, fTupOf_l, fLen_t, fLen_l, ofO_some, at0, at1, at2, NL.run, lenN, startN, DEnds.er, List.getElem?_cons_zero, List.getElem?_cons_succ, List.set_cons_zero, List.set_cons_succ, Bool.false_eq_true, if_true, if_false, reduceIte, dHp, dDisp, iA, dNewL, sPar3]
      refine W7.equal (by decide) ?_
      dsimp only
      rw [if_neg (by decide)]
      exact hN _ _ ⟨rfl, rfl⟩
    rintro _ _ ⟨rfl, rfl⟩
    refine seqD (fun ρ h' => ∃ rws t10 t11, Lw C P0 P1 P2 30 d c e rws h' ∧ ρ = [some (.d (.scr cs)), some (.d (.obj d)), some (.d (.lst WS)), some (.d (.tup bk)), some (.d (.obj e)), t5, some (.d (.lst (ns.map D.str))), some (.d (.lst (rs.map D.str))), some (.d (.lst (ps.map D.str))), t9, t10, t11, t12, t13]) (fun N hN => ?_) ?_
    · simp only [pure1, tab1, dAnd, dOr, dNot, dIf, dCall, dFn, dCons, dNil, dVar, dOwn, dC, dFz, dBin, dCmp, dChn, dIsiB, bCmp, bChn, bVal, bAnd, bOr, bNot, bYes, dSortK, dPget, dGet, sDput, sExp, dLm, keyD, bCmpL, lk2, fI0, fI, sSeq, sIf, sRet, sRetL, sSet, sPar, sOwn, sFor, sNext, tName, NL.tCons, NL.tNil, tTups, dTup, dLst, dSl, oNo, oIs, fIx, fSl, iA, fAdd_t, fAdd_l, fAdd_s, fAdd_i, fLstOf_t, fLstOf_l, fTupOf_t, fTupOf_l, fLen_t, fLen_l, ofO_some, at0, at1, at2, NL.run, lenN, startN, DEnds.er, List.getElem?_cons_zero, List.getElem?_cons_succ, List.set_cons_zero, List.set_cons_succ, Bool.false_eq_true, if_true, if_false, reduceIte, dHp, dDisp, iA, dNewL, sPar3]
      simp only [W7.list]
      refine loop_inv (fun i ρ h' => ∃ rws t10 t11, rws.map Rw.pr = rws2.map Rw.pr ∧ Lw C P0 P1 P2 30 d c e rws h' ∧ ρ = [some (.d (.scr cs)), some (.d (.obj d)), some (.d (.lst WS)), some (.d (.tup bk)), some (.d (.obj e)), t5, some (.d (.lst (ns.map D.str))), some (.d (.lst (rs.map D.str))), some (.d (.lst (ps.map D.str))), t9, t10, t11, t12, t13]) (fun i ρ h' ⟨rws, _, _, e1, W, _⟩ => by
        have := W.list
        rw [e1] at this
        exact this) _ 0 _ _ ⟨_, _, _, rfl, W7, rfl⟩ (fun i dd2 ρ2 h2 N2 hdd2 _ hI2 hN2 => ?_) (fun ρ h' ⟨rws, t10, t11, _, W, e2⟩ => hN _ _ ⟨rws, t10, t11, W, e2⟩)
      obtain ⟨rws, t10, t11, ep, W, rfl⟩ := hI2
      rw [← ep] at hdd2
      obtain ⟨r, mr, rfl⟩ := List.mem_map.mp (List.mem_of_getElem? hdd2)
      simp only [Rw.pr, pure1, tab1, dAnd, dOr, dNot, dIf, dCall, dFn, dCons, dNil, dVar, dOwn, dC, dFz, dBin, dCmp, dChn, dIsiB, bCmp, bChn, bVal, bAnd, bOr, bNot, bYes, dSortK, dPget, dGet, sDput, sExp, dLm, keyD, bCmpL, lk2, fI0, fI, sSeq, sIf, sRet, sRetL, sSet, sPar, sOwn, sFor, sNext, tName, NL.tCons, NL.tNil, tTups, dTup, dLst, dSl, oNo, oIs, fIx, fSl, iA, fAdd_t, fAdd_l, fAdd_s, fAdd_i, fLstOf_t, fLstOf_l, fTupOf_t, fTupOf_l, fLen_t, fLen_l, ofO_some, at0, at1, at2, NL.run, lenN, startN, DEnds.er, List.getElem?_cons_zero, List.getElem?_cons_succ, List.set_cons_zero, List.set_cons_succ, Bool.false_eq_true, if_true, if_false, reduceIte, dHp, dDisp, iA, dNewL, sPar3]
      obtain ⟨l1, l2, rfl⟩ := List.append_of_mem mr
      refine ⟨rfl, W.tb.t1, r.p, r.q, r.u, r.v, r.all, W.walk mr, W.ok mr (by decide), by have := W.len mr; omega, fun h3 wk fr => ?_⟩
      obtain ⟨r2, e1, e2, W3⟩ := W.walked wk fr
      dsimp only
      rw [if_neg (by decide)]
      refine hN2 _ _ ⟨_, _, _, ?_, W3, rfl⟩
      rw [← ep]
      simp [Rw.pr, e1, e2]
    rintro _ h8 ⟨rws, t10, t11, W8, rfl⟩
    clear W7
    simp only [pure1, tab1, dAnd, dOr, dNot, dIf, dCall, dFn, dCons, dNil, dVar, dOwn, dC, dFz, dBin, dCmp, dChn, dIsiB, bCmp, bChn, bVal, bAnd, bOr, bNot, bYes, dSortK, dPget, dGet, sDput, sExp, dLm, keyD, bCmpL, lk2, fI0, fI, sSeq, sIf, sRet, sRetL, sSet, sPar, sOwn, sFor, sNext, tName, NL.tCons, NL.tNil, tTups, dTup, dLst, dSl, oNo, oIs, fIx, fSl, iA, fAdd_t, fAdd_l, fAdd_s, fAdd_i, fLstOf_t, fLstOf_l, fTupOf_t, fTupOf_l, fLen_t, fLen_l, ofO_some, at0, at1, at2, NL.run, lenN, startN, DEnds.er, List.getElem?_cons_zero, List.getElem?_cons_succ, List.set_cons_zero, List.set_cons_succ, Bool.false_eq_true, if_true, if_false, reduceIte, dHp, dDisp, iA, dNewL, sPar3]
    refine W8.equal (by decide) ?_
    dsimp only
    rw [if_pos rfl]
    simp only [dMeth, dMake, pure1, tab1, dAnd, dOr, dNot, dIf, dCall, dFn, dCons, dNil, dVar, dOwn, dC, dFz, dBin, dCmp, dChn, dIsiB, bCmp, bChn, bVal, bAnd, bOr, bNot, bYes, dSortK, dPget, dGet, sDput, sExp, dLm, keyD, bCmpL, lk2, fI0, fI, sSeq, sIf, sRet, sRetL, sSet, sPar, sOwn, sFor, sNext, tName, NL.tCons, NL.tNil, tTups, dTup, dLst, dSl, oNo, oIs, fIx, fSl, iA, fAdd_t, fAdd_l, fAdd_s, fAdd_i, fLstOf_t, fLstOf_l, fTupOf_t, fTupOf_l, fLen_t, fLen_l, ofO_some, at0, at1, at2, NL.run, lenN, startN, DEnds.er, List.getElem?_cons_zero, List.getElem?_cons_succ, List.set_cons_zero, List.set_cons_succ, Bool.false_eq_true, if_true, if_false, reduceIte, dHp, dDisp, iA, dNewL, sPar3]
    intro a ha
    refine ⟨put_at, bkg, fun xs z => (by cases z; omega), fun z => (by rw [bkb] at z; cases z), fun b eb _ p q h9 _ _ y _ => ⟨rfl, ?_⟩⟩
    cases eb
    rw [atIns_at y.ins]
    refine ⟨rfl, p, q, _, _, _, y, bkg, bkg, ?_⟩
    rw [eqD_self bkg]
    dsimp only
    rw [if_pos rfl]
    intro a2 ha2
    refine ⟨put_at, bkg, fun xs z => (by cases z; omega), fun z => (by rw [bkb] at z; cases z), fun b eb _ p2 q2 h10 _ _ y2 _ => ⟨rfl, ?_⟩⟩
    cases eb
    rw [atIns_at y2.ins]
    refine ⟨rfl, p2, q2, _, _, _, y2, sizeLine_ge (by simp), Ax.nil.good.1, Ax.nil.good.1, ?_⟩
    rw [show eqD (.tup (List.map wpD [])) (.tup []) = true from eqD_self Ax.nil.good.1]
    exact k _
end
end T69
set_option Elab.async false
set_option linter.all false
set_option maxRecDepth 100000
set_option maxHeartbeats 0
namespace T69
open PySem PySem.Spec PyProof.Rows L2 NL PySem.W
def fnL : List He.DefD := [dGlo "_wall" (top 0), dGlo "is_integer" (top 2), dGlo "is_between" (top 3), dGlo "is_row" (top 4), dGlo "is_kind" (top 5), dGlo "is_word_value" (top 19),
  dGlo "is_concept_value" (top 20), dGlo "is_sentence_value" (top 21), dGlo "is_book_value" (top 22), dGlo "joined" (top 24), dGlo "with_mark" (top 27), dGlo "marked" (top 28),
  dGlo "after_axiom" (top 29), dGlo "after_mark" (top 30), dGlo "after_deed" (top 31), dGlo "_law_deck" (top 35), dGlo "_law_draw" (top 36), dGlo "_law_pick" (top 37),
  dGlo "_law_words" (top 38), dGlo "_law_concept" (top 39), dGlo "_law_book" (top 40), dGlo "_law_dropped" (top 41), dGlo "_law_is_place" (top 42), dGlo "_law_is_word" (top 43),
  dGlo "_law_is_concept" (top 44), dGlo "_law_join" (top 45), dGlo "_law_is_sentence" (top 46), dGlo "_law_marked" (top 47), dGlo "_law_after" (top 48), dGlo "_law_deed" (top 49),
  dGlo "_law_told" (top 50), dGlo "_law_is_moved" (top 51), dGlo "_law_is_done" (top 52), dGlo "_law_is_desk" (top 53), dGlo "_law_are_equal" (top 54), dGlo "_law_is_undone" (top 55),
  dGlo "law" (top 56), dMet "Desk" "__init__" "Desk.__init__" (inClass (top 33) 0), dMet "Desk" "__eq__" "Desk.__eq__" (inClass (top 33) 1), dMet "Desk" "book" "Desk.book" (inClass (top 33) 2), dMet "Desk" "marks" "Desk.marks" (inClass (top 33) 3), dMet "Desk" "text" "Desk.text" (inClass (top 33) 4),
  dMet "Desk" "do" "Desk.do" (inClass (top 33) 5), dMet "Desk" "undo" "Desk.undo" (inClass (top 33) 6), dMet "Desk" "redo" "Desk.redo" (inClass (top 33) 7), dMet "Desk" "copied" "Desk.copied" (inClass (top 33) 8), dMet "Desk" "tells" "Desk.tells" (inClass (top 33) 9), dMet "Desk" "since" "Desk.since" (inClass (top 33) 10)]
def faL : List He.Fa := [.glo "_wall", .glo "is_integer", .glo "is_between", .glo "is_row", .glo "is_kind", .glo "is_word_value", .glo "is_concept_value", .glo "is_sentence_value",
  .glo "is_book_value", .glo "joined", .glo "with_mark", .glo "marked", .glo "after_axiom", .glo "after_mark", .glo "after_deed", .glo "_law_deck",
  .glo "_law_draw", .glo "_law_pick", .glo "_law_words", .glo "_law_concept", .glo "_law_book", .glo "_law_dropped", .glo "_law_is_place", .glo "_law_is_word",
  .glo "_law_is_concept", .glo "_law_join", .glo "_law_is_sentence", .glo "_law_marked", .glo "_law_after", .glo "_law_deed", .glo "_law_told", .glo "_law_is_moved",
  .glo "_law_is_done", .glo "_law_is_desk", .glo "_law_are_equal", .glo "_law_is_undone", .glo "law", .glo "TellError", .glo "BadBook", .glo "BadDeed",
  .glo "NothingToUndo", .glo "NothingToRedo", .glo "Desk", .glo "RESERVED", .glo "MANY", .free "len", .free "isinstance", .free "all",
  .free "any", .free "tuple", .free "list", .free "str", .free "int", .free "bool", .free "dict", .free "range",
  .free "sorted", .free "max", .free "repr", .free "super", .str "LETTERS" "abcdefghijklmnopqrstuvwxyz", .str "WORD" "word", .str "AND" "and", .str "SOME" "some",
  .int "MOST_LETTERS" 10, .cls "Desk", .mkr "Desk", .meth "Desk" "__eq__", .meth "Desk" "book", .meth "Desk" "marks", .meth "Desk" "text", .meth "Desk" "do",
  .meth "Desk" "undo", .meth "Desk" "redo", .meth "Desk" "copied", .meth "Desk" "tells", .meth "Desk" "since", .noat "Desk" "now", .noat "Desk" "before", .noat "Desk" "after"]
def kv_MANY : List (Str × Int) := [("add", 2), ("drop", 2), ("put", 3), ("mark", 2), ("unmark", 2), ("back", 2), ("join", 3)]
def tsL : List He.Tab := [((fun K => He.ga K "MANY"), kv_MANY.map (·.1))]
def tfL : List He.Defn := [("with_mark", none), ("_law_is_moved", none), ("_law_is_done", none)]
def ini_BadBook : DefC := ⟨"BadBook", "__init__", "BadBook.__init__", defArgs (inClass (top 8) 0), defBody (inClass (top 8) 0), defScope (inClass (top 8) 0)⟩
def ini_BadDeed : DefC := ⟨"BadDeed", "__init__", "BadDeed.__init__", defArgs (inClass (top 9) 0), defBody (inClass (top 9) 0), defScope (inClass (top 9) 0)⟩
def csL : List DefC := [ini_BadBook, ini_BadDeed]
/-- which exception is taken by which clause -/
def exm : List (Str × Str × Bool) := [("BadBook", "TellError", true), ("BadBook", "BadBook", true), ("BadBook", "BadDeed", false), ("BadBook", "NothingToUndo", false), ("BadBook", "NothingToRedo", false), ("BadDeed", "TellError", true),
  ("BadDeed", "BadBook", false), ("BadDeed", "BadDeed", true), ("BadDeed", "NothingToUndo", false), ("BadDeed", "NothingToRedo", false), ("NothingToUndo", "TellError", true), ("NothingToUndo", "BadBook", false),
  ("NothingToUndo", "BadDeed", false), ("NothingToUndo", "NothingToUndo", true), ("NothingToUndo", "NothingToRedo", false), ("NothingToRedo", "TellError", true), ("NothingToRedo", "BadBook", false), ("NothingToRedo", "BadDeed", false),
  ("NothingToRedo", "NothingToUndo", false), ("NothingToRedo", "NothingToRedo", true)]
def exL (K : PySem.W.Frag) : Bool := supB K "BadBook" "thing" && (xfB K (He.ga K "BadBook") && (supB K "BadDeed" "thing" && (xfB K (He.ga K "BadDeed") && (bareB K "NothingToUndo" && (bareB K "NothingToRedo" && (iscB K "Desk" && (eqcB K "Desk" && (((["NoneType", "bool", "int", "str", "tuple", "list", "dict"] : List String).all fun n => eqB (PySem.W.kitOne K (.type n) (.ref (He.ga K "Desk"))) (some false)) && (tupGB K "RESERVED" ["all", "none", "some", "and", "each", "is"] && (mdB K "MANY" kv_MANY && (decide ((tfL.map fun p => (He.cT K p).2).Nodup) && ((exm.all fun p => eqB (PySem.W.exmOne K (.ref (He.ga K p.1)) (.ref (He.ga K p.2.1))) (some p.2.2))))))))))))))
abbrev RW : PySem.W.OpenRow := PySem.W.OpenLaw.row PySem.Challenge.rw_tellalike_k69_whole_desks_under_any_deed
abbrev fileL : Str := RW.prog.main.file
abbrev hk : PySem.W.Hook := hookY 6 fileL faL fnL tsL tfL csL exL
def ob (s : PySem.W.SharedT) : AlY := obsY 6 fileL faL fnL tsL tfL csL exL (HandSHeadRun.getT s)
theorem ob_eq (s : PySem.W.SharedT) : ob s = hk.obs s.abs := obsY_eq (HandSHeadRun.getT_eq s)
def nm0 : List PySem.Str := ["_wall", "is_integer", "is_between", "is_row", "is_kind", "TellError", "BadBook", "BadDeed", "NothingToUndo", "NothingToRedo", "LETTERS", "MOST_LETTERS", "RESERVED", "WORD", "AND", "SOME", "is_word_value", "is_concept_value"]
def nm1 : List PySem.Str := ["is_sentence_value", "is_book_value", "joined", "MANY", "with_mark", "marked", "after_axiom", "after_mark", "after_deed", "Desk", "_law_deck", "_law_draw", "_law_pick", "_law_words", "_law_concept", "_law_book", "_law_dropped", "_law_is_place"]
def nm2 : List PySem.Str := ["_law_is_word", "_law_is_concept", "_law_join", "_law_is_sentence", "_law_marked", "_law_after", "_law_deed", "_law_told", "_law_is_moved", "_law_is_done", "_law_is_desk", "_law_are_equal", "_law_is_undone"]
def names : List PySem.Str := nm0 ++ nm1 ++ nm2
abbrev qv : Program := PySem.W.view RW.prog [56]
theorem run (w : World) : HandSHeadRun.RunEq RW qv hk ob 6000 names w :=
  byRow2 "special-get-raises" (P := fun w => HandSHeadRun.RunEq RW qv hk ob 6000 names w) (fun w => by
    intro os
    kernel_rfl) (fun w => by
    intro os
    kernel_rfl) w
end T69
set_option Elab.async false
set_option linter.all false
set_option maxRecDepth 100000
set_option maxHeartbeats 4300000
namespace T69
open PySem PySem.Spec PyProof.Rows L2 LamX NL
abbrev Says (w : World) (h : Heap) (K : PySem.W.Frag) : Prop := SaysY fileL faL fnL tsL tfL csL exL w h K
structure Ex (K : PySem.W.Frag) : Prop where
  bb : supB K "BadBook" "thing" = true
  bd : supB K "BadDeed" "thing" = true
  xd : xfB K (He.ga K "BadDeed") = true
  nu : bareB K "NothingToUndo" = true
  nr : bareB K "NothingToRedo" = true
  ic : iscB K "Desk" = true
  ec : eqcB K "Desk" = true
  ki : ∀ n ∈ (["NoneType", "bool", "int", "str", "tuple", "list", "dict"] : List String), PySem.W.kitOne K (.type n) (.ref (He.ga K "Desk")) = some false
  rs : tupGB K "RESERVED" ["all", "none", "some", "and", "each", "is"] = true
  md : mdB K "MANY" kv_MANY = true
  nd : (tfL.map fun p => (He.cT K p).2).Nodup
  xm : ∀ p ∈ exm, PySem.W.exmOne K (.ref (He.ga K p.1)) (.ref (He.ga K p.2.1)) = some p.2.2
section
variable {w : World} {h : Heap} {K : PySem.W.Frag} {mg : Str → Option Value}
theorem ex_of (c : Says w h K) : Ex K := by
  have e := c.more
  unfold exL eqB at e
  simp only [Bool.and_eq_true, List.all_eq_true, decide_eq_true_eq] at e
  obtain ⟨e1, e2, e3, e4, e5, e6, e7, e8, e9, e10, e11, e12, e13⟩ := e
  exact ⟨e1, e3, e4, e5, e6, e7, e8, e9, e10, e11, e12, e13⟩
theorem txt_of (X : K.In h) (G : h.Ns mainGlobals mg) (c : Says w h K) : Txt mg K where
  b := ⟨c.free X G _ (List.mem_of_getElem? (i := 45) rfl), c.free X G _ (List.mem_of_getElem? (i := 46) rfl), c.free X G _ (List.mem_of_getElem? (i := 47) rfl), c.free X G _ (List.mem_of_getElem? (i := 48) rfl), c.free X G _ (List.mem_of_getElem? (i := 49) rfl), c.free X G _ (List.mem_of_getElem? (i := 50) rfl), c.free X G _ (List.mem_of_getElem? (i := 51) rfl), c.free X G _ (List.mem_of_getElem? (i := 52) rfl),
    c.free X G _ (List.mem_of_getElem? (i := 53) rfl), c.free X G _ (List.mem_of_getElem? (i := 54) rfl), c.free X G _ (List.mem_of_getElem? (i := 55) rfl), c.free X G _ (List.mem_of_getElem? (i := 56) rfl), c.free X G _ (List.mem_of_getElem? (i := 57) rfl), c.free X G _ (List.mem_of_getElem? (i := 58) rfl)⟩
  LETTERS := He.str_ok X G (c.t.d.facts (List.mem_of_getElem? (i := 60) rfl))
  MOST_LETTERS := He.int_ok X G (c.t.d.facts (List.mem_of_getElem? (i := 64) rfl))
  RESERVED := tupG_of (ex_of c).rs (c.glo X G _ (List.mem_of_getElem? (i := 43) rfl))
  WORD := He.str_ok X G (c.t.d.facts (List.mem_of_getElem? (i := 61) rfl))
  AND := He.str_ok X G (c.t.d.facts (List.mem_of_getElem? (i := 62) rfl))
  SOME := He.str_ok X G (c.t.d.facts (List.mem_of_getElem? (i := 63) rfl))
theorem many_of (X : K.In h) (G : h.Ns mainGlobals mg) (c : Says w h K) : MD K w mg "MANY" manyK := md_of (c.dic (t := ((fun K => He.ga K "MANY"), kv_MANY.map (·.1))) (List.mem_of_getElem? (i := 0) rfl)) (ex_of c).md (c.glo X G _ (List.mem_of_getElem? (i := 44) rfl))
theorem desk_of (X : K.In h) (G : h.Ns mainGlobals mg) (c : Says w h K) : DeskK K (He.ga K "Desk") where
  cl := He.cls_ok (c.t.d.facts (List.mem_of_getElem? (i := 65) rfl))
  now := He.noat_ok (c.t.d.facts (List.mem_of_getElem? (i := 77) rfl))
  before := He.noat_ok (c.t.d.facts (List.mem_of_getElem? (i := 78) rfl))
  after := He.noat_ok (c.t.d.facts (List.mem_of_getElem? (i := 79) rfl))
  isc := isC_of (He.cls_ok (c.t.d.facts (List.mem_of_getElem? (i := 65) rfl))) (ex_of c).ic
  yes := by
    unfold PySem.W.kitOne; rw [if_pos (beq_self_eq_true _)]
  no := (ex_of c).ki
theorem supT_bb : SupT ini_BadBook.body ini_BadBook.params ini_BadBook.scope "thing" "thing" :=
  ⟨⟨_, _, _, _, _, _, _, _, _, _, rfl, fun env => ⟨⟨_, rfl⟩, rfl, rfl⟩⟩, ⟨_, rfl, rfl⟩, rfl, rfl, rfl, by decide +kernel, rfl, rfl, rfl, rfl, by decide, by decide⟩
theorem supT_bd : SupT ini_BadDeed.body ini_BadDeed.params ini_BadDeed.scope "thing" "thing" :=
  ⟨⟨_, _, _, _, _, _, _, _, _, _, rfl, fun env => ⟨⟨_, rfl⟩, rfl, rfl⟩⟩, ⟨_, rfl, rfl⟩, rfl, rfl, rfl, by decide +kernel, rfl, rfl, rfl, rfl, by decide, by decide⟩
theorem bb_of (X : K.In h) (G : h.Ns mainGlobals mg) (c : Says w h K) : SupX RW.prog K mg "BadBook" (He.ga K "BadBook") "thing" :=
  ⟨supC_of (d := ini_BadBook) (ex_of c).bb (c.ini (List.mem_of_getElem? (i := 0) rfl)) (c.cok _ (List.mem_of_getElem? (i := 0) rfl)) supT_bb (fun _ _ _ _ _ _ _ _ => rfl) (c.free X G _ (List.mem_of_getElem? (i := 59) rfl)) (by decide +kernel), c.glo X G _ (List.mem_of_getElem? (i := 38) rfl)⟩
theorem bd_of (X : K.In h) (G : h.Ns mainGlobals mg) (c : Says w h K) : SupX RW.prog K mg "BadDeed" (He.ga K "BadDeed") "thing" :=
  ⟨supC_of (d := ini_BadDeed) (ex_of c).bd (c.ini (List.mem_of_getElem? (i := 1) rfl)) (c.cok _ (List.mem_of_getElem? (i := 1) rfl)) supT_bd (fun _ _ _ _ _ _ _ _ => rfl) (c.free X G _ (List.mem_of_getElem? (i := 59) rfl)) (by decide +kernel), c.glo X G _ (List.mem_of_getElem? (i := 39) rfl)⟩
theorem told_of (X : K.In h) (G : h.Ns mainGlobals mg) (c : Says w h K) : ToldX K mg (He.ga K "BadDeed") (He.ga K "NothingToUndo") (He.ga K "NothingToRedo") where
  bd := c.glo X G _ (List.mem_of_getElem? (i := 39) rfl)
  bu := c.glo X G _ (List.mem_of_getElem? (i := 40) rfl)
  br := c.glo X G _ (List.mem_of_getElem? (i := 41) rfl)
  dd := (ex_of c).xm ("BadDeed", "BadDeed", true) (by simp [exm])
  ud := (ex_of c).xm ("NothingToUndo", "BadDeed", false) (by simp [exm])
  uu := (ex_of c).xm ("NothingToUndo", "NothingToUndo", true) (by simp [exm])
  rd := (ex_of c).xm ("NothingToRedo", "BadDeed", false) (by simp [exm])
  ru := (ex_of c).xm ("NothingToRedo", "NothingToUndo", false) (by simp [exm])
  rr := (ex_of c).xm ("NothingToRedo", "NothingToRedo", true) (by simp [exm])
  xf := xfB_ok (ex_of c).xd
  hno := (bd_of X G c).sup.na
def Tb0 (K : PySem.W.Frag) : Addr := (He.cT K ("with_mark", none)).2
def Tb1 (K : PySem.W.Frag) : Addr := (He.cT K ("_law_is_moved", none)).2
def Tb2 (K : PySem.W.Frag) : Addr := (He.cT K ("_law_is_done", none)).2
theorem law_of {base : Heap} (X : K.In h) (G : h.Ns mainGlobals mg) (c : Says w h K) (B : ∀ p ∈ tfL.map (He.cT K), TabB base mg p.1 p.2) : Dn RW.prog w K mg base 80 "law" ["script"] (G_law (Tb0 K) (Tb1 K) (Tb2 K)) := by
  have T := txt_of X G c
  have TM := many_of X G c
  have KD := desk_of X G c
  have XB := bb_of X G c
  have XD := bd_of X G c
  have XU : BareX K mg "NothingToUndo" (He.ga K "NothingToUndo") := bareX_of (ex_of c).nu (c.glo X G _ (List.mem_of_getElem? (i := 40) rfl))
  have XR : BareX K mg "NothingToRedo" (He.ga K "NothingToRedo") := bareX_of (ex_of c).nr (c.glo X G _ (List.mem_of_getElem? (i := 41) rfl))
  have TX := told_of X G c
  have KN := c.glo X G _ (List.mem_of_getElem? (i := 42) rfl)
  obtain ⟨eC, eO, ent, enc⟩ := eqC_of (ex_of c).ec
  have B0 := B _ (List.mem_map_of_mem (f := He.cT K) (List.mem_of_getElem? (i := 0) rfl))
  have B1 := B _ (List.mem_map_of_mem (f := He.cT K) (List.mem_of_getElem? (i := 1) rfl))
  have B2 := B _ (List.mem_map_of_mem (f := He.cT K) (List.mem_of_getElem? (i := 2) rfl))
  have d1 := dn_is_integer (P := RW.prog) (w := w) (base := base) T (c.at X G _ _ (List.mem_of_getElem? (i := 1) rfl) (List.mem_of_getElem? (i := 1) rfl))
  have d2 := dn_is_between T (c.at X G _ _ (List.mem_of_getElem? (i := 2) rfl) (List.mem_of_getElem? (i := 2) rfl)) d1
  have d3 := dn_is_row (P := RW.prog) (w := w) (base := base) T (c.at X G _ _ (List.mem_of_getElem? (i := 3) rfl) (List.mem_of_getElem? (i := 3) rfl))
  have d4 := dn_is_kind T (c.at X G _ _ (List.mem_of_getElem? (i := 4) rfl) (List.mem_of_getElem? (i := 4) rfl)) d3
  have d5 := dn_is_word_value (P := RW.prog) (w := w) (base := base) T (c.at X G _ _ (List.mem_of_getElem? (i := 5) rfl) (List.mem_of_getElem? (i := 5) rfl))
  have d6 := dn_is_concept_value T (c.at X G _ _ (List.mem_of_getElem? (i := 6) rfl) (List.mem_of_getElem? (i := 6) rfl)) d4 d5
  have d7 := dn_is_sentence_value T (c.at X G _ _ (List.mem_of_getElem? (i := 7) rfl) (List.mem_of_getElem? (i := 7) rfl)) d3 d6
  have d8 := dn_is_book_value T (c.at X G _ _ (List.mem_of_getElem? (i := 8) rfl) (List.mem_of_getElem? (i := 8) rfl)) d7
  have d9 := dn_joined (P := RW.prog) (w := w) (base := base) T (c.at X G _ _ (List.mem_of_getElem? (i := 9) rfl) (List.mem_of_getElem? (i := 9) rfl))
  have d10 := dn_marked T (c.at X G _ _ (List.mem_of_getElem? (i := 11) rfl) (List.mem_of_getElem? (i := 11) rfl)) d5
  have d11 := dn_after_axiom T (c.at X G _ _ (List.mem_of_getElem? (i := 12) rfl) (List.mem_of_getElem? (i := 12) rfl)) d7 d2
  have d12 := dn_with_mark (P := RW.prog) (w := w) T (c.lam X G _ _ (List.mem_of_getElem? (i := 10) rfl) (List.mem_of_getElem? (i := 10) rfl) B0)
  have d13 := dn_after_mark T (c.at X G _ _ (List.mem_of_getElem? (i := 13) rfl) (List.mem_of_getElem? (i := 13) rfl)) d5 d10 d9 d12
  have d14 := dn_after_deed T TM (c.at X G _ _ (List.mem_of_getElem? (i := 14) rfl) (List.mem_of_getElem? (i := 14) rfl)) d3 d11 d13
  have l1 := dn__law_join (P := RW.prog) (w := w) (base := base) T (c.at X G _ _ (List.mem_of_getElem? (i := 25) rfl) (List.mem_of_getElem? (i := 25) rfl))
  have l2 := dn__law_dropped (P := RW.prog) (w := w) (base := base) (c.at X G _ _ (List.mem_of_getElem? (i := 21) rfl) (List.mem_of_getElem? (i := 21) rfl))
  have l3 := dn__law_is_place (P := RW.prog) (w := w) (base := base) T (c.at X G _ _ (List.mem_of_getElem? (i := 22) rfl) (List.mem_of_getElem? (i := 22) rfl))
  have l4 := dn__law_is_word (P := RW.prog) (w := w) (base := base) T (c.at X G _ _ (List.mem_of_getElem? (i := 23) rfl) (List.mem_of_getElem? (i := 23) rfl))
  have l5 := dn__law_is_concept T (c.at X G _ _ (List.mem_of_getElem? (i := 24) rfl) (List.mem_of_getElem? (i := 24) rfl)) l4
  have l6 := dn__law_is_sentence T (c.at X G _ _ (List.mem_of_getElem? (i := 26) rfl) (List.mem_of_getElem? (i := 26) rfl)) l5
  have l7 := dn__law_marked (P := RW.prog) (w := w) (base := base) T (c.at X G _ _ (List.mem_of_getElem? (i := 27) rfl) (List.mem_of_getElem? (i := 27) rfl))
  have l8 := dn__law_after T (c.at X G _ _ (List.mem_of_getElem? (i := 28) rfl) (List.mem_of_getElem? (i := 28) rfl)) l6 l2 l3 l4 l7 l1
  have l9 := dn__law_draw (P := RW.prog) (w := w) (base := base) T (c.at X G _ _ (List.mem_of_getElem? (i := 16) rfl) (List.mem_of_getElem? (i := 16) rfl))
  have l10 := dn__law_pick T (c.at X G _ _ (List.mem_of_getElem? (i := 17) rfl) (List.mem_of_getElem? (i := 17) rfl)) l9
  have l11 := dn__law_words T (c.at X G _ _ (List.mem_of_getElem? (i := 18) rfl) (List.mem_of_getElem? (i := 18) rfl)) l9 l10
  have l12 := dn__law_concept T (c.at X G _ _ (List.mem_of_getElem? (i := 19) rfl) (List.mem_of_getElem? (i := 19) rfl)) l9 l10
  have l13 := dn__law_book T (c.at X G _ _ (List.mem_of_getElem? (i := 20) rfl) (List.mem_of_getElem? (i := 20) rfl)) l12
  have l14 := dn__law_deed T (c.at X G _ _ (List.mem_of_getElem? (i := 29) rfl) (List.mem_of_getElem? (i := 29) rfl)) l9 l10 l13
  have l15 := dn_deck (P := RW.prog) (w := w) (base := base) T (c.at X G _ _ (List.mem_of_getElem? (i := 15) rfl) (List.mem_of_getElem? (i := 15) rfl))
  have m1 := mn_book (P := RW.prog) (w := w) (mg := mg) (base := base) KD (c.atM "Desk" "book" "Desk.book" st_Desk_book (List.mem_of_getElem? (i := 65) rfl) (List.mem_of_getElem? (i := 68) rfl) (List.mem_of_getElem? (i := 39) rfl))
  have m2 := mn_marks (P := RW.prog) (w := w) (mg := mg) (base := base) KD (c.atM "Desk" "marks" "Desk.marks" st_Desk_marks (List.mem_of_getElem? (i := 65) rfl) (List.mem_of_getElem? (i := 69) rfl) (List.mem_of_getElem? (i := 40) rfl))
  have m3 := mn_undo (P := RW.prog) (w := w) (base := base) KD XU (c.atM "Desk" "undo" "Desk.undo" st_Desk_undo (List.mem_of_getElem? (i := 65) rfl) (List.mem_of_getElem? (i := 72) rfl) (List.mem_of_getElem? (i := 43) rfl))
  have m4 := mn_redo (P := RW.prog) (w := w) (base := base) KD XR (c.atM "Desk" "redo" "Desk.redo" st_Desk_redo (List.mem_of_getElem? (i := 65) rfl) (List.mem_of_getElem? (i := 73) rfl) (List.mem_of_getElem? (i := 44) rfl))
  have m5 := mb_do KD XD (c.atM "Desk" "do" "Desk.do" st_Desk_do (List.mem_of_getElem? (i := 65) rfl) (List.mem_of_getElem? (i := 71) rfl) (List.mem_of_getElem? (i := 42) rfl)) d14
  have m6 := kb_desk KD XB (c.atK X G "Desk" "Desk.__init__" st_Desk___init__ (List.mem_of_getElem? (i := 42) rfl) (List.mem_of_getElem? (i := 66) rfl) (List.mem_of_getElem? (i := 37) rfl)) d8
  have m7 := mn_eq (P := RW.prog) (w := w) (base := base) T KD KN (c.atM "Desk" "__eq__" "Desk.__eq__" st_Desk___eq__ (List.mem_of_getElem? (i := 65) rfl) (List.mem_of_getElem? (i := 67) rfl) (List.mem_of_getElem? (i := 38) rfl))
  have m8 := mn_copied T KD m6.1 (c.atM "Desk" "copied" "Desk.copied" st_Desk_copied (List.mem_of_getElem? (i := 65) rfl) (List.mem_of_getElem? (i := 74) rfl) (List.mem_of_getElem? (i := 45) rfl))
  have t1 := is_told (P := RW.prog) (w := w) (base := base) TX (c.at X G _ _ (List.mem_of_getElem? (i := 30) rfl) (List.mem_of_getElem? (i := 30) rfl))
  have l16 := dn_moved T (c.lam X G _ _ (List.mem_of_getElem? (i := 31) rfl) (List.mem_of_getElem? (i := 31) rfl) B1) KD TX t1 m3 m4
  have l17 := dn_done T (c.lam X G _ _ (List.mem_of_getElem? (i := 32) rfl) (List.mem_of_getElem? (i := 32) rfl) B2) KD TX t1 l8 l9 m5.1 m5.2
  have l18 := dn_isdesk T KD KN (c.at X G _ _ (List.mem_of_getElem? (i := 33) rfl) (List.mem_of_getElem? (i := 33) rfl)) m1 m2
  have l19 := dn_undone T (c.at X G _ _ (List.mem_of_getElem? (i := 35) rfl) (List.mem_of_getElem? (i := 35) rfl)) l16 l18
  have l20 := dn_equal T KD ⟨ent, enc⟩ eC eO (c.at X G _ _ (List.mem_of_getElem? (i := 34) rfl) (List.mem_of_getElem? (i := 34) rfl)) m7 m2
  exact dn_law T KD ⟨m6.1, m6.2⟩ (c.at X G _ _ (List.mem_of_getElem? (i := 36) rfl) (List.mem_of_getElem? (i := 36) rfl)) l15 l11 l9 l13 l10 l16 l17 l14 l18 l20 l19 m8 m1 m2
/-- where the tables' names stand -/
def tq (K : PySem.W.Frag) : List (Addr × Str) := [(Tb0 K, "with_mark.<locals>.<lambda>"), (Tb1 K, "_law_is_moved.<locals>.<lambda>"), (Tb2 K, "_law_is_done.<locals>.<lambda>")]
theorem tq_at {K : PySem.W.Frag} (nd : (tfL.map fun p => (He.cT K p).2).Nodup) : tqH (tq K) (Tb0 K) = some (.tb "with_mark.<locals>.<lambda>") ∧ tqH (tq K) (Tb1 K) = some (.tb "_law_is_moved.<locals>.<lambda>") ∧ tqH (tq K) (Tb2 K) = some (.tb "_law_is_done.<locals>.<lambda>") := by
  have nd : [Tb0 K, Tb1 K, Tb2 K].Nodup := nd
  simp only [List.nodup_cons, List.mem_cons, List.not_mem_nil, or_false, not_or, List.nodup_nil, and_true, not_false_eq_true] at nd
  obtain ⟨⟨n1, n2⟩, n3⟩ := nd
  have b : ∀ {x y : Addr}, ¬ x = y → (y == x) = false := fun h => by simpa using Ne.symm h
  refine ⟨?_, ?_, ?_⟩ <;> simp only [tqH, tq, List.lookup, beq_self_eq_true, b n1, b n2, b n3, Option.map_some]
theorem lawN_of {fa : Addr} (X : K.In h) (G : h.Ns mainGlobals mg) (c : Says w h K) (hm : mg ("law" : Str) = some (.ref fa)) : LawN PySem.Challenge.rw_tellalike_k69_whole_desks_under_any_deed w K 80 63 "law" "script" mg fa h := by
  refine ⟨tfL.map (He.cT K), tq K, G_law (Tb0 K) (Tb1 K) (Tb2 K), c.nl, fun p m => ?_, fun p m => ?_, fun p m => ?_, hm, fun q m => ?_, fun ns l => ?_, fun base KB GB B => ?_⟩
  · obtain ⟨x, mx, rfl⟩ := List.mem_map.mp m
    exact c.empty x mx
  · obtain ⟨x, mx, rfl⟩ := List.mem_map.mp m
    exact c.out x mx
  · obtain ⟨x, mx, rfl⟩ := List.mem_map.mp m
    exact PySem.W.codeHd_of_K X (c.hd x mx)
  · rw [List.map_map]
    have m : q.1 ∈ (tq K).map (·.1) := List.mem_map_of_mem m
    exact m
  · obtain ⟨t0, t1, t2⟩ := tq_at (ex_of c).nd
    exact ⟨l, t0, t1, t2, fun _ => rfl⟩
  · exact law_of X G c B
end
end T69
open PyProof.Rows PySem PySem.W PySem.Calls
theorem PySem.Challenge.cw_tellalike_k69_whole_desks_under_any_deed_holds : PySem.Challenge.rw_tellalike_k69_whole_desks_under_any_deed.Holds := by
  w_on; o_law
  refine HandSHeadRun.head_any (r := T69.RW) (q := T69.qv) (H := T69.hk) (ob := T69.ob) (M := 6000) (loose := T69.names) (d := HandSHeadRun.topDef T69.RW.prog 56) (kwd := []) T69.ob_eq
    (by kernel_rfl) (fun s => by kernel_rfl) T69.run (by kernel_rfl) (by kernel_rfl) (by kernel_rfl) (by rfl) (by first | assumption | decide +kernel) (by decide +kernel) ⟨rfl, rfl, rfl, rfl, rfl, by decide +kernel⟩ ?hw ?hc
  case hw => w_witness2
  case hc =>
    refine NL.walk_N (l := PySem.Challenge.rw_tellalike_k69_whole_desks_under_any_deed) (n := 63) (k := 80) (nm := "law") (x := "script") rfl (by decide) (by kernel_rfl) ⟨rfl, by decide, by decide⟩ ?F
    intro w mg fa h Y G hmg0
    obtain ⟨K, KX, c⟩ := Y
    have e : (HandSHeadRun.topDef T69.RW.prog 56).name = ("law" : PySem.Str) := by kernel_rfl
    rw [e] at hmg0
    exact ⟨K, KX, T69.lawN_of KX G c hmg0⟩
