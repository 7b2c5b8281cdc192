import PyProof.Rows.All
import Wide.All
import OpenK.AllK
import Wide.FinOn
import HandS.ForMost
import HandS.Deep
import HandS.IsInst
import HandS.Wide
import HandS.WideBits
import HandS.Defaults
import HandS.Flow
import KE.SortData
import KE.DataCmp
import KE.DataFind
import HandS.TupAny
import HandS.Style
import HandS.Set
import HandS.SetFor
import HandS.SetKeys
import KE.GoesMore
import PyProof.SumAny
import HandS.Conv
import PyProof.StrOps2
import PyProof.ListStr
import HandS.Text
import HandS.ListItems
import HandS.More
import KE.KRevSl
import KE.KStateDown
import Lean
import HandS.Base
import HandS.Call
import HandS.Ends
import HandS.Words
import HandS.WordsExc
import HandS.Head0
import HandS.Head1
import HandS.Head2
import HandS.HeadEnd
import HandS.HeadHook1
import HandS.HeadHook2
import HandS.HeadHook3
import HandS.HeadHook4
import PySem.Challenge.RW_everheld_k04_whole_reached_rings_and_way
set_option Elab.async false
set_option linter.all false
set_option maxRecDepth 100000
set_option maxHeartbeats 2000000
namespace Ev
open PySem PySem.Spec PyProof.Rows L2

/-! ### A. data over the abstract heap -/
abbrev ASet := Addr → Prop
def keyD : Key → PyData
  | .inl i => .int i
  | .inr x => .str x
def KL (K : PySem.W.Frag) (a : Addr) (xs : List V) : Prop := ∃ (o : Obj) (its : Array Value) (n : Nat), K.lookup a = some o ∧ o.cls = .type "list" ∧ o.dict = none ∧ o.data = .seq its n ∧ its.size ≤ sizeLine ∧ Vals xs its.toList
def KT (K : PySem.W.Frag) (a : Addr) (xs : List V) : Prop := ∃ (o : Obj) (its : Array Value) (n : Nat), K.lookup a = some o ∧ o.cls = .type "tuple" ∧ o.data = .seq its n ∧ its.size ≤ sizeLine ∧ Vals xs its.toList
mutual
/-- v stands for the datum d; none of its lists, dicts is in W -/
inductive Rp (K : PySem.W.Frag) (H : Hp) (W : ASet) : V → PyData → Prop
  | non : Rp K H W .non .none
  | bl (b : Bool) : Rp K H W (.bl b) (.bool b)
  | int (i : Int) : Rp K H W (.int i) (.int i)
  | str (x : Str) : Rp K H W (.str x) (.str x)
  | lst {a : Addr} {xs : List V} {ds : List PyData} : (Rd H a (.lst xs) ∧ ¬ W a) ∨ KL K a xs → RpA K H W xs ds → Rp K H W (.ref a) (.list ds)
  | tup {a : Addr} {xs : List V} {ds : List PyData} : (Rd H a (.tup xs) ∧ ¬ W a) ∨ KT K a xs → RpA K H W xs ds → Rp K H W (.ref a) (.tuple ds)
  | dct {a : Addr} {ks : List (Key × V)} {kvs : List (PyData × PyData)} : Rd H a (.dK ks) → ¬ W a → RpK K H W ks kvs → Rp K H W (.ref a) (.dict kvs)
inductive RpA (K : PySem.W.Frag) (H : Hp) (W : ASet) : List V → List PyData → Prop
  | nil : RpA K H W [] []
  | cons {v : V} {vs : List V} {d : PyData} {ds : List PyData} : Rp K H W v d → RpA K H W vs ds → RpA K H W (v :: vs) (d :: ds)
inductive RpK (K : PySem.W.Frag) (H : Hp) (W : ASet) : List (Key × V) → List (PyData × PyData) → Prop
  | nil : RpK K H W [] []
  | cons {k : Key} {v : V} {d : PyData} {ks : List (Key × V)} {kvs : List (PyData × PyData)} : Rp K H W v d → RpK K H W ks kvs → RpK K H W ((k, v) :: ks) ((keyD k, d) :: kvs)
end

section
variable {K : PySem.W.Frag} {H H' : Hp} {W W' : ASet}
/-- what stands stays -/
structure Kp (H : Hp) (W : ASet) (H' : Hp) (W' : ASet) : Prop where
  hp : ∀ a o, H a = some o → ¬ W a → H' a = some o
  w : ∀ a o, H a = some o → ¬ W a → ¬ W' a
theorem Kp.rd (k : Kp H W H' W') {a : Addr} {u : HO} (h : Rd H a u) (n : ¬ W a) : Rd H' a u ∧ ¬ W' a := by
  rcases h with h | ⟨o, h⟩
  · exact ⟨.inl (k.hp _ _ h n), k.w _ _ h n⟩
  · exact ⟨.inr ⟨o, k.hp _ _ h n⟩, k.w _ _ h n⟩
mutual
theorem Rp.keep (k : Kp H W H' W') : ∀ {v : V} {d : PyData}, Rp K H W v d → Rp K H' W' v d
  | _, _, .non => .non
  | _, _, .bl b => .bl b
  | _, _, .int i => .int i
  | _, _, .str x => .str x
  | _, _, .lst h r => .lst (h.imp (fun z => k.rd z.1 z.2) id) (RpA.keep k r)
  | _, _, .tup h r => .tup (h.imp (fun z => k.rd z.1 z.2) id) (RpA.keep k r)
  | _, _, .dct h n r => .dct (k.rd h n).1 (k.rd h n).2 (RpK.keep k r)
theorem RpA.keep (k : Kp H W H' W') : ∀ {vs : List V} {ds : List PyData}, RpA K H W vs ds → RpA K H' W' vs ds
  | _, _, .nil => .nil
  | _, _, .cons h r => .cons (Rp.keep k h) (RpA.keep k r)
theorem RpK.keep (k : Kp H W H' W') : ∀ {vs : List (Key × V)} {ds : List (PyData × PyData)}, RpK K H W vs ds → RpK K H' W' vs ds
  | _, _, .nil => .nil
  | _, _, .cons h r => .cons (Rp.keep k h) (RpK.keep k r)
end
theorem Kp.less (h : ∀ a o, H a = some o → ¬ W a → ¬ W' a) : Kp H W H W' := ⟨fun _ _ q _ => q, h⟩
/-- nothing is barred -/
abbrev W0 : ASet := fun _ => False
abbrev Wk (K : PySem.W.Frag) (H : Hp) : V → PyData → Prop := Rp K H W0
theorem Rp.weak {v : V} {d : PyData} (h : Rp K H W v d) : Wk K H v d := h.keep (Kp.less fun _ _ _ _ z => z)
theorem RpA.weak {v : List V} {d : List PyData} (h : RpA K H W v d) : RpA K H W0 v d := h.keep (Kp.less fun _ _ _ _ z => z)
theorem Rp.sqL {a : Addr} {ds : List PyData} (h : Rp K H W (.ref a) (.list ds)) : ∃ xs, SqL K H a xs ∧ RpA K H W xs ds := by
  cases h with
  | lst h r => exact ⟨_, h.imp (fun z => z.1) id, r⟩
theorem Rp.sqT {a : Addr} {ds : List PyData} (h : Rp K H W (.ref a) (.tuple ds)) : ∃ xs, SqT K H a xs ∧ RpA K H W xs ds := by
  cases h with
  | tup h r => exact ⟨_, h.imp (fun z => z.1) id, r⟩
theorem Rp.listI {v : V} {ds : List PyData} (h : Rp K H W v (.list ds)) : ∃ a xs, v = .ref a ∧ SqL K H a xs ∧ RpA K H W xs ds := by
  cases h with
  | lst h r => exact ⟨_, _, rfl, h.imp (fun z => z.1) id, r⟩
theorem Rp.tupI {v : V} {ds : List PyData} (h : Rp K H W v (.tuple ds)) : ∃ a xs, v = .ref a ∧ SqT K H a xs ∧ RpA K H W xs ds := by
  cases h with
  | tup h r => exact ⟨_, _, rfl, h.imp (fun z => z.1) id, r⟩
theorem Rp.intI {v : V} {i : Int} (h : Rp K H W v (.int i)) : v = .int i := by cases h; rfl
theorem Rp.strI {v : V} {x : Str} (h : Rp K H W v (.str x)) : v = .str x := by cases h; rfl
theorem Rp.blI {v : V} {b : Bool} (h : Rp K H W v (.bool b)) : v = .bl b := by cases h; rfl
theorem Rp.nonI {v : V} (h : Rp K H W v .none) : v = .non := by cases h; rfl
theorem RpA.length : ∀ {vs : List V} {ds : List PyData}, RpA K H W vs ds → vs.length = ds.length
  | _, _, .nil => rfl
  | _, _, .cons _ r => congrArg (· + 1) (RpA.length r)
theorem RpA.get : ∀ {vs : List V} {ds : List PyData} {i : Nat} {d : PyData}, RpA K H W vs ds → ds[i]? = some d → ∃ v, vs[i]? = some v ∧ Rp K H W v d
  | _, _, _, _, .nil, e => by simp at e
  | _, _, 0, _, .cons h _, e => by simp at e; subst e; exact ⟨_, rfl, h⟩
  | _, _, i + 1, _, .cons _ r, e => by
    obtain ⟨v, h1, h2⟩ := RpA.get (i := i) r (by simpa using e)
    exact ⟨v, by simpa using h1, h2⟩
theorem RpA.getV : ∀ {vs : List V} {ds : List PyData} {i : Nat} {v : V}, RpA K H W vs ds → vs[i]? = some v → ∃ d, ds[i]? = some d ∧ Rp K H W v d
  | _, _, _, _, .nil, e => by simp at e
  | _, _, 0, _, .cons h _, e => by simp at e; subst e; exact ⟨_, rfl, h⟩
  | _, _, i + 1, _, .cons _ r, e => by
    obtain ⟨d, h1, h2⟩ := RpA.getV (i := i) r (by simpa using e)
    exact ⟨d, by simpa using h1, h2⟩
theorem RpA.append : ∀ {vs ws : List V} {ds es : List PyData}, RpA K H W vs ds → RpA K H W ws es → RpA K H W (vs ++ ws) (ds ++ es)
  | _, _, _, _, .nil, s => s
  | _, _, _, _, .cons h r, s => .cons h (RpA.append r s)
theorem RpA.take : ∀ {vs : List V} {ds : List PyData} (n : Nat), RpA K H W vs ds → RpA K H W (vs.take n) (ds.take n)
  | _, _, 0, _ => .nil
  | _, _, _ + 1, .nil => .nil
  | _, _, n + 1, .cons h r => .cons h (RpA.take n r)
theorem RpA.drop : ∀ {vs : List V} {ds : List PyData} (n : Nat), RpA K H W vs ds → RpA K H W (vs.drop n) (ds.drop n)
  | _, _, 0, r => r
  | _, _, _ + 1, .nil => .nil
  | _, _, n + 1, .cons _ r => RpA.drop n r
theorem RpA.reverse : ∀ {vs : List V} {ds : List PyData}, RpA K H W vs ds → RpA K H W vs.reverse ds.reverse
  | _, _, .nil => .nil
  | _, _, .cons h r => by
    rw [List.reverse_cons, List.reverse_cons]
    exact (RpA.reverse r).append (.cons h .nil)
theorem RpA.set {v : V} {d : PyData} (h : Rp K H W v d) : ∀ {vs : List V} {ds : List PyData} (i : Nat), RpA K H W vs ds → RpA K H W (vs.set i v) (ds.set i d)
  | _, _, _, .nil => .nil
  | _, _, 0, .cons _ r => .cons h r
  | _, _, i + 1, .cons q r => .cons q (RpA.set h i r)
theorem RpA.of_split : ∀ {vs ws : List V} {es : List PyData}, RpA K H W (vs ++ ws) es → ∃ ds fs, es = ds ++ fs ∧ RpA K H W vs ds ∧ RpA K H W ws fs
  | [], _, _, h => ⟨[], _, rfl, .nil, h⟩
  | _ :: _, _, _, .cons h r => by
    obtain ⟨ds, fs, e, h1, h2⟩ := RpA.of_split r
    exact ⟨_ :: ds, fs, by rw [e]; rfl, .cons h h1, h2⟩
mutual
theorem Rp.dp : ∀ {v : V} {d : PyData}, Rp K H W v d → d.canLay0 = true → Dp K H v d
  | _, _, .non, _ => .non
  | _, _, .bl b, _ => .bl b
  | _, _, .int i, _ => .int i
  | _, _, .str x, _ => .str x
  | _, _, .lst h r, c => .lst (h.imp (fun z => z.1) id) (RpA.dp r (by simpa [PyData.canLay0] using c))
  | _, _, .tup h r, c => .tup (h.imp (fun z => z.1) id) (RpA.dp r (by simpa [PyData.canLay0] using c))
  | _, _, .dct _ _ _, c => by simp [PyData.canLay0] at c
theorem RpA.dp : ∀ {vs : List V} {ds : List PyData}, RpA K H W vs ds → PyData.canLayAll0 ds = true → DpAll K H vs ds
  | _, _, .nil, _ => .nil
  | _, _, .cons h r, c => by
    simp only [PyData.canLayAll0, Bool.and_eq_true] at c
    exact .cons (Rp.dp h c.1) (RpA.dp r c.2)
end
end

/-! ### B. owned trees -/
inductive OT where
  | sh | ls (t : OT) | dc
  deriving DecidableEq
def OwnL (P : V → PyData → ASet → Prop) : List V → List PyData → ASet → Prop
  | [], [], G => ∀ b, ¬ G b
  | v :: vs, d :: ds, G => ∃ F G', (∀ b, G b ↔ F b ∨ G' b) ∧ (∀ b, F b → ¬ G' b) ∧ P v d F ∧ OwnL P vs ds G'
  | _, _, _ => False
def Own (K : PySem.W.Frag) (H : Hp) (W : ASet) : OT → V → PyData → ASet → Prop
  | .sh, v, d, F => Rp K H W v d ∧ ∀ b, ¬ F b
  | .ls t, v, d, F => ∃ a xs ds G, v = .ref a ∧ d = .list ds ∧ H a = some (.lst xs) ∧ (∀ b, F b ↔ b = a ∨ G b) ∧ ¬ G a ∧ OwnL (Own K H W t) xs ds G
  | .dc, v, d, F => ∃ a ks kvs, v = .ref a ∧ d = .dict kvs ∧ H a = some (.dK ks) ∧ (∀ b, F b ↔ b = a) ∧ RpK K H W ks kvs
section
variable {K : PySem.W.Frag} {H H' : Hp} {W W' : ASet} {P P' : V → PyData → ASet → Prop}
theorem OwnL.imp : ∀ {vs : List V} {ds : List PyData} {G : ASet}, (∀ v d F, (∀ a, F a → G a) → P v d F → P' v d F) → OwnL P vs ds G → OwnL P' vs ds G
  | [], [], _, _, h => h
  | v :: vs, d :: ds, G, hi, h => by
    obtain ⟨F, G', e, dj, p, r⟩ := h
    exact ⟨F, G', e, dj, hi _ _ _ (fun a x => (e a).mpr (.inl x)) p, OwnL.imp (fun v d F' s => hi v d F' fun a x => (e a).mpr (.inr (s a x))) r⟩
  | [], _ :: _, _, _, h => h.elim
  | _ :: _, [], _, _, h => h.elim
theorem OwnL.any {T : Addr → Prop} : ∀ {vs : List V} {ds : List PyData} {G : ASet}, (∀ v d F, P v d F → ∀ a, F a → T a) → OwnL P vs ds G → ∀ a, G a → T a
  | [], [], _, _, h, a, x => (h a x).elim
  | v :: vs, d :: ds, G, hi, h, a, x => by
    obtain ⟨F, G', e, dj, p, r⟩ := h
    rcases (e a).mp x with y | y
    · exact hi _ _ _ p a y
    · exact OwnL.any hi r a y
  | [], _ :: _, _, _, h, _, _ => h.elim
  | _ :: _, [], _, _, h, _, _ => h.elim
theorem OwnL.rpa : ∀ {vs : List V} {ds : List PyData} {G : ASet}, (∀ v d F, (∀ a, F a → G a) → P v d F → Rp K H W v d) → OwnL P vs ds G → RpA K H W vs ds
  | [], [], _, _, _ => .nil
  | v :: vs, d :: ds, G, hi, h => by
    obtain ⟨F, G', e, dj, p, r⟩ := h
    exact .cons (hi _ _ _ (fun a x => (e a).mpr (.inl x)) p) (OwnL.rpa (fun v d F' s => hi v d F' fun a x => (e a).mpr (.inr (s a x))) r)
  | [], _ :: _, _, _, h => h.elim
  | _ :: _, [], _, _, h => h.elim
theorem Own.tracked : ∀ {t : OT} {v : V} {d : PyData} {F : ASet}, Own K H W t v d F → ∀ a, F a → ∃ o, H a = some o
  | .sh, _, _, _, h, a, x => (h.2 a x).elim
  | .ls t, _, _, _, h, a, x => by
    obtain ⟨b, xs, ds, G, rfl, rfl, hb, e, n, r⟩ := h
    rcases (e a).mp x with rfl | y
    · exact ⟨_, hb⟩
    · exact r.any (T := fun a => ∃ o, H a = some o) (fun v d F p a x => Own.tracked (t := t) p a x) a y
  | .dc, _, _, _, h, a, x => by
    obtain ⟨b, ks, kvs, rfl, rfl, hb, e, _⟩ := h
    obtain rfl := (e a).mp x
    exact ⟨_, hb⟩
theorem Own.keep (k : Kp H W H' W') : ∀ {t : OT} {v : V} {d : PyData} {F : ASet}, (∀ a o, F a → H a = some o → H' a = some o) → Own K H W t v d F → Own K H' W' t v d F
  | .sh, _, _, _, _, h => ⟨h.1.keep k, h.2⟩
  | .ls t, _, _, _, hF, h => by
    obtain ⟨b, xs, ds, G, rfl, rfl, hb, e, n, r⟩ := h
    exact ⟨b, xs, ds, G, rfl, rfl, hF _ _ ((e b).mpr (.inl rfl)) hb, e, n, r.imp fun v d F s p => Own.keep k (fun a o x => hF a o ((e a).mpr (.inr (s a x)))) p⟩
  | .dc, _, _, _, hF, h => by
    obtain ⟨b, ks, kvs, rfl, rfl, hb, e, r⟩ := h
    exact ⟨b, ks, kvs, rfl, rfl, hF _ _ ((e b).mpr rfl) hb, e, r.keep k⟩
/-- an owned tree is given away: it is a datum -/
theorem Own.rp (hw : ∀ a o, H a = some o → ¬ W a → ¬ W' a) : ∀ {t : OT} {v : V} {d : PyData} {F : ASet}, (∀ a, F a → ¬ W' a) → Own K H W t v d F → Rp K H W' v d
  | .sh, _, _, _, _, h => h.1.keep (Kp.less hw)
  | .ls t, _, _, _, hF, h => by
    obtain ⟨b, xs, ds, G, rfl, rfl, hb, e, n, r⟩ := h
    exact .lst (.inl ⟨.inl hb, hF _ ((e b).mpr (.inl rfl))⟩) (r.rpa fun v d F s p => Own.rp hw (fun a x => hF a ((e a).mpr (.inr (s a x)))) p)
  | .dc, _, _, _, hF, h => by
    obtain ⟨b, ks, kvs, rfl, rfl, hb, e, r⟩ := h
    exact .dct (.inl hb) (hF _ ((e b).mpr rfl)) (r.keep (Kp.less hw))
theorem Own.weak {t : OT} {v : V} {d : PyData} {F : ASet} (h : Own K H W t v d F) : Wk K H v d := h.rp (fun _ _ _ _ z => z) fun _ _ z => z
theorem Own.ext {F G : ASet} (e : ∀ a, F a ↔ G a) {t : OT} {v : V} {d : PyData} (h : Own K H W t v d F) : Own K H W t v d G := by
  have q : F = G := funext fun a => propext (e a)
  rw [← q]; exact h
theorem OwnL.length : ∀ {vs : List V} {ds : List PyData} {G : ASet}, OwnL P vs ds G → vs.length = ds.length
  | [], [], _, _ => rfl
  | v :: vs, d :: ds, G, h => by
    obtain ⟨F, G', e, dj, p, r⟩ := h
    exact congrArg (· + 1) (OwnL.length r)
  | [], _ :: _, _, h => h.elim
  | _ :: _, [], _, h => h.elim
theorem OwnL.of_rpa : ∀ {vs : List V} {ds : List PyData} {G : ASet}, RpA K H W vs ds → (∀ b, ¬ G b) → OwnL (Own K H W .sh) vs ds G
  | _, _, _, .nil, g => g
  | _, _, G, .cons h r, g => ⟨fun _ => False, G, fun b => ⟨fun x => (g b x).elim, fun x => x.elim (fun z => z.elim) id⟩, fun _ z => z.elim, ⟨h, fun _ z => z⟩, OwnL.of_rpa r g⟩
theorem OwnL.sh_rpa : ∀ {vs : List V} {ds : List PyData} {G : ASet}, OwnL (Own K H W .sh) vs ds G → RpA K H W vs ds ∧ ∀ b, ¬ G b
  | [], [], _, g => ⟨.nil, g⟩
  | v :: vs, d :: ds, G, h => by
    obtain ⟨F, G', e, dj, p, r⟩ := h
    obtain ⟨r1, r2⟩ := OwnL.sh_rpa r
    exact ⟨.cons p.1 r1, fun b x => ((e b).mp x).elim (p.2 b) (r2 b)⟩
  | [], _ :: _, _, h => h.elim
  | _ :: _, [], _, h => h.elim
theorem OwnL.snoc {v : V} {d : PyData} {F : ASet} : ∀ {vs : List V} {ds : List PyData} {G : ASet}, OwnL P vs ds G → P v d F → (∀ b, F b → ¬ G b) → OwnL P (vs ++ [v]) (ds ++ [d]) (fun b => G b ∨ F b)
  | [], [], G, h, p, dj => ⟨F, fun _ => False, fun b => ⟨fun z => z.elim (fun y => (h b y).elim) .inl, fun z => z.elim .inr (fun y => y.elim)⟩, fun _ _ z => z, p, fun _ z => z⟩
  | v' :: vs, d' :: ds, G, h, p, dj => by
    obtain ⟨F', G', e, dj', p', r⟩ := h
    refine ⟨F', fun b => G' b ∨ F b, fun b => ?_, fun b x y => ?_, p', OwnL.snoc r p fun b x y => dj b x ((e b).mpr (.inr y))⟩
    · show G b ∨ F b ↔ F' b ∨ (G' b ∨ F b)
      rw [e b]; exact or_assoc
    · rcases y with y | y
      · exact dj' b x y
      · exact dj b y ((e b).mpr (.inl x))
  | [], _ :: _, _, h, _, _ => h.elim
  | _ :: _, [], _, h, _, _ => h.elim
end
end Ev

set_option Elab.async false
set_option linter.all false
set_option maxRecDepth 100000
set_option maxHeartbeats 2000000
namespace Ev
open PySem PySem.Spec PyProof.Rows L2

/-! ### C. the state of a def's run: slots, what they own -/
abbrev Env := List (Option PyData)
abbrev M (α : Type) := Env → Option (α × Env)
def Un2 (A B : ASet) : ASet := fun a => A a ∨ B a
def WF (Wo : ASet) (F : Nat → ASet) : ASet := fun a => Wo a ∨ ∃ i, F i a
abbrev Z0 : ASet := fun _ => False
theorem un2_z (A : ASet) : Un2 A Z0 = A := funext fun a => propext ⟨fun h => h.elim id fun z => z.elim, .inl⟩
theorem un2_assoc (A B C : ASet) : Un2 (Un2 A B) C = Un2 A (Un2 B C) := funext fun a => propext or_assoc
theorem wf_un (Wo G : ASet) (F : Nat → ASet) : WF (Un2 Wo G) F = Un2 (WF Wo F) G := funext fun a => propext
  ⟨fun h => h.elim (fun h => h.elim (fun h => .inl (.inl h)) .inr) fun h => .inl (.inr h), fun h => h.elim (fun h => h.elim (fun h => .inl (.inl h)) .inr) fun h => .inl (.inr h)⟩
structure Slots (K : PySem.W.Frag) (H : Hp) (Wo : ASet) (τ : List OT) (σ : L2.St) (env : Env) (F : Nat → ASet) : Prop where
  len : σ.length = env.length
  tl : τ.length = env.length
  wo : ∀ a, Wo a → (∃ o, H a = some o) ∧ ∀ i, ¬ F i a
  disj : ∀ i j a, F i a → F j a → i = j
  slot : ∀ i d, env[i]? = some (some d) → ∃ v, σ[i]? = some (some v) ∧ Own K H (WF Wo F) (τ.getD i .sh) v d (F i)
  void : ∀ i, (∀ d, env[i]? ≠ some (some d)) → ∀ a, ¬ F i a
/-- what stood stands: all of it, or all but what the slots own -/
def Kq (p : Bool) (F : Nat → ASet) (H H' : Hp) : Prop := ∀ a o, H a = some o → (p = false → ∀ i, ¬ F i a) → H' a = some o
abbrev Sm (H H' : Hp) : Prop := ∀ a o, H a = some o → H' a = some o
/-- may be read: its items are data -/
inductive Rq (K : PySem.W.Frag) (H : Hp) (W : ASet) : V → PyData → Prop
  | rp {v : V} {d : PyData} : Rp K H W v d → Rq K H W v d
  | ls {a : Addr} {xs : List V} {ds : List PyData} : H a = some (.lst xs) → RpA K H W xs ds → Rq K H W (.ref a) (.list ds)
  | dc {a : Addr} {ks : List (Key × V)} {kvs : List (PyData × PyData)} : H a = some (.dK ks) → RpK K H W ks kvs → Rq K H W (.ref a) (.dict kvs)
inductive Md where
  | ow (t : OT) | sk
  deriving DecidableEq
def Nw (G : ASet) (H₀ : Hp) : Prop := ∀ a, G a → H₀ a = none
def MdP (K : PySem.W.Frag) (H : Hp) (W G : ASet) : Md → V → PyData → Prop
  | .ow t, v, d => Own K H W t v d G
  | .sk, v, d => (∀ a, ¬ G a) ∧ Rq K H W v d
/-- ty ≤ : what is owned may be read as it is -/
def Md.stab (m : Md) (p : Bool) : Bool := p || (match m with | .sk => false | .ow _ => true)

section
variable {K : PySem.W.Frag} {H H₀ H1 H2 H' : Hp} {Wo G G1 G2 : ASet} {τ : List OT} {σ : L2.St} {env e1 e2 : Env} {F : Nat → ASet} {v : V} {d : PyData} {p q : Bool} {m : Md}
theorem Slots.tracked (S : Slots K H Wo τ σ env F) {a : Addr} (h : WF Wo F a) : ∃ o, H a = some o := by
  rcases h with h | ⟨i, h⟩
  · exact (S.wo a h).1
  · by_cases hd : ∃ d, env[i]? = some (some d)
    · obtain ⟨d, hd⟩ := hd
      obtain ⟨v, _, ow⟩ := S.slot i d hd
      exact ow.tracked a h
    · exact (S.void i (fun d e => hd ⟨d, e⟩) a h).elim
theorem Kq.refl : Kq p F H H := fun _ _ h _ => h
theorem Kq.trans (a : Kq p F H H1) (b : Kq q F H1 H2) : Kq (p && q) F H H2 := fun c o h n => by
  refine b c o (a c o h fun e => n (by rw [e]; rfl)) fun e => n (by rw [e]; simp)
theorem Kq.sm (h : Sm H H') : Kq p F H H' := fun a o e _ => h a o e
theorem Kq.tt (h : Kq true F H H') : Sm H H' := fun a o e => h a o e (by simp)
theorem Kq.weaken (h : Kq p F H H') : Kq false F H H' := fun a o e n => h a o e fun _ => n rfl
theorem Kq.then (a : Kq p F H H1) (b : Sm H1 H2) : Kq p F H H2 := fun c o h n => b c o (a c o h n)
theorem Kq.and_l (h : Kq p F H H') : Kq (p && q) F H H' := by
  cases p with
  | true => exact Kq.sm h.tt
  | false => exact h
theorem Kq.and_r (h : Kq q F H H') : Kq (p && q) F H H' := by rw [Bool.and_comm]; exact h.and_l
theorem Kq.kp (h : Kq p F H H') : Kp H (WF Wo F) H' (WF Wo F) := ⟨fun a o e n => h a o e fun _ i x => n (.inr ⟨i, x⟩), fun _ _ _ n => n⟩
/-- with new things barred -/
theorem Kq.kpG (h : Kq p F H H') (g : Nw G H) : Kp H (WF Wo F) H' (WF (Un2 Wo G) F) := ⟨fun a o e n => h a o e fun _ i x => n (.inr ⟨i, x⟩), fun a o e n x => by
  rw [wf_un] at x
  rcases x with x | x
  · exact n x
  · rw [g a x] at e; cases e⟩
/-- less is barred -/
theorem Slots.less (S : Slots K H (Un2 Wo G) τ σ env F) : Slots K H Wo τ σ env F :=
  ⟨S.len, S.tl, fun a x => S.wo a (.inl x), S.disj, fun i d e => by
    obtain ⟨v, h1, h2⟩ := S.slot i d e
    exact ⟨v, h1, h2.keep (Kp.less fun a o _ n x => n (by rw [wf_un]; exact .inl x)) fun _ _ _ e => e⟩, S.void⟩
/-- the heap grows, new things are barred -/
theorem Slots.grow (S : Slots K H Wo τ σ env F) (h : Sm H H') (g : Nw G H) (gt : ∀ a, G a → ∃ o, H' a = some o) : Slots K H' (Un2 Wo G) τ σ env F :=
  ⟨S.len, S.tl, fun a x => by
    rcases x with x | x
    · exact ⟨(S.wo a x).1.imp fun o e => h a o e, (S.wo a x).2⟩
    · refine ⟨gt a x, fun i y => ?_⟩
      obtain ⟨o, e⟩ := S.tracked (.inr ⟨i, y⟩)
      rw [g a x] at e; (cases e), S.disj, fun i d e => by
    obtain ⟨v, h1, h2⟩ := S.slot i d e
    exact ⟨v, h1, h2.keep ((Kq.sm (p := true) (F := F) h).kpG g) fun a o _ e => h a o e⟩, S.void⟩
theorem Slots.same (S : Slots K H Wo τ σ env F) (h : Sm H H') : Slots K H' Wo τ σ env F := by
  have := S.grow (G := Z0) h (fun _ z => z.elim) fun _ z => z.elim
  rwa [un2_z] at this
/-- a thing that is new behind was new ahead -/
theorem Slots.newBack (S2 : Slots K H2 Wo τ σ env F) (k : Kq p F H H2) {a : Addr} (h : H2 a = none) : H a = none := by
  cases e : H a with
  | none => rfl
  | some o =>
    by_cases hF : ∃ i, F i a
    · obtain ⟨o', e'⟩ := S2.tracked (.inr hF)
      rw [h] at e'; cases e'
    · have := k a o e fun _ i x => hF ⟨i, x⟩
      rw [h] at this; cases this
theorem Slots.nwBack (S2 : Slots K H2 Wo τ σ env F) (k : Kq p F H H2) (g : Nw G H2) : Nw G H := fun a x => S2.newBack k (g a x)
/-- a result is a datum -/
theorem Own.rpW {t : OT} (S₀ : Slots K H₀ Wo τ σ env F) (g : Nw G H₀) (h : Own K H (WF (Un2 Wo G) F) t v d G) : Rp K H (WF Wo F) v d :=
  h.rp (fun a o _ n x => n (by rw [wf_un]; exact .inl x)) fun a x w => by
    obtain ⟨o, e⟩ := S₀.tracked w
    rw [g a x] at e; cases e
theorem Rq.less {W W' : ASet} (h : ∀ a, W' a → W a) (r : Rq K H W v d) : Rq K H W' v d := by
  have k : Kp H W H W' := Kp.less fun a o _ n x => n (h a x)
  cases r with
  | rp r => exact .rp (r.keep k)
  | ls e r => exact .ls e (r.keep k)
  | dc e r => exact .dc e (r.keep k)
theorem Rq.same {W : ASet} (h : Sm H H') (r : Rq K H W v d) : Rq K H' W v d := by
  have k : Kp H W H' W := ⟨fun a o e _ => h a o e, fun _ _ _ n => n⟩
  cases r with
  | rp r => exact .rp (r.keep k)
  | ls e r => exact .ls (h _ _ e) (r.keep k)
  | dc e r => exact .dc (h _ _ e) (r.keep k)
/-- read ahead of new things, it holds none of them -/
theorem Rq.grow {W : ASet} (h : Sm H H') (g : Nw G H) (r : Rq K H W v d) : Rq K H' (Un2 W G) v d := by
  have k : Kp H W H' (Un2 W G) := ⟨fun a o e _ => h a o e, fun a o e n x => x.elim n fun x => by rw [g a x] at e; cases e⟩
  cases r with
  | rp r => exact .rp (r.keep k)
  | ls e r => exact .ls (h _ _ e) (r.keep k)
  | dc e r => exact .dc (h _ _ e) (r.keep k)
theorem MdP.rq (S₀ : Slots K H₀ Wo τ σ env F) (g : Nw G H₀) (h : MdP K H (WF (Un2 Wo G) F) G m v d) : Rq K H (WF Wo F) v d := by
  cases m with
  | sk => exact h.2.less fun a x => by rw [wf_un]; exact .inl x
  | ow t => exact .rp (Own.rpW S₀ g h)
/-- an operand is still there when the next one has been reckoned -/
theorem MdP.stay (S₀ : Slots K H₀ Wo τ σ env F) (g : Nw G H₀) (h : MdP K H1 (WF (Un2 Wo G) F) G m v d) (k : Kq p F H1 H2) (hs : m.stab p = true) : Rq K H2 (WF Wo F) v d := by
  cases p with
  | true => exact (h.rq S₀ g).same k.tt
  | false =>
    cases m with
    | sk => cases hs
    | ow t => exact .rp ((Own.rpW S₀ g h).keep k.kp)
theorem Own.stay {t : OT} (ow : Own K H1 (WF (Un2 Wo G) F) t v d G) (S1 : Slots K H1 (Un2 Wo G) τ σ env F) (k : Kq p F H1 H2) (g2 : Nw G2 H1) : Own K H2 (WF (Un2 (Un2 Wo G) G2) F) t v d G :=
  ow.keep (k.kpG g2) fun a o x e => k a o e fun _ i y => (S1.wo a (.inr x)).2 i y
theorem Rq.listI {W : ASet} {ds : List PyData} (r : Rq K H W v (.list ds)) : ∃ a xs, v = .ref a ∧ SqL K H a xs ∧ RpA K H W xs ds := by
  cases r with
  | rp r => exact r.listI
  | ls e r => exact ⟨_, _, rfl, .inl (.inl e), r⟩
theorem Rq.tupI {W : ASet} {ds : List PyData} (r : Rq K H W v (.tuple ds)) : ∃ a xs, v = .ref a ∧ SqT K H a xs ∧ RpA K H W xs ds := by
  cases r with
  | rp r => exact r.tupI
theorem Rq.dictI {W : ASet} {ds : List (PyData × PyData)} (r : Rq K H W v (.dict ds)) : ∃ a ks, v = .ref a ∧ Rd H a (.dK ks) ∧ RpK K H W ks ds := by
  cases r with
  | rp r => cases r with
    | dct e n r => exact ⟨_, _, rfl, e, r⟩
  | dc e r => exact ⟨_, _, rfl, .inl e, r⟩
theorem Rq.intI {W : ASet} {i : Int} (h : Rq K H W v (.int i)) : v = .int i := by cases h with | rp h => exact h.intI
theorem Rq.strI {W : ASet} {x : Str} (h : Rq K H W v (.str x)) : v = .str x := by cases h with | rp h => exact h.strI
theorem Rq.blI {W : ASet} {b : Bool} (h : Rq K H W v (.bool b)) : v = .bl b := by cases h with | rp h => exact h.blI
theorem Rq.nonI {W : ASet} (h : Rq K H W v .none) : v = .non := by cases h with | rp h => exact h.nonI
theorem Rq.weak {W : ASet} (r : Rq K H W v d) : Wk K H v d := by
  cases r with
  | rp r => exact r.weak
  | ls e r => exact .lst (.inl ⟨.inl e, fun z => z⟩) r.weak
  | dc e r => exact .dct (.inl e) (fun z => z) (r.keep (Kp.less fun _ _ _ _ z => z))
theorem MdP.bool {W : ASet} {x : Bool} (h : MdP K H W G m v (.bool x)) : v = .bl x := by
  cases m with
  | sk => exact Rq.blI h.2
  | ow t =>
    cases t with
    | sh => exact Rp.blI h.1
    | ls t => obtain ⟨_, _, _, _, _, q, _⟩ := h; cases q
    | dc => obtain ⟨_, _, _, _, q, _⟩ := h; cases q
theorem Own.shZ {W : ASet} (r : Rp K H W v d) : Own K H W .sh v d Z0 := ⟨r, fun _ z => z⟩
theorem Nw.z : Nw Z0 H := fun _ z => z.elim
end

/-! ### D. judgements: an expression and what it reckons -/
def rdM (K : PySem.W.Frag) (τ : List OT) (p : Bool) (m : Md) (f : M PyData) : TE := fun σ H Q =>
  ∃ Wo F env d env', Slots K H Wo τ σ env F ∧ f env = some (d, env') ∧ ∀ v H' G, Slots K H' (Un2 Wo G) τ σ env' F → Kq p F H H' → MdP K H' (WF (Un2 Wo G) F) G m v d → Nw G H → Q v H'
def rdT (K : PySem.W.Frag) (τ : List OT) (p : Bool) (f : M Bool) : TT := fun σ H Q =>
  ∃ Wo F env d env', Slots K H Wo τ σ env F ∧ f env = some (d, env') ∧ ∀ H', Slots K H' Wo τ σ env' F → Kq p F H H' → Q d H'
def EvM (X : Cx) (τ : List OT) (p : Bool) (m : Md) (e : Expr) (f : M PyData) : Prop := PE X e (rdM X.K τ p m f)
def EvT (X : Cx) (τ : List OT) (p : Bool) (e : Expr) (f : M Bool) : Prop := PT X e (rdT X.K τ p f)
theorem PE.imp {X : Cx} {e : Expr} {t t' : TE} (h : PE X e t) (i : ∀ σ H Q, t' σ H Q → t σ H Q) : PE X e t' := ⟨fun pins s σ H Q I q => h.run pins s σ H Q I (i _ _ _ q)⟩
theorem PT.imp {X : Cx} {e : Expr} {t t' : TT} (h : PT X e t) (i : ∀ σ H Q, t' σ H Q → t σ H Q) : PT X e t' := ⟨fun pins s σ H Q I q => h.run pins s σ H Q I (i _ _ _ q)⟩

section
variable {X : Cx} {τ : List OT} {p q : Bool} {m m2 : Md} {e a b : Expr} {f fa fb : M PyData} {pos : Pos}
theorem ev_bad : EvM X τ p m e (fun _ => none) := ⟨fun _ _ _ _ _ _ ⟨_, _, _, _, _, _, h, _⟩ => nomatch h⟩
theorem evT_bad : EvT X τ p e (fun _ => none) := ⟨fun _ _ _ _ _ _ ⟨_, _, _, _, _, _, h, _⟩ => nomatch h⟩
/-- the end of a step that gives a datum and leaves the heap -/
theorem fin_sh {K : PySem.W.Frag} {H H' : Hp} {Wo : ASet} {F : Nat → ASet} {σ : L2.St} {env' : Env} {d : PyData} {v : V} {Q : VK}
    (k : ∀ v H' G, Slots K H' (Un2 Wo G) τ σ env' F → Kq p F H H' → MdP K H' (WF (Un2 Wo G) F) G (.ow .sh) v d → Nw G H → Q v H') (S : Slots K H' Wo τ σ env' F) (kq : Kq p F H H') (r : Rp K H' (WF Wo F) v d) : Q v H' :=
  k v H' Z0 (by rw [un2_z]; exact S) kq (by rw [un2_z]; exact Own.shZ r) Nw.z
/-- a constant, a module's constant: one value for ever -/
theorem ev_const {t : TE} {d : PyData} (h : PE X e t) (ht : ∀ σ H Q, (∀ v, (∀ W, Rp X.K H W v d) → Q v H) → t σ H Q) : EvM X τ true (.ow .sh) e (fun env => some (d, env)) := by
  refine PE.imp h fun σ H Q hq => ?_
  obtain ⟨Wo, F, env, d', env', S, hf, k⟩ := hq
  cases hf
  exact ht _ _ _ fun v r => fin_sh k S Kq.refl (r _)
def varF (i : Nat) : M PyData := fun env => ((env[i]?).bind id).map fun d => (d, env)
theorem varF_some {i : Nat} {env env' : Env} {d : PyData} (h : varF i env = some (d, env')) : env[i]? = some (some d) ∧ env' = env := by
  unfold varF at h
  cases e : env[i]? with
  | none => rw [e] at h; cases h
  | some o =>
    cases o with
    | none => rw [e] at h; cases h
    | some d' =>
      rw [e] at h
      cases h
      exact ⟨rfl, rfl⟩
/-- a name -/
theorem ev_var {i : Nat} {x : Str} (hN : X.N[i]? = some x) (hv : Vis X.env.scope x) (ht : τ.getD i .sh = .sh) (hd : (x == ("__debug__" : Str)) = false) (hcd : (x == ("__classdict__" : Str)) = false) :
    EvM X τ true (.ow .sh) (.Name x pos) (varF i) := by
  refine PE.imp (pe_var hN hv hd hcd) fun σ H Q hq => ?_
  obtain ⟨Wo, F, env, d, env', S, hf, k⟩ := hq
  obtain ⟨e, rfl⟩ := varF_some hf
  obtain ⟨v, h1, h2⟩ := S.slot i d e
  rw [ht] at h2
  exact ⟨v, h1, fin_sh k S Kq.refl h2.1⟩
/-- a name whose slot owns a list, a dict: to be read -/
theorem ev_own {i : Nat} {x : Str} (hN : X.N[i]? = some x) (hv : Vis X.env.scope x) (ht : τ.getD i .sh = .ls .sh ∨ τ.getD i .sh = .dc) (hd : (x == ("__debug__" : Str)) = false) (hcd : (x == ("__classdict__" : Str)) = false) :
    EvM X τ true .sk (.Name x pos) (varF i) := by
  refine PE.imp (pe_var hN hv hd hcd) fun σ H Q hq => ?_
  obtain ⟨Wo, F, env, d, env', S, hf, k⟩ := hq
  obtain ⟨e, rfl⟩ := varF_some hf
  obtain ⟨v, h1, h2⟩ := S.slot i d e
  refine ⟨v, h1, k v H Z0 (by rw [un2_z]; exact S) Kq.refl ⟨fun _ z => z, ?_⟩ Nw.z⟩
  rw [un2_z]
  rcases ht with ht | ht
  · rw [ht] at h2
    obtain ⟨a, xs, ds, G, rfl, rfl, ha, _, _, r⟩ := h2
    exact .ls ha r.sh_rpa.1
  · rw [ht] at h2
    obtain ⟨a, ks, kvs, rfl, rfl, ha, _, r⟩ := h2
    exact .dc ha r
theorem EvM.toSh {t : OT} (h : EvM X τ p (.ow t) e f) : EvM X τ p (.ow .sh) e f := PE.imp h fun σ H Q ⟨Wo, F, env, d, env', S, hf, k⟩ =>
  ⟨Wo, F, env, d, env', S, hf, fun v H' G S' kq md g => fin_sh k S'.less kq (Own.rpW S g md)⟩
theorem EvM.pure (h : EvM X τ p m e f) : EvM X τ false m e f := PE.imp h fun σ H Q ⟨Wo, F, env, d, env', S, hf, k⟩ => ⟨Wo, F, env, d, env', S, hf, fun v H' G S' kq md g => k v H' G S' kq.weaken md g⟩

def bind2 {α : Type} (fa fb : M PyData) (g : PyData → PyData → Option α) : M α := fun env =>
  (fa env).bind fun x => (fb x.2).bind fun y => (g x.1 y.1).map fun d => (d, y.2)
theorem bind2_some {α : Type} {fa fb : M PyData} {g : PyData → PyData → Option α} {env : Env} {d : α} {env' : Env} (h : bind2 fa fb g env = some (d, env')) :
    ∃ x e1 y, fa env = some (x, e1) ∧ fb e1 = some (y, env') ∧ g x y = some d := by
  unfold bind2 at h
  cases ha : fa env with
  | none => rw [ha] at h; cases h
  | some x =>
    obtain ⟨x, e1⟩ := x
    rw [ha] at h
    have h : ((fb e1).bind fun y => (g x y.1).map fun d => (d, y.2)) = some (d, env') := h
    cases hb : fb e1 with
    | none => rw [hb] at h; cases h
    | some y =>
      obtain ⟨y, e2⟩ := y
      rw [hb] at h
      have h : ((g x y).map fun d => (d, e2)) = some (d, env') := h
      cases hg : g x y with
      | none => rw [hg] at h; cases h
      | some z =>
        rw [hg] at h
        cases h
        exact ⟨x, e1, y, rfl, hb, hg⟩
/-- what is wanted behind a step that gives something new, or a datum -/
def Nx (K : PySem.W.Frag) (t : OT) (W : ASet) (H : Hp) (d : PyData) (Q : VK) : Prop := ∀ z H' G, Sm H H' → Own K H' (Un2 W G) t z d G → Nw G H → Q z H'
theorem nx_of {K : PySem.W.Frag} {t : OT} {H H2 : Hp} {Wo : ASet} {F : Nat → ASet} {σ : L2.St} {env' : Env} {d : PyData} {Q : VK}
    (k : ∀ v H' G, Slots K H' (Un2 Wo G) τ σ env' F → Kq p F H H' → MdP K H' (WF (Un2 Wo G) F) G (.ow t) v d → Nw G H → Q v H') (S2 : Slots K H2 Wo τ σ env' F) (kq : Kq p F H H2) : Nx K t (WF Wo F) H2 d Q := fun z H' G sm ow g =>
  k z H' G (S2.grow sm g ow.tracked) (kq.then sm) (by rw [wf_un]; exact ow) (S2.nwBack kq g)
theorem Nx.sh {K : PySem.W.Frag} {W : ASet} {H H' : Hp} {d : PyData} {Q : VK} (k : Nx K .sh W H d Q) (sm : Sm H H') {z : V} (r : Rp K H' W z d) : Q z H' := k z H' Z0 sm (by rw [un2_z]; exact Own.shZ r) Nw.z
/-- an operation on two values, by data -/
def BinOk (X : Cx) (fv : Value → Value → Sem Value) (g : PyData → PyData → Option PyData) (t : OT) : Prop :=
  ∀ (pins : List (Addr × Obj)) (s : Shared) (σ : L2.St) (H : Hp) (x y : V) (v u : Value) (Q : VK) (dx dy d : PyData) (W : ASet), Inv X pins σ H s → RelV x v → RelV y u → Rq X.K H W x dx → Rq X.K H W y dy → (∀ a, W a → ∃ o, H a = some o) → g dx dy = some d →
    Nx X.K t W H d Q → wpAny (model X.prog X.w) X.A (fv v u) (EP X pins σ Q) X.xe s
theorem BinOk.of {fv : Value → Value → Sem Value} {r : R2} {g : PyData → PyData → Option PyData} {t : OT} (ho : OpR X fv r)
    (h : ∀ (H : Hp) (x y : V) (Q : VK) (dx dy d : PyData) (W : ASet), Rq X.K H W x dx → Rq X.K H W y dy → (∀ a, W a → ∃ o, H a = some o) → g dx dy = some d → Nx X.K t W H d Q → r x y H Q) : BinOk X fv g t :=
  fun pins s σ H x y v u Q dx dy d W I rx ry qx qy wt hg hq => ho pins s σ H x y v u Q I rx ry (h H x y Q dx dy d W qx qy wt hg hq)
/-- one rule where the first answers, another one elsewhere -/
theorem BinOk.or {fv : Value → Value → Sem Value} {g g' : PyData → PyData → Option PyData} {t : OT} (h : BinOk X fv g t) (h' : BinOk X fv g' t) : BinOk X fv (fun x y => (g x y).or (g' x y)) t := by
  intro pins s σ H x y v u Q dx dy d W I rx ry qx qy wt hg hq
  cases e : g dx dy with
  | some z =>
    have hg : (g dx dy).or (g' dx dy) = some d := hg
    rw [e] at hg
    cases hg
    exact h pins s σ H x y v u Q dx dy d W I rx ry qx qy wt e hq
  | none =>
    have hg : (g dx dy).or (g' dx dy) = some d := hg
    rw [e] at hg
    exact h' pins s σ H x y v u Q dx dy d W I rx ry qx qy wt hg hq
def rdB (K : PySem.W.Frag) (g : PyData → PyData → Option PyData) (t : OT) : R2 := fun x y H Q =>
  ∃ (dx dy d : PyData) (W : ASet), Rq K H W x dx ∧ Rq K H W y dy ∧ (∀ a, W a → ∃ o, H a = some o) ∧ g dx dy = some d ∧ Nx K t W H d Q
theorem BinOk.opR {fv : Value → Value → Sem Value} {g : PyData → PyData → Option PyData} {t : OT} (h : BinOk X fv g t) : OpR X fv (rdB X.K g t) := by
  intro pins s σ H x y v u Q I rx ry hq
  obtain ⟨dx, dy, d, W, qx, qy, wt, hg, k⟩ := hq
  exact h pins s σ H x y v u Q dx dy d W I rx ry qx qy wt hg k
theorem two_rd {g : PyData → PyData → Option PyData} {t : OT} (hs : m.stab q = true) {σ : L2.St} {H : Hp} {Q : VK} (h : rdM X.K τ (p && q) (.ow t) (bind2 fa fb g) σ H Q) :
    tOp (rdB X.K g t) (rdM X.K τ p m fa) (rdM X.K τ q m2 fb) σ H Q := by
  obtain ⟨Wo, F, env, d, env', S, hf, k⟩ := h
  obtain ⟨dx, e1, dy, h1, h2, h3⟩ := bind2_some hf
  refine ⟨Wo, F, env, dx, e1, S, h1, fun v H1 G1 S1 k1 md1 g1 => ⟨Wo, F, e1, dy, env', S1.less, h2, fun u H2 G2 S2 k2 md2 g2 => ?_⟩⟩
  exact ⟨dx, dy, d, WF Wo F, md1.stay S g1 k2 hs, md2.rq S1.less g2, fun a w => S2.less.tracked w, h3, nx_of k S2.less (k1.trans k2)⟩
theorem ev_bin {op : Operator} {g : PyData → PyData → Option PyData} {t : OT} (ho : BinOk X (binaryOp op) g t) (ha : EvM X τ p m a fa) (hb : EvM X τ q m2 b fb) (hs : m.stab q = true) :
    EvM X τ (p && q) (.ow t) (.BinOp a op b pos) (bind2 fa fb g) := PE.imp (pe_op ho.opR ha hb) fun _ _ _ h => two_rd hs h
theorem ev_cmp {op : CmpOp} {g : PyData → PyData → Option PyData} {t : OT} (ho : BinOk X (compareOp op) g t) (ha : EvM X τ p m a fa) (hb : EvM X τ q m2 b fb) (hs : m.stab q = true) (hm : behindInMarks op b = false) :
    EvM X τ (p && q) (.ow t) (.Compare a [op] [b] pos) (bind2 fa fb g) := PE.imp (pe_cmpR ho.opR ha hb hm) fun _ _ _ h => two_rd hs h
theorem ev_ix {g : PyData → PyData → Option PyData} {t : OT} (hr : IxR X (rdB X.K g t)) (ha : EvM X τ p m a fa) (hb : EvM X τ q m2 b fb) (hs : m.stab q = true) (hp : PlainIx b) :
    EvM X τ (p && q) (.ow t) (.Subscript a b pos) (bind2 fa fb g) := PE.imp (pe_ix hr ha hb hp) fun _ _ _ h => two_rd hs h
end
end Ev

set_option Elab.async false
set_option linter.all false
set_option maxRecDepth 100000
set_option maxHeartbeats 2000000
namespace Ev
open PySem PySem.Spec PyProof.Rows L2

/-! ### E. tests, and, or, not, if -/
def asB (f : M PyData) : M Bool := fun env => match f env with
  | some (.bool c, e) => some (c, e)
  | _ => none
theorem asB_some {f : M PyData} {env env' : Env} {c : Bool} (h : asB f env = some (c, env')) : f env = some (.bool c, env') := by
  unfold asB at h
  cases e : f env with
  | none => rw [e] at h; cases h
  | some r =>
    obtain ⟨d, e2⟩ := r
    rw [e] at h
    cases d <;> first | (cases h; done) | (cases h; rfl)
theorem asB_of {f : M PyData} {env env' : Env} {c : Bool} (h : f env = some (.bool c, env')) : asB f env = some (c, env') := by
  unfold asB; rw [h]
def andF (fa fb : M PyData) : M PyData := fun env => match asB fa env with
  | some (true, e) => fb e
  | some (false, e) => some (.bool false, e)
  | none => none
def orF (fa fb : M PyData) : M PyData := fun env => match asB fa env with
  | some (true, e) => some (.bool true, e)
  | some (false, e) => fb e
  | none => none
def notF (fa : M PyData) : M PyData := fun env => (asB fa env).map fun x => (.bool (!x.1), x.2)
def iteF (fc fa fb : M PyData) : M PyData := fun env => match asB fc env with
  | some (true, e) => fa e
  | some (false, e) => fb e
  | none => none
section
variable {X : Cx} {τ : List OT} {p q r : Bool} {m m2 : Md} {e a b c : Expr} {f fa fb fc : M PyData} {pos : Pos} {rest : List Expr}
/-- a value whose kind is bool, as a test -/
theorem evT_val (h : EvM X τ p m e f) (he : ∀ whole, isTrue e X.env whole = (do let v ← whole; standAt e.pos; holding [v] (truthy v))) : EvT X τ p e (asB f) := by
  refine PT.imp (pt_val h he) fun σ H Q ⟨Wo, F, env, d, env', S, hf, k⟩ => ?_
  refine ⟨Wo, F, env, _, env', S, asB_some hf, fun v H' G S' kq md _ => ?_⟩
  cases md.bool
  exact ⟨d, rfl, k H' S'.less kq⟩
theorem PW.imp {t t' : TT} (h : PW X e t) (i : ∀ σ H Q, t' σ H Q → t σ H Q) : PW X e t' := ⟨fun wh pins s σ H Q I q => h.run wh pins s σ H Q I (i _ _ _ q)⟩
theorem evT_and1 (ha : EvT X τ p a (asB f)) : PW X (.BoolOp .And [a] pos) (rdT X.K τ p (asB f)) := pw_and1 ha
theorem evT_or1 (ha : EvT X τ p a (asB f)) : PW X (.BoolOp .Or [a] pos) (rdT X.K τ p (asB f)) := pw_or1 ha
theorem evT_and (ha : EvT X τ p a (asB fa)) (hb : PW X (.BoolOp .And (b :: rest) pos) (rdT X.K τ q (asB fb))) : PW X (.BoolOp .And (a :: b :: rest) pos) (rdT X.K τ (p && q) (asB (andF fa fb))) := by
  refine PW.imp (pw_and ha hb) fun σ H Q ⟨Wo, F, env, d, env', S, hf, k⟩ => ?_
  have hf := asB_some hf
  unfold andF at hf
  cases e : asB fa env with
  | none => rw [e] at hf; cases hf
  | some x =>
    obtain ⟨x, e1⟩ := x
    rw [e] at hf
    refine ⟨Wo, F, env, x, e1, S, e, fun H1 S1 k1 => ?_⟩
    cases x with
    | true => exact iteT ⟨Wo, F, e1, d, env', S1, asB_of hf, fun H2 S2 k2 => k H2 S2 (k1.trans k2)⟩
    | false =>
      cases (show some (PyData.bool false, e1) = some (.bool d, env') from hf)
      exact L2.iteF (k H1 S1 k1.and_l)
theorem evT_or (ha : EvT X τ p a (asB fa)) (hb : PW X (.BoolOp .Or (b :: rest) pos) (rdT X.K τ q (asB fb))) : PW X (.BoolOp .Or (a :: b :: rest) pos) (rdT X.K τ (p && q) (asB (orF fa fb))) := by
  refine PW.imp (pw_or ha hb) fun σ H Q ⟨Wo, F, env, d, env', S, hf, k⟩ => ?_
  have hf := asB_some hf
  unfold orF at hf
  cases e : asB fa env with
  | none => rw [e] at hf; cases hf
  | some x =>
    obtain ⟨x, e1⟩ := x
    rw [e] at hf
    refine ⟨Wo, F, env, x, e1, S, e, fun H1 S1 k1 => ?_⟩
    cases x with
    | false => exact L2.iteF ⟨Wo, F, e1, d, env', S1, asB_of hf, fun H2 S2 k2 => k H2 S2 (k1.trans k2)⟩
    | true =>
      cases (show some (PyData.bool true, e1) = some (.bool d, env') from hf)
      exact iteT (k H1 S1 k1.and_l)
theorem evT_not (ha : EvT X τ p a (asB fa)) : EvT X τ p (.UnaryOp .Not a pos) (asB (notF fa)) := by
  refine PT.imp (pt_not ha) fun σ H Q ⟨Wo, F, env, d, env', S, hf, k⟩ => ?_
  have hf := asB_some hf
  unfold notF at hf
  cases e : asB fa env with
  | none => rw [e] at hf; cases hf
  | some x =>
    obtain ⟨x, e1⟩ := x
    rw [e] at hf
    cases hf
    exact ⟨Wo, F, env, x, e1, S, e, fun H1 S1 k1 => k H1 S1 k1⟩
theorem ev_one {op : BoolOp} (h : EvM X τ p m a f) : EvM X τ p m (.BoolOp op [a] pos) f := pe_one h
theorem branch {K : PySem.W.Frag} {H H1 : Hp} {Wo : ASet} {F : Nat → ASet} {σ : L2.St} {e1 env' : Env} {d : PyData} {Q : VK} {f : M PyData}
    (k : ∀ v H' G, Slots K H' (Un2 Wo G) τ σ env' F → Kq r F H H' → MdP K H' (WF (Un2 Wo G) F) G m v d → Nw G H → Q v H') (S1 : Slots K H1 Wo τ σ e1 F) (hf : f e1 = some (d, env')) (h : ∀ H', Kq q F H1 H' → Kq r F H H') (kb : Kq p F H H1) : rdM K τ q m f σ H1 Q :=
  ⟨Wo, F, e1, d, env', S1, hf, fun v H2 G S2 k2 md g => k v H2 G S2 (h _ k2) md (S1.nwBack kb g)⟩
theorem ev_and (ha : EvM X τ p m a fa) (hb : EvM X τ q (.ow .sh) (.BoolOp .And (b :: rest) pos) fb) : EvM X τ (p && q) (.ow .sh) (.BoolOp .And (a :: b :: rest) pos) (andF fa fb) := by
  refine PE.imp (pe_and ha hb) fun σ H Q ⟨Wo, F, env, d, env', S, hf, k⟩ => ?_
  unfold andF at hf
  cases e : asB fa env with
  | none => rw [e] at hf; cases hf
  | some x =>
    obtain ⟨x, e1⟩ := x
    rw [e] at hf
    refine ⟨Wo, F, env, .bool x, e1, S, asB_some e, fun v H1 G S1 k1 md _ => ?_⟩
    cases md.bool
    refine ⟨x, rfl, ?_⟩
    cases x with
    | true => exact iteT (branch k S1.less hf (fun _ k2 => k1.trans k2) k1)
    | false =>
      cases (show some (PyData.bool false, e1) = some (d, env') from hf)
      exact L2.iteF (fin_sh k S1.less k1.and_l (.bl _))
theorem ev_or (ha : EvM X τ p m a fa) (hb : EvM X τ q (.ow .sh) (.BoolOp .Or (b :: rest) pos) fb) : EvM X τ (p && q) (.ow .sh) (.BoolOp .Or (a :: b :: rest) pos) (orF fa fb) := by
  refine PE.imp (pe_or ha hb) fun σ H Q ⟨Wo, F, env, d, env', S, hf, k⟩ => ?_
  unfold orF at hf
  cases e : asB fa env with
  | none => rw [e] at hf; cases hf
  | some x =>
    obtain ⟨x, e1⟩ := x
    rw [e] at hf
    refine ⟨Wo, F, env, .bool x, e1, S, asB_some e, fun v H1 G S1 k1 md _ => ?_⟩
    cases md.bool
    refine ⟨x, rfl, ?_⟩
    cases x with
    | false => exact L2.iteF (branch k S1.less hf (fun _ k2 => k1.trans k2) k1)
    | true =>
      cases (show some (PyData.bool true, e1) = some (d, env') from hf)
      exact iteT (fin_sh k S1.less k1.and_l (.bl _))
theorem ev_not (ha : EvM X τ p m a fa) : EvM X τ p (.ow .sh) (.UnaryOp .Not a pos) (notF fa) := by
  refine PE.imp (pe_not ha) fun σ H Q ⟨Wo, F, env, d, env', S, hf, k⟩ => ?_
  unfold notF at hf
  cases e : asB fa env with
  | none => rw [e] at hf; cases hf
  | some x =>
    obtain ⟨x, e1⟩ := x
    rw [e] at hf
    cases hf
    refine ⟨Wo, F, env, .bool x, e1, S, asB_some e, fun v H1 G S1 k1 md _ => ?_⟩
    cases md.bool
    exact ⟨x, rfl, fin_sh k S1.less k1 (.bl _)⟩
theorem ev_ite (hc : EvT X τ r c (asB fc)) (ha : EvM X τ p m a fa) (hb : EvM X τ q m b fb) : EvM X τ (r && (p && q)) m (.IfExp c a b pos) (iteF fc fa fb) := by
  refine PE.imp (pe_ifExp hc ha hb) fun σ H Q ⟨Wo, F, env, d, env', S, hf, k⟩ => ?_
  unfold iteF at hf
  cases e : asB fc env with
  | none => rw [e] at hf; cases hf
  | some x =>
    obtain ⟨x, e1⟩ := x
    rw [e] at hf
    refine ⟨Wo, F, env, x, e1, S, e, fun H1 S1 k1 => ?_⟩
    cases x with
    | true => exact iteT (branch k S1 hf (fun _ k2 => k1.trans k2.and_l) k1)
    | false => exact L2.iteF (branch k S1 hf (fun _ k2 => k1.trans k2.and_r) k1)
end

/-! ### F. chains of two comparisons -/
def chainF (fa fb fc : M PyData) (g g' : PyData → PyData → Option PyData) : M PyData := fun env =>
  (fa env).bind fun x => (fb x.2).bind fun y => match g x.1 y.1 with
    | some (.bool true) => (fc y.2).bind fun z => (g' y.1 z.1).map fun d => (d, z.2)
    | some (.bool false) => some (.bool false, y.2)
    | _ => none
section
variable {X : Cx} {τ : List OT} {p q r : Bool} {m m2 m3 : Md} {e a b c : Expr} {f fa fb fc : M PyData} {pos : Pos}
theorem chain_rd {g g' : PyData → PyData → Option PyData} (hs : m.stab q = true) {σ : L2.St} {H : Hp} {Q : VK} (h : rdM X.K τ (p && q) (.ow .sh) (chainF fa fb fc g g') σ H Q) :
    tChain (rdB X.K g .sh) (rdB X.K g' .sh) (rdM X.K τ p m fa) (rdM X.K τ q m2 fb) (rdM X.K τ true m3 fc) σ H Q := by
  obtain ⟨Wo, F, env, d, env', S, hf, k⟩ := h
  unfold chainF at hf
  cases ha : fa env with
  | none => rw [ha] at hf; cases hf
  | some x =>
  obtain ⟨x, e1⟩ := x
  rw [ha] at hf
  cases hb : fb e1 with
  | none => simp only [Option.bind_some, hb] at hf; cases hf
  | some y =>
  obtain ⟨y, e2⟩ := y
  simp only [Option.bind_some, hb] at hf
  refine ⟨Wo, F, env, x, e1, S, ha, fun v H1 G1 S1 k1 md1 g1 => ⟨Wo, F, e1, y, e2, S1.less, hb, fun u H2 G2 S2 k2 md2 g2 => ?_⟩⟩
  cases hg : g x y with
  | none => rw [hg] at hf; cases hf
  | some z =>
  rw [hg] at hf
  refine ⟨x, y, z, WF Wo F, md1.stay S g1 k2 hs, md2.rq S1.less g2, fun a w => S2.less.tracked w, hg, fun w H3 G3 sm ow g3 => ?_⟩
  have S3 := S2.less.grow sm g3 ow.tracked
  have k3 : Kq (p && q) F H H3 := (k1.trans k2).then sm
  cases z with
  | bool z =>
    have hw : w = .bl z := ow.1.blI
    subst hw
    refine ⟨z, rfl, ?_⟩
    cases z with
    | false =>
      cases (show some (PyData.bool false, e2) = some (d, env') from hf)
      exact L2.iteF (fin_sh k S3.less k3 (.bl _))
    | true =>
      have hf : ((fc e2).bind fun z => (g' y z.1).map fun d => (d, z.2)) = some (d, env') := hf
      cases hc : fc e2 with
      | none => rw [hc] at hf; cases hf
      | some w =>
        obtain ⟨w, e3⟩ := w
        rw [hc] at hf
        simp only [Option.bind_some] at hf
        cases hg' : g' y w with
        | none => rw [hg'] at hf; cases hf
        | some d' =>
          rw [hg'] at hf
          cases hf
          refine iteT ⟨Wo, F, e2, w, env', S3.less, hc, fun w' H4 G4 S4 k4 md4 g4 => ⟨y, w, d, WF Wo F, ((md2.rq S1.less g2).same sm).same k4.tt, md4.rq S3.less g4, fun a w => S4.less.tracked w, hg', nx_of k S4.less (k3.then k4.tt)⟩⟩
  | _ => cases hf
theorem ev_chain {op op' : CmpOp} {g g' : PyData → PyData → Option PyData} (ho : BinOk X (compareOp op) g .sh) (ho' : BinOk X (compareOp op') g' .sh) (ha : EvM X τ p m a fa) (hb : EvM X τ q m2 b fb) (hc : EvM X τ true m3 c fc) (hs : m.stab q = true)
    (hm : lastMarks [op, op'] [b, c] = false) : EvM X τ (p && q) (.ow .sh) (.Compare a [op, op'] [b, c] pos) (chainF fa fb fc g g') :=
  PE.imp (pe_chain ho.opR ho'.opR ha hb hc hm) fun _ _ _ h => chain_rd hs h
theorem evT_chain {op op' : CmpOp} {g g' : PyData → PyData → Option PyData} (ho : BinOk X (compareOp op) g .sh) (ho' : BinOk X (compareOp op') g' .sh) (ha : EvM X τ p m a fa) (hb : EvM X τ q m2 b fb) (hc : EvM X τ true m3 c fc) (hs : m.stab q = true)
    (hm : lastMarks [op, op'] [b, c] = false) : EvT X τ (p && q) (.Compare a [op, op'] [b, c] pos) (asB (chainF fa fb fc g g')) :=
  PT.imp (pt_chain ho.opR ho'.opR ha hb hc hm) fun σ H Q ⟨Wo, F, env, d, env', S, hf, k⟩ => chain_rd hs ⟨Wo, F, env, _, env', S, asB_some hf, fun v H' G S' kq md _ => ⟨d, md.bool, k H' S'.less kq⟩⟩
theorem evT_cmp {op : CmpOp} {g : PyData → PyData → Option PyData} (ho : BinOk X (compareOp op) g .sh) (ha : EvM X τ p m a fa) (hb : EvM X τ q m2 b fb) (hs : m.stab q = true) (hm : behindInMarks op b = false) :
    EvT X τ (p && q) (.Compare a [op] [b] pos) (asB (bind2 fa fb g)) :=
  PT.imp (pt_cmpR ho.opR ha hb hm) fun σ H Q ⟨Wo, F, env, d, env', S, hf, k⟩ => two_rd hs ⟨Wo, F, env, _, env', S, asB_some hf, fun v H' G S' kq md _ => ⟨d, md.bool, k H' S'.less kq⟩⟩
end

/-! ### G. arguments, displays -/
/-- each of these values is owned so -/
def rdL (K : PySem.W.Frag) (τ : List OT) (p : Bool) (t : OT) (f : M (List PyData)) : TA := fun σ H Q =>
  ∃ Wo F env ds env', Slots K H Wo τ σ env F ∧ f env = some (ds, env') ∧ ∀ vs H' G, Slots K H' (Un2 Wo G) τ σ env' F → Kq p F H H' → OwnL (Own K H' (WF (Un2 Wo G) F) t) vs ds G → Nw G H → Q vs H'
inductive RqA (K : PySem.W.Frag) (H : Hp) (W : ASet) : List V → List PyData → Prop
  | nil : RqA K H W [] []
  | cons {v : V} {vs : List V} {d : PyData} {ds : List PyData} : Rq K H W v d → RqA K H W vs ds → RqA K H W (v :: vs) (d :: ds)
def rdQ (K : PySem.W.Frag) (τ : List OT) (p : Bool) (f : M (List PyData)) : TA := fun σ H Q =>
  ∃ Wo F env ds env', Slots K H Wo τ σ env F ∧ f env = some (ds, env') ∧ ∀ vs H', Slots K H' Wo τ σ env' F → Kq p F H H' → RqA K H' (WF Wo F) vs ds → Q vs H'
def EvL (X : Cx) (τ : List OT) (p : Bool) (t : OT) (es : List Expr) (f : M (List PyData)) : Prop := PA X es (rdL X.K τ p t f)
def EvQ (X : Cx) (τ : List OT) (p : Bool) (es : List Expr) (f : M (List PyData)) : Prop := PA X es (rdQ X.K τ p f)
def nilF : M (List PyData) := fun env => some ([], env)
def consF (fa : M PyData) (fr : M (List PyData)) : M (List PyData) := fun env => (fa env).bind fun x => (fr x.2).map fun y => (x.1 :: y.1, y.2)
theorem consF_some {fa : M PyData} {fr : M (List PyData)} {env env' : Env} {ds : List PyData} (h : consF fa fr env = some (ds, env')) : ∃ x e1 r, fa env = some (x, e1) ∧ fr e1 = some (r, env') ∧ ds = x :: r := by
  unfold consF at h
  cases ha : fa env with
  | none => rw [ha] at h; cases h
  | some x =>
    obtain ⟨x, e1⟩ := x
    rw [ha] at h
    simp only [Option.bind_some] at h
    cases hr : fr e1 with
    | none => rw [hr] at h; cases h
    | some y =>
      obtain ⟨y, e2⟩ := y
      rw [hr] at h
      cases h
      exact ⟨x, e1, y, rfl, hr, rfl⟩
def mapM {α β : Type} (f : M α) (g : α → Option β) : M β := fun env => (f env).bind fun x => (g x.1).map fun d => (d, x.2)
theorem mapM_some {α β : Type} {f : M α} {g : α → Option β} {env env' : Env} {d : β} (h : mapM f g env = some (d, env')) : ∃ x, f env = some (x, env') ∧ g x = some d := by
  unfold mapM at h
  cases e : f env with
  | none => rw [e] at h; cases h
  | some x =>
    obtain ⟨x, e1⟩ := x
    rw [e] at h
    simp only [Option.bind_some] at h
    cases e2 : g x with
    | none => rw [e2] at h; cases h
    | some y =>
      rw [e2] at h
      cases h
      exact ⟨x, rfl, e2⟩
/-- few enough -/
def szOk (ds : List PyData) : Bool := decide (ds.length ≤ sizeLine)
def mkL (ds : List PyData) : Option PyData := if szOk ds then some (.list ds) else none
def mkT (ds : List PyData) : Option PyData := if szOk ds then some (.tuple ds) else none
theorem mkL_some {ds : List PyData} {d : PyData} (h : mkL ds = some d) : ds.length ≤ sizeLine ∧ d = .list ds := by
  unfold mkL szOk at h
  by_cases z : ds.length ≤ sizeLine
  · rw [decide_eq_true z] at h
    exact ⟨z, (Option.some.inj h).symm⟩
  · rw [decide_eq_false z] at h; cases h
theorem mkT_some {ds : List PyData} {d : PyData} (h : mkT ds = some d) : ds.length ≤ sizeLine ∧ d = .tuple ds := by
  unfold mkT szOk at h
  by_cases z : ds.length ≤ sizeLine
  · rw [decide_eq_true z] at h
    exact ⟨z, (Option.some.inj h).symm⟩
  · rw [decide_eq_false z] at h; cases h
theorem up_same {H : Hp} {a : Addr} {o : HO} (h : H a = none) : Sm H (upd H a o) := fun b u e => by
  rw [upd_ne (ne_of_none e h)]; exact e
theorem OwnL.tracked {K : PySem.W.Frag} {H : Hp} {W G : ASet} {t : OT} {vs : List V} {ds : List PyData} (ol : OwnL (Own K H W t) vs ds G) : ∀ b, G b → ∃ o, H b = some o := fun b x => ol.any (T := fun b => ∃ o, H b = some o) (fun v d F p a x => p.tracked a x) b x
theorem nw_one {H : Hp} {a : Addr} (n : H a = none) : Nw (fun b => b = a) H := fun b e => by rw [e]; exact n
theorem un_one (W G : ASet) (a : Addr) : Un2 (Un2 W G) (fun b => b = a) = Un2 W (fun b => b = a ∨ G b) := funext fun b => propext
  ⟨fun h => h.elim (fun h => h.elim .inl fun h => .inr (.inr h)) fun h => .inr (.inl h), fun h => h.elim (fun h => .inl (.inl h)) fun h => h.elim .inr fun h => .inl (.inr h)⟩
/-- a new list of owned things -/
theorem own_new {K : PySem.W.Frag} {H : Hp} {W G : ASet} {t : OT} {vs : List V} {ds : List PyData} {a : Addr} (n : H a = none) (ol : OwnL (Own K H (Un2 W G) t) vs ds G) :
    Own K (upd H a (.lst vs)) (Un2 W fun b => b = a ∨ G b) (.ls t) (.ref a) (.list ds) (fun b => b = a ∨ G b) := by
  refine ⟨a, vs, ds, G, rfl, rfl, upd_same, fun _ => Iff.rfl, fun x => ?_, ol.imp fun v d F s ow => ?_⟩
  · obtain ⟨o, e⟩ := ol.tracked a x
    rw [n] at e; cases e
  · rw [← un_one]
    refine ow.keep ⟨fun b o e _ => up_same n b o e, fun b o e h x => ?_⟩ fun b o _ e => up_same n b o e
    rcases x with x | rfl
    · exact h x
    · rw [n] at e; cases e
section
variable {X : Cx} {τ : List OT} {p q : Bool} {m : Md} {t : OT} {e : Expr} {es : List Expr} {f : M PyData} {fr : M (List PyData)} {pos : Pos}
theorem PA.imp {t t' : TA} (h : PA X es t) (i : ∀ σ H Q, t' σ H Q → t σ H Q) : PA X es t' := ⟨fun pos pins s σ H Q I q => h.run pos pins s σ H Q I (i _ _ _ q)⟩
theorem evL_nil : EvL X τ true t [] nilF := PA.imp pa_nil fun σ H Q ⟨Wo, F, env, ds, env', S, hf, k⟩ => by
  cases hf
  exact k [] H Z0 (by rw [un2_z]; exact S) Kq.refl (fun _ z => z) Nw.z
theorem evQ_nil : EvQ X τ true [] nilF := PA.imp pa_nil fun σ H Q ⟨Wo, F, env, ds, env', S, hf, k⟩ => by
  cases hf
  exact k [] H S Kq.refl .nil
theorem evL_cons (ha : EvM X τ p (.ow t) e f) (hr : EvL X τ q t es fr) (hs : starEach (e :: es) X.env = (false, eval e X.env) :: starEach es X.env) : EvL X τ (p && q) t (e :: es) (consF f fr) := by
  refine PA.imp (pa_cons ha hr hs) fun σ H Q ⟨Wo, F, env, ds, env', S, hf, k⟩ => ?_
  obtain ⟨x, e1, r, h1, h2, rfl⟩ := consF_some hf
  refine ⟨Wo, F, env, x, e1, S, h1, fun v H1 G1 S1 k1 md1 g1 => ⟨Un2 Wo G1, F, e1, r, env', S1, h2, fun vs H2 G S2 k2 ol gf => ?_⟩⟩
  have ow2 := Own.stay md1 S1 k2 gf
  have tr := (Own.tracked md1)
  refine k (v :: vs) H2 (Un2 G1 G) (by rw [← un2_assoc]; exact S2) (k1.trans k2) ?_ fun a x => x.elim (g1 a) fun y => S1.newBack k1 (gf a y)
  rw [← un2_assoc]
  exact ⟨G1, G, fun _ => Iff.rfl, fun a x y => (by
    obtain ⟨o, e⟩ := tr a x
    rw [gf a y] at e; cases e), ow2, ol⟩
theorem evQ_cons (ha : EvM X τ p m e f) (hr : EvQ X τ q es fr) (hst : m.stab q = true) (hs : starEach (e :: es) X.env = (false, eval e X.env) :: starEach es X.env) : EvQ X τ (p && q) (e :: es) (consF f fr) := by
  refine PA.imp (pa_cons ha hr hs) fun σ H Q ⟨Wo, F, env, ds, env', S, hf, k⟩ => ?_
  obtain ⟨x, e1, r, h1, h2, rfl⟩ := consF_some hf
  refine ⟨Wo, F, env, x, e1, S, h1, fun v H1 G1 S1 k1 md1 g1 => ⟨Wo, F, e1, r, env', S1.less, h2, fun vs H2 S2 k2 rq => ?_⟩⟩
  exact k (v :: vs) H2 S2 (k1.trans k2) (.cons (md1.stay S g1 k2 hst) rq)
theorem EvL.sh (h : EvL X τ p t es fr) : EvL X τ p .sh es fr := by
  refine PA.imp h fun σ H Q ⟨Wo, F, env, ds, env', S, hf, k⟩ => ⟨Wo, F, env, ds, env', S, hf, fun vs H' G S' kq ol gf => ?_⟩
  have r : RpA X.K H' (WF Wo F) vs ds := ol.rpa fun v d F' s ow => ow.rp (fun a o _ n x => n (by rw [wf_un]; exact .inl x)) fun a x w => by
    obtain ⟨o, e⟩ := S.tracked w
    rw [gf a (s a x)] at e; cases e
  exact k vs H' Z0 (by rw [un2_z]; exact S'.less) kq (by rw [un2_z]; exact OwnL.of_rpa r fun _ z => z) Nw.z
theorem ev_lst (h : EvL X τ p t es fr) : EvM X τ p (.ow (.ls t)) (.List es pos) (mapM fr mkL) := by
  refine PE.imp (pe_lst h) fun σ H Q ⟨Wo, F, env, d, env', S, hf, k⟩ => ?_
  obtain ⟨ds, h1, h2⟩ := mapM_some hf
  obtain ⟨z, rfl⟩ := mkL_some h2
  refine ⟨Wo, F, env, ds, env', S, h1, fun vs H1 G S1 k1 ol gf => ⟨by rw [ol.length]; exact z, fun a na => ?_⟩⟩
  have S2 := S1.grow (up_same (o := .lst vs) na) (nw_one na) fun b e => ⟨.lst vs, by rw [e]; exact upd_same⟩
  rw [un_one] at S2
  rw [wf_un] at ol
  refine k _ _ _ S2 (k1.then (up_same na)) ?_ fun b x => ?_
  · rw [wf_un]; exact own_new na ol
  · rcases x with rfl | x
    · exact S1.newBack k1 na
    · exact gf b x
theorem ev_tup {x1 : Nat} (h : EvL X τ p .sh es fr) : EvM X τ p (.ow .sh) (.Tuple es x1 pos) (mapM fr mkT) := by
  refine PE.imp (pe_tup h) fun σ H Q ⟨Wo, F, env, d, env', S, hf, k⟩ => ?_
  obtain ⟨ds, h1, h2⟩ := mapM_some hf
  obtain ⟨z, rfl⟩ := mkT_some h2
  refine ⟨Wo, F, env, ds, env', S, h1, fun vs H1 G S1 k1 ol gf => ⟨by rw [ol.length]; exact z, fun a na => ?_⟩⟩
  have sm := up_same (o := .tup vs) na
  refine fin_sh k (S1.less.same sm) (k1.then sm) (.tup (.inl ⟨.inl upd_same, fun w => ?_⟩) (ol.sh_rpa.1.keep ⟨fun b o e _ => sm b o e, fun b _ _ n x => n (by rw [wf_un]; exact .inl x)⟩))
  obtain ⟨o, e⟩ := S1.less.tracked w
  rw [na] at e; cases e

/-! ### calls of built-ins, by data -/
def CallOk (X : Cx) (fv : Value) (g : List PyData → Option PyData) (t : OT) : Prop :=
  ∀ (pins : List (Addr × Obj)) (s : Shared) (σ : L2.St) (H : Hp) (xs : List V) (us : List Value) (Q : VK) (ds : List PyData) (d : PyData) (W : ASet), Inv X pins σ H s → Vals xs us → RqA X.K H W xs ds → (∀ a, W a → ∃ o, H a = some o) → g ds = some d →
    Nx X.K t W H d Q → wpAny (model X.prog X.w) X.A (call fv us) (EP X pins σ Q) X.xe s
theorem CallOk.of {fv : Value} {r : List V → Hp → VK → Prop} {g : List PyData → Option PyData} (ho : CallR X fv r)
    (h : ∀ (H : Hp) (xs : List V) (Q : VK) (ds : List PyData) (d : PyData) (W : ASet), RqA X.K H W xs ds → (∀ a, W a → ∃ o, H a = some o) → g ds = some d → Nx X.K t W H d Q → r xs H Q) : CallOk X fv g t :=
  fun pins s σ H xs us Q ds d W I r qs wt hg hq => ho pins s σ H xs us Q I r (h H xs Q ds d W qs wt hg hq)
theorem CallOk.or {fv : Value} {g g' : List PyData → Option PyData} (h : CallOk X fv g t) (h' : CallOk X fv g' t) : CallOk X fv (fun xs => (g xs).or (g' xs)) t := by
  intro pins s σ H xs us Q ds d W I r qs wt hg hq
  cases e : g ds with
  | some z =>
    have hg : (g ds).or (g' ds) = some d := hg
    rw [e] at hg
    cases hg
    exact h pins s σ H xs us Q ds d W I r qs wt e hq
  | none =>
    have hg : (g ds).or (g' ds) = some d := hg
    rw [e] at hg
    exact h' pins s σ H xs us Q ds d W I r qs wt hg hq
def rdC (K : PySem.W.Frag) (g : List PyData → Option PyData) (t : OT) : List V → Hp → VK → Prop := fun xs H Q =>
  ∃ (ds : List PyData) (d : PyData) (W : ASet), RqA K H W xs ds ∧ (∀ a, W a → ∃ o, H a = some o) ∧ g ds = some d ∧ Nx K t W H d Q
theorem CallOk.callR {fv : Value} {g : List PyData → Option PyData} (h : CallOk X fv g t) : CallR X fv (rdC X.K g t) := by
  intro pins s σ H xs us Q I r hq
  obtain ⟨ds, d, W, qs, wt, hg, k⟩ := hq
  exact h pins s σ H xs us Q ds d W I r qs wt hg k
theorem call_rd {g : List PyData → Option PyData} {σ : L2.St} {H : Hp} {Q : VK} (h : rdM X.K τ p (.ow t) (mapM fr g) σ H Q) : tCB (rdC X.K g t) (rdQ X.K τ p fr) σ H Q := by
  obtain ⟨Wo, F, env, d, env', S, hf, k⟩ := h
  obtain ⟨ds, h1, h2⟩ := mapM_some hf
  exact ⟨Wo, F, env, ds, env', S, h1, fun vs H1 S1 k1 rq => ⟨ds, d, WF Wo F, rq, fun a w => S1.tracked w, h2, nx_of k S1 k1⟩⟩
theorem ev_callB {id : String} {x : Str} {pp : Pos} {g : List PyData → Option PyData} (hc : CallOk X (.builtin id) g t) (hg : Gl X x) (hm : X.mg x = none) (hv : bootBuiltins x = some (.builtin id)) (ha : EvQ X τ p (e :: es) fr) (hn : x ≠ "__name__") (hdb : (x == ("__debug__" : Str)) = false)
    (he : starEach (e :: es) X.env = (false, eval e X.env) :: starEach es X.env) (hpl : (backTo pos (starEach es X.env)).any (·.1) = false) : EvM X τ p (.ow t) (.Call (.Name x pp) (e :: es) [] pos) (mapM fr g) :=
  PE.imp (pe_callB hc.callR hg hm hv ha hn hdb he hpl) fun _ _ _ h => call_rd h
theorem ev_callTy {T : String} {x : Str} {pp : Pos} {g : List PyData → Option PyData} (hc : CallOk X (.type T) g t) (hg : Gl X x) (hm : X.mg x = none) (hv : bootBuiltins x = some (.type T)) (ha : EvQ X τ p (e :: es) fr) (hn : x ≠ "__name__") (hdb : (x == ("__debug__" : Str)) = false)
    (he : starEach (e :: es) X.env = (false, eval e X.env) :: starEach es X.env) (hpl : (backTo pos (starEach es X.env)).any (·.1) = false) : EvM X τ p (.ow t) (.Call (.Name x pp) (e :: es) [] pos) (mapM fr g) :=
  PE.imp (pe_callTy hc.callR hg hm hv ha hn hdb he hpl) fun _ _ _ h => call_rd h
end
end Ev

set_option Elab.async false
set_option linter.all false
set_option maxRecDepth 100000
set_option maxHeartbeats 2000000
namespace Ev
open PySem PySem.Spec PyProof.Rows L2

/-! ### H. targets -/
def rdG (K : PySem.W.Frag) (τ : List OT) (vs : List Nat) (fg : PyData → Env → Option Env) : TG := fun v σ H Q =>
  ∃ Wo F env d env', Slots K H Wo τ σ env F ∧ Rp K H (WF Wo F) v d ∧ fg d env = some env' ∧ ∀ σ', Slots K H Wo τ σ' env' F → σ'.length = σ.length → (∀ j, j ∉ vs → σ'[j]? = σ[j]?) → Q σ' H
def rdGs (K : PySem.W.Frag) (τ : List OT) (vs : List Nat) (fg : List PyData → Env → Option Env) : TGs := fun us σ H Q =>
  ∃ Wo F env ds env', Slots K H Wo τ σ env F ∧ RpA K H (WF Wo F) us ds ∧ fg ds env = some env' ∧ ∀ σ', Slots K H Wo τ σ' env' F → σ'.length = σ.length → (∀ j, j ∉ vs → σ'[j]? = σ[j]?) → Q σ' H
def EvG (X : Cx) (τ : List OT) (vs : List Nat) (tg : Expr) (fg : PyData → Env → Option Env) : Prop := PG X tg (rdG X.K τ vs fg)
def EvGs (X : Cx) (τ : List OT) (vs : List Nat) (tgs : List Expr) (fg : List PyData → Env → Option Env) : Prop := PGs X tgs (rdGs X.K τ vs fg)
section
variable {K : PySem.W.Frag} {H H' : Hp} {Wo : ASet} {τ : List OT} {σ σ' : L2.St} {env : Env} {F : Nat → ASet} {v : V} {d : PyData} {i : Nat}
theorem Slots.shZ (S : Slots K H Wo τ σ env F) (ht : τ.getD i .sh = .sh) : ∀ a, ¬ F i a := fun a x => by
  by_cases hd : ∃ d, env[i]? = some (some d)
  · obtain ⟨d, hd⟩ := hd
    obtain ⟨v, _, ow⟩ := S.slot i d hd
    rw [ht] at ow
    exact ow.2 a x
  · exact S.void i (fun d e => hd ⟨d, e⟩) a x
theorem Slots.setSh (S : Slots K H Wo τ σ env F) (ht : τ.getD i .sh = .sh) (r : Rp K H (WF Wo F) v d) : Slots K H Wo τ (σ.set i (some v)) (env.set i (some d)) F := by
  have z := S.shZ ht
  refine ⟨by rw [List.length_set, List.length_set, S.len], by rw [List.length_set, S.tl], S.wo, S.disj, fun j d' e => ?_, fun j h a x => ?_⟩
  · by_cases hj : i = j
    · subst hj
      have hi : i < env.length := by
        have := (List.getElem?_eq_some_iff.mp e).1
        rwa [List.length_set] at this
      rw [List.getElem?_set_self hi] at e
      cases e
      refine ⟨v, List.getElem?_set_self (by rw [S.len]; exact hi), ?_⟩
      rw [ht]
      exact ⟨r, z⟩
    · rw [List.getElem?_set_ne hj] at e
      rw [List.getElem?_set_ne hj]
      exact S.slot j d' e
  · by_cases hj : i = j
    · subst hj; exact z a x
    · exact S.void j (fun d' e => h d' (by rw [List.getElem?_set_ne hj]; exact e)) a x
theorem Slots.setNone (S : Slots K H Wo τ σ env F) (ht : τ.getD i .sh = .sh) : Slots K H Wo τ (σ.set i none) (env.set i none) F := by
  have z := S.shZ ht
  refine ⟨by rw [List.length_set, List.length_set, S.len], by rw [List.length_set, S.tl], S.wo, S.disj, fun j d' e => ?_, fun j h a x => ?_⟩
  · by_cases hj : i = j
    · subst hj
      have hi : i < env.length := by
        have := (List.getElem?_eq_some_iff.mp e).1
        rwa [List.length_set] at this
      rw [List.getElem?_set_self hi] at e
      cases e
    · rw [List.getElem?_set_ne hj] at e
      rw [List.getElem?_set_ne hj]
      exact S.slot j d' e
  · by_cases hj : i = j
    · subst hj; exact z a x
    · exact S.void j (fun d' e => h d' (by rw [List.getElem?_set_ne hj]; exact e)) a x
def wipeE (env : Env) : List Nat → Env
  | [] => env
  | v :: vs => (wipeE env vs).set v none
theorem Slots.wipe (S : Slots K H Wo τ σ env F) : ∀ {vs : List Nat}, (∀ i ∈ vs, τ.getD i .sh = .sh) → Slots K H Wo τ (L2.wipe σ vs) (wipeE env vs) F
  | [], _ => S
  | v :: vs, h => (S.wipe fun i hi => h i (List.mem_cons_of_mem _ hi)).setNone (h v List.mem_cons_self)
end
section
variable {X : Cx} {τ : List OT} {vs ws : List Nat} {pos : Pos} {e : Expr} {es : List Expr} {fg : PyData → Env → Option Env} {fgs : List PyData → Env → Option Env}
def nmG (i : Nat) : PyData → Env → Option Env := fun d env => some (env.set i (some d))
theorem evG_name {i : Nat} {x : Str} (hN : X.N.Nodup) (hi : X.N[i]? = some x) (hx : Loc X.env.scope x) (hf : X.fn x = true ∨ X.env.scope.names.lookup x = some .local) (ht : τ.getD i .sh = .sh) : EvG X τ [i] (.Name x pos) (nmG i) := by
  refine ⟨fun pins s σ H v u Q I r h => (pg_name hN hi hx hf).run pins s σ H v u Q I r ?_⟩
  obtain ⟨Wo, F, env, d, env', S, rp, he, k⟩ := h
  cases he
  refine k _ (S.setSh ht rp) (List.length_set ..) fun j hj => ?_
  rw [List.getElem?_set_ne (fun e => hj (by simp [e]))]
def nilG : List PyData → Env → Option Env := fun ds env => if ds.isEmpty then some env else none
def consG (g : PyData → Env → Option Env) (r : List PyData → Env → Option Env) : List PyData → Env → Option Env
  | d :: ds, env => (g d env).bind (r ds)
  | [], _ => none
theorem evGs_nil : EvGs X τ [] [] nilG := by
  refine ⟨fun pins s σ H vs us Q I r h => (pgs_nil).run pins s σ H vs us Q I r ?_⟩
  obtain ⟨Wo, F, env, ds, env', S, rp, he, k⟩ := h
  cases rp with
  | nil =>
    cases (show some env = some env' from he)
    exact ⟨rfl, k σ S rfl fun _ _ => rfl⟩
  | cons _ _ => cases he
theorem evGs_cons (h1 : EvG X τ vs e fg) (h2 : EvGs X τ ws es fgs) (hs : (assignEach (e :: es) X.env).map (·.2) = assign e X.env :: (assignEach es X.env).map (·.2)) : EvGs X τ (vs ++ ws) (e :: es) (consG fg fgs) := by
  refine ⟨fun pins s σ H us u Q I r h => (pgs_cons h1 h2 hs).run pins s σ H us u Q I r ?_⟩
  obtain ⟨Wo, F, env, ds, env', S, rp, he, k⟩ := h
  cases rp with
  | nil => cases he
  | @cons v vs' d ds' rp1 rp2 =>
    have he : (fg d env).bind (fgs ds') = some env' := he
    cases e1 : fg d env with
    | none => rw [e1] at he; cases he
    | some env1 =>
      rw [e1] at he
      refine ⟨v, vs', rfl, Wo, F, env, d, env1, S, rp1, e1, fun σ1 S1 l1 q1 => ⟨Wo, F, env1, ds', env', S1, rp2, he, fun σ2 S2 l2 q2 => k σ2 S2 (l2.trans l1) fun j hj => ?_⟩⟩
      rw [List.mem_append, not_or] at hj
      exact (q2 j hj.2).trans (q1 j hj.1)
def tupG (g : List PyData → Env → Option Env) (n : Nat) : PyData → Env → Option Env
  | .tuple ds, env => if ds.length = n then g ds env else none
  | _, _ => none
theorem evG_tup {k : Nat} {n : Nat} (hc : X.calm = true) (h : EvGs X τ vs es fgs) (hn : (assignEach es X.env).length = n) (hst : (assignEach es X.env).findIdx? (·.1) = none) : EvG X τ vs (.Tuple es k pos) (tupG fgs n) := by
  refine ⟨fun pins s σ H v u Q I r h' => (pg_tup hc h hn hst).run pins s σ H v u Q I r ?_⟩
  obtain ⟨Wo, F, env, d, env', S, rp, he, k⟩ := h'
  cases rp with
  | @tup a xs ds hq ra =>
    have he : (if ds.length = n then fgs ds env else none) = some env' := he
    by_cases hl : ds.length = n
    · rw [if_pos hl] at he
      exact ⟨a, xs, rfl, hq.imp (fun z => z.1) id, by rw [ra.length]; exact hl, Wo, F, env, ds, env', S, ra, he, k⟩
    · rw [if_neg hl] at he; cases he
  | _ => cases he
end

/-! ### I. what is walked -/
structure Yields (K : PySem.W.Frag) (C B : ASet) (J : It) (H0 : Hp) (ds : List PyData) : Prop where
  go : ∀ (i : Nat) (H : Hp) (W : ASet) (d : PyData), (∀ a o, H0 a = some o → ¬ C a → H a = some o) → Kp H0 B H W → (∀ a, W a → ∃ o, H a = some o) → ds[i]? = some d → J.go i H ∧ ∀ x H', J.yld i H x H' → Sm H H' ∧ Rp K H' W x d
  stop : ∀ (i : Nat) (H : Hp), (∀ a o, H0 a = some o → ¬ C a → H a = some o) → ds[i]? = none → J.stop i H
/-- m: is the walked thing a slot's own? then it must stand still -/
def rdI (K : PySem.W.Frag) (τ : List OT) (p own : Bool) (f : M (List PyData)) : TI := fun σ H R =>
  ∃ Wo F env ds env', Slots K H Wo τ σ env F ∧ f env = some (ds, env') ∧ ∀ J H', Slots K H' Wo τ σ env' F → Kq p F H H' → Yields K (if own then Z0 else WF Wo F) (WF Wo F) J H' ds → R J H'
def EvI (X : Cx) (τ : List OT) (p own : Bool) (tg iter : Expr) (f : M (List PyData)) : Prop := PI X tg iter (rdI X.K τ p own f)
def Md.own : Md → Bool
  | .sk => true
  | .ow _ => false
def itemsD : PyData → Option (List PyData)
  | .list ds => some ds
  | .tuple ds => some ds
  | _ => none
section
variable {X : Cx} {τ : List OT} {p q : Bool} {m : Md} {tg e : Expr} {es : List Expr} {f : M PyData} {fr : M (List PyData)} {pos : Pos}
theorem sqL_keep {K : PySem.W.Frag} {H0 H : Hp} {C : ASet} {a : Addr} {xs : List V} (h : (Rd H0 a (.lst xs) ∧ ¬ C a) ∨ KL K a xs) (k : ∀ a o, H0 a = some o → ¬ C a → H a = some o) : SqL K H a xs := by
  rcases h with ⟨h | ⟨o, h⟩, n⟩ | h
  · exact .inl (.inl (k _ _ h n))
  · exact .inl (.inr ⟨o, k _ _ h n⟩)
  · exact .inr h
theorem sqT_keep {K : PySem.W.Frag} {H0 H : Hp} {C : ASet} {a : Addr} {xs : List V} (h : (Rd H0 a (.tup xs) ∧ ¬ C a) ∨ KT K a xs) (k : ∀ a o, H0 a = some o → ¬ C a → H a = some o) : SqT K H a xs := by
  rcases h with ⟨h | ⟨o, h⟩, n⟩ | h
  · exact .inl (.inl (k _ _ h n))
  · exact .inl (.inr ⟨o, k _ _ h n⟩)
  · exact .inr h
theorem yields_list {K : PySem.W.Frag} {H0 : Hp} {B C : ASet} {a : Addr} {xs : List V} {ds : List PyData} (h : (Rd H0 a (.lst xs) ∧ ¬ C a) ∨ KL K a xs) (r : RpA K H0 B xs ds) : Yields K C B (Itl K a) H0 ds := by
  refine ⟨fun i H W d kc kp wt hd => ?_, fun i H kc hd => ?_⟩
  · have sq := sqL_keep h kc
    obtain ⟨x, hx, rx⟩ := r.get hd
    refine ⟨⟨xs, x, sq, hx⟩, fun x' H' hy => ?_⟩
    obtain ⟨rfl, hy⟩ := hy
    have := hy xs sq
    rw [hx] at this
    cases this
    exact ⟨fun _ _ e => e, rx.keep kp⟩
  · refine ⟨xs, sqL_keep h kc, ?_⟩
    have := List.getElem?_eq_none_iff.mp hd
    rw [r.length]; exact this
theorem yields_tup {K : PySem.W.Frag} {H0 : Hp} {B C : ASet} {a : Addr} {xs : List V} {ds : List PyData} (h : (Rd H0 a (.tup xs) ∧ ¬ C a) ∨ KT K a xs) (r : RpA K H0 B xs ds) : Yields K C B (Itt K a) H0 ds := by
  refine ⟨fun i H W d kc kp wt hd => ?_, fun i H kc hd => ?_⟩
  · have sq := sqT_keep h kc
    obtain ⟨x, hx, rx⟩ := r.get hd
    refine ⟨⟨xs, x, sq, hx⟩, fun x' H' hy => ?_⟩
    obtain ⟨rfl, hy⟩ := hy
    have := hy xs sq
    rw [hx] at this
    cases this
    exact ⟨fun _ _ e => e, rx.keep kp⟩
  · refine ⟨xs, sqT_keep h kc, ?_⟩
    have := List.getElem?_eq_none_iff.mp hd
    rw [r.length]; exact this
theorem PI.or {t t' : TI} (h : PI X tg e t) (h' : PI X tg e t') : PI X tg e (fun σ H R => t σ H R ∨ t' σ H R) := ⟨fun pins s σ H R I q => q.elim (h.run pins s σ H R I) (h'.run pins s σ H R I)⟩
theorem PI.imp {t t' : TI} (h : PI X tg e t) (i : ∀ σ H R, t' σ H R → t σ H R) : PI X tg e t' := ⟨fun pins s σ H R I q => h.run pins s σ H R I (i _ _ _ q)⟩
/-- a list, a tuple -/
theorem evI_seq (h : EvM X τ p m e f) : EvI X τ p m.own tg e (mapM f itemsD) := by
  refine PI.imp (PI.or (pi_list h) (pi_tup h)) fun σ H R ⟨Wo, F, env, ds, env', S, hf, k⟩ => ?_
  obtain ⟨d, h1, h2⟩ := mapM_some hf
  cases d with
  | list ds' =>
    cases h2
    refine .inl ⟨Wo, F, env, .list ds, env', S, h1, fun v H' G S' kq md g => ?_⟩
    cases m with
    | ow t =>
      have r : Rp X.K H' (WF Wo F) v (.list ds) := Own.rpW S g md
      cases r with
      | @lst a xs _ hq ra => exact ⟨a, rfl, ⟨xs, hq.imp (fun z => z.1) id⟩, k _ H' S'.less kq (yields_list hq ra)⟩
    | sk =>
      have r : Rq X.K H' (WF Wo F) v (.list ds) := md.2.less fun a x => by rw [wf_un]; exact .inl x
      cases r with
      | rp r =>
        cases r with
        | @lst a xs _ hq ra => exact ⟨a, rfl, ⟨xs, hq.imp (fun z => z.1) id⟩, k _ H' S'.less kq (yields_list (hq.imp (fun z => ⟨z.1, fun z => z⟩) id) ra)⟩
      | @ls a xs _ he ra => exact ⟨a, rfl, ⟨xs, .inl (.inl he)⟩, k _ H' S'.less kq (yields_list (.inl ⟨.inl he, fun z => z⟩) ra)⟩
  | tuple ds' =>
    cases h2
    refine .inr ⟨Wo, F, env, .tuple ds, env', S, h1, fun v H' G S' kq md g => ?_⟩
    cases m with
    | ow t =>
      have r : Rp X.K H' (WF Wo F) v (.tuple ds) := Own.rpW S g md
      cases r with
      | @tup a xs _ hq ra => exact ⟨a, rfl, ⟨xs, hq.imp (fun z => z.1) id⟩, k _ H' S'.less kq (yields_tup hq ra)⟩
    | sk =>
      have r : Rq X.K H' (WF Wo F) v (.tuple ds) := md.2.less fun a x => by rw [wf_un]; exact .inl x
      cases r with
      | rp r =>
        cases r with
        | @tup a xs _ hq ra => exact ⟨a, rfl, ⟨xs, hq.imp (fun z => z.1) id⟩, k _ H' S'.less kq (yields_tup (hq.imp (fun z => ⟨z.1, fun z => z⟩) id) ra)⟩
  | _ => cases h2
def rngD (lo : Int) (n : Nat) : List PyData := (List.range n).map fun i => .int (lo + (i : Nat))
theorem rngD_get {lo : Int} {n i : Nat} : (rngD lo n)[i]? = if i < n then some (.int (lo + (i : Nat))) else none := by
  unfold rngD
  rw [List.getElem?_map]
  by_cases h : i < n
  · rw [if_pos h, List.getElem?_range h]; rfl
  · rw [if_neg h, List.getElem?_eq_none (by rw [List.length_range]; omega)]; rfl
theorem yields_rng {K : PySem.W.Frag} {H0 : Hp} {B C : ASet} {lo : Int} {n : Nat} : Yields K C B (Itr lo n) H0 (rngD lo n) := by
  refine ⟨fun i H W d kc kp wt hd => ?_, fun i H kc hd => ?_⟩
  · rw [rngD_get] at hd
    by_cases h : i < n
    · rw [if_pos h] at hd
      cases hd
      refine ⟨h, fun x' H' hy => ?_⟩
      obtain ⟨rfl, rfl⟩ := hy
      exact ⟨fun _ _ e => e, .int _⟩
    · rw [if_neg h] at hd; cases hd
  · rw [rngD_get] at hd
    by_cases h : i < n
    · rw [if_pos h] at hd; cases hd
    · exact Nat.le_of_not_lt h
def rngOk (i : Int) : Bool := decide (-(2 ^ 62) ≤ i) && decide (i < 2 ^ 62)
def rng1D : List PyData → Option (List PyData)
  | [.int j] => if rngOk j then some (rngD 0 j.toNat) else none
  | _ => none
def rng2D : List PyData → Option (List PyData)
  | [.int i, .int j] => if rngOk i && rngOk j then some (rngD i (j - i).toNat) else none
  | _ => none
theorem rngOk_t {i : Int} (h : rngOk i = true) : -(2 ^ 62) ≤ i ∧ i < 2 ^ 62 := by
  unfold rngOk at h
  simpa using h
theorem RqA.one {K : PySem.W.Frag} {H : Hp} {W : ASet} {xs : List V} {d : PyData} (h : RqA K H W xs [d]) : ∃ x, xs = [x] ∧ Rq K H W x d := by
  cases h with
  | cons h t => cases t; exact ⟨_, rfl, h⟩
theorem RqA.two {K : PySem.W.Frag} {H : Hp} {W : ASet} {xs : List V} {d e : PyData} (h : RqA K H W xs [d, e]) : ∃ x y, xs = [x, y] ∧ Rq K H W x d ∧ Rq K H W y e := by
  cases h with
  | cons h t => obtain ⟨y, rfl, h2⟩ := t.one; exact ⟨_, _, rfl, h, h2⟩
theorem evI_rng1 {a : Expr} {pp : Pos} (hg : Gl X "range") (hm : X.mg "range" = none) (ha : EvQ X τ p [a] fr) (hs : starEach [a] X.env = [(false, eval a X.env)]) : EvI X τ p false tg (.Call (.Name "range" pp) [a] [] pos) (mapM fr rng1D) := by
  refine PI.imp (pi_range1 hg hm ha hs) fun σ H R ⟨Wo, F, env, ds, env', S, hf, k⟩ => ?_
  obtain ⟨xs, h1, h2⟩ := mapM_some hf
  refine ⟨Wo, F, env, xs, env', S, h1, fun vs H' S' kq rq => ?_⟩
  unfold rng1D at h2
  split at h2
  · rename_i j
    by_cases hj : rngOk j = true
    · rw [if_pos hj] at h2
      cases h2
      obtain ⟨x, rfl, rx⟩ := rq.one
      cases rx.intI
      exact ⟨j, rfl, (rngOk_t hj).1, (rngOk_t hj).2, k _ H' S' kq yields_rng⟩
    · rw [if_neg hj] at h2; cases h2
  · cases h2
theorem evI_rng2 {a b : Expr} {pp : Pos} (hg : Gl X "range") (hm : X.mg "range" = none) (ha : EvQ X τ p [a, b] fr) (hs : starEach [a, b] X.env = [(false, eval a X.env), (false, eval b X.env)]) (hs2 : starEach [b] X.env = [(false, eval b X.env)]) : EvI X τ p false tg (.Call (.Name "range" pp) [a, b] [] pos) (mapM fr rng2D) := by
  refine PI.imp (pi_range2 hg hm ha hs hs2) fun σ H R ⟨Wo, F, env, ds, env', S, hf, k⟩ => ?_
  obtain ⟨xs, h1, h2⟩ := mapM_some hf
  refine ⟨Wo, F, env, xs, env', S, h1, fun vs H' S' kq rq => ?_⟩
  unfold rng2D at h2
  split at h2
  · rename_i i j
    by_cases hj : (rngOk i && rngOk j) = true
    · rw [if_pos hj] at h2
      cases h2
      obtain ⟨x, y, rfl, rx, ry⟩ := rq.two
      cases rx.intI
      cases ry.intI
      rw [Bool.and_eq_true] at hj
      exact ⟨i, j, rfl, ⟨(rngOk_t hj.1).1, (rngOk_t hj.1).2, (rngOk_t hj.2).1, (rngOk_t hj.2).2⟩, k _ H' S' kq yields_rng⟩
    · rw [if_neg hj] at h2; cases h2
  · cases h2
/-- a text, sign by sign -/
def signsD (x : Str) : List PyData := x.cps.toList.map fun c => .str ⟨#[c]⟩
theorem signsD_get {x : Str} {i : Nat} : (signsD x)[i]? = (x.cps[i]?).map fun c => .str ⟨#[c]⟩ := by
  unfold signsD
  rw [List.getElem?_map, Array.getElem?_toList]
def strItems : PyData → Option (List PyData)
  | .str x => some (signsD x)
  | _ => none
theorem evI_str (h : EvM X τ p m e f) : EvI X τ p false tg e (mapM f strItems) := by
  refine PI.imp (pi_str h) fun σ H R ⟨Wo, F, env, ds, env', S, hf, k⟩ => ?_
  obtain ⟨d, h1, h2⟩ := mapM_some hf
  refine ⟨Wo, F, env, d, env', S, h1, fun v H' G S' kq md g => ?_⟩
  cases d with
  | str x =>
    cases h2
    refine ⟨x, (md.rq S g).strI, k _ H' S'.less kq ⟨fun i H W d kc kp wt hd => ?_, fun i H kc hd => ?_⟩⟩
    · rw [signsD_get] at hd
      cases hc : x.cps[i]? with
      | none => rw [hc] at hd; cases hd
      | some c =>
        rw [hc] at hd
        cases hd
        refine ⟨(Array.getElem?_eq_some_iff.mp hc).1, fun x' H' hy => ?_⟩
        obtain ⟨rfl, c', hc', rfl⟩ := hy
        rw [hc] at hc'
        cases hc'
        exact ⟨fun _ _ e => e, .str _⟩
    · rw [signsD_get] at hd
      cases hc : x.cps[i]? with
      | none => exact Array.getElem?_eq_none_iff.mp hc
      | some c => rw [hc] at hd; cases hd
  | _ => cases h2
/-- either of two kinds of things -/
theorem EvI.or {own : Bool} {f g : M (List PyData)} (h : EvI X τ p own tg e f) (h' : EvI X τ p own tg e g) : EvI X τ p own tg e (fun env => (f env).or (g env)) := by
  refine PI.imp (PI.or h h') fun σ H R ⟨Wo, F, env, ds, env', S, hf, k⟩ => ?_
  cases e1 : f env with
  | some z =>
    have hf : (f env).or (g env) = some (ds, env') := hf
    rw [e1] at hf
    exact .inl ⟨Wo, F, env, ds, env', S, by rw [e1]; exact hf, k⟩
  | none =>
    have hf : (f env).or (g env) = some (ds, env') := hf
    rw [e1] at hf
    exact .inr ⟨Wo, F, env, ds, env', S, hf, k⟩
theorem EvI.weak {own : Bool} {f : M (List PyData)} (h : EvI X τ p own tg e f) : EvI X τ p true tg e f := by
  refine PI.imp h fun σ H R ⟨Wo, F, env, ds, env', S, hf, k⟩ => ⟨Wo, F, env, ds, env', S, hf, fun J H' S' kq y => k J H' S' kq ?_⟩
  cases own with
  | true => exact y
  | false => exact ⟨fun i H W d kc kp wt hd => y.go i H W d (fun a o e n => kc a o e fun z => z) kp wt hd, fun i H kc hd => y.stop i H (fun a o e n => kc a o e fun z => z) hd⟩
end
end Ev

set_option Elab.async false
set_option linter.all false
set_option maxRecDepth 100000
set_option maxHeartbeats 2000000
namespace Ev
open PySem PySem.Spec PyProof.Rows L2

/-! ### J. enumerate, zip -/
def enumFrom : Nat → List PyData → List PyData
  | _, [] => []
  | k, d :: ds => .tuple [.int (k : Nat), d] :: enumFrom (k + 1) ds
theorem enumFrom_get : ∀ (ds : List PyData) (k i : Nat), (enumFrom k ds)[i]? = (ds[i]?).map fun d => .tuple [.int ((k + i : Nat) : Int), d]
  | [], _, _ => by simp [enumFrom]
  | d :: ds, k, 0 => by simp [enumFrom]
  | d :: ds, k, i + 1 => by
    simp only [enumFrom, List.getElem?_cons_succ]
    rw [enumFrom_get ds (k + 1) i, show k + 1 + i = k + (i + 1) by omega]
def enumD : List PyData → Option (List PyData)
  | [.list ds] => some (enumFrom 0 ds)
  | _ => none
theorem yields_enum {K : PySem.W.Frag} {H0 : Hp} {B C : ASet} {a : Addr} {xs : List V} {ds : List PyData} (h : (Rd H0 a (.lst xs) ∧ ¬ C a) ∨ KL K a xs) (r : RpA K H0 B xs ds) : Yields K C B (Ite K a) H0 (enumFrom 0 ds) := by
  refine ⟨fun i H W d kc kp wt hd => ?_, fun i H kc hd => ?_⟩
  · rw [enumFrom_get, Nat.zero_add] at hd
    cases e : ds[i]? with
    | none => rw [e] at hd; cases hd
    | some d' =>
      rw [e] at hd
      cases hd
      have sq := sqL_keep h kc
      obtain ⟨x, hx, rx⟩ := r.get e
      refine ⟨⟨xs, x, sq, hx⟩, fun x' H' hy => ?_⟩
      obtain ⟨T, x2, rfl, nT, rfl, hy⟩ := hy
      have := hy xs sq
      rw [hx] at this
      cases this
      have sm := up_same (o := .tup [.int (i : Nat), x]) nT
      refine ⟨sm, .tup (.inl ⟨.inl upd_same, fun w => ?_⟩) (.cons (.int _) (.cons ((rx.keep kp).keep ⟨fun a o e _ => sm a o e, fun _ _ _ n => n⟩) .nil))⟩
      obtain ⟨o, e⟩ := wt T w
      rw [nT] at e; cases e
  · rw [enumFrom_get] at hd
    refine ⟨xs, sqL_keep h kc, ?_⟩
    cases e : ds[i]? with
    | none =>
      have := List.getElem?_eq_none_iff.mp e
      rw [r.length]; exact this
    | some d => rw [e] at hd; cases hd
theorem Rq.listC {K : PySem.W.Frag} {H : Hp} {W : ASet} {v : V} {ds : List PyData} (r : Rq K H W v (.list ds)) : ∃ a xs, v = .ref a ∧ ((Rd H a (.lst xs) ∧ ¬ Z0 a) ∨ KL K a xs) ∧ RpA K H W xs ds := by
  cases r with
  | rp r =>
    cases r with
    | lst h ra => exact ⟨_, _, rfl, h.imp (fun z => ⟨z.1, fun z => z⟩) id, ra⟩
  | ls e r => exact ⟨_, _, rfl, .inl ⟨.inl e, fun z => z⟩, r⟩
section
variable {X : Cx} {τ : List OT} {p q : Bool} {m : Md} {tg e : Expr} {es : List Expr} {f : M PyData} {fr : M (List PyData)} {pos : Pos}
/-- its list stands still while it is walked (a comprehension's block) -/
theorem evI_enumW {pp tpos : Pos} {elts : List Expr} {kk : Nat} (hg : Gl X "enumerate") (hm : X.mg "enumerate" = none) (ha : EvQ X τ p [e] fr) (hs : starEach [e] X.env = [(false, eval e X.env)]) :
    EvI X τ p true (.Tuple elts kk tpos) (.Call (.Name "enumerate" pp) [e] [] pos) (mapM fr enumD) := by
  refine PI.imp (pi_enum hg hm ha hs) fun σ H R ⟨Wo, F, env, ds, env', S, hf, k⟩ => ?_
  obtain ⟨xs, h1, h2⟩ := mapM_some hf
  refine ⟨Wo, F, env, xs, env', S, h1, fun vs H' S' kq rq => ?_⟩
  unfold enumD at h2
  split at h2
  · rename_i ds'
    cases h2
    obtain ⟨x, rfl, rx⟩ := rq.one
    obtain ⟨a, ys, rfl, hq, ra⟩ := rx.listC
    exact ⟨a, ys, rfl, hq.imp (fun z => z.1) id, k _ H' S' kq (yields_enum hq ra)⟩
  · cases h2
/-- over a list that is shared -/
theorem evI_enum {pp tpos : Pos} {elts : List Expr} {kk : Nat} (hg : Gl X "enumerate") (hm : X.mg "enumerate" = none) (ha : EvL X τ p .sh [e] fr) (hs : starEach [e] X.env = [(false, eval e X.env)]) :
    EvI X τ p false (.Tuple elts kk tpos) (.Call (.Name "enumerate" pp) [e] [] pos) (mapM fr enumD) := by
  refine PI.imp (pi_enum hg hm ha hs) fun σ H R ⟨Wo, F, env, ds, env', S, hf, k⟩ => ?_
  obtain ⟨xs, h1, h2⟩ := mapM_some hf
  refine ⟨Wo, F, env, xs, env', S, h1, fun vs H' G S' kq ol g => ?_⟩
  obtain ⟨ra, _⟩ := ol.sh_rpa
  unfold enumD at h2
  split at h2
  · rename_i ds'
    cases h2
    cases ra with
    | cons r t =>
      cases t
      have r := r.keep (Kp.less (W' := WF Wo F) fun a o _ n x => n (by rw [wf_un]; exact .inl x))
      cases r with
      | lst hq ra => exact ⟨_, _, rfl, hq.imp (fun z => z.1) id, k _ H' S'.less kq (yields_enum hq ra)⟩
  · cases h2
end

/-! ### K. comprehensions -/
def yesF : M Bool := fun env => some (true, env)
def goC (asg : PyData → Env → Option Env) (cond : M Bool) (elt : M PyData) (vs : List Nat) : List PyData → Env → Option (List PyData × Env)
  | [], env => some ([], env)
  | d :: ds, env => (asg d env).bind fun e1 => (cond e1).bind fun c => match c.1 with
    | true => (elt c.2).bind fun y => (goC asg cond elt vs ds (wipeE y.2 vs)).map fun r => (y.1 :: r.1, r.2)
    | false => goC asg cond elt vs ds (wipeE c.2 vs)
/-- the block's own names are as before -/
def restE (e1 : Env) : Env → List Nat → Env
  | e2, [] => e2
  | e2, v :: vs => (restE e1 e2 vs).set v ((e1[v]?).getD none)
def compF (pb : Bool) (src : M (List PyData)) (asg : PyData → Env → Option Env) (cond : M Bool) (elt : M PyData) (vs : List Nat) : M PyData := fun env =>
  (src env).bind fun s => (goC asg cond elt vs s.1 (wipeE s.2 vs)).bind fun r => if szOk s.1 then some (.list r.1, if pb then s.2 else restE s.2 r.2 vs) else none
def EvTs (X : Cx) (τ : List OT) (p : Bool) (ifs : List Expr) (f : M Bool) : Prop := PTs X ifs (rdT X.K τ p f)
theorem evTs_nil {X : Cx} {τ : List OT} : EvTs X τ true [] yesF := by
  refine ⟨fun pins s σ H Q I h => pts_nil.run pins s σ H Q I ?_⟩
  obtain ⟨Wo, F, env, d, env', S, hf, k⟩ := h
  cases hf
  exact k H S Kq.refl
theorem evTs_one {X : Cx} {τ : List OT} {p : Bool} {c : Expr} {f : M Bool} (h : EvT X τ p c f) : EvTs X τ p [c] f := pts_one h
section
variable {K : PySem.W.Frag} {H H' H1 : Hp} {Wo G : ASet} {τ : List OT} {σ σ' : L2.St} {env e1 e2 : Env} {F : Nat → ASet} {p : Bool}
theorem wipeE_length (env : Env) : ∀ vs : List Nat, (wipeE env vs).length = env.length
  | [] => rfl
  | v :: vs => by unfold wipeE; rw [List.length_set, wipeE_length env vs]
theorem wipe_get {σ : L2.St} {j : Nat} : ∀ {vs : List Nat}, j ∉ vs → (L2.wipe σ vs)[j]? = σ[j]?
  | [], _ => rfl
  | v :: vs, h => by
    simp only [List.mem_cons, not_or] at h
    unfold L2.wipe
    rw [List.getElem?_set_ne (fun e => h.1 e.symm)]
    exact wipe_get h.2
theorem wipe_in {σ : L2.St} {j : Nat} (hj : j < σ.length) : ∀ {vs : List Nat}, j ∈ vs → (L2.wipe σ vs)[j]? = some none
  | v :: vs, h => by
    unfold L2.wipe
    by_cases e : v = j
    · subst e
      rw [List.getElem?_set_self (by rw [L2.wipe_length]; exact hj)]
    · rw [List.getElem?_set_ne e]
      exact wipe_in hj ((List.mem_cons.mp h).resolve_left fun z => e z.symm)
theorem wipe_eq {vs : List Nat} (hl : σ'.length = σ.length) (h : ∀ j, j ∉ vs → σ'[j]? = σ[j]?) : L2.wipe σ' vs = L2.wipe σ vs := by
  refine List.ext_getElem? fun j => ?_
  by_cases hj : j ∈ vs
  · by_cases hlt : j < σ.length
    · rw [wipe_in (by rw [hl]; exact hlt) hj, wipe_in hlt hj]
    · rw [List.getElem?_eq_none (by rw [L2.wipe_length, hl]; omega), List.getElem?_eq_none (by rw [L2.wipe_length]; omega)]
  · rw [wipe_get hj, wipe_get hj, h j hj]
theorem wipeE_get {env : Env} {j : Nat} : ∀ {vs : List Nat}, j ∉ vs → (wipeE env vs)[j]? = env[j]?
  | [], _ => rfl
  | v :: vs, h => by
    simp only [List.mem_cons, not_or] at h
    unfold wipeE
    rw [List.getElem?_set_ne (fun e => h.1 e.symm)]
    exact wipeE_get h.2
theorem restE_length : ∀ vs : List Nat, (restE e1 e2 vs).length = e2.length
  | [] => rfl
  | v :: vs => by unfold restE; rw [List.length_set, restE_length vs]
theorem restE_get {j : Nat} : ∀ {vs : List Nat}, j ∉ vs → (restE e1 e2 vs)[j]? = e2[j]?
  | [], _ => rfl
  | v :: vs, h => by
    simp only [List.mem_cons, not_or] at h
    unfold restE
    rw [List.getElem?_set_ne (fun e => h.1 e.symm)]
    exact restE_get h.2
theorem restE_in {j : Nat} (hj : j < e2.length) : ∀ {vs : List Nat}, j ∈ vs → (restE e1 e2 vs)[j]? = some ((e1[j]?).getD none)
  | v :: vs, h => by
    unfold restE
    by_cases e : v = j
    · subst e
      rw [List.getElem?_set_self (by rw [restE_length]; exact hj)]
    · rw [List.getElem?_set_ne e]
      exact restE_in hj ((List.mem_cons.mp h).resolve_left fun z => e z.symm)
/-- a barred object changes -/
theorem Slots.barred (S : Slots K H Wo τ σ env F) {D : Addr} {o : HO} (h : Wo D) : Slots K (upd H D o) Wo τ σ env F := by
  have kp : Kp H (WF Wo F) (upd H D o) (WF Wo F) := ⟨fun a u e n => by rw [upd_ne (fun z => n (by rw [z]; exact .inl h))]; exact e, fun _ _ _ n => n⟩
  refine ⟨S.len, S.tl, fun a x => ⟨?_, (S.wo a x).2⟩, S.disj, fun i d e => ?_, S.void⟩
  · by_cases z : a = D
    · subst z; exact ⟨_, upd_same⟩
    · rw [upd_ne z]; exact (S.wo a x).1
  · obtain ⟨v, h1, h2⟩ := S.slot i d e
    exact ⟨v, h1, h2.keep kp fun a u x e => by rw [upd_ne (fun z => (S.wo D h).2 i (by rw [← z]; exact x))]; exact e⟩
/-- behind the block: the slots of the def -/
theorem Slots.back (S1 : Slots K H1 Wo τ σ e1 F) (S2 : Slots K H (Un2 Wo G) τ (L2.wipe σ vs) e2 F) (kq : Kq p F H1 H) (g : Nw G H1) (hv : ∀ i ∈ vs, τ.getD i .sh = .sh) : Slots K H (Un2 Wo G) τ σ (restE e1 e2 vs) F := by
  have l2 : e2.length = σ.length := by rw [← S2.len, L2.wipe_length]
  refine ⟨by rw [restE_length, l2], by rw [restE_length, S2.tl], S2.wo, S2.disj, fun i d e => ?_, fun i h a x => ?_⟩
  · by_cases hi : i ∈ vs
    · have hlt : i < e2.length := by
        have := (List.getElem?_eq_some_iff.mp e).1
        rwa [restE_length] at this
      rw [restE_in hlt hi] at e
      have e' : e1[i]? = some (some d) := by
        cases q : e1[i]? with
        | none => rw [q] at e; cases e
        | some z => rw [q] at e; exact e
      obtain ⟨v, h1, h2⟩ := S1.slot i d e'
      exact ⟨v, h1, h2.keep (kq.kpG g) fun a o x e => by rw [hv i hi] at h2; exact (h2.2 a x).elim⟩
    · rw [restE_get hi] at e
      obtain ⟨v, h1, h2⟩ := S2.slot i d e
      rw [wipe_get hi] at h1
      exact ⟨v, h1, h2⟩
  · by_cases hi : i ∈ vs
    · exact S1.shZ (hv i hi) a x
    · exact S2.void i (fun d e => h d (by rw [restE_get hi]; exact e)) a x
end
section
variable {K : PySem.W.Frag} {τ : List OT} {vs ws : List Nat} {p pb own : Bool} {t : OT} {src : M (List PyData)} {asg : PyData → Env → Option Env} {cond : M Bool} {elt : M PyData} {pc pe : Bool}
theorem goC_len : ∀ (ds : List PyData) (env : Env) (r : List PyData) (e : Env), goC asg cond elt vs ds env = some (r, e) → r.length ≤ ds.length
  | [], env, r, e, h => by cases h; exact Nat.le_refl _
  | d :: ds, env, r, e, h => by
    unfold goC at h
    cases h1 : asg d env with
    | none => rw [h1] at h; cases h
    | some e1 =>
    rw [h1] at h
    simp only [Option.bind_some] at h
    cases h2 : cond e1 with
    | none => rw [h2] at h; cases h
    | some c =>
    obtain ⟨c, e2⟩ := c
    rw [h2] at h
    simp only [Option.bind_some] at h
    cases c with
    | true =>
      simp only at h
      cases h3 : elt e2 with
      | none => rw [h3] at h; cases h
      | some y =>
      obtain ⟨y, e3⟩ := y
      rw [h3] at h
      simp only [Option.bind_some] at h
      cases h4 : goC asg cond elt vs ds (wipeE e3 vs) with
      | none => rw [h4] at h; cases h
      | some r' =>
        obtain ⟨r', e4⟩ := r'
        rw [h4] at h
        cases h
        have := goC_len ds _ _ _ h4
        simp only [List.length_cons]; omega
    | false =>
      simp only at h
      have := goC_len ds _ _ _ h
      simp only [List.length_cons]; omega
/-- the block's step: one item -/
theorem comp_rd (hv : ∀ i ∈ vs, τ.getD i .sh = .sh) (hw : ∀ i ∈ ws, i ∈ vs) (ho : own = true → (pc && pe) = true) {σ : L2.St} {H : Hp} {Q : VK} (h : rdM K τ (p && (pc && pe)) (.ow (.ls t)) (compF (pc && pe) src asg cond elt vs) σ H Q) :
    tLc (rdI K τ p own src) (rdG K τ ws asg) (rdT K τ pc cond) (rdM K τ pe (.ow t) elt) vs σ H Q := by
  obtain ⟨Wo, F, env, d, env', S, hf, k⟩ := h
  unfold compF at hf
  cases hs : src env with
  | none => rw [hs] at hf; cases hf
  | some s1 =>
  obtain ⟨ds, e1⟩ := s1
  rw [hs] at hf
  simp only [Option.bind_some] at hf
  cases hg : goC asg cond elt vs ds (wipeE e1 vs) with
  | none => rw [hg] at hf; cases hf
  | some r =>
  obtain ⟨ys, eE⟩ := r
  rw [hg] at hf
  simp only [Option.bind_some] at hf
  have hz : szOk ds = true := by
    cases q : szOk ds with
    | true => rfl
    | false => rw [q] at hf; cases hf
  rw [if_pos hz] at hf
  cases hf
  have hz : ds.length ≤ sizeLine := by unfold szOk at hz; exact of_decide_eq_true hz
  refine ⟨Wo, F, env, ds, e1, S, hs, fun J H1 S1 k1 Y D nD => ?_⟩
  -- what holds between two items
  let Bd : ASet → ASet := fun G => fun b => b = D ∨ G b
  let InvC : Nat → Hp → Prop := fun i H2 => i ≤ ds.length ∧ ∃ (env2 : Env) (done rest : List PyData) (acc : List V) (G : ASet), ys = done ++ rest ∧ goC asg cond elt vs (ds.drop i) env2 = some (rest, eE) ∧ done.length ≤ i ∧
    Slots K H2 (Un2 Wo (Bd G)) τ (L2.wipe σ vs) env2 F ∧ H2 D = some (.lst acc) ∧ OwnL (Own K H2 (WF (Un2 Wo (Bd G)) F) t) acc done G ∧ ¬ G D ∧ Nw (Bd G) H1 ∧ Kq (pc && pe) F H1 H2
  refine ⟨fun i m H2 => m = ds.length - i ∧ InvC i H2, ⟨ds.length - 0, rfl, Nat.zero_le _, wipeE e1 vs, [], ys, [], Z0, rfl, hg, Nat.le_refl _, ?_, upd_same, fun _ z => z, fun z => z, ?_, Kq.sm (up_same nD)⟩, ?_⟩
  · have := (S1.wipe (vs := vs) hv).grow (up_same (o := .lst []) nD) (nw_one nD) fun b e => ⟨.lst [], by rw [e]; exact upd_same⟩
    have e : Bd Z0 = fun b => b = D := funext fun b => propext ⟨fun h => h.elim id fun z => z.elim, .inl⟩
    rw [e]; exact this
  · intro b hb
    rcases hb with rfl | hb
    · exact nD
    · exact hb.elim
  rintro i m H2 ⟨rfl, hi, env2, done, rest, acc, G, hys, hgo, hdl, S2, hD, ol, gD, gN, k2⟩
  have keepC : ∀ a o, H1 a = some o → ¬ (if own then Z0 else WF Wo F) a → H2 a = some o := fun a o e n => by
    cases own with
    | true => rw [ho rfl] at k2; exact k2.tt a o e
    | false => exact k2 a o e fun _ j x => n (.inr ⟨j, x⟩)
  cases hd : ds[i]? with
  | none =>
    left
    refine ⟨Y.stop i H2 keepC hd, ?_⟩
    have hle := List.getElem?_eq_none_iff.mp hd
    rw [List.drop_eq_nil_of_le hle] at hgo
    cases hgo
    rw [List.append_nil] at hys
    subst hys
    have kT : Kq (p && (pc && pe)) F H H2 := k1.trans k2
    have hOw : MdP K H2 (WF (Un2 Wo (Bd G)) F) (Bd G) (.ow (.ls t)) (.ref D) (.list ys) := ⟨D, acc, ys, G, rfl, rfl, hD, fun _ => Iff.rfl, gD, ol⟩
    have nB : Nw (Bd G) H := fun b hb => S1.newBack k1 (gN b hb)
    by_cases hp : (pc && pe) = true
    · rw [hp] at k2
      refine k _ H2 (Bd G) ?_ kT hOw nB
      rw [if_pos hp]
      refine S1.grow k2.tt gN fun b hb => ?_
      rcases hb with rfl | hb
      · exact ⟨_, hD⟩
      · exact ol.tracked b hb
    · refine k _ H2 (Bd G) ?_ kT hOw nB
      rw [if_neg hp]
      exact S1.back S2 k2 gN hv
  | some d =>
    right
    have hlt : i < ds.length := (List.getElem?_eq_some_iff.mp hd).1
    have hdrop : ds.drop i = d :: ds.drop (i + 1) := by
      rw [List.drop_eq_getElem_cons hlt]
      have := (List.getElem?_eq_some_iff.mp hd).2
      rw [this]
    obtain ⟨go, yl⟩ := Y.go i H2 (WF (Un2 Wo (Bd G)) F) d keepC (k2.kpG gN) (fun a w => S2.tracked w) hd
    refine ⟨go, InvC (i + 1), fun H' hn => ⟨ds.length - (i + 1), by omega, rfl, hn⟩, fun x H3 hy => ?_⟩
    obtain ⟨sm3, rx⟩ := yl x H3 hy
    rw [hdrop] at hgo
    unfold goC at hgo
    cases h1 : asg d env2 with
    | none => rw [h1] at hgo; cases hgo
    | some e2 =>
    rw [h1] at hgo
    simp only [Option.bind_some] at hgo
    have S3 := S2.same sm3
    refine ⟨Un2 Wo (Bd G), F, env2, d, e2, S3, rx, h1, fun σ2 S4 l4 q4 => ⟨?_, ?_⟩⟩
    · have e5 : L2.wipe σ2 vs = L2.wipe (L2.wipe σ vs) vs := wipe_eq l4 fun j hj => q4 j fun z => hj (hw j z)
      rw [e5]
      exact wipe_eq (L2.wipe_length _ _) fun j hj => wipe_get hj
    · cases h2 : cond e2 with
      | none => rw [h2] at hgo; cases hgo
      | some c =>
      obtain ⟨c, e3⟩ := c
      rw [h2] at hgo
      simp only [Option.bind_some] at hgo
      have hwp : L2.wipe σ2 vs = L2.wipe σ vs := by
        have e5 : L2.wipe σ2 vs = L2.wipe (L2.wipe σ vs) vs := wipe_eq l4 fun j hj => q4 j fun z => hj (hw j z)
        rw [e5]
        exact wipe_eq (L2.wipe_length _ _) fun j hj => wipe_get hj
      refine ⟨Un2 Wo (Bd G), F, e2, c, e3, S4, h2, fun H5 S5 k5 => ?_⟩
      have k25 : Kq (pc && pe) F H1 H5 := by
        have := (k2.then sm3).trans k5
        rwa [show ((pc && pe) && pc) = (pc && pe) by cases pc <;> cases pe <;> rfl] at this
      have notF : ∀ j, ¬ F j D := fun j x => (S2.wo D (.inr (.inl rfl))).2 j x
      have hD5 : H5 D = some (.lst acc) := k5 D _ (sm3 _ _ hD) fun _ => notF
      have gF : ∀ b, G b → ∀ j, ¬ F j b := fun b x j y => (S2.wo b (.inr (.inr x))).2 j y
      have ol5 : OwnL (Own K H5 (WF (Un2 Wo (Bd G)) F) t) acc done G := ol.imp fun v d F' s ow => ow.keep ((Kq.sm (p := true) sm3).trans k5).kp fun a o x e => k5 a o (sm3 _ _ e) fun _ => gF a (s a x)
      cases c with
      | false =>
        simp only at hgo
        refine L2.iteF ⟨hlt, wipeE e3 vs, done, rest, acc, G, hys, hgo, by omega, ?_, hD5, ol5, gD, gN, k25⟩
        have := S5.wipe (vs := vs) hv
        rwa [hwp] at this
      | true =>
        simp only at hgo
        cases h3 : elt e3 with
        | none => rw [h3] at hgo; cases hgo
        | some y =>
        obtain ⟨y, e4⟩ := y
        rw [h3] at hgo
        simp only [Option.bind_some] at hgo
        cases h4 : goC asg cond elt vs (ds.drop (i + 1)) (wipeE e4 vs) with
        | none => rw [h4] at hgo; cases hgo
        | some r =>
        obtain ⟨rest', eE'⟩ := r
        rw [h4] at hgo
        cases hgo
        refine iteT ⟨Un2 Wo (Bd G), F, e3, y, e4, S5, h3, fun z H6 G6 S6 k6 ow6 g6 => ?_⟩
        have hD6 : H6 D = some (.lst acc) := k6 D _ hD5 fun _ => notF
        have nG6 : ∀ b, G6 b → b ≠ D ∧ ¬ G b := fun b x => ⟨fun z => (by
          have := g6 b x
          rw [z, hD5] at this; cases this), fun y => (by
          obtain ⟨o, e⟩ := ol5.tracked b y
          rw [g6 b x] at e; cases e)⟩
        have eB : Un2 (Un2 Wo (Bd G)) G6 = Un2 Wo (Bd fun b => G b ∨ G6 b) := funext fun b => propext
          ⟨fun h => h.elim (fun h => h.elim .inl fun h => .inr (h.elim .inl fun h => .inr (.inl h))) fun h => .inr (.inr (.inr h)), fun h => h.elim (fun h => .inl (.inl h)) fun h => h.elim (fun h => .inl (.inr (.inl h))) fun h => h.elim (fun h => .inl (.inr (.inr h))) .inr⟩
        rw [eB] at S6
        have ow6 : Own K H6 (WF (Un2 (Un2 Wo (Bd G)) G6) F) t z y G6 := ow6
        rw [eB] at ow6
        have kpD : Kp H6 (WF (Un2 Wo (Bd fun b => G b ∨ G6 b)) F) (upd H6 D (.lst (acc ++ [z]))) (WF (Un2 Wo (Bd fun b => G b ∨ G6 b)) F) := ⟨fun a u e n => by rw [upd_ne (fun z => n (.inl (.inr (.inl z))))]; exact e, fun _ _ _ n => n⟩
        have upD : ∀ a o, a ≠ D → H6 a = some o → upd H6 D (.lst (acc ++ [z])) a = some o := fun a o n e => by rw [upd_ne n]; exact e
        have ol6 : OwnL (Own K (upd H6 D (.lst (acc ++ [z]))) (WF (Un2 Wo (Bd fun b => G b ∨ G6 b)) F) t) acc done G := ol5.imp fun v d F' s ow => by
          have o6 := ow.keep (k6.kpG g6) fun a o x e => k6 a o e fun _ => gF a (s a x)
          rw [eB] at o6
          exact o6.keep kpD fun a o x e => upD a o (fun z => gD (by rw [← z]; exact s a x)) e
        have oy6 := ow6.keep kpD fun a o x e => upD a o (nG6 a x).1 e
        have k16 : Kq (pc && pe) F H1 (upd H6 D (.lst (acc ++ [z]))) := fun a o e n => by
          have := (k25.trans k6)
          rw [show ((pc && pe) && pe) = (pc && pe) by cases pc <;> cases pe <;> rfl] at this
          exact upD a o (fun z => by rw [z, nD] at e; cases e) (this a o e n)
        refine ⟨acc, hD6, ?_, hlt, wipeE e4 vs, done ++ [y], rest', acc ++ [z], fun b => G b ∨ G6 b, ?_, h4, ?_, ?_, upd_same, ?_, ?_, ?_, k16⟩
        · have hl := ol.length
          omega
        · rw [hys, List.append_assoc]; rfl
        · rw [List.length_append, List.length_singleton]; omega
        · have := (S6.wipe (vs := vs) hv).barred (D := D) (o := .lst (acc ++ [z])) (.inr (.inl rfl))
          rwa [hwp] at this
        · exact ol6.snoc oy6 fun b x y => (nG6 b x).2 y
        · exact fun z => z.elim gD fun z => (nG6 D z).1 rfl
        · intro b hb
          rcases hb with rfl | hb | hb
          · exact nD
          · exact gN b (.inr hb)
          · cases e : H1 b with
            | none => rfl
            | some o =>
              by_cases hF : ∃ j, F j b
              · obtain ⟨o', e'⟩ := S5.tracked (.inr hF)
                rw [g6 b hb] at e'; cases e'
              · have := k25 b o e fun _ j x => hF ⟨j, x⟩
                rw [g6 b hb] at this; cases this
end
end Ev

set_option Elab.async false
set_option linter.all false
set_option maxRecDepth 100000
set_option maxHeartbeats 2000000
namespace Ev
open PySem PySem.Spec PyProof.Rows L2

/-! ### L. statements -/
inductive Fl where
  | nx (env : Env) | rt (d : PyData) (env : Env) | bk (env : Env) | ct (env : Env)
/-- from the slots' things F to F': what stood stands but for them; what is owned then is new, or was owned -/
structure KF (bor : List Nat) (F F' : Nat → ASet) (H H' : Hp) : Prop where
  keep : ∀ a o, H a = some o → (∀ i, ¬ F i a) → H' a = some o
  there : ∀ a o, H a = some o → ∃ o', H' a = some o'
  own : ∀ i a, i ∉ bor → F' i a → H a = none ∨ ∃ j, j ∉ bor ∧ F j a
  bor : ∀ i, i ∈ bor → F' i = F i
/-- given away: new, or a slot's own -/
def NwF (bor : List Nat) (F : Nat → ASet) (H : Hp) (G : ASet) : Prop := ∀ a, G a → H a = none ∨ ∃ j, j ∉ bor ∧ F j a
section
variable {bor : List Nat} {F F' F2 : Nat → ASet} {H H' H2 : Hp} {G : ASet} {p : Bool}
theorem KF.refl : KF bor F F H H := ⟨fun _ _ e _ => e, fun _ o e => ⟨o, e⟩, fun i a hi x => .inr ⟨i, hi, x⟩, fun _ _ => rfl⟩
theorem KF.trans (a : KF bor F F' H H') (b : KF bor F' F2 H' H2) : KF bor F F2 H H2 := by
  refine ⟨fun c o e n => b.keep c o (a.keep c o e n) fun i x => ?_, fun c o e => ?_, fun i c hi x => ?_, fun i hi => (b.bor i hi).trans (a.bor i hi)⟩
  · by_cases hi : i ∈ bor
    · rw [a.bor i hi] at x; exact n i x
    · rcases a.own i c hi x with z | ⟨j, _, z⟩
      · rw [z] at e; cases e
      · exact n j z
  · obtain ⟨o', e'⟩ := a.there c o e
    exact b.there c o' e'
  · rcases b.own i c hi x with z | ⟨j, hj, z⟩
    · left
      cases q : H c with
      | none => rfl
      | some o => obtain ⟨o', e'⟩ := a.there c o q; rw [z] at e'; cases e'
    · exact a.own j c hj z
theorem KF.nw (a : KF bor F F' H H') (g : NwF bor F' H' G) : NwF bor F H G := fun c x => by
  rcases g c x with z | ⟨j, hj, z⟩
  · left
    cases q : H c with
    | none => rfl
    | some o => obtain ⟨o', e'⟩ := a.there c o q; rw [z] at e'; cases e'
  · exact a.own j c hj z
end
section
variable {K : PySem.W.Frag} {H H' H2 : Hp} {Wo G Gn G' : ASet} {τ : List OT} {σ : L2.St} {env e1 : Env} {F : Nat → ASet} {v : V} {d : PyData} {i : Nat} {t : OT} {p : Bool} {bor : List Nat}
/-- an expression's step -/
theorem KF.of (S' : Slots K H' Wo τ σ env F) (kq : Kq p F H H') : KF bor F F H H' :=
  ⟨fun a o e n => kq a o e fun _ => n, fun a o e => by
    by_cases hF : ∃ i, F i a
    · exact S'.tracked (.inr hF)
    · exact ⟨o, kq a o e fun _ i x => hF ⟨i, x⟩⟩, fun i a hi x => .inr ⟨i, hi, x⟩, fun _ _ => rfl⟩
def setF (F : Nat → ASet) (i : Nat) (G : ASet) : Nat → ASet := fun j => if j = i then G else F j
theorem setF_same : setF F i G i = G := by unfold setF; rw [if_pos rfl]
theorem setF_ne {j : Nat} (h : j ≠ i) : setF F i G j = F j := by unfold setF; rw [if_neg h]
theorem setF_sub {j : Nat} {a : Addr} (h : setF F i G j a) : F j a ∨ G a := by
  unfold setF at h
  by_cases e : j = i
  · rw [if_pos e] at h; exact .inr h
  · rw [if_neg e] at h; exact .inl h
theorem getD_set {τ : List OT} {i j : Nat} (hi : i < τ.length) : (τ.set i t).getD j .sh = if j = i then t else τ.getD j .sh := by
  rw [List.getD_eq_getElem?_getD, List.getD_eq_getElem?_getD]
  by_cases e : j = i
  · subst e; rw [if_pos rfl, List.getElem?_set_self hi]; rfl
  · rw [if_neg e, List.getElem?_set_ne (Ne.symm e)]
/-- name = e: the slot holds what was made -/
theorem Slots.setO (S : Slots K H (Un2 Wo G) τ σ env F) (hd : ∀ a, Wo a → ¬ G a) (hi : i < τ.length) (ow : Own K H (WF (Un2 Wo G) F) t v d G) : Slots K H Wo (τ.set i t) (σ.set i (some v)) (env.set i (some d)) (setF F i G) := by
  have hw : ∀ a, WF Wo (setF F i G) a → WF (Un2 Wo G) F a := fun a x => by
    rcases x with x | ⟨j, x⟩
    · exact .inl (.inl x)
    · exact (setF_sub x).elim (fun x => .inr ⟨j, x⟩) fun x => .inl (.inr x)
  have kp : Kp H (WF (Un2 Wo G) F) H (WF Wo (setF F i G)) := Kp.less fun a _ _ n x => n (hw a x)
  have hie : i < env.length := by rw [← S.tl]; exact hi
  refine ⟨by rw [List.length_set, List.length_set, S.len], by rw [List.length_set, List.length_set, S.tl], fun a x => ⟨(S.wo a (.inl x)).1, fun j y => ?_⟩, fun j k a x y => ?_, fun j d' e => ?_, fun j h a x => ?_⟩
  · by_cases hj : j = i
    · subst hj; rw [setF_same] at y; exact hd a x y
    · rw [setF_ne hj] at y; exact (S.wo a (.inl x)).2 j y
  · by_cases hj : j = i
    · subst hj
      rw [setF_same] at x
      by_cases hk : k = j
      · exact hk.symm
      · rw [setF_ne hk] at y; exact ((S.wo a (.inr x)).2 k y).elim
    · rw [setF_ne hj] at x
      by_cases hk : k = i
      · subst hk; rw [setF_same] at y; exact ((S.wo a (.inr y)).2 j x).elim
      · rw [setF_ne hk] at y; exact S.disj j k a x y
  · rw [getD_set hi]
    by_cases hj : j = i
    · subst hj
      rw [List.getElem?_set_self hie] at e
      cases e
      rw [if_pos rfl, setF_same]
      exact ⟨v, List.getElem?_set_self (by rw [S.len]; exact hie), ow.keep kp fun _ _ _ e => e⟩
    · rw [List.getElem?_set_ne (Ne.symm hj)] at e
      rw [if_neg hj, setF_ne hj, List.getElem?_set_ne (Ne.symm hj)]
      obtain ⟨v', h1, h2⟩ := S.slot j d' e
      exact ⟨v', h1, h2.keep kp fun _ _ _ e => e⟩
  · by_cases hj : j = i
    · subst hj
      exact (h d (List.getElem?_set_self hie)).elim
    · rw [setF_ne hj] at x
      exact S.void j (fun d' e => h d' (by rw [List.getElem?_set_ne (Ne.symm hj)]; exact e)) a x
theorem kf_set (hi : i ∉ bor) (g : Nw G H) : KF bor F (setF F i G) H H :=
  ⟨fun _ _ e _ => e, fun _ o e => ⟨o, e⟩, fun j a hj x => by
    by_cases e : j = i
    · subst e; rw [setF_same] at x; exact .inl (g a x)
    · rw [setF_ne e] at x; exact .inr ⟨j, hj, x⟩, fun j hj => setF_ne fun e => hi (by rw [← e]; exact hj)⟩
/-- a slot's own things are data from now on -/
theorem Slots.freeze (S : Slots K H Wo τ σ env F) (hi : i < τ.length) : Slots K H Wo (τ.set i .sh) σ env (setF F i Z0) := by
  have hw : ∀ a, WF Wo (setF F i Z0) a → WF Wo F a := fun a x => by
    rcases x with x | ⟨j, x⟩
    · exact .inl x
    · exact (setF_sub x).elim (fun x => .inr ⟨j, x⟩) fun x => x.elim
  have kp : Kp H (WF Wo F) H (WF Wo (setF F i Z0)) := Kp.less fun a _ _ n x => n (hw a x)
  refine ⟨S.len, by rw [List.length_set, S.tl], fun a x => ⟨(S.wo a x).1, fun j y => ?_⟩, fun j k a x y => ?_, fun j d' e => ?_, fun j h a x => ?_⟩
  · exact (setF_sub y).elim ((S.wo a x).2 j) id
  · exact (setF_sub x).elim (fun x => (setF_sub y).elim (S.disj j k a x) fun z => z.elim) fun z => z.elim
  · obtain ⟨v', h1, h2⟩ := S.slot j d' e
    refine ⟨v', h1, ?_⟩
    rw [getD_set hi]
    by_cases hj : j = i
    · subst hj
      rw [if_pos rfl, setF_same]
      refine Own.shZ (h2.rp (fun a o _ n x => n (hw a x)) fun a x w => ?_)
      rcases w with w | ⟨k, w⟩
      · exact (S.wo a w).2 j x
      · by_cases hk : k = j
        · subst hk; rw [setF_same] at w; exact w
        · rw [setF_ne hk] at w; exact hk (S.disj k j a w x)
    · rw [if_neg hj, setF_ne hj]
      exact h2.keep kp fun _ _ _ e => e
  · exact (setF_sub x).elim (S.void j h a) id
theorem kf_freeze (hi : i ∉ bor) : KF bor F (setF F i Z0) H H := kf_set hi fun _ z => z.elim
/-- what a list's slot owns -/
theorem Slots.lsI (S : Slots K H Wo τ σ env F) (ht : τ.getD i .sh = .ls t) {ds : List PyData} (he : env[i]? = some (some (.list ds))) :
    ∃ a xs G, σ[i]? = some (some (.ref a)) ∧ H a = some (.lst xs) ∧ (∀ b, F i b ↔ b = a ∨ G b) ∧ ¬ G a ∧ OwnL (Own K H (WF Wo F) t) xs ds G := by
  obtain ⟨v, h1, h2⟩ := S.slot i _ he
  rw [ht] at h2
  obtain ⟨a, xs, ds', G, rfl, e, ha, hF, nG, ol⟩ := h2
  cases e
  exact ⟨a, xs, G, h1, ha, hF, nG, ol⟩
/-- a slot's list is changed -/
theorem Slots.updL (S : Slots K H (Un2 Wo Gn) τ σ env F) (hd : ∀ b, Wo b → ¬ Gn b) (ht : τ.getD i .sh = .ls t) {a : Addr} {xs : List V} {ds : List PyData} (hv : σ[i]? = some (some (.ref a))) (ha : F i a) (hG : ∀ b, G' b → F i b ∨ Gn b) (nG : ¬ G' a)
    (ol : OwnL (Own K (upd H a (.lst xs)) (WF (Un2 Wo Gn) F) t) xs ds G') : Slots K (upd H a (.lst xs)) Wo τ σ (env.set i (some (.list ds))) (setF F i fun b => b = a ∨ G' b) := by
  have hsub : ∀ j b, setF F i (fun b => b = a ∨ G' b) j b → (∃ k, F k b) ∨ Gn b := fun j b x => by
    rcases setF_sub x with x | rfl | x
    · exact .inl ⟨j, x⟩
    · exact .inl ⟨i, ha⟩
    · exact (hG b x).imp (fun x => ⟨i, x⟩) id
  have hw : ∀ b, WF Wo (setF F i fun b => b = a ∨ G' b) b → WF (Un2 Wo Gn) F b := fun b x => by
    rcases x with x | ⟨j, x⟩
    · exact .inl (.inl x)
    · exact (hsub j b x).elim .inr fun x => .inl (.inr x)
  have kp : Kp H (WF (Un2 Wo Gn) F) (upd H a (.lst xs)) (WF Wo (setF F i fun b => b = a ∨ G' b)) := ⟨fun b o e n => by rw [upd_ne (fun z => n (.inr ⟨i, by rw [z]; exact ha⟩))]; exact e, fun b _ _ n x => n (hw b x)⟩
  have hi : i < σ.length := (List.getElem?_eq_some_iff.mp hv).1
  have hie : i < env.length := by rw [← S.len]; exact hi
  have notA : ∀ j b, j ≠ i → F j b → b ≠ a := fun j b hj x z => hj (S.disj j i b x (by rw [z]; exact ha))
  refine ⟨by rw [List.length_set, S.len], by rw [List.length_set, S.tl], fun b x => ⟨?_, fun j y => ?_⟩, fun j k b x y => ?_, fun j d' e => ?_, fun j h b x => ?_⟩
  · by_cases z : b = a
    · subst z; exact ⟨_, upd_same⟩
    · rw [upd_ne z]; exact (S.wo b (.inl x)).1
  · rcases hsub j b y with ⟨k, y⟩ | y
    · exact (S.wo b (.inl x)).2 k y
    · exact hd b x y
  · by_cases hj : j = i
    · subst hj
      by_cases hk : k = j
      · exact hk.symm
      · rw [setF_ne hk] at y
        rw [setF_same] at x
        rcases x with rfl | x
        · exact (notA k _ hk y rfl).elim
        · rcases hG b x with x | x
          · exact S.disj j k b x y
          · exact ((S.wo b (.inr x)).2 k y).elim
    · rw [setF_ne hj] at x
      by_cases hk : k = i
      · subst hk
        rw [setF_same] at y
        rcases y with rfl | y
        · exact (notA j _ hj x rfl).elim
        · rcases hG b y with y | y
          · exact S.disj j k b x y
          · exact ((S.wo b (.inr y)).2 j x).elim
      · rw [setF_ne hk] at y; exact S.disj j k b x y
  · by_cases hj : j = i
    · subst hj
      rw [List.getElem?_set_self hie] at e
      cases e
      rw [ht, setF_same]
      exact ⟨.ref a, hv, a, xs, ds, G', rfl, rfl, upd_same, fun _ => Iff.rfl, nG, ol.imp fun v d F' _ ow => ow.keep (Kp.less fun b _ _ n x => n (hw b x)) fun _ _ _ e => e⟩
    · rw [List.getElem?_set_ne (Ne.symm hj)] at e
      rw [setF_ne hj]
      obtain ⟨v', h1, h2⟩ := S.slot j d' e
      exact ⟨v', h1, h2.keep kp fun b o x e => by rw [upd_ne (notA j b hj x)]; exact e⟩
  · by_cases hj : j = i
    · subst hj
      exact (h _ (List.getElem?_set_self hie)).elim
    · rw [setF_ne hj] at x
      exact S.void j (fun d' e => h d' (by rw [List.getElem?_set_ne (Ne.symm hj)]; exact e)) b x
end

/-- where a run goes on -/
def Goes (K : PySem.W.Frag) (bor : List Nat) (τ0 τ' τl : List OT) (tr : OT) (Wo : ASet) (F : Nat → ASet) (H : Hp) (D : Ends) : Fl → Prop
  | .nx e => ∀ σ' H' F', Slots K H' Wo τ' σ' e F' → KF bor F F' H H' → D.nx σ' H'
  | .bk e => ∀ σ' H' F', Slots K H' Wo τl σ' e F' → KF bor F F' H H' → D.bk σ' H'
  | .ct e => ∀ σ' H' F', Slots K H' Wo τl σ' e F' → KF bor F F' H H' → D.ct σ' H'
  | .rt d e => ∀ v H' F' G τr σr, Slots K H' (Un2 Wo G) τr σr e F' → (∀ i ∈ bor, τr.getD i .sh = τ0.getD i .sh) → KF bor F F' H H' → Own K H' (WF (Un2 Wo G) F') tr v d G → NwF bor F H G → (∀ a, Wo a → ¬ G a) → (∀ i ∈ bor, ∀ a, F i a → ¬ G a) → D.rt v H'
def rdS (K : PySem.W.Frag) (bor : List Nat) (τ0 τ τ' τl : List OT) (tr : OT) (f : Env → Option Fl) : TS := fun D σ H =>
  ∃ Wo F env fl, Slots K H Wo τ σ env F ∧ f env = some fl ∧ Goes K bor τ0 τ' τl tr Wo F H D fl
def EvS (X : Cx) (bor : List Nat) (τ0 τ τ' τl : List OT) (tr : OT) (st : Stmt) (f : Env → Option Fl) : Prop := PS X st (rdS X.K bor τ0 τ τ' τl tr f)
def EvSs (X : Cx) (bor : List Nat) (τ0 τ τ' τl : List OT) (tr : OT) (st : List Stmt) (f : Env → Option Fl) : Prop := PSs X st (rdS X.K bor τ0 τ τ' τl tr f)
theorem PS.imp {X : Cx} {st : Stmt} {t t' : TS} (h : PS X st t) (i : ∀ D σ H, t' D σ H → t D σ H) : PS X st t' := ⟨fun pins s σ H D I q => h.run pins s σ H D I (i _ _ _ q)⟩
theorem PSs.imp {X : Cx} {st : List Stmt} {t t' : TS} (h : PSs X st t) (i : ∀ D σ H, t' D σ H → t D σ H) : PSs X st t' := ⟨fun pins s σ H D I q => h.run pins s σ H D I (i _ _ _ q)⟩
section
variable {K : PySem.W.Frag} {bor : List Nat} {τ0 τ τ' τl : List OT} {tr : OT} {Wo : ASet} {F F' : Nat → ASet} {H H' : Hp} {D : Ends} {fl : Fl}
/-- the run has gone on a little -/
theorem Goes.step (h : Goes K bor τ0 τ' τl tr Wo F H D fl) (k : KF bor F F' H H') : Goes K bor τ0 τ' τl tr Wo F' H' D fl := by
  cases fl with
  | nx e => exact fun σ' H2 F2 S k2 => h σ' H2 F2 S (k.trans k2)
  | bk e => exact fun σ' H2 F2 S k2 => h σ' H2 F2 S (k.trans k2)
  | ct e => exact fun σ' H2 F2 S k2 => h σ' H2 F2 S (k.trans k2)
  | rt d e => exact fun v H2 F2 G τr σr S ht k2 ow g dj db => h v H2 F2 G τr σr S ht (k.trans k2) ow (k.nw g) dj fun i hi a x => db i hi a (by rw [k.bor i hi]; exact x)
end
section
variable {X : Cx} {bor : List Nat} {τ0 τ τ1 τ' τl : List OT} {tr t : OT} {p q : Bool} {m m2 : Md} {e a b : Expr} {es : List Expr} {st : Stmt} {sts : List Stmt} {pos : Pos} {f g : M PyData} {fs fr : Env → Option Fl}
theorem evS_bad : EvS X bor τ0 τ τ' τl tr st (fun _ => none) := ⟨fun _ _ _ _ _ _ ⟨_, _, _, _, _, h, _⟩ => nomatch h⟩
theorem evSs_bad : EvSs X bor τ0 τ τ' τl tr sts (fun _ => none) := ⟨fun _ _ _ _ _ _ ⟨_, _, _, _, _, h, _⟩ => nomatch h⟩
def skipS : Env → Option Fl := fun env => some (.nx env)
def seqS (f g : Env → Option Fl) : Env → Option Fl := fun env => match f env with
  | some (.nx e) => g e
  | r => r
theorem evSs_nil : EvSs X bor τ0 τ τ τl tr [] skipS := PSs.imp pss_nil fun D σ H ⟨Wo, F, env, fl, S, hf, k⟩ => by
  cases hf
  exact k σ H F S KF.refl
theorem evSs_cons (h1 : EvS X bor τ0 τ τ1 τl tr st fs) (h2 : EvSs X bor τ0 τ1 τ' τl tr sts fr) : EvSs X bor τ0 τ τ' τl tr (st :: sts) (seqS fs fr) := by
  refine PSs.imp (pss_cons h1 h2) fun D σ H ⟨Wo, F, env, fl, S, hf, k⟩ => ?_
  unfold seqS at hf
  cases e : fs env with
  | none => rw [e] at hf; cases hf
  | some r =>
    rw [e] at hf
    refine ⟨Wo, F, env, r, S, e, ?_⟩
    cases r with
    | nx e1 => exact fun σ' H' F' S' k' => ⟨Wo, F', e1, fl, S', hf, k.step k'⟩
    | rt d e1 => cases hf; exact k
    | bk e1 => cases hf; exact k
    | ct e1 => cases hf; exact k
/-- a name's own things are given away (no step of the program) -/
theorem evSs_frz {i : Nat} (hb : i ∉ bor) (hi : i < τ.length) (h : EvSs X bor τ0 (τ.set i .sh) τ' τl tr sts fs) : EvSs X bor τ0 τ τ' τl tr sts fs :=
  PSs.imp h fun D σ H ⟨Wo, F, env, fl, S, hf, k⟩ => ⟨Wo, setF F i Z0, env, fl, S.freeze hi, hf, k.step (kf_freeze hb)⟩
def passS : Env → Option Fl := skipS
theorem evS_pass : EvS X bor τ0 τ τ τl tr (.Pass pos) skipS := PS.imp ps_pass fun D σ H ⟨Wo, F, env, fl, S, hf, k⟩ => by
  cases hf
  exact k σ H F S KF.refl
theorem evS_break : EvS X bor τ0 τ τ' τ tr (.Break pos) (fun env => some (.bk env)) := PS.imp ps_break fun D σ H ⟨Wo, F, env, fl, S, hf, k⟩ => by
  cases hf
  exact k σ H F S KF.refl
theorem evS_cont : EvS X bor τ0 τ τ' τ tr (.Continue pos) (fun env => some (.ct env)) := PS.imp ps_continue fun D σ H ⟨Wo, F, env, fl, S, hf, k⟩ => by
  cases hf
  exact k σ H F S KF.refl
/-- an expression, its value dropped -/
def exprS (f : M PyData) : Env → Option Fl := fun env => (f env).map fun x => .nx x.2
theorem exprS_some {f : M PyData} {env : Env} {fl : Fl} (h : exprS f env = some fl) : ∃ d e, f env = some (d, e) ∧ fl = .nx e := by
  unfold exprS at h
  cases q : f env with
  | none => rw [q] at h; cases h
  | some x => rw [q] at h; cases h; exact ⟨x.1, x.2, rfl, rfl⟩
theorem evS_expr (h : EvM X τ p m e f) (hs : swapsWith e none pos.line X.env = pure false) : EvS X bor τ0 τ τ τl tr (.Expr e pos) (exprS f) := by
  refine PS.imp (ps_expr h hs) fun D σ H ⟨Wo, F, env, fl, S, hf, k⟩ => ?_
  obtain ⟨d, e1, h1, rfl⟩ := exprS_some hf
  exact ⟨Wo, F, env, d, e1, S, h1, fun v H' G S' kq md g => k σ H' F S'.less (KF.of S'.less kq)⟩
/-- return e -/
def retS (f : M PyData) : Env → Option Fl := fun env => (f env).map fun x => .rt x.1 x.2
theorem retS_some {f : M PyData} {env : Env} {fl : Fl} (h : retS f env = some fl) : ∃ d e, f env = some (d, e) ∧ fl = .rt d e := by
  unfold retS at h
  cases q : f env with
  | none => rw [q] at h; cases h
  | some x => rw [q] at h; cases h; exact ⟨x.1, x.2, rfl, rfl⟩
theorem evS_ret (h : EvM X τ p (.ow tr) e f) (hb : ∀ i ∈ bor, τ.getD i .sh = τ0.getD i .sh) : EvS X bor τ0 τ τ' τl tr (.Return (some e) pos) (retS f) := by
  refine PS.imp (ps_ret h) fun D σ H ⟨Wo, F, env, fl, S, hf, k⟩ => ?_
  obtain ⟨d, e1, h1, rfl⟩ := retS_some hf
  refine ⟨Wo, F, env, d, e1, S, h1, fun v H' G S' kq md g => k v H' F G τ σ S' hb (KF.of S'.less kq) md (fun a x => .inl (g a x)) (fun a w x => ?_) fun i hi a w x => ?_⟩
  · obtain ⟨o, e⟩ := (S.wo a w).1
    rw [g a x] at e; cases e
  · obtain ⟨o, e⟩ := S.tracked (.inr ⟨i, w⟩)
    rw [g a x] at e; cases e
/-- return of a name: what its slot owns goes along -/
theorem wf_move {Wo : ASet} {F : Nat → ASet} {i : Nat} : WF (Un2 Wo (F i)) (setF F i Z0) = WF Wo F := funext fun a => propext ⟨fun x => by
    rcases x with (x | x) | ⟨j, x⟩
    · exact .inl x
    · exact .inr ⟨i, x⟩
    · exact (setF_sub x).elim (fun x => .inr ⟨j, x⟩) fun z => z.elim, fun x => by
    rcases x with x | ⟨j, x⟩
    · exact .inl (.inl x)
    · by_cases hj : j = i
      · subst hj; exact .inl (.inr x)
      · exact .inr ⟨j, by rw [setF_ne hj]; exact x⟩⟩
theorem Slots.move {K : PySem.W.Frag} {H : Hp} {Wo : ASet} {τ : List OT} {σ : L2.St} {env : Env} {F : Nat → ASet} {i : Nat} (S : Slots K H Wo τ σ env F) (hi : i < τ.length) : Slots K H (Un2 Wo (F i)) (τ.set i .sh) (σ.set i none) (env.set i none) (setF F i Z0) := by
  refine ⟨by rw [List.length_set, List.length_set, S.len], by rw [List.length_set, List.length_set, S.tl], fun a x => ?_, fun j k a x y => ?_, fun j d' e' => ?_, fun j h a x => ?_⟩
  · rcases x with x | x
    · exact ⟨(S.wo a x).1, fun j y => (setF_sub y).elim ((S.wo a x).2 j) id⟩
    · refine ⟨S.tracked (.inr ⟨i, x⟩), fun j y => ?_⟩
      by_cases hj : j = i
      · subst hj; rw [setF_same] at y; exact y
      · rw [setF_ne hj] at y; exact hj (S.disj j i a y x)
  · exact (setF_sub x).elim (fun x => (setF_sub y).elim (S.disj j k a x) fun z => z.elim) fun z => z.elim
  · by_cases hj : j = i
    · subst hj
      rw [List.getElem?_set_self (by rw [← S.tl]; exact hi)] at e'
      cases e'
    · rw [List.getElem?_set_ne (Ne.symm hj)] at e'
      rw [getD_set hi, if_neg hj, setF_ne hj, wf_move, List.getElem?_set_ne (Ne.symm hj)]
      exact S.slot j d' e'
  · by_cases hj : j = i
    · subst hj; rw [setF_same] at x; exact x
    · rw [setF_ne hj] at x
      exact S.void j (fun d' e => h d' (by rw [List.getElem?_set_ne (Ne.symm hj)]; exact e)) a x
def retOF (i : Nat) : Env → Option Fl := fun env => (varF i env).map fun x => .rt x.1 (env.set i none)
theorem evS_retO {i : Nat} {x : Str} {pp : Pos} (hN : X.N[i]? = some x) (hv : Vis X.env.scope x) (ht : τ.getD i .sh = tr) (hi : i < τ.length) (hb : i ∉ bor) (hbt : ∀ j ∈ bor, τ.getD j .sh = τ0.getD j .sh) (hd : (x == ("__debug__" : Str)) = false) (hcd : (x == ("__classdict__" : Str)) = false) :
    EvS X bor τ0 τ τ' τl tr (.Return (some (.Name x pp)) pos) (retOF i) := by
  refine PS.imp (ps_ret (pe_var hN hv hd hcd)) fun D σ H ⟨Wo, F, env, fl, S, hf, k⟩ => ?_
  unfold retOF at hf
  cases q : varF i env with
  | none => rw [q] at hf; cases hf
  | some r =>
    obtain ⟨d, e1⟩ := r
    rw [q] at hf
    cases hf
    obtain ⟨e, rfl⟩ := varF_some q
    obtain ⟨v, h1, h2⟩ := S.slot i d e
    rw [ht] at h2
    refine ⟨v, h1, k v H (setF F i Z0) (F i) (τ.set i .sh) (σ.set i none) (S.move hi) (fun j hj => ?_) (kf_freeze hb) (by rw [wf_move]; exact h2) (fun a x => .inr ⟨i, hb, x⟩) (fun a w x => (S.wo a w).2 i x) fun j hj a w x => ?_⟩
    · rw [getD_set hi, if_neg fun z => hb (by rw [← z]; exact hj)]; exact hbt j hj
    · exact hb (by rw [← S.disj j i a w x]; exact hj)
/-- return -/
theorem evS_retN (hb : ∀ i ∈ bor, τ.getD i .sh = τ0.getD i .sh) : EvS X bor τ0 τ τ' τl .sh (.Return none pos) (fun env => some (.rt .none env)) := by
  refine PS.imp ps_retN fun D σ H ⟨Wo, F, env, fl, S, hf, k⟩ => ?_
  cases hf
  exact k .non H F Z0 τ σ (by rw [un2_z]; exact S) hb KF.refl (Own.shZ .non) (fun _ z => z.elim) (fun _ _ z => z) fun _ _ _ _ z => z
/-- name = e -/
def asgS (i : Nat) (f : M PyData) : Env → Option Fl := fun env => (f env).map fun x => .nx (x.2.set i (some x.1))
theorem asgS_some {i : Nat} {f : M PyData} {env : Env} {fl : Fl} (h : asgS i f env = some fl) : ∃ d e, f env = some (d, e) ∧ fl = .nx (e.set i (some d)) := by
  unfold asgS at h
  cases q : f env with
  | none => rw [q] at h; cases h
  | some x => rw [q] at h; cases h; exact ⟨x.1, x.2, rfl, rfl⟩
theorem KF.set {K : PySem.W.Frag} {H H' : Hp} {Wo G : ASet} {σ : L2.St} {env : Env} {F : Nat → ASet} {i : Nat} (S' : Slots K H' Wo τ σ env F) (kq : Kq p F H H') (g : Nw G H) (hb : i ∉ bor) : KF bor F (setF F i G) H H' :=
  ⟨(KF.of (bor := bor) S' kq).keep, (KF.of (bor := bor) S' kq).there, fun j a hj x => by
    by_cases e : j = i
    · subst e; rw [setF_same] at x; exact .inl (g a x)
    · rw [setF_ne e] at x; exact .inr ⟨j, hj, x⟩, fun j hj => setF_ne fun e => hb (by rw [← e]; exact hj)⟩
theorem asg_rd {i : Nat} (hi : i < τ.length) (hb : i ∉ bor) {D : Ends} {σ : L2.St} {H : Hp} (h : rdS X.K bor τ0 τ (τ.set i t) τl tr (asgS i f) D σ H) : tAsg (rdM X.K τ p (.ow t) f) (gName i) D σ H := by
  obtain ⟨Wo, F, env, fl, S, hf, k⟩ := h
  obtain ⟨d, e1, h1, rfl⟩ := asgS_some hf
  refine ⟨Wo, F, env, d, e1, S, h1, fun v H' G S' kq md g => k _ H' (setF F i G) (S'.setO (fun a w x => ?_) hi md) (KF.set S'.less kq g hb)⟩
  obtain ⟨o, e⟩ := (S.wo a w).1
  rw [g a x] at e; cases e
theorem evS_set {i : Nat} {x : Str} {pos' : Pos} (hN : X.N.Nodup) (hx : X.N[i]? = some x) (hl : Loc X.env.scope x) (hi : i < τ.length) (hb : i ∉ bor) (h : EvM X τ p (.ow t) e f) (hs : swapsWith e (some (.Name x pos')) pos.line X.env = pure false) (hf : X.fn x = true ∨ X.env.scope.names.lookup x = some .local) :
    EvS X bor τ0 τ (τ.set i t) τl tr (.Assign [.Name x pos'] e pos) (asgS i f) := PS.imp (ps_set hN hx hl h hs hf) fun _ _ _ h => asg_rd hi hb h
/-- a, b = e -/
def asgG (f : M PyData) (fg : PyData → Env → Option Env) : Env → Option Fl := fun env => (f env).bind fun x => (fg x.1 x.2).map .nx
theorem evS_asgG {tg : Expr} {vs : List Nat} {fg : PyData → Env → Option Env} (h : EvM X τ p (.ow .sh) e f) (hg : EvG X τ vs tg fg) (hs : swapsWithSole [tg] e pos.line X.env = pure false) (hw : swappedStores [tg] e X.env = pure none) (h1 : (assignEach [tg] X.env).map (·.2) = [assign tg X.env]) :
    EvS X bor τ0 τ τ τl tr (.Assign [tg] e pos) (asgG f fg) := by
  refine PS.imp (ps_asg h hg hs hw h1) fun D σ H ⟨Wo, F, env, fl, S, hf, k⟩ => ?_
  unfold asgG at hf
  cases q : f env with
  | none => rw [q] at hf; cases hf
  | some r =>
    obtain ⟨d, e1⟩ := r
    rw [q] at hf
    simp only [Option.bind_some] at hf
    cases q2 : fg d e1 with
    | none => rw [q2] at hf; cases hf
    | some e2 =>
      rw [q2] at hf
      cases hf
      exact ⟨Wo, F, env, d, e1, S, q, fun v H' G S' kq md g => ⟨Wo, F, e1, d, e2, S'.less, Own.rpW S g md, q2, fun σ' S2 _ _ => k σ' H' F S2 (KF.of S'.less kq)⟩⟩
/-- a, b = x, y (data) -/
def parS (i j : Nat) (f : M (List PyData)) : Env → Option Fl := fun env => (f env).bind fun x => match x.1 with
  | [d, e] => some (.nx ((x.2.set i (some d)).set j (some e)))
  | _ => none
theorem evS_par {i j : Nat} {x y : Str} {px py pt : Pos} {kt k2 : Nat} {pt2 : Pos} {fe : M (List PyData)} (hc : X.calm = true) (hN : X.N.Nodup) (hi : X.N[i]? = some x) (hj : X.N[j]? = some y) (hij : i ≠ j)
    (hx : X.env.scope.names.lookup x = some .local) (hy : X.env.scope.names.lookup y = some .local) (ha : EvL X τ p .sh [a, b] fe) (hti : τ.getD i .sh = .sh) (htj : τ.getD j .sh = .sh)
    (hw : swappedStores [.Tuple [.Name x px, .Name y py] kt pt] (.Tuple [a, b] k2 pt2) X.env = pure (some [x, y]))
    (hs : swapsWithSole [.Tuple [.Name x px, .Name y py] kt pt] (.Tuple [a, b] k2 pt2) pos.line X.env = pure false) :
    EvS X bor τ0 τ τ τl tr (.Assign [.Tuple [.Name x px, .Name y py] kt pt] (.Tuple [a, b] k2 pt2) pos) (parS i j fe) := by
  refine PS.imp (ps_par hc hN hi hj hij hx hy ha hw hs) fun D σ H ⟨Wo, F, env, fl, S, hf, k⟩ => ?_
  unfold parS at hf
  cases q : fe env with
  | none => rw [q] at hf; cases hf
  | some r =>
    obtain ⟨ds, e1⟩ := r
    rw [q] at hf
    simp only [Option.bind_some] at hf
    split at hf
    · rename_i d e
      cases hf
      refine ⟨Wo, F, env, [d, e], e1, S, q, fun vs H' G S' kq ol g => ?_⟩
      obtain ⟨ra, _⟩ := ol.sh_rpa
      cases ra with
      | @cons v _ _ _ r1 t =>
        cases t with
        | @cons w _ _ _ r2 t =>
          cases t
          have kl : Kp H' (WF (Un2 Wo G) F) H' (WF Wo F) := Kp.less fun a o _ n x => n (by rw [wf_un]; exact .inl x)
          exact ⟨v, w, rfl, k _ H' F ((S'.less.setSh hti (r1.keep kl)).setSh htj (r2.keep kl)) (KF.of S'.less kq)⟩
    · cases hf
/-- if -/
def ifS (fc : M PyData) (fa fb : Env → Option Fl) : Env → Option Fl := fun env => match asB fc env with
  | some (true, e) => fa e
  | some (false, e) => fb e
  | none => none
theorem evS_if {c : Expr} {sa sb : List Stmt} {fc : M PyData} {fa fb : Env → Option Fl} (hc : EvT X τ p c (asB fc)) (ha : EvSs X bor τ0 τ τ' τl tr sa fa) (hb : EvSs X bor τ0 τ τ' τl tr sb fb) : EvS X bor τ0 τ τ' τl tr (.If c sa sb pos) (ifS fc fa fb) := by
  refine PS.imp (ps_if hc ha hb) fun D σ H ⟨Wo, F, env, fl, S, hf, k⟩ => ?_
  unfold ifS at hf
  cases q : asB fc env with
  | none => rw [q] at hf; cases hf
  | some r =>
    obtain ⟨x, e1⟩ := r
    rw [q] at hf
    refine ⟨Wo, F, env, x, e1, S, q, fun H1 S1 k1 => ?_⟩
    cases x with
    | true => exact iteT ⟨Wo, F, e1, fl, S1, hf, k.step (KF.of S1 k1)⟩
    | false => exact L2.iteF ⟨Wo, F, e1, fl, S1, hf, k.step (KF.of S1 k1)⟩
/-- for -/
def goF (asg : PyData → Env → Option Env) (body : Env → Option Fl) : List PyData → Env → Option Fl
  | [], env => some (.nx env)
  | d :: ds, env => (asg d env).bind fun e1 => match body e1 with
    | some (.nx e) => goF asg body ds e
    | some (.ct e) => goF asg body ds e
    | some (.bk e) => some (.nx e)
    | r => r
def forS (src : M (List PyData)) (asg : PyData → Env → Option Env) (body : Env → Option Fl) : Env → Option Fl := fun env => (src env).bind fun x => goF asg body x.1 x.2
theorem evS_for {tg iter : Expr} {body : List Stmt} {vs : List Nat} {src : M (List PyData)} {asg : PyData → Env → Option Env} {fb : Env → Option Fl} (hp : PassesOwn (model X.prog X.w) X.A X.env X.xe) (hc : X.calm = true) (hi : EvI X τ p false tg iter src) (hg : EvG X τ vs tg asg)
    (hb : EvSs X bor τ0 τ τ τ tr body fb) (hs : ∀ x, foldedSetIterable iter X.env x = pure x) : EvS X bor τ0 τ τ τl tr (.For tg iter body [] pos) (forS src asg fb) := by
  refine PS.imp (ps_for hp hc hi hg hb hs) fun D σ H ⟨Wo, F, env, fl, S, hf, k⟩ => ?_
  unfold forS at hf
  cases q : src env with
  | none => rw [q] at hf; cases hf
  | some r =>
  obtain ⟨ds, e1⟩ := r
  rw [q] at hf
  simp only [Option.bind_some] at hf
  refine ⟨Wo, F, env, ds, e1, S, q, fun J H1 S1 k1 Y => ?_⟩
  have k := k.step (KF.of (bor := bor) S1 k1)
  refine ⟨fun i m σ2 H2 => m = ds.length - i ∧ ∃ env2 F2, goF asg fb (ds.drop i) env2 = some fl ∧ Slots X.K H2 Wo τ σ2 env2 F2 ∧ KF bor F F2 H1 H2, ⟨ds.length - 0, rfl, e1, F, hf, S1, KF.refl⟩, ?_⟩
  rintro i m σ2 H2 ⟨rfl, env2, F2, hgo, S2, k2⟩
  have keepC : ∀ a o, H1 a = some o → ¬ WF Wo F a → H2 a = some o := fun a o e n => k2.keep a o e fun j x => n (.inr ⟨j, x⟩)
  have kp : Kp H1 (WF Wo F) H2 (WF Wo F2) := ⟨keepC, fun a o e n w => by
    rcases w with w | ⟨j, w⟩
    · exact n (.inl w)
    · by_cases hj : j ∈ bor
      · rw [k2.bor j hj] at w; exact n (.inr ⟨j, w⟩)
      · rcases k2.own j a hj w with z | ⟨l, _, z⟩
        · rw [z] at e; cases e
        · exact n (.inr ⟨l, z⟩)⟩
  cases hd : ds[i]? with
  | none =>
    left
    refine ⟨Y.stop i H2 keepC hd, ?_⟩
    have hle := List.getElem?_eq_none_iff.mp hd
    rw [List.drop_eq_nil_of_le hle] at hgo
    cases hgo
    exact k σ2 H2 F2 S2 k2
  | some d =>
    right
    have hlt : i < ds.length := (List.getElem?_eq_some_iff.mp hd).1
    have hdrop : ds.drop i = d :: ds.drop (i + 1) := by
      rw [List.drop_eq_getElem_cons hlt]
      have := (List.getElem?_eq_some_iff.mp hd).2
      rw [this]
    obtain ⟨go, yl⟩ := Y.go i H2 (WF Wo F2) d keepC kp (fun a w => S2.tracked w) hd
    rw [hdrop] at hgo
    unfold goF at hgo
    cases h1 : asg d env2 with
    | none => rw [h1] at hgo; cases hgo
    | some e2 =>
    rw [h1] at hgo
    simp only [Option.bind_some] at hgo
    cases h2 : fb e2 with
    | none => rw [h2] at hgo; cases hgo
    | some r =>
    rw [h2] at hgo
    refine ⟨go, fun σ' H' => ∃ env' F', goF asg fb (ds.drop (i + 1)) env' = some fl ∧ Slots X.K H' Wo τ σ' env' F' ∧ KF bor F F' H1 H', fun σ' H' hn => ⟨ds.length - (i + 1), by omega, rfl, hn⟩, fun x H3 hy => ?_⟩
    obtain ⟨sm3, rx⟩ := yl x H3 hy
    have S3 := S2.same sm3
    have k3 : KF bor F F2 H1 H3 := k2.trans (KF.of S3 (Kq.sm (p := true) sm3))
    refine ⟨Wo, F2, env2, d, e2, S3, rx, h1, fun σ3 S4 _ _ => ⟨Wo, F2, e2, r, S4, h2, ?_⟩⟩
    cases r with
    | nx e => exact fun σ' H' F' S' k' => ⟨e, F', hgo, S', k3.trans k'⟩
    | ct e => exact fun σ' H' F' S' k' => ⟨e, F', hgo, S', k3.trans k'⟩
    | bk e =>
      cases hgo
      exact fun σ' H' F' S' k' => k σ' H' F' S' (k3.trans k')
    | rt d e =>
      cases hgo
      exact Goes.step (fl := .rt d e) (τ' := τ) (τl := τ) k k3
/-- while: so many turns at most -/
def goW (c : M PyData) (body : Env → Option Fl) : Nat → Env → Option Fl
  | 0, _ => none
  | n + 1, env => match asB c env with
    | none => none
    | some (false, e) => some (.nx e)
    | some (true, e) => match body e with
      | some (.nx e) => goW c body n e
      | some (.ct e) => goW c body n e
      | some (.bk e) => some (.nx e)
      | r => r
theorem evS_while {c : Expr} {body : List Stmt} {fc : M PyData} {fb : Env → Option Fl} {n : Nat} (hp : PassesOwn (model X.prog X.w) X.A X.env X.xe) (hc : EvT X τ p c (asB fc)) (hb : EvSs X bor τ0 τ τ τ tr body fb) : EvS X bor τ0 τ τ τl tr (.While c body [] pos) (goW fc fb n) := by
  refine PS.imp (ps_while hp hc hb) fun D σ H ⟨Wo, F, env, fl, S, hf, k⟩ => ?_
  refine ⟨fun m σ2 H2 => ∃ env2 F2, goW fc fb m env2 = some fl ∧ Slots X.K H2 Wo τ σ2 env2 F2 ∧ KF bor F F2 H H2, ⟨n, env, F, hf, S, KF.refl⟩, ?_⟩
  rintro m σ2 H2 ⟨env2, F2, hgo, S2, k2⟩
  cases m with
  | zero => cases hgo
  | succ m =>
  unfold goW at hgo
  cases q : asB fc env2 with
  | none => rw [q] at hgo; cases hgo
  | some r =>
  obtain ⟨x, e1⟩ := r
  rw [q] at hgo
  refine ⟨Wo, F2, env2, x, e1, S2, q, fun H3 S3 k3 => ?_⟩
  have k3 : KF bor F F2 H H3 := k2.trans (KF.of S3 k3)
  cases x with
  | false =>
    cases hgo
    exact L2.iteF (k σ2 H3 F2 S3 k3)
  | true =>
    simp only at hgo
    cases h2 : fb e1 with
    | none => rw [h2] at hgo; cases hgo
    | some r =>
    rw [h2] at hgo
    refine iteT ⟨fun σ' H' => ∃ env' F', goW fc fb m env' = some fl ∧ Slots X.K H' Wo τ σ' env' F' ∧ KF bor F F' H H', fun σ' H' hn => ⟨m, by omega, hn⟩, Wo, F2, e1, r, S3, h2, ?_⟩
    cases r with
    | nx e => exact fun σ' H' F' S' k' => ⟨e, F', hgo, S', k3.trans k'⟩
    | ct e => exact fun σ' H' F' S' k' => ⟨e, F', hgo, S', k3.trans k'⟩
    | bk e =>
      cases hgo
      exact fun σ' H' F' S' k' => k σ' H' F' S' (k3.trans k')
    | rt d e =>
      cases hgo
      exact Goes.step (fl := .rt d e) (τ' := τ) (τl := τ) k k3
end
end Ev

set_option Elab.async false
set_option linter.all false
set_option maxRecDepth 100000
set_option maxHeartbeats 2000000
namespace Ev
open PySem PySem.Spec PyProof.Rows L2

/-! ### M. a slot's own list changes -/
section
variable {K : PySem.W.Frag} {H H' : Hp} {Wo G : ASet} {τ : List OT} {σ : L2.St} {env : Env} {F : Nat → ASet} {i : Nat} {t : OT} {bor : List Nat}
theorem KF.upd {a : Addr} {o : HO} {F' : Nat → ASet} (k : KF bor F F H H') (ha : F i a) (h : ∀ j b, j ∉ bor → F' j b → H b = none ∨ ∃ k, k ∉ bor ∧ F k b) (hb : ∀ j, j ∈ bor → F' j = F j) : KF bor F F' H (upd H' a o) :=
  ⟨fun b u e n => by rw [upd_ne (fun z => n i (by rw [z]; exact ha))]; exact k.keep b u e n, fun b u e => by
    by_cases z : b = a
    · subst z; exact ⟨_, upd_same⟩
    · obtain ⟨u', e'⟩ := k.there b u e
      exact ⟨u', by rw [upd_ne z]; exact e'⟩, h, hb⟩
theorem OwnL.upd {W : ASet} {xs : List V} {ds : List PyData} {a : Addr} {o : HO} (ol : OwnL (Own K H W t) xs ds G) (w : W a) (n : ¬ G a) : OwnL (Own K (upd H a o) W t) xs ds G := ol.imp fun v d F s ow =>
  ow.keep ⟨fun b u e nw => by rw [upd_ne (fun z => nw (by rw [z]; exact w))]; exact e, fun _ _ _ n => n⟩ fun b u x e => by rw [upd_ne (fun z => n (by rw [← z]; exact s b x))]; exact e
end
def listAt (env : Env) (i : Nat) : Option (List PyData) := match env[i]? with
  | some (some (.list ds)) => some ds
  | _ => none
theorem listAt_some {env : Env} {i : Nat} {ds : List PyData} (h : listAt env i = some ds) : env[i]? = some (some (.list ds)) := by
  unfold listAt at h
  split at h
  · rename_i e; cases h; exact e
  · cases h
def appendS (i : Nat) (fe : M PyData) : Env → Option Fl := fun env => (listAt env i).bind fun _ => (fe env).bind fun x => (listAt x.2 i).bind fun ds => if ds.length < sizeLine then some (.nx (x.2.set i (some (.list (ds ++ [x.1]))))) else none
section
variable {X : Cx} {bor : List Nat} {τ0 τ τ1 τ' τl : List OT} {tr t : OT} {p q : Bool} {m m2 : Md} {e a b : Expr} {es : List Expr} {st : Stmt} {sts : List Stmt} {pos cpos apos : Pos} {f g fe fi : M PyData} {fs fr : Env → Option Fl} {i : Nat} {x : Str} {pp : Pos}
/-- x.append(e), of a slot's own list -/
theorem evS_append (hN : X.N[i]? = some x) (hv : Vis X.env.scope x) (hd : (x == ("__debug__" : Str)) = false) (hcd : (x == ("__classdict__" : Str)) = false) (ht : τ.getD i .sh = .ls t) (hb : i ∉ bor ∨ t = .sh) (h : EvM X τ p (.ow t) e fe)
    (hs : swapsWith (.Call (.Attribute (.Name x pp) "append" apos) [e] [] cpos) none pos.line X.env = pure false) (hst : starEach [e] X.env = [(false, eval e X.env)])
    (hfew : ((backTo cpos (starEach [e] X.env)).all (fun x => !x.1) && (backToKw cpos (keywordEach [] X.env)).all (fun x => x.1.isSome) && decide ([e].length + ([] : List Keyword).length + (if ([] : List Keyword).isEmpty then 0 else 1) < 30)) = true)
    (hline : (apos.endLine == cpos.line) = true) :
    EvS X bor τ0 τ τ τl tr (.Expr (.Call (.Attribute (.Name x pp) "append" apos) [e] [] cpos) pos) (appendS i fe) := by
  refine PS.imp (ps_expr (pe_bm PySem.F.plainAttrs_list PySem.F.slot_list_append PySem.F.type_list_append mt_append (pe_var hN hv hd hcd) (pa_cons h pa_nil hst) (by rfl) hfew hline hst (by rfl)) hs) fun D σ H ⟨Wo, F, env, fl, S, hf, k⟩ => ?_
  unfold appendS at hf
  cases q0 : listAt env i with
  | none => rw [q0] at hf; cases hf
  | some ds0 =>
  rw [q0] at hf
  simp only [Option.bind_some] at hf
  cases q1 : fe env with
  | none => rw [q1] at hf; cases hf
  | some r =>
  obtain ⟨d, e1⟩ := r
  rw [q1] at hf
  simp only [Option.bind_some] at hf
  cases q2 : listAt e1 i with
  | none => rw [q2] at hf; cases hf
  | some ds =>
  rw [q2] at hf
  simp only [Option.bind_some] at hf
  by_cases hz : ds.length < sizeLine
  · rw [if_pos hz] at hf
    cases hf
    obtain ⟨a, xs0, G0', h1, ha0, hF0, nG0', _⟩ := S.lsI ht (listAt_some q0)
    refine ⟨.ref a, h1, .inl ⟨rfl, xs0, .inl (.inl ha0)⟩, Wo, F, env, d, e1, S, q1, fun v H' G S' kq md g => ?_⟩
    obtain ⟨a', xs, G0, h1', ha, hF, nG0, ol⟩ := S'.lsI ht (listAt_some q2)
    rw [h1] at h1'
    cases h1'
    have Fa : F i a := (hF a).mpr (.inl rfl)
    have Wa : WF (Un2 Wo G) F a := .inr ⟨i, Fa⟩
    have nGa : ¬ G a := fun z => by rw [g a z] at ha0; cases ha0
    have dG : ∀ b, Wo b → ¬ G b := fun b w z => by
      obtain ⟨o, e⟩ := (S.wo b w).1
      rw [g b z] at e; cases e
    have dFG : ∀ b, G b → ¬ G0 b := fun b z y => by
      obtain ⟨o, e⟩ := S.tracked (.inr ⟨i, (hF b).mpr (.inr y)⟩)
      rw [g b z] at e; cases e
    have ow : Own X.K (upd H' a (.lst (xs ++ [v]))) (WF (Un2 Wo G) F) t v d G := Own.keep ⟨fun b u e nw => by rw [upd_ne (fun z => nw (by rw [z]; exact Wa))]; exact e, fun _ _ _ n => n⟩ (fun b u x e => by rw [upd_ne (fun z => nGa (by rw [← z]; exact x))]; exact e) md
    have ol2 := (ol.upd (o := .lst (xs ++ [v])) Wa nG0).snoc ow dFG
    have S2 := S'.updL dG ht h1 Fa (G' := fun b => G0 b ∨ G b) (fun b z => z.imp (fun z => (hF b).mpr (.inr z)) id) (fun z => z.elim nG0 nGa) ol2
    refine ⟨a, xs, v, rfl, rfl, ha, by rw [ol.length]; exact hz, k σ _ _ S2 (KF.upd (KF.of (bor := bor) S'.less kq) Fa (fun j b hj z => ?_) fun j hj => ?_)⟩
    · by_cases e : j = i
      · subst e
        rw [setF_same] at z
        rcases z with rfl | z | z
        · exact .inr ⟨j, hj, Fa⟩
        · exact .inr ⟨j, hj, (hF b).mpr (.inr z)⟩
        · exact .inl (g b z)
      · rw [setF_ne e] at z; exact .inr ⟨j, hj, z⟩
    · by_cases e : j = i
      · subst e
        rw [setF_same]
        rcases hb with hb | rfl
        · exact (hb hj).elim
        · refine funext fun b => propext ⟨fun z => ?_, fun z => ?_⟩
          · rcases z with rfl | z | z
            · exact Fa
            · exact (hF b).mpr (.inr z)
            · exact (md.2 b z).elim
          · rcases (hF b).mp z with rfl | z
            · exact .inl rfl
            · exact .inr (.inl z)
      · exact setF_ne e
  · rw [if_neg hz] at hf; cases hf
/-- a borrowed or own list of data: what its slot owns is itself alone -/
theorem own1 {K : PySem.W.Frag} {H : Hp} {W G : ASet} {xs : List V} {ds : List PyData} {F : ASet} {a : Addr} (hF : ∀ b, F b ↔ b = a ∨ G b) (ol : OwnL (Own K H W .sh) xs ds G) : F = fun b => b = a ∨ Z0 b :=
  funext fun b => propext ⟨fun z => ((hF b).mp z).imp id fun y => (ol.sh_rpa.2 b y).elim, fun z => (hF b).mpr (z.imp id fun y => y.elim)⟩
theorem setF_self {F : Nat → ASet} {i : Nat} {G : ASet} (h : F i = G) : setF F i G = F := funext fun j => by
  by_cases e : j = i
  · subst e; rw [setF_same, h]
  · exact setF_ne e
def setIxS (i : Nat) (fe fi : M PyData) : Env → Option Fl := fun env => (fe env).bind fun x => (listAt x.2 i).bind fun _ => (fi x.2).bind fun k => match k.1 with
  | .int j => (listAt k.2 i).bind fun ds => (ixN ds.length j).map fun n => .nx (k.2.set i (some (.list (ds.set n x.1))))
  | _ => none
/-- x[k] = e, of a slot's own list -/
theorem evS_setIx {ix : Expr} {spos : Pos} (hN : X.N[i]? = some x) (hv : Vis X.env.scope x) (hd : (x == ("__debug__" : Str)) = false) (hcd : (x == ("__classdict__" : Str)) = false) (ht : τ.getD i .sh = .ls .sh) (h : EvM X τ p (.ow .sh) e fe) (hi : EvM X τ true m ix fi)
    (hs : swapsWithSole [.Subscript (.Name x pp) ix spos] e pos.line X.env = pure false) (hw : swappedStores [.Subscript (.Name x pp) ix spos] e X.env = pure none) (h1 : (assignEach [.Subscript (.Name x pp) ix spos] X.env).map (·.2) = [assign (.Subscript (.Name x pp) ix spos) X.env])
    (ha : ∀ v, assign (.Subscript (.Name x pp) ix spos) X.env v = (do
      let ov ← holding [v] (eval (.Name x pp) X.env)
      let iv ← holding [v, ov] (eval ix X.env)
      standAt spos
      holding [v, ov, iv] (setItem ov iv v)
      release [v, ov, iv] [])) :
    EvS X bor τ0 τ τ τl tr (.Assign [.Subscript (.Name x pp) ix spos] e pos) (setIxS i fe fi) := by
  refine PS.imp (ps_asg h (pg_sub (pe_var hN hv hd hcd) hi set_list ha) hs hw h1) fun D σ H ⟨Wo, F, env, fl, S, hf, k⟩ => ?_
  unfold setIxS at hf
  cases q1 : fe env with
  | none => rw [q1] at hf; cases hf
  | some r =>
  obtain ⟨d, e1⟩ := r
  rw [q1] at hf
  simp only [Option.bind_some] at hf
  cases q0 : listAt e1 i with
  | none => rw [q0] at hf; cases hf
  | some ds0 =>
  rw [q0] at hf
  simp only [Option.bind_some] at hf
  cases q2 : fi e1 with
  | none => rw [q2] at hf; cases hf
  | some r =>
  obtain ⟨kd, e2⟩ := r
  rw [q2] at hf
  simp only [Option.bind_some] at hf
  cases kd with
  | int j =>
    simp only at hf
    cases q3 : listAt e2 i with
    | none => rw [q3] at hf; cases hf
    | some ds =>
    rw [q3] at hf
    simp only [Option.bind_some] at hf
    cases q4 : ixN ds.length j with
    | none => rw [q4] at hf; cases hf
    | some n =>
    rw [q4] at hf
    cases hf
    refine ⟨Wo, F, env, d, e1, S, q1, fun v H1 G S1 k1 md g => ?_⟩
    have rv := Own.rpW S g md
    -- the slot's list, as it stands ahead of the index
    have S1 := S1.less
    obtain ⟨a, _, _, hva, _⟩ := S1.lsI ht (listAt_some q0)
    refine ⟨.ref a, hva, Wo, F, e1, .int j, e2, S1, q2, fun u H2 G2 S2 k2 md2 g2 => ?_⟩
    obtain ⟨a', xs, G0, h1', ha2, hF, nG0, ol⟩ := S2.less.lsI ht (listAt_some q3)
    rw [hva] at h1'
    cases h1'
    have Fa : F i a := (hF a).mpr (.inl rfl)
    cases (md2.rq S1 g2).intI
    refine ⟨a, xs, j, n, rfl, rfl, ha2, by rw [ol.length]; exact q4, ?_⟩
    have rv2 : Rp X.K H2 (WF Wo F) v d := rv.keep k2.kp
    have ol2 : OwnL (Own X.K (upd H2 a (.lst (xs.set n v))) (WF (Un2 Wo Z0) F) .sh) (xs.set n v) (ds.set n d) Z0 := by
      rw [un2_z]
      have ra := ol.sh_rpa.1
      exact (OwnL.of_rpa (G := Z0) (ra.set rv2 n) fun _ z => z).upd (.inr ⟨i, Fa⟩) fun z => z
    have S3 := Slots.updL (Gn := Z0) (G' := Z0) (by rw [un2_z]; exact S2.less) (fun _ _ z => z) ht hva Fa (fun _ z => z.elim) (fun z => z) ol2
    rw [setF_self (own1 hF ol)] at S3
    have kk : Kq (p && true) F H H2 := k1.trans k2
    exact k σ _ F S3 (KF.upd (KF.of (bor := bor) S2.less kk) Fa (fun j b hj z => .inr ⟨j, hj, z⟩) fun _ _ => rfl)
  | _ => cases hf
def popF (i : Nat) : M PyData := fun env => (listAt env i).bind fun ds => (ds[ds.length - 1]?).map fun d => (d, env.set i (some (.list ds.dropLast)))
/-- x.pop() -/
theorem ev_pop (hN : X.N[i]? = some x) (hv : Vis X.env.scope x) (hd : (x == ("__debug__" : Str)) = false) (hcd : (x == ("__classdict__" : Str)) = false) (ht : τ.getD i .sh = .ls .sh) (hline : (apos.endLine == cpos.line) = true) :
    EvM X τ false (.ow .sh) (.Call (.Attribute (.Name x pp) "pop" apos) [] [] cpos) (popF i) := by
  refine PE.imp (pe_bm0 PySem.F.plainAttrs_list PySem.F.slot_list_pop PySem.F.type_list_pop mt_pop (pe_var hN hv hd hcd) (by rfl) hline) fun σ H Q ⟨Wo, F, env, d, env', S, hf, k⟩ => ?_
  unfold popF at hf
  cases q0 : listAt env i with
  | none => rw [q0] at hf; cases hf
  | some ds =>
  rw [q0] at hf
  simp only [Option.bind_some] at hf
  cases q1 : ds[ds.length - 1]? with
  | none => rw [q1] at hf; cases hf
  | some d' =>
  rw [q1] at hf
  cases hf
  obtain ⟨a, xs, G0, hva, ha, hF, nG0, ol⟩ := S.lsI ht (listAt_some q0)
  have Fa : F i a := (hF a).mpr (.inl rfl)
  obtain ⟨ra, _⟩ := ol.sh_rpa
  obtain ⟨v, hv1, rv⟩ := ra.get (i := ds.length - 1) q1
  refine ⟨.ref a, hva, .inl ⟨rfl, xs, .inl (.inl ha)⟩, a, xs, v, rfl, rfl, ha, by rw [ra.length]; exact hv1, ?_⟩
  have hdl : RpA X.K H (WF Wo F) xs.dropLast ds.dropLast := by
    rw [List.dropLast_eq_take, List.dropLast_eq_take, ra.length]
    exact ra.take _
  have ol2 : OwnL (Own X.K (upd H a (.lst xs.dropLast)) (WF (Un2 Wo Z0) F) .sh) xs.dropLast ds.dropLast Z0 := by
    rw [un2_z]
    exact (OwnL.of_rpa (G := Z0) hdl fun _ z => z).upd (.inr ⟨i, Fa⟩) fun z => z
  have S3 := Slots.updL (Gn := Z0) (G' := Z0) (by rw [un2_z]; exact S) (fun _ _ z => z) ht hva Fa (fun _ z => z.elim) (fun z => z) ol2
  rw [setF_self (own1 hF ol)] at S3
  refine fin_sh k S3 (fun b o e n => ?_) (rv.keep ⟨fun b o e n => ?_, fun _ _ _ n => n⟩)
  · rw [upd_ne (fun z => n rfl i (by rw [z]; exact Fa))]; exact e
  · rw [upd_ne (fun z => n (.inr ⟨i, by rw [z]; exact Fa⟩))]; exact e
end

/-! ### N. calls of the text's own defs -/
/-- what a def does: the arguments' data in; the answer, the parameters' data behind it -/
abbrev FnSem := List PyData → Option (PyData × List PyData)
structure KC (F : Nat → ASet) (H H' : Hp) : Prop where
  keep : ∀ a o, H a = some o → (∀ i, ¬ F i a) → H' a = some o
  there : ∀ a o, H a = some o → ∃ o', H' a = some o'
def spF (K : PySem.W.Frag) (own : List OT) (ret : OT) (c : FnSem) : Sp := fun vs H Q _ =>
  ∃ Wo F ds d outs, Slots K H Wo own (vs.map some) (ds.map some) F ∧ c ds = some (d, outs) ∧
    ∀ v H' G, Slots K H' (Un2 Wo G) own (vs.map some) (outs.map some) F → KC F H H' → Own K H' (WF (Un2 Wo G) F) ret v d G → Nw G H → Q v H'
/-- the parameters that are lent -/
def borOf (own : List OT) : List Nat := (List.range own.length).filter fun i => own.getD i .sh ≠ .sh
theorem mem_bor {own : List OT} {i : Nat} : i ∈ borOf own ↔ own.getD i .sh ≠ .sh := by
  unfold borOf
  rw [List.mem_filter, List.mem_range]
  constructor
  · exact fun h => by simpa using h.2
  · intro h
    refine ⟨?_, by simpa using h⟩
    rcases Nat.lt_or_ge i own.length with z | z
    · exact z
    · exact absurd (by rw [List.getD_eq_getElem?_getD, List.getElem?_eq_none z]; rfl) h
/-- the parameters' data behind the run: of what is lent, what it is then -/
def outsOf (own : List OT) (env : Env) : List PyData → Nat → Option (List PyData)
  | [], _ => some []
  | d :: ds, i => match own.getD i .sh with
    | .sh => (outsOf own env ds (i + 1)).map (d :: ·)
    | _ => match env[i]? with
      | some (some d') => (outsOf own env ds (i + 1)).map (d' :: ·)
      | _ => none
def runB (own : List OT) (ret : OT) (n : Nat) (f : Env → Option Fl) : FnSem := fun ds => if ds.length = own.length then match f (ds.map some ++ List.replicate (n - ds.length) none) with
  | some (.rt d e) => (outsOf own e ds 0).map fun o => (d, o)
  | some (.nx e) => if ret = .sh then (outsOf own e ds 0).map fun o => (.none, o) else none
  | _ => none
  else none
theorem outsOf_len {own : List OT} {env : Env} : ∀ (ds : List PyData) (i : Nat) (o : List PyData), outsOf own env ds i = some o → o.length = ds.length
  | [], _, o, h => by cases h; rfl
  | d :: ds, i, o, h => by
    unfold outsOf at h
    split at h
    · cases q : outsOf own env ds (i + 1) with
      | none => rw [q] at h; cases h
      | some r => rw [q] at h; cases h; simp [outsOf_len ds _ _ q]
    · split at h
      · cases q : outsOf own env ds (i + 1) with
        | none => rw [q] at h; cases h
        | some r => rw [q] at h; cases h; simp [outsOf_len ds _ _ q]
      · cases h
theorem outsOf_get {own : List OT} {env : Env} : ∀ (ds : List PyData) (i : Nat) (o : List PyData), outsOf own env ds i = some o → ∀ j d, o[j]? = some d →
    (own.getD (i + j) .sh = .sh ∧ ds[j]? = some d) ∨ (own.getD (i + j) .sh ≠ .sh ∧ env[i + j]? = some (some d))
  | [], _, o, h, j, d, e => by cases h; simp at e
  | d0 :: ds, i, o, h, j, d, e => by
    unfold outsOf at h
    split at h
    · rename_i hs
      cases q : outsOf own env ds (i + 1) with
      | none => rw [q] at h; cases h
      | some r =>
        rw [q] at h; cases h
        cases j with
        | zero => simp at e; subst e; exact .inl ⟨hs, rfl⟩
        | succ j =>
          have := outsOf_get ds (i + 1) r q j d (by simpa using e)
          rw [show i + 1 + j = i + (j + 1) by omega] at this
          exact this.imp (fun z => ⟨z.1, by simpa using z.2⟩) id
    · rename_i hs
      split at h
      · rename_i d' he
        cases q : outsOf own env ds (i + 1) with
        | none => rw [q] at h; cases h
        | some r =>
          rw [q] at h; cases h
          cases j with
          | zero => simp at e; subst e; exact .inr ⟨hs, he⟩
          | succ j =>
            have := outsOf_get ds (i + 1) r q j d (by simpa using e)
            rw [show i + 1 + j = i + (j + 1) by omega] at this
            exact this.imp (fun z => ⟨z.1, by simpa using z.2⟩) id
      · cases h
end Ev

set_option Elab.async false
set_option linter.all false
set_option maxRecDepth 100000
set_option maxHeartbeats 2000000
namespace Ev
open PySem PySem.Spec PyProof.Rows L2

/-! ### O. a def, by its body -/
structure XOk (X : Cx) (P : Program) (w : World) (K : PySem.W.Frag) (mg : Str → Option Value) (base : Heap) (k : Nat) (N : List Str) (sc : Scope) (fn : Str → Bool) : Prop where
  prog : X.prog = P
  wd : X.w = w
  frag : X.K = K
  mods : X.mg = mg
  bs : X.base = base
  names : X.N = N
  nd : N.Nodup
  scope : X.env.scope = sc
  cells : X.fn = fn
  calm : X.calm = true
  room : Room k X.A
  pass : PassesOwn (model X.prog X.w) X.A X.env X.xe
theorem outs_slots {K : PySem.W.Frag} {H H' : Hp} {Wo G : ASet} {own τr : List OT} {σr : L2.St} {e : Env} {vs : List V} {ds o : List PyData} {F F' : Nat → ASet} (hown : ∀ i, own.getD i .sh = .sh ∨ own.getD i .sh = .ls .sh)
    (S : Slots K H Wo own (vs.map some) (ds.map some) F) (S' : Slots K H' (Un2 Wo G) τr σr e F') (ho : outsOf own e ds 0 = some o) (ht : ∀ i ∈ borOf own, τr.getD i .sh = own.getD i .sh) (kf : KF (borOf own) F F' H H') (g : Nw G H) (dG : ∀ i a, F i a → ¬ G a) :
    Slots K H' (Un2 Wo G) own (vs.map some) (o.map some) F := by
  have l1 : vs.length = ds.length := by simpa using S.len
  have lo := outsOf_len ds 0 o ho
  have emp : ∀ i, i ∉ borOf own → ∀ a, ¬ F i a := fun i hi => S.shZ (by
    cases q : own.getD i .sh with
    | sh => rfl
    | _ => exact absurd (mem_bor.mpr (by rw [q]; simp)) hi)
  have kp : Kp H (WF Wo F) H' (WF (Un2 Wo G) F) := ⟨fun a u e n => kf.keep a u e fun i x => n (.inr ⟨i, x⟩), fun a u e n x => by
    rw [wf_un] at x
    rcases x with x | x
    · exact n x
    · rw [g a x] at e; cases e⟩
  have hsub : ∀ a, WF (Un2 Wo G) F a → WF (Un2 Wo G) F' a := fun a x => x.imp id fun ⟨i, x⟩ => ⟨i, by
    by_cases hi : i ∈ borOf own
    · rw [kf.bor i hi]; exact x
    · exact (emp i hi a x).elim⟩
  refine ⟨by simp [l1, lo], by simpa [lo] using S.tl, fun a x => ?_, S.disj, fun i d hd => ?_, fun i h a x => ?_⟩
  · refine ⟨(S'.wo a x).1, fun i y => ?_⟩
    rcases x with x | x
    · exact (S.wo a x).2 i y
    · exact dG i a y x
  · have hd' : o[i]? = some d := by
      rw [List.getElem?_map] at hd
      cases q : o[i]? with
      | none => rw [q] at hd; cases hd
      | some z => rw [q] at hd; simp at hd; rw [hd]
    have hlt : i < ds.length := by rw [← lo]; exact (List.getElem?_eq_some_iff.mp hd').1
    have hds : (ds.map some)[i]? = some (some ds[i]) := by simp [hlt]
    obtain ⟨v, hv, ow⟩ := S.slot i _ hds
    refine ⟨v, hv, ?_⟩
    rcases outsOf_get ds 0 o ho i d hd' with ⟨hs, e1⟩ | ⟨hs, e1⟩
    · rw [Nat.zero_add] at hs
      rw [hs] at ow ⊢
      have : ds[i] = d := by rw [List.getElem?_eq_getElem hlt] at e1; exact Option.some.inj e1
      rw [← this]
      exact ⟨ow.1.keep kp, ow.2⟩
    · rw [Nat.zero_add] at hs e1
      have hi : i ∈ borOf own := mem_bor.mpr hs
      have hl := (hown i).resolve_left hs
      obtain ⟨u, hu, ow'⟩ := S'.slot i d e1
      rw [ht i hi, hl] at ow'
      rw [hl] at ow ⊢
      obtain ⟨a, xs, ds1, G1, rfl, _, ha, hF, nG, ol⟩ := ow
      obtain ⟨a', xs', ds2, G2, rfl, rfl, ha', hF', nG', ol'⟩ := ow'
      have e2 := own1 hF ol
      have e3 := own1 hF' ol'
      have ea : a' = a := by
        have : F' i a' := (hF' a').mpr (.inl rfl)
        rw [kf.bor i hi, e2] at this
        exact this.elim id fun z => z.elim
      subst ea
      refine ⟨a', xs', ds2, Z0, rfl, rfl, ha', fun b => by rw [e2], fun z => z, ?_⟩
      exact OwnL.of_rpa (ol'.sh_rpa.1.keep (Kp.less fun b _ _ n x => n (hsub b x))) fun _ z => z
  · refine S.void i (fun d e => ?_) a x
    have hlt : i < ds.length := by
      have := (List.getElem?_eq_some_iff.mp e).1
      simpa using this
    exact h o[i] (by simp [lo, hlt])
section
variable {P : Program} {w : World} {K : PySem.W.Frag} {mg : Str → Option Value} {base : Heap} {k : Nat} {x qual : Str} {params : Arguments} {body : List Stmt} {scope : Scope} {dvs : List V} {kws : List (Str × V)} {f : Addr} {fd : FuncData} {N ps : List Str} {own τ' : List OT} {ret : OT} {fb : Env → Option Fl} {c : FnSem}
theorem start_slots {H : Hp} {Wo : ASet} {vs : List V} {ds : List PyData} {F : Nat → ASet} (hn : vs.length ≤ N.length) (S : Slots K H Wo own (vs.map some) (ds.map some) F) :
    Slots K H Wo (own ++ List.replicate (N.length - own.length) .sh) (L2.start N vs) (ds.map some ++ List.replicate (N.length - ds.length) none) F := by
  have l1 : vs.length = ds.length := by simpa using S.len
  have l2 : own.length = ds.length := by simpa using S.tl
  unfold L2.start
  refine ⟨by simp [l1], by simp [l2], S.wo, S.disj, fun i d e => ?_, fun i h a y => ?_⟩
  · have hi : i < ds.length := by
      rcases Nat.lt_or_ge i ds.length with z | z
      · exact z
      · rw [List.getElem?_append_right (by simpa using z), List.getElem?_replicate] at e
        split at e <;> cases e
    rw [List.getElem?_append_left (by simpa using hi)] at e
    obtain ⟨v, h1, h2⟩ := S.slot i d e
    refine ⟨v, by rw [List.getElem?_append_left (by simp; omega)]; exact h1, ?_⟩
    rw [List.getD_eq_getElem?_getD, List.getElem?_append_left (by omega), ← List.getD_eq_getElem?_getD]
    exact h2
  · refine S.void i (fun d e => h d ?_) a y
    have hi : i < ds.length := by
      have := (List.getElem?_eq_some_iff.mp e).1
      simpa using this
    rw [List.getElem?_append_left (by simpa using hi)]
    exact e
theorem fn_ok (Fn : FunD K x qual params body scope dvs kws f fd) (S : FnScope N ps scope) (hl : own.length = ps.length) (hown : ∀ i, own.getD i .sh = .sh ∨ own.getD i .sh = .ls .sh) (hc : ∀ ds r, c ds = some r → runB own ret N.length fb ds = some r)
    (ht : ∀ i ∈ borOf own, τ'.getD i .sh = own.getD i .sh)
    (hb : ∀ X : Cx, XOk X P w K mg base k N scope (fun _ => true) → EvSs X (borOf own) (own ++ List.replicate (N.length - own.length) .sh) (own ++ List.replicate (N.length - own.length) .sh) τ' (own ++ List.replicate (N.length - own.length) .sh) ret body fb) :
    FnOk P w K mg base CX0 (k + 1) f fd ps (spF K own ret c) := by
  refine Fn.ok S (fun vs H Q E h => ?_) (fun cdv A outer s H vs Q E hr h => ?_)
  · obtain ⟨Wo, F, ds, d, outs, Sl, _⟩ := h
    have h1 : vs.length = ds.length := by simpa using Sl.len
    have h2 : own.length = ds.length := by simpa using Sl.tl
    omega
  · obtain ⟨Wo, F, ds, d, outs, Sl, hcd, kq⟩ := h
    have h1 : vs.length = ds.length := by simpa using Sl.len
    have h2 : own.length = ds.length := by simpa using Sl.tl
    have hpl : ps.length ≤ N.length := by have := congrArg List.length S.pre; rw [List.length_take] at this; omega
    have hX := hb (cxOf CX0 P w K mg base N qual scope f cdv A outer s H E).nox ⟨rfl, rfl, rfl, rfl, rfl, rfl, S.nd, rfl, rfl, rfl, hr, PassesOwn.never⟩
    refine ⟨_, PSs.nox hX, ?_⟩
    have hrun := hc ds _ hcd
    unfold runB at hrun
    rw [if_pos (by omega)] at hrun
    have S0 := start_slots (N := N) (by omega) Sl
    have hbt : ∀ i ∈ borOf own, (own ++ List.replicate (N.length - own.length) OT.sh).getD i .sh = own.getD i .sh := fun i hi => by
      have hlt : i < own.length := List.mem_range.mp (List.mem_filter.mp hi).1
      rw [List.getD_eq_getElem?_getD, List.getElem?_append_left hlt, ← List.getD_eq_getElem?_getD]
    have emp : ∀ i, i ∉ borOf own → ∀ a, ¬ F i a := fun i hi => Sl.shZ (by
      cases q : own.getD i .sh with
      | sh => rfl
      | _ => exact absurd (mem_bor.mpr (by rw [q]; simp)) hi)
    have fin : ∀ (v : V) (H' : Hp) (F' : Nat → ASet) (G : ASet) (τr : List OT) (σr : L2.St) (e : Env) (o : List PyData), outsOf own e ds 0 = some o → Slots K H' (Un2 Wo G) τr σr e F' → (∀ i ∈ borOf own, τr.getD i .sh = own.getD i .sh) → KF (borOf own) F F' H H' → Own K H' (WF (Un2 Wo G) F') ret v d G → NwF (borOf own) F H G → (∀ i ∈ borOf own, ∀ a, F i a → ¬ G a) → outs = o → Q v H' := fun v H' F' G τr σr e o ho S' ht' kf ow g dj eo => by
      subst eo
      have gN : Nw G H := fun a y => (g a y).elim id fun ⟨j, hj, z⟩ => (emp j hj a z).elim
      have hsub : ∀ a, WF (Un2 Wo G) F a → WF (Un2 Wo G) F' a := fun a y => y.imp id fun ⟨i, y⟩ => ⟨i, by
        by_cases hi : i ∈ borOf own
        · rw [kf.bor i hi]; exact y
        · exact (emp i hi a y).elim⟩
      refine kq v H' G (outs_slots hown Sl S' ho ht' kf gN fun i a y => ?_) ⟨kf.keep, kf.there⟩ (ow.keep (Kp.less fun a _ _ n y => n (hsub a y)) fun _ _ _ e => e) gN
      by_cases hi : i ∈ borOf own
      · exact dj i hi a y
      · exact (emp i hi a y).elim
    cases q : fb (ds.map some ++ List.replicate (N.length - ds.length) none) with
    | none => rw [q] at hrun; cases hrun
    | some fl =>
      rw [q] at hrun
      refine ⟨Wo, F, _, fl, S0, q, ?_⟩
      cases fl with
      | nx e =>
        have hrun : (if ret = .sh then (outsOf own e ds 0).map fun o => (PyData.none, o) else none) = some (d, outs) := hrun
        by_cases hr : ret = .sh
        · rw [if_pos hr] at hrun
          cases qo : outsOf own e ds 0 with
          | none => rw [qo] at hrun; cases hrun
          | some o =>
            rw [qo] at hrun
            cases hrun
            intro σ' H' F' S' kf
            exact fin .non H' F' Z0 τ' σ' e outs qo (by rw [un2_z]; exact S') (fun i hi => ht i hi) kf (by rw [hr]; exact Own.shZ .non) (fun _ z => z.elim) (fun _ _ _ _ z => z) rfl
        · rw [if_neg hr] at hrun; cases hrun
      | rt d' e =>
        have hrun : (outsOf own e ds 0).map (fun o => (d', o)) = some (d, outs) := hrun
        cases qo : outsOf own e ds 0 with
        | none => rw [qo] at hrun; cases hrun
        | some o =>
          rw [qo] at hrun
          cases hrun
          intro v H' F' G τr σr S' ht' kf ow g dj db
          exact fin v H' F' G τr σr e outs qo S' (fun i hi => (ht' i hi).trans (hbt i hi)) kf ow g db rfl
      | bk e => cases hrun
      | ct e => cases hrun
end

/-! ### P. a call of a def -/
/-- what the caller knows of a def: it keeps its word, by this name -/
structure HasFn (P : Program) (w : World) (K : PySem.W.Frag) (mg : Str → Option Value) (base : Heap) (k : Nat) (x : Str) (ps : List Str) (own : List OT) (ret : OT) (c : FnSem) : Prop where
  ex : ∃ f fd, FnOk P w K mg base CX0 k f fd ps (spF K own ret c) ∧ mg x = some (.ref f) ∧ PySem.W.keepIn K (.ref f) = true ∧ Binds K fd ps []
def OT.isSh : OT → Bool
  | .sh => true
  | _ => false
section
variable {X : Cx} {P : Program} {w : World} {K : PySem.W.Frag} {mg : Str → Option Value} {base : Heap} {k kk : Nat} {N : List Str} {sc : Scope} {fn : Str → Bool} {τ : List OT} {p : Bool} {ret : OT} {own : List OT} {ps : List Str} {c : FnSem} {x : Str} {pp pos : Pos} {e : Expr} {es : List Expr} {fr : M (List PyData)}
theorem wf_z (W : ASet) : WF W (fun _ => Z0) = W := funext fun a => propext ⟨fun h => h.elim id fun ⟨_, z⟩ => z.elim, .inl⟩
/-- data as arguments of a def that borrows nothing -/
theorem data_slots {H : Hp} {W : ASet} {vs : List V} {ds : List PyData} (ho : ∀ i, own.getD i .sh = .sh) (hl : own.length = ds.length) (wt : ∀ a, W a → ∃ o, H a = some o) (ra : RpA K H W vs ds) : Slots K H W own (vs.map some) (ds.map some) fun _ => Z0 := by
  refine ⟨by simp [ra.length], by simp [hl], fun a h => ⟨wt a h, fun _ z => z⟩, fun _ _ _ z => z.elim, fun i d e => ?_, fun _ _ _ z => z⟩
  rw [List.getElem?_map] at e
  cases q : ds[i]? with
  | none => rw [q] at e; cases e
  | some z =>
    rw [q] at e
    simp at e
    subst e
    obtain ⟨v, hv, rv⟩ := ra.get q
    refine ⟨v, by simp [hv], ?_⟩
    rw [ho i, wf_z]
    exact ⟨rv, fun _ z => z⟩
def callF (c : FnSem) (ds : List PyData) : Option PyData := (c ds).map (·.1)
theorem call_rdF (hX : X.K = K) (ho : ∀ i, own.getD i .sh = .sh) (hl : ∀ ds r, c ds = some r → own.length = ds.length) {σ : L2.St} {H : Hp} {Q : VK} (h : rdM X.K τ p (.ow ret) (mapM fr (callF c)) σ H Q) : tCall (spF K own ret c) [] E0 (rdL X.K τ p .sh fr) σ H Q := by
  subst hX
  obtain ⟨Wo, F, env, d, env', S, hf, kq⟩ := h
  obtain ⟨ds, h1, h2⟩ := mapM_some hf
  refine ⟨Wo, F, env, ds, env', S, h1, fun vs H1 G S1 k1 ol g => ?_⟩
  have S1 := S1.less
  have ra : RpA X.K H1 (WF Wo F) vs ds := ol.sh_rpa.1.keep (Kp.less fun a o _ n z => n (by rw [wf_un]; exact .inl z))
  unfold callF at h2
  cases q : c ds with
  | none => rw [q] at h2; cases h2
  | some r =>
    obtain ⟨d', outs⟩ := r
    rw [q] at h2
    cases h2
    show spF X.K own ret c (vs ++ []) H1 Q E0
    rw [List.append_nil]
    refine ⟨WF Wo F, fun _ => Z0, ds, d', outs, data_slots ho (hl _ _ q) (fun a w => S1.tracked w) ra, q, fun v H' G' _ kc ow g' => ?_⟩
    have sm : Sm H1 H' := fun a o e => kc.keep a o e fun _ z => z
    refine kq v H' G' (S1.grow sm g' ow.tracked) (k1.then sm) ?_ (S1.nwBack k1 g')
    rw [wf_z, ← wf_un] at ow
    exact ow
theorem ev_call (hX : XOk X P w K mg base kk N sc fn) (hf : HasFn P w K mg base k x ps own ret c) (hk : k ≤ kk) (ho : ∀ i, own.getD i .sh = .sh) (hl : ∀ ds r, c ds = some r → own.length = ds.length) (hg : Gl X x) (ha : EvL X τ p .sh (e :: es) fr)
    (hdb : (x == ("__debug__" : Str)) = false) (he : starEach (e :: es) X.env = (false, eval e X.env) :: starEach es X.env) (hpl : (backTo pos (starEach es X.env)).any (·.1) = false) : EvM X τ p (.ow ret) (.Call (.Name x pp) (e :: es) [] pos) (mapM fr (callF c)) := by
  obtain ⟨f, fd, F, hm, hkp, hb⟩ := hf.ex
  have F : FnOk X.prog X.w X.K X.mg X.base CX0 k f fd ps (spF K own ret c) := by rw [hX.prog, hX.wd, hX.frag, hX.mods, hX.bs]; exact F
  exact PE.imp (pe_call F (hX.room.mono hk) hg (by rw [hX.mods]; exact hm) (by rw [hX.frag]; exact hkp) (by rw [hX.frag]; exact hb) .nil pass0 ha hdb he hpl) fun _ _ _ h => call_rdF hX.frag ho hl h
theorem ev_call0 (hX : XOk X P w K mg base kk N sc fn) (hf : HasFn P w K mg base k x ps own ret c) (hk : k ≤ kk) (ho : ∀ i, own.getD i .sh = .sh) (hl : ∀ ds r, c ds = some r → own.length = ds.length) (hg : Gl X x)
    (hdb : (x == ("__debug__" : Str)) = false) : EvM X τ true (.ow ret) (.Call (.Name x pp) [] [] pos) (mapM nilF (callF c)) := by
  obtain ⟨f, fd, F, hm, hkp, hb⟩ := hf.ex
  have F : FnOk X.prog X.w X.K X.mg X.base CX0 k f fd ps (spF K own ret c) := by rw [hX.prog, hX.wd, hX.frag, hX.mods, hX.bs]; exact F
  refine PE.imp (pe_call0 F (hX.room.mono hk) hg (by rw [hX.mods]; exact hm) (by rw [hX.frag]; exact hkp) (by rw [hX.frag]; exact hb) .nil pass0 hdb) fun σ H Q h => ?_
  have h2 := call_rdF hX.frag ho hl h
  obtain ⟨Wo, F, env, ds, env', S, hn, k2⟩ := h2
  cases hn
  exact k2 [] H Z0 (by rw [un2_z]; exact S) Kq.refl (fun _ z => z) Nw.z
/-- f(x, e, ..): x's own list is lent -/
def lendF (j : Nat) (fr : M (List PyData)) (c : FnSem) : M PyData := fun env => (listAt env j).bind fun _ => (fr env).bind fun y => (listAt y.2 j).bind fun l => match c (.list l :: y.1) with
  | some (d, .list l' :: _) => some (d, y.2.set j (some (.list l')))
  | _ => none
theorem ev_lend {j : Nat} {y : Str} {yp : Pos} {n : Nat} (hX : XOk X P w K mg base kk N sc fn) (hf : HasFn P w K mg base k x ps (.ls .sh :: List.replicate n .sh) ret c) (hk : k ≤ kk) (hl : ∀ ds r, c ds = some r → n + 1 = ds.length) (hg : Gl X x)
    (hN : X.N[j]? = some y) (hv : Vis X.env.scope y) (hd : (y == ("__debug__" : Str)) = false) (hcd : (y == ("__classdict__" : Str)) = false) (ht : τ.getD j .sh = .ls .sh) (ha : EvL X τ p .sh es fr)
    (hdb : (x == ("__debug__" : Str)) = false) (he : starEach (.Name y yp :: es) X.env = (false, eval (.Name y yp) X.env) :: starEach es X.env) (hpl : (backTo pos (starEach es X.env)).any (·.1) = false) :
    EvM X τ false (.ow ret) (.Call (.Name x pp) (.Name y yp :: es) [] pos) (lendF j fr c) := by
  obtain ⟨f, fd, F, hm, hkp, hb⟩ := hf.ex
  have F : FnOk X.prog X.w X.K X.mg X.base CX0 k f fd ps (spF K (.ls .sh :: List.replicate n .sh) ret c) := by rw [hX.prog, hX.wd, hX.frag, hX.mods, hX.bs]; exact F
  refine PE.imp (pe_call F (hX.room.mono hk) hg (by rw [hX.mods]; exact hm) (by rw [hX.frag]; exact hkp) (by rw [hX.frag]; exact hb) .nil pass0 (pa_cons (pe_var hN hv hd hcd) ha he) hdb he hpl) fun σ H Q h => ?_
  obtain ⟨Wo, F, env, d, env', S, hf, kq⟩ := h
  unfold lendF at hf
  cases q0 : listAt env j with
  | none => rw [q0] at hf; cases hf
  | some l0 =>
  rw [q0] at hf
  simp only [Option.bind_some] at hf
  cases q1 : fr env with
  | none => rw [q1] at hf; cases hf
  | some r =>
  obtain ⟨ds, e1⟩ := r
  rw [q1] at hf
  simp only [Option.bind_some] at hf
  cases q2 : listAt e1 j with
  | none => rw [q2] at hf; cases hf
  | some l =>
  rw [q2] at hf
  simp only [Option.bind_some] at hf
  obtain ⟨a, _, _, hva, _⟩ := S.lsI ht (listAt_some q0)
  split at hf
  · rename_i d' l' rest q3
    cases hf
    refine ⟨.ref a, hva, Wo, F, env, ds, e1, S, q1, fun vs H1 G S1 k1 ol g => ?_⟩
    have S1 := S1.less
    have ra : RpA X.K H1 (WF Wo F) vs ds := ol.sh_rpa.1.keep (Kp.less fun a o _ n z => n (by rw [wf_un]; exact .inl z))
    obtain ⟨a', xs, G0, hva', ha1, hF, nG0, oll⟩ := S1.lsI ht (listAt_some q2)
    rw [hva] at hva'
    cases hva'
    have eF := own1 hF oll
    have Fa : F j a := (hF a).mpr (.inl rfl)
    have Fb : ∀ b, F j b → b = a := fun b z => by rw [eF] at z; exact z.elim id fun z => z.elim
    show spF K (.ls .sh :: List.replicate n .sh) ret c ((.ref a :: vs) ++ []) H1 Q E0
    rw [List.append_nil, ← hX.frag]
    let Wo' : ASet := fun b => Wo b ∨ ∃ i, i ≠ j ∧ F i b
    let F' : Nat → ASet := setF (fun _ => Z0) 0 (F j)
    have eW : WF Wo' F' = WF Wo F := funext fun b => propext ⟨fun z => by
      rcases z with (z | ⟨i, _, z⟩) | ⟨i, z⟩
      · exact .inl z
      · exact .inr ⟨i, z⟩
      · exact (setF_sub z).elim (fun z => z.elim) fun z => .inr ⟨j, z⟩, fun z => by
      rcases z with z | ⟨i, z⟩
      · exact .inl (.inl z)
      · by_cases hij : i = j
        · subst hij; exact .inr ⟨0, by rw [show F' 0 = F i from setF_same]; exact z⟩
        · exact .inl (.inr ⟨i, hij, z⟩)⟩
    have nWa : ¬ Wo' a := fun z => by
      rcases z with z | ⟨i, hij, z⟩
      · exact (S1.wo a z).2 j Fa
      · exact hij (S1.disj i j a z Fa)
    have hlen := hl _ _ q3
    have lds : ds.length = n := by simpa using hlen.symm
    have SC : Slots X.K H1 Wo' (.ls .sh :: List.replicate n .sh) ((V.ref a :: vs).map some) ((PyData.list l :: ds).map some) F' := by
      refine ⟨by simp [ra.length], by simp [lds], fun b z => ⟨?_, fun i y => ?_⟩, fun i i' b y z => ?_, fun i d e => ?_, fun i h b y => ?_⟩
      · rcases z with z | ⟨i, _, z⟩
        · exact (S1.wo b z).1
        · exact S1.tracked (.inr ⟨i, z⟩)
      · have yj : F j b := (setF_sub y).elim (fun z => z.elim) id
        rw [Fb b yj] at z
        exact nWa z
      · by_cases h1 : i = 0
        · by_cases h2 : i' = 0
          · rw [h1, h2]
          · rw [show F' i' = Z0 from setF_ne h2] at z; exact z.elim
        · rw [show F' i = Z0 from setF_ne h1] at y; exact y.elim
      · cases i with
        | zero =>
          simp at e
          subst e
          refine ⟨.ref a, rfl, ?_⟩
          rw [eW, show F' 0 = F j from setF_same]
          exact ⟨a, xs, l, Z0, rfl, rfl, ha1, fun b => by rw [eF], fun z => z, OwnL.of_rpa oll.sh_rpa.1 fun _ z => z⟩
        | succ i =>
          have e' : ds[i]? = some d := by simpa using e
          obtain ⟨v, hv1, rv⟩ := ra.get e'
          refine ⟨v, by simpa using hv1, ?_⟩
          rw [eW, show F' (i + 1) = Z0 from setF_ne (by omega)]
          have : (OT.ls .sh :: List.replicate n .sh).getD (i + 1) .sh = .sh := by
            rw [List.getD_eq_getElem?_getD, List.getElem?_cons_succ, List.getElem?_replicate]
            split <;> rfl
          rw [this]
          exact Own.shZ rv
      · cases i with
        | zero => exact (h (.list l) (by simp)).elim
        | succ i => rw [show F' (i + 1) = Z0 from setF_ne (by omega)] at y; exact y
    refine ⟨Wo', F', .list l :: ds, _, .list l' :: rest, SC, q3, fun v H' G' SO kc ow g' => ?_⟩
    have eW2 : WF (Un2 Wo' G') F' = WF (Un2 Wo G') F := by rw [wf_un, wf_un, eW]
    have notF' : ∀ b, b ≠ a → ∀ i, ¬ F' i b := fun b hb i z => hb (Fb b ((setF_sub z).elim (fun z => z.elim) id))
    have kp : Kp H1 (WF Wo F) H' (WF (Un2 Wo G') F) := ⟨fun b o e nw => kc.keep b o e (notF' b fun z => nw (.inr ⟨j, by rw [z]; exact Fa⟩)), fun b o e nw z => by
      rw [wf_un] at z
      rcases z with z | z
      · exact nw z
      · rw [g' b z] at e; cases e⟩
    have ljt : j < e1.length := by
      have := (List.getElem?_eq_some_iff.mp (listAt_some q2)).1
      exact this
    have SN : Slots X.K H' (Un2 Wo G') τ σ (e1.set j (some (.list l'))) F := by
      refine ⟨by rw [List.length_set, S1.len], by rw [List.length_set, S1.tl], fun b z => ?_, S1.disj, fun i d e => ?_, fun i h b y => ?_⟩
      · rcases z with z | z
        · obtain ⟨o, e⟩ := (S1.wo b z).1
          refine ⟨⟨o, kc.keep b o e (notF' b fun w => ?_)⟩, (S1.wo b z).2⟩
          rw [w] at z; exact (S1.wo a z).2 j Fa
        · refine ⟨ow.tracked b z, fun i y => ?_⟩
          obtain ⟨o, e⟩ := S1.tracked (.inr ⟨i, y⟩)
          rw [g' b z] at e; cases e
      · by_cases hij : i = j
        · subst hij
          rw [List.getElem?_set_self ljt] at e
          cases e
          obtain ⟨v0, h0, ow0⟩ := SO.slot 0 (.list l') (by simp)
          simp at h0
          subst h0
          rw [eW2, show F' 0 = F i from setF_same] at ow0
          rw [ht]
          exact ⟨.ref a, hva, ow0⟩
        · rw [List.getElem?_set_ne (Ne.symm hij)] at e
          obtain ⟨v1, h1, ow1⟩ := S1.slot i d e
          refine ⟨v1, h1, ow1.keep kp fun b o y e => kc.keep b o e (notF' b fun w => hij (S1.disj i j b y (by rw [w]; exact Fa)))⟩
      · by_cases hij : i = j
        · subst hij; exact (h _ (List.getElem?_set_self ljt)).elim
        · exact S1.void i (fun d e => h d (by rw [List.getElem?_set_ne (Ne.symm hij)]; exact e)) b y
    refine kq v H' G' SN (fun b o e nf => ?_) ?_ (S1.nwBack k1 g')
    · exact kc.keep b o (k1 b o e fun _ => nf rfl) (notF' b fun w => nf rfl j (by rw [w]; exact Fa))
    · rw [eW2] at ow; exact ow
  · cases hf
end
end Ev

set_option Elab.async false
set_option linter.all false
set_option maxRecDepth 100000
set_option maxHeartbeats 2000000
namespace Ev
open PySem PySem.Spec PyProof.Rows L2

/-! ### Q. operations by data -/
section
variable {X : Cx} {K : PySem.W.Frag} {H H' : Hp} {W : ASet} {t : OT} {d : PyData} {Q : VK}
theorem Nx.toSh (wt : ∀ a, W a → ∃ o, H a = some o) (k : Nx K .sh W H d Q) : Nx K t W H d Q := fun z H' G sm ow g => k.sh sm (ow.rp (fun a _ _ n w => n (.inl w)) fun a x w => by
  obtain ⟨o, e⟩ := wt a w
  rw [g a x] at e; cases e)
theorem BinOk.toSh {fv : Value → Value → Sem Value} {g : PyData → PyData → Option PyData} (h : BinOk X fv g t) : BinOk X fv g .sh := fun pins s σ H x y v u Q dx dy d W I rx ry qx qy wt hg k => h pins s σ H x y v u Q dx dy d W I rx ry qx qy wt hg (k.toSh wt)
theorem CallOk.toSh {fv : Value} {g : List PyData → Option PyData} (h : CallOk X fv g t) : CallOk X fv g .sh := fun pins s σ H xs us Q ds d W I r qs wt hg k => h pins s σ H xs us Q ds d W I r qs wt hg (k.toSh wt)
/-- a new list of data -/
theorem Nx.newL (k : Nx K (.ls .sh) W H (.list ds) Q) {p : Addr} (np : H p = none) {ys : List V} (ra : RpA K H W ys ds) : Q (.ref p) (upd H p (.lst ys)) := by
  have h := own_new (W := W) (G := Z0) (t := .sh) np (by rw [un2_z]; exact OwnL.of_rpa ra fun _ z => z)
  exact k _ _ _ (up_same np) h fun b x => by
    rcases x with rfl | x
    · exact np
    · exact x.elim
theorem Nx.newT (k : Nx K .sh W H (.tuple ds) Q) {p : Addr} (np : H p = none) (wt : ∀ a, W a → ∃ o, H a = some o) {ys : List V} (ra : RpA K H W ys ds) : Q (.ref p) (upd H p (.tup ys)) := by
  refine k.sh (up_same np) (.tup (.inl ⟨.inl upd_same, fun w => ?_⟩) (ra.keep ⟨fun a o e _ => up_same np a o e, fun _ _ _ n => n⟩))
  obtain ⟨o, e⟩ := wt p w
  rw [np] at e; cases e
def intD (C : Int → Int → Bool) (g : Int → Int → PyData) : PyData → PyData → Option PyData
  | .int i, .int j => if C i j then some (g i j) else none
  | _, _ => none
theorem intD_some {C : Int → Int → Bool} {g : Int → Int → PyData} {x y d : PyData} (h : intD C g x y = some d) : ∃ i j, x = .int i ∧ y = .int j ∧ C i j = true ∧ d = g i j := by
  unfold intD at h
  split at h
  · rename_i i j
    by_cases c : C i j = true
    · rw [if_pos c] at h; exact ⟨i, j, rfl, rfl, c, (Option.some.inj h).symm⟩
    · rw [if_neg c] at h; cases h
  · cases h
theorem BinOk.ints {fv : Value → Value → Sem Value} {C : Int → Int → Bool} {P : Int → Int → Prop} {g : Int → Int → Int} (ho : OpR X fv (rI P fun i j => .int (g i j))) (hp : ∀ i j, C i j = true → P i j) : BinOk X fv (intD C fun i j => .int (g i j)) .sh :=
  .of ho fun H x y Q dx dy d W qx qy wt hg k => by
    obtain ⟨i, j, rfl, rfl, c, rfl⟩ := intD_some hg
    exact ⟨i, j, qx.intI, qy.intI, hp _ _ c, k.sh (fun _ _ e => e) (.int _)⟩
theorem BinOk.ints0 {fv : Value → Value → Sem Value} {g : Int → Int → Int} (ho : OpR X fv (rI0 fun i j => .int (g i j))) : BinOk X fv (intD (fun _ _ => true) fun i j => .int (g i j)) .sh :=
  .of ho fun H x y Q dx dy d W qx qy wt hg k => by
    obtain ⟨i, j, rfl, rfl, c, rfl⟩ := intD_some hg
    exact ⟨i, j, qx.intI, qy.intI, k.sh (fun _ _ e => e) (.int _)⟩
theorem BinOk.intsB {fv : Value → Value → Sem Value} {g : Int → Int → Bool} (ho : OpR X fv (rI0 fun i j => .bl (g i j))) : BinOk X fv (intD (fun _ _ => true) fun i j => .bool (g i j)) .sh :=
  .of ho fun H x y Q dx dy d W qx qy wt hg k => by
    obtain ⟨i, j, rfl, rfl, c, rfl⟩ := intD_some hg
    exact ⟨i, j, qx.intI, qy.intI, k.sh (fun _ _ e => e) (.bl _)⟩
def addID : PyData → PyData → Option PyData := intD (fun _ _ => true) fun i j => .int (i + j)
def subD : PyData → PyData → Option PyData := intD (fun _ _ => true) fun i j => .int (i - j)
def mulC (i j : Int) : Bool := decide ((Builtin.Int.intBits i : Int) + (Builtin.Int.intBits j : Int) ≤ 134217728)
def mulID : PyData → PyData → Option PyData := intD mulC fun i j => .int (i * j)
def divC (_ j : Int) : Bool := decide (0 < j) && decide (j.natAbs.log2 < 9000)
def divD : PyData → PyData → Option PyData := intD divC fun i j => .int (i / j)
def modD : PyData → PyData → Option PyData := intD (fun _ j => decide (0 < j)) fun i j => .int (i % j)
def powC (i j : Int) : Bool := decide (0 ≤ j) && decide ((Builtin.Int.intBits i : Int) * j ≤ 2 ^ 27)
def powD : PyData → PyData → Option PyData := intD powC fun i j => .int (i ^ j.toNat)
theorem b_addI : BinOk X (binaryOp .Add) addID .sh := .ints0 op_add
theorem b_sub : BinOk X (binaryOp .Sub) subD .sh := .ints0 op_sub
theorem b_mulI : BinOk X (binaryOp .Mult) mulID .sh := .ints op_mulX fun i j h => (show CMulX i j from (by have q : decide ((Builtin.Int.intBits i : Int) + (Builtin.Int.intBits j : Int) ≤ 134217728) = true := h; have q2 := of_decide_eq_true q; exact q2))
theorem b_div : BinOk X (binaryOp .FloorDiv) divD .sh := .ints op_fdivW fun i j h => by
  unfold divC at h
  rw [Bool.and_eq_true] at h
  exact ⟨of_decide_eq_true h.1, of_decide_eq_true h.2⟩
theorem b_mod : BinOk X (binaryOp .Mod) modD .sh := .ints op_mod fun i j h => of_decide_eq_true h
theorem op_powB : OpR X (binaryOp .Pow) (rI (fun i j => powC i j = true) fun i j => .int (i ^ j.toNat)) := opI fun i j _ _ _ _ _ hc q => by
  unfold powC at hc
  rw [Bool.and_eq_true] at hc
  exact pow_int (of_decide_eq_true hc.1) (of_decide_eq_true hc.2) q
theorem b_pow : BinOk X (binaryOp .Pow) powD .sh := .ints op_powB fun _ _ h => h
/-! texts, lists, tuples put together -/
def addSD : PyData → PyData → Option PyData
  | .str x, .str y => if x.length + y.length ≤ sizeLine then some (.str (x ++ y)) else none
  | _, _ => none
theorem b_addS : BinOk X (binaryOp .Add) addSD .sh := .of op_add_str fun H x y Q dx dy d W qx qy wt hg k => by
  unfold addSD at hg
  split at hg
  · rename_i a b
    by_cases c : a.length + b.length ≤ sizeLine
    · rw [if_pos c] at hg
      cases hg
      exact ⟨a, b, qx.strI, qy.strI, c, k.sh (fun _ _ e => e) (.str _)⟩
    · rw [if_neg c] at hg; cases hg
  · cases hg
def addLD : PyData → PyData → Option PyData
  | .list x, .list y => if x.length + y.length ≤ sizeLine then some (.list (x ++ y)) else none
  | _, _ => none
def addTD : PyData → PyData → Option PyData
  | .tuple x, .tuple y => if x.length + y.length ≤ sizeLine then some (.tuple (x ++ y)) else none
  | _, _ => none
/-! order of alike data -/
theorem Rq.noDict {v : V} {u : Value} {pins : List (Addr × Obj)} {s : Shared} {σ : L2.St} (I : Inv X pins σ H s) (r : Rq X.K H W v d) (ru : RelV v u) (hp : d.plain = true) : ∃ as, Reads s.heap u d as := by
  have aux : ∀ (d : PyData) (v : V), Rp X.K H W0 v d → d.plain = true → Dp X.K H v d := by
    intro d
    exact PyData.rec (motive_1 := fun d => ∀ v, Rp X.K H W0 v d → d.plain = true → Dp X.K H v d) (motive_2 := fun ds => ∀ vs, RpA X.K H W0 vs ds → PyData.plainAll ds = true → DpAll X.K H vs ds) (motive_3 := fun _ => True) (motive_4 := fun _ => True)
      (fun v h _ => by cases h; exact .non) (fun b v h _ => by cases h; exact .bl _) (fun i v h _ => by cases h; exact .int _) (fun x v h _ => by cases h; exact .str _)
      (fun xs ih v h hp => by
        cases h with
        | lst h r => exact .lst (h.imp (fun z => z.1) id) (ih _ r (by simpa [PyData.plain] using hp)))
      (fun xs ih v h hp => by
        cases h with
        | tup h r => exact .tup (h.imp (fun z => z.1) id) (ih _ r (by simpa [PyData.plain] using hp)))
      (fun kvs _ v h hp => by simp [PyData.plain] at hp)
      (fun vs h _ => by cases h; exact .nil)
      (fun d ds ih1 ih2 vs h hp => by
        cases h with
        | cons h1 h2 =>
          simp only [PyData.plainAll, Bool.and_eq_true] at hp
          exact .cons (ih1 _ h1 hp.1) (ih2 _ h2 hp.2))
      trivial (fun _ _ _ _ => trivial) (fun _ _ _ _ => trivial) d
  exact Dp.reads I d v u (aux d v r.weak hp) ru
theorem op_catQ : OpR X (binaryOp .Add) (fun x y H Q => ∃ l b xs zs, x = .ref l ∧ y = .ref b ∧ SqL X.K H l xs ∧ SqL X.K H b zs ∧ xs.length + zs.length ≤ sizeLine ∧ ∀ p, H p = none → Q (.ref p) (upd H p (.lst (xs ++ zs)))) := by
  intro pins s σ H x y v u Q I rx ry h
  obtain ⟨l, b, xs, zs, rfl, rfl, hH, hB, hz, q⟩ := h
  cases rx
  cases ry
  obtain ⟨its, r, hl, z⟩ := I.list hH
  obtain ⟨its2, r2, hl2, z2⟩ := I.list hB
  have n1 := r.length
  have n2' := r2.length
  obtain ⟨⟨cls, dd, data, sl⟩, ho, hc, n, hd⟩ := id hl.isList
  obtain ⟨⟨cls2, dd2, data2, sl2⟩, ho2, hc2, n2, hd2⟩ := id hl2.isList
  simp only at hc hd hc2 hd2
  subst hc hd hc2 hd2
  have e : its.toArray ++ its2.toArray = (its ++ its2).toArray := by simp
  refine concat_meets ⟨_, ho, rfl⟩ ⟨_, ho2, rfl⟩ noFill_list_add seq_list_add PySem.F.slot_list_add PySem.F.entry_list_add (PySem.F.args_list_add_2 _ _) (list_addW l b its.toArray its2.toArray n n2 dd dd2 sl sl2 (by rw [List.size_toArray, List.size_toArray]; omega)) ⟨ho, ho2, ?_⟩
  rw [e]
  exact ⟨.ref _, _, I.lnew (t' := s.toks) (r.append r2) (by rw [List.length_append]; omega), rfl, q _ I.fresh⟩
theorem b_addL : BinOk X (binaryOp .Add) addLD (.ls .sh) := .of op_catQ fun H x y Q dx dy d W qx qy wt hg k => by
  unfold addLD at hg
  split at hg
  · rename_i a b
    by_cases c : a.length + b.length ≤ sizeLine
    · rw [if_pos c] at hg
      cases hg
      obtain ⟨l, xs, rfl, hl, ra⟩ := qx.listI
      obtain ⟨m, ys, rfl, hm, rb⟩ := qy.listI
      exact ⟨l, m, xs, ys, rfl, rfl, hl, hm, by rw [ra.length, rb.length]; exact c, fun p np => k.newL np (ra.append rb)⟩
    · rw [if_neg c] at hg; cases hg
  · cases hg
theorem RpA.nilI {vs : List V} (r : RpA K H W vs []) : vs = [] := by cases r; rfl
theorem RpA.nilV {ds : List PyData} (r : RpA K H W [] ds) : ds = [] := by cases r; rfl
theorem b_addT : BinOk X (binaryOp .Add) addTD .sh := .of op_catA fun H x y Q dx dy d W qx qy wt hg k => by
  unfold addTD at hg
  split at hg
  · rename_i a b
    by_cases c : a.length + b.length ≤ sizeLine
    · rw [if_pos c] at hg
      cases hg
      have rx : Rp X.K H W x (.tuple a) := by cases qx with | rp r => exact r
      have ry : Rp X.K H W y (.tuple b) := by cases qy with | rp r => exact r
      obtain ⟨l, xs, rfl, hl, ra⟩ := rx.tupI
      obtain ⟨m, ys, rfl, hm, rb⟩ := ry.tupI
      refine ⟨l, m, xs, ys, rfl, rfl, hl, hm, by rw [ra.length, rb.length]; exact c, fun e => ?_, fun _ e => ?_, fun _ _ p np => k.newT np wt (ra.append rb)⟩
      · subst e
        obtain rfl := ra.nilV
        exact k.sh (fun _ _ e => e) ry
      · subst e
        obtain rfl := rb.nilV
        rw [List.append_nil] at k
        exact k.sh (fun _ _ e => e) rx
    · rw [if_neg c] at hg; cases hg
  · cases hg
/-- + of whatever -/
def addD : PyData → PyData → Option PyData := fun x y => (addID x y).or ((addSD x y).or ((addTD x y).or (addLD x y)))
theorem b_add : BinOk X (binaryOp .Add) addD .sh := b_addI.or (b_addS.or (b_addT.or b_addL.toSh))
/-! list * int, text * int -/
theorem room64 {A : Around} {k : Nat} (r : Room k A) {m : Nat} (h : m ≤ 100) : A.units + m < cLine := by have := r.un; omega
def ordOk (x y : PyData) : Bool := PySem.W.alike x y && (x.plain && (y.plain && (decide (x.depth ≤ 64) && (match x with | .none => false | _ => true))))
theorem ordOk_t {x y : PyData} (h : ordOk x y = true) : PySem.W.alike x y = true ∧ x.plain = true ∧ y.plain = true ∧ x.depth ≤ 64 ∧ x ≠ .none := by
  unfold ordOk at h
  simp only [Bool.and_eq_true, decide_eq_true_eq] at h
  exact ⟨h.1, h.2.1, h.2.2.1, h.2.2.2.1, fun e => by rw [e] at h; simp at h⟩
def ordD (g : PyData → PyData → Bool) (x y : PyData) : Option PyData := if ordOk x y then some (.bool (g x y)) else none
theorem ordD_some {g : PyData → PyData → Bool} {x y d : PyData} (h : ordD g x y = some d) : ordOk x y = true ∧ d = .bool (g x y) := by
  unfold ordD at h
  by_cases c : ordOk x y = true
  · rw [if_pos c] at h; exact ⟨c, (Option.some.inj h).symm⟩
  · rw [if_neg c] at h; cases h
def ltD : PyData → PyData → Option PyData := ordD fun x y => PySem.W.dataLt x y
def gtD : PyData → PyData → Option PyData := ordD fun x y => PySem.W.dataLt y x
def leD : PyData → PyData → Option PyData := ordD fun x y => !PySem.W.dataLt y x
def geD : PyData → PyData → Option PyData := ordD fun x y => !PySem.W.dataLt x y
theorem BinOk.ord {op : CmpOp} {g : PyData → PyData → Bool} (hu : X.A.units + 64 < cLine) (rule : ∀ {prog : Program} {w : World} {A : Around} {E : Value → Shared → Prop} {s : Shared} {a b : Value} {da db : PyData} {as bs : List Addr} {Q : Value → Shared → Prop}, Reads s.heap a da as → Reads s.heap b db bs → PySem.W.alike da db = true → da ≠ .none → A.units + min da.depth db.depth < cLine → Q (.bool (g da db)) s → wpAny (model prog w) A (compareOp op a b) Q E s) :
    BinOk X (compareOp op) (ordD g) .sh := by
  intro pins s σ H x y v u Q dx dy d W I rx ry qx qy wt hg k
  obtain ⟨c, rfl⟩ := ordD_some hg
  obtain ⟨c1, c2, c3, c4, c5⟩ := ordOk_t c
  obtain ⟨as, r1⟩ := qx.noDict I rx c2
  obtain ⟨bs, r2⟩ := qy.noDict I ry c3
  have hm : min dx.depth dy.depth ≤ dx.depth := Nat.min_le_left _ _
  exact rule r1 r2 c1 c5 (by omega) ⟨.bl _, H, I, rfl, k.sh (fun _ _ e => e) (.bl _)⟩
theorem b_lt (hu : X.A.units + 64 < cLine) : BinOk X (compareOp .Lt) ltD .sh := .ord hu fun a b c d e f => PySem.W.lt_data a b c d e f
theorem b_gt (hu : X.A.units + 64 < cLine) : BinOk X (compareOp .Gt) gtD .sh := .ord hu fun a b c d e f => PySem.W.gt_data a b c d e f
theorem b_le (hu : X.A.units + 64 < cLine) : BinOk X (compareOp .LtE) leD .sh := .ord hu fun a b c d e f => PySem.W.le_data a b c d e f
theorem b_ge (hu : X.A.units + 64 < cLine) : BinOk X (compareOp .GtE) geD .sh := .ord hu fun a b c d e f => PySem.W.ge_data a b c d e f
/-! == and != -/
def eqOk (x y : PyData) : Bool := x.plain && (y.plain && decide (x.depth ≤ 64))
theorem eqOk_t {x y : PyData} (h : eqOk x y = true) : x.plain = true ∧ y.plain = true ∧ x.depth ≤ 64 := by
  unfold eqOk at h
  simp only [Bool.and_eq_true, decide_eq_true_eq] at h
  exact ⟨h.1, h.2.1, h.2.2⟩
def eqD (x y : PyData) : Option PyData := if eqOk x y then some (.bool (PyData.eqv x y)) else none
def neD (x y : PyData) : Option PyData := if eqOk x y then some (.bool (!PyData.eqv x y)) else none
theorem b_eq (hu : X.A.units + 64 < cLine) : BinOk X (compareOp .Eq) eqD .sh := by
  intro pins s σ H x y v u Q dx dy d W I rx ry qx qy wt hg k
  unfold eqD at hg
  by_cases c : eqOk dx dy = true
  · rw [if_pos c] at hg
    cases hg
    obtain ⟨c2, c3, c4⟩ := eqOk_t c
    obtain ⟨as, r1⟩ := qx.noDict I rx c2
    obtain ⟨bs, r2⟩ := qy.noDict I ry c3
    have hm : min dx.depth dy.depth ≤ dx.depth := Nat.min_le_left _ _
    exact PySem.SeqAt.eq_plain r1 r2 c2 c3 (by omega) ⟨.bl _, H, I, rfl, k.sh (fun _ _ e => e) (.bl _)⟩
  · rw [if_neg c] at hg; cases hg
theorem b_ne (hu : X.A.units + 64 < cLine) : BinOk X (compareOp .NotEq) neD .sh := by
  intro pins s σ H x y v u Q dx dy d W I rx ry qx qy wt hg k
  unfold neD at hg
  by_cases c : eqOk dx dy = true
  · rw [if_pos c] at hg
    cases hg
    obtain ⟨c2, c3, c4⟩ := eqOk_t c
    obtain ⟨as, r1⟩ := qx.noDict I rx c2
    obtain ⟨bs, r2⟩ := qy.noDict I ry c3
    have hm : min dx.depth dy.depth ≤ dx.depth := Nat.min_le_left _ _
    exact PySem.SeqAt.ne_plain r1 r2 c2 c3 (by omega) ⟨.bl _, H, I, rfl, k.sh (fun _ _ e => e) (.bl _)⟩
  · rw [if_neg c] at hg; cases hg
/-! in, not in: lists, tuples, texts -/
def inSeq (neg : Bool) (x : PyData) (ds : List PyData) : Option PyData := if x.plain && (PyData.plainAll ds && decide (x.depth ≤ 64)) then some (.bool (if neg then !(ds.any fun y => PyData.eqv y x) else ds.any fun y => PyData.eqv y x)) else none
def signOf (x : Str) : Option Nat := match x.cps.toList with
  | [c] => some c
  | _ => none
def inD (neg : Bool) : PyData → PyData → Option PyData
  | x, .list ds => inSeq neg x ds
  | x, .tuple ds => inSeq neg x ds
  | .str x, .str y => (signOf x).map fun c => .bool (if neg then !decide (c ∈ y.cps.toList) else decide (c ∈ y.cps.toList))
  | _, _ => none
theorem inSeq_some {neg : Bool} {x d : PyData} {ds : List PyData} (h : inSeq neg x ds = some d) : x.plain = true ∧ PyData.plainAll ds = true ∧ x.depth ≤ 64 ∧ d = .bool (if neg then !(ds.any fun y => PyData.eqv y x) else ds.any fun y => PyData.eqv y x) := by
  unfold inSeq at h
  by_cases c : (x.plain && (PyData.plainAll ds && decide (x.depth ≤ 64))) = true
  · rw [if_pos c] at h
    simp only [Bool.and_eq_true, decide_eq_true_eq] at c
    exact ⟨c.1, c.2.1, c.2.2, (Option.some.inj h).symm⟩
  · rw [if_neg c] at h; cases h
theorem sign_eq {x : Str} {c : Nat} (h : signOf x = some c) : x = ⟨#[c]⟩ := by
  unfold signOf at h
  split at h
  · rename_i c' e
    cases h
    have : x.cps = #[c] := Array.toList_inj.mp (by simpa using e)
    cases x
    simp only at this
    subst this
    rfl
  · cases h
theorem b_in (hu : X.A.units + 65 < cLine) : BinOk X (compareOp .In) (inD false) .sh := by
  intro pins s σ H x y v u Q dx dy d W I rx ry qx qy wt hg k
  unfold inD at hg
  split at hg
  · rename_i ds
    obtain ⟨c1, c2, c3, rfl⟩ := inSeq_some hg
    obtain ⟨as, r1⟩ := qx.noDict I rx c1
    obtain ⟨bs, r2⟩ := qy.noDict I ry (by simpa [PyData.plain] using c2)
    have hm : min (PyData.depthAll ds) dx.depth ≤ dx.depth := Nat.min_le_right _ _
    exact PySem.SeqAt.in_list_data r2 r1 c2 c1 (by omega) ⟨.bl _, H, I, rfl, k.sh (fun _ _ e => e) (.bl _)⟩
  · rename_i ds
    obtain ⟨c1, c2, c3, rfl⟩ := inSeq_some hg
    obtain ⟨as, r1⟩ := qx.noDict I rx c1
    obtain ⟨bs, r2⟩ := qy.noDict I ry (by simpa [PyData.plain] using c2)
    have hm : min (PyData.depthAll ds) dx.depth ≤ dx.depth := Nat.min_le_right _ _
    exact PySem.SeqAt.in_tuple_data r2 r1 c2 c1 (by omega) ⟨.bl _, H, I, rfl, k.sh (fun _ _ e => e) (.bl _)⟩
  · rename_i a b
    cases e : signOf a with
    | none => rw [e] at hg; cases hg
    | some c =>
      rw [e] at hg
      cases hg
      have := sign_eq e
      subst this
      exact op_in_sign pins s σ H x y v u Q I rx ry ⟨c, b, qx.strI, qy.strI, k.sh (fun _ _ e => e) (.bl _)⟩
  · cases hg
theorem b_notIn (hu : X.A.units + 65 < cLine) : BinOk X (compareOp .NotIn) (inD true) .sh := by
  intro pins s σ H x y v u Q dx dy d W I rx ry qx qy wt hg k
  unfold inD at hg
  split at hg
  · rename_i ds
    obtain ⟨c1, c2, c3, rfl⟩ := inSeq_some hg
    obtain ⟨as, r1⟩ := qx.noDict I rx c1
    obtain ⟨bs, r2⟩ := qy.noDict I ry (by simpa [PyData.plain] using c2)
    have hm : min (PyData.depthAll ds) dx.depth ≤ dx.depth := Nat.min_le_right _ _
    exact PySem.SeqAt.notIn_list_data r2 r1 c2 c1 (by omega) ⟨.bl _, H, I, rfl, k.sh (fun _ _ e => e) (.bl _)⟩
  · rename_i ds
    obtain ⟨c1, c2, c3, rfl⟩ := inSeq_some hg
    obtain ⟨as, r1⟩ := qx.noDict I rx c1
    obtain ⟨bs, r2⟩ := qy.noDict I ry (by simpa [PyData.plain] using c2)
    have hm : min (PyData.depthAll ds) dx.depth ≤ dx.depth := Nat.min_le_right _ _
    exact PySem.SeqAt.notIn_tuple_data r2 r1 c2 c1 (by omega) ⟨.bl _, H, I, rfl, k.sh (fun _ _ e => e) (.bl _)⟩
  · rename_i a b
    cases e : signOf a with
    | none => rw [e] at hg; cases hg
    | some c =>
      rw [e] at hg
      cases hg
      have := sign_eq e
      subst this
      exact op_notIn_sign pins s σ H x y v u Q I rx ry ⟨c, b, qx.strI, qy.strI, k.sh (fun _ _ e => e) (.bl _)⟩
  · cases hg
/-! is None -/
def isN : PyData → Bool
  | .none => true
  | _ => false
def isNoneD : PyData → PyData → Option PyData
  | x, .none => some (.bool (isN x))
  | _, _ => none
def notNoneD : PyData → PyData → Option PyData
  | x, .none => some (.bool (!isN x))
  | _, _ => none
theorem Rq.non_dec {v : V} (r : Rq K H W v d) : decide (v = .non) = isN d := by
  cases r with
  | rp r => cases r <;> rfl
  | _ => rfl
theorem b_isN : BinOk X (compareOp .Is) isNoneD .sh := .of op_isN fun H x y Q dx dy d W qx qy wt hg k => by
  unfold isNoneD at hg
  split at hg
  · cases hg
    exact ⟨qy.nonI, k.sh (fun _ _ e => e) (by rw [qx.non_dec]; exact .bl _)⟩
  · cases hg
theorem b_notN : BinOk X (compareOp .IsNot) notNoneD .sh := .of op_notN fun H x y Q dx dy d W qx qy wt hg k => by
  unfold notNoneD at hg
  split at hg
  · cases hg
    exact ⟨qy.nonI, k.sh (fun _ _ e => e) (by rw [qx.non_dec]; exact .bl _)⟩
  · cases hg
/-! subscripts -/
def ixD : PyData → PyData → Option PyData
  | .list ds, .int i => atI ds i
  | .tuple ds, .int i => atI ds i
  | .str z, .int i => if z.length ≤ sizeLine then (atI z.cps.toList i).map fun c => .str ⟨#[c]⟩ else none
  | _, _ => none
theorem atI_rpa {vs : List V} {ds : List PyData} {i : Int} {d : PyData} (ra : RpA K H W vs ds) (h : atI ds i = some d) : ∃ v, atI vs i = some v ∧ Rp K H W v d := by
  unfold atI at h ⊢
  rw [ra.length]
  cases q : ixN ds.length i with
  | none => rw [q] at h; cases h
  | some j =>
    rw [q] at h
    simp only [Option.bind_some] at h ⊢
    exact ra.get h
theorem ix_data : IxR X (rdB X.K ixD .sh) := by
  intro value slice pins s σ H x y v u Q I rx ry hq hs
  obtain ⟨dx, dy, d, W, qx, qy, wt, hg, k⟩ := hq
  refine ix_seq value slice pins s σ H x y v u Q I rx ry ?_ hs
  unfold ixD at hg
  split at hg
  · obtain ⟨a, xs, rfl, hl, ra⟩ := qx.listI
    obtain ⟨w, hw, rw'⟩ := atI_rpa ra hg
    exact .inl ⟨a, xs, _, w, rfl, qy.intI, hl, hw, k.sh (fun _ _ e => e) rw'⟩
  · obtain ⟨a, xs, rfl, hl, ra⟩ := qx.tupI
    obtain ⟨w, hw, rw'⟩ := atI_rpa ra hg
    exact .inr (.inl ⟨a, xs, _, w, rfl, qy.intI, hl, hw, k.sh (fun _ _ e => e) rw'⟩)
  · rename_i z i
    by_cases c : z.length ≤ sizeLine
    · rw [if_pos c] at hg
      cases q : atI z.cps.toList i with
      | none => rw [q] at hg; cases hg
      | some ch =>
        rw [q] at hg
        cases hg
        exact .inr (.inr ⟨z, i, ch, qx.strI, qy.intI, c, q, k.sh (fun _ _ e => e) (.str _)⟩)
    · rw [if_neg c] at hg; cases hg
  · cases hg
/-! calls -/
def lenD : List PyData → Option PyData
  | [.list ds] => some (.int ds.length)
  | [.tuple ds] => some (.int ds.length)
  | [.str z] => if z.length ≤ sizeLine then some (.int z.length) else none
  | _ => none
theorem c_len : CallOk X (.builtin "len") lenD .sh := .of (call_len_seq.or call_len_str) fun H xs Q ds d W qs wt hg k => by
  unfold lenD at hg
  split at hg
  · cases hg
    obtain ⟨x, rfl, qx⟩ := qs.one
    obtain ⟨a, ys, rfl, hl, ra⟩ := qx.listI
    exact .inl ⟨a, ys, rfl, .inl hl, k.sh (fun _ _ e => e) (by rw [ra.length]; exact .int _)⟩
  · cases hg
    obtain ⟨x, rfl, qx⟩ := qs.one
    obtain ⟨a, ys, rfl, hl, ra⟩ := qx.tupI
    exact .inl ⟨a, ys, rfl, .inr hl, k.sh (fun _ _ e => e) (by rw [ra.length]; exact .int _)⟩
  · rename_i z
    by_cases c : z.length ≤ sizeLine
    · rw [if_pos c] at hg
      cases hg
      obtain ⟨x, rfl, qx⟩ := qs.one
      exact .inr ⟨z, by rw [qx.strI], c, k.sh (fun _ _ e => e) (.int _)⟩
    · rw [if_neg c] at hg; cases hg
  · cases hg
def listD : List PyData → Option PyData
  | [.list ds] => some (.list ds)
  | [.tuple ds] => some (.list ds)
  | _ => none
theorem c_list : CallOk X (.type "list") listD (.ls .sh) := .of call_list_of fun H xs Q ds d W qs wt hg k => by
  unfold listD at hg
  split at hg
  · cases hg
    obtain ⟨x, rfl, qx⟩ := qs.one
    obtain ⟨a, ys, rfl, hl, ra⟩ := qx.listI
    exact ⟨a, ys, rfl, .inl hl, fun l nl => k.newL nl ra⟩
  · cases hg
    obtain ⟨x, rfl, qx⟩ := qs.one
    obtain ⟨a, ys, rfl, hl, ra⟩ := qx.tupI
    exact ⟨a, ys, rfl, .inr hl, fun l nl => k.newL nl ra⟩
  · cases hg
def tupleD : List PyData → Option PyData
  | [.list ds] => some (.tuple ds)
  | [.tuple ds] => some (.tuple ds)
  | _ => none
theorem c_tuple : CallOk X (.type "tuple") tupleD .sh := .of call_tuple_of fun H xs Q ds d W qs wt hg k => by
  unfold tupleD at hg
  split at hg
  · cases hg
    obtain ⟨x, rfl, qx⟩ := qs.one
    obtain ⟨a, ys, rfl, hl, ra⟩ := qx.listI
    exact ⟨a, ys, rfl, .inl ⟨hl, fun l nl => k.newT nl wt ra⟩⟩
  · cases hg
    obtain ⟨x, rfl, qx⟩ := qs.one
    cases qx with
    | rp rx =>
      have rx' := rx
      obtain ⟨a, ys, rfl, hl, ra⟩ := rx.tupI
      exact ⟨a, ys, rfl, .inr ⟨hl, k.sh (fun _ _ e => e) rx'⟩⟩
  · cases hg
def intCD : List PyData → Option PyData
  | [.int i] => some (.int i)
  | [.bool b] => some (.int (if b then 1 else 0))
  | _ => none
theorem c_int : CallOk X (.type "int") intCD .sh := .of call_int1 fun H xs Q ds d W qs wt hg k => by
  unfold intCD at hg
  split at hg
  · cases hg
    obtain ⟨x, rfl, qx⟩ := qs.one
    exact .inl ⟨_, by rw [qx.intI], k.sh (fun _ _ e => e) (.int _)⟩
  · cases hg
    obtain ⟨x, rfl, qx⟩ := qs.one
    exact .inr ⟨_, by rw [qx.blI], k.sh (fun _ _ e => e) (.int _)⟩
  · cases hg
def max2D : List PyData → Option PyData
  | [.int i, .int j] => some (.int (if j > i then j else i))
  | _ => none
def min2D : List PyData → Option PyData
  | [.int i, .int j] => some (.int (if j < i then j else i))
  | _ => none
theorem c_max2 (hc : X.calm = true) : CallOk X (.builtin "max") max2D .sh := .of (call_max2 hc) fun H xs Q ds d W qs wt hg k => by
  unfold max2D at hg
  split at hg
  · cases hg
    obtain ⟨x, y, rfl, qx, qy⟩ := qs.two
    exact ⟨_, _, by rw [qx.intI, qy.intI], k.sh (fun _ _ e => e) (.int _)⟩
  · cases hg
theorem c_min2 (hc : X.calm = true) : CallOk X (.builtin "min") min2D .sh := .of (call_min2 hc) fun H xs Q ds d W qs wt hg k => by
  unfold min2D at hg
  split at hg
  · cases hg
    obtain ⟨x, y, rfl, qx, qy⟩ := qs.two
    exact ⟨_, _, by rw [qx.intI, qy.intI], k.sh (fun _ _ e => e) (.int _)⟩
  · cases hg
/-- a row of one kind -/
def intsOf : List PyData → Option (List Int)
  | [] => some []
  | .int i :: ds => (intsOf ds).map (i :: ·)
  | _ => none
def boolsOf : List PyData → Option (List Bool)
  | [] => some []
  | .bool i :: ds => (boolsOf ds).map (i :: ·)
  | _ => none
theorem ints_of : ∀ {ds : List PyData} {ns : List Int} {vs : List V}, intsOf ds = some ns → RpA K H W vs ds → vs = ns.map V.int
  | [], _, _, h, r => by cases h; cases r; rfl
  | d :: ds, ns, _, h, .cons r1 r2 => by
    unfold intsOf at h
    split at h
    · cases h
      rename_i h1; cases h1
    · rename_i i ds' h1
      cases h1
      cases q : intsOf ds with
      | none => rw [q] at h; cases h
      | some ns' =>
        rw [q] at h
        cases h
        rw [r1.intI, ints_of q r2]; rfl
    · cases h
theorem bools_of : ∀ {ds : List PyData} {ns : List Bool} {vs : List V}, boolsOf ds = some ns → RpA K H W vs ds → vs = ns.map V.bl
  | [], _, _, h, r => by cases h; cases r; rfl
  | d :: ds, ns, _, h, .cons r1 r2 => by
    unfold boolsOf at h
    split at h
    · cases h
      rename_i h1; cases h1
    · rename_i i ds' h1
      cases h1
      cases q : boolsOf ds with
      | none => rw [q] at h; cases h
      | some ns' =>
        rw [q] at h
        cases h
        rw [r1.blI, bools_of q r2]; rfl
    · cases h
def sumID : List PyData → Option PyData
  | [.list ds] => (intsOf ds).map fun ns => .int ns.sum
  | _ => none
def allD : List PyData → Option PyData
  | [.list ds] => (boolsOf ds).map fun bs => .bool (bs.all id)
  | _ => none
def anyD : List PyData → Option PyData
  | [.list ds] => (boolsOf ds).map fun bs => .bool (bs.any id)
  | _ => none
theorem c_sumI (hc : X.calm = true) : CallOk X (.builtin "sum") sumID .sh := .of (cr_sum hc) fun H xs Q ds d W qs wt hg k => by
  unfold sumID at hg
  split at hg
  · rename_i ds'
    obtain ⟨x, rfl, qx⟩ := qs.one
    obtain ⟨a, ys, rfl, hl, ra⟩ := qx.listI
    cases q : intsOf ds' with
    | none => rw [q] at hg; cases hg
    | some ns =>
      rw [q] at hg
      cases hg
      exact ⟨a, ns, rfl, by rw [← ints_of q ra]; exact hl, k.sh (fun _ _ e => e) (.int _)⟩
  · cases hg
theorem c_all (hc : X.calm = true) : CallOk X (.builtin "all") allD .sh := .of (cr_all hc) fun H xs Q ds d W qs wt hg k => by
  unfold allD at hg
  split at hg
  · rename_i ds'
    obtain ⟨x, rfl, qx⟩ := qs.one
    obtain ⟨a, ys, rfl, hl, ra⟩ := qx.listI
    cases q : boolsOf ds' with
    | none => rw [q] at hg; cases hg
    | some ns =>
      rw [q] at hg
      cases hg
      exact ⟨a, ns, rfl, by rw [← bools_of q ra]; exact hl, k.sh (fun _ _ e => e) (.bl _)⟩
  · cases hg
theorem c_any (hc : X.calm = true) : CallOk X (.builtin "any") anyD .sh := .of (cr_any hc) fun H xs Q ds d W qs wt hg k => by
  unfold anyD at hg
  split at hg
  · rename_i ds'
    obtain ⟨x, rfl, qx⟩ := qs.one
    obtain ⟨a, ys, rfl, hl, ra⟩ := qx.listI
    cases q : boolsOf ds' with
    | none => rw [q] at hg; cases hg
    | some ns =>
      rw [q] at hg
      cases hg
      exact ⟨a, ns, rfl, by rw [← bools_of q ra]; exact hl, k.sh (fun _ _ e => e) (.bl _)⟩
  · cases hg
end
end Ev

set_option Elab.async false
set_option linter.all false
set_option maxRecDepth 100000
set_option maxHeartbeats 4000000
namespace Ev
open PySem PySem.Spec PyProof.Rows L2

/-! ### R. sets of keys (ints, texts), as made of a list -/
def keyVal : Value → Key
  | .int k _ => .inl k
  | .str x _ => .inr x
  | _ => .inl 0
def memK (l : List Key) (j : Key) : Bool := l.any fun x => decide (x = j)
theorem memK_iff {l : List Key} {j : Key} : memK l j = true ↔ j ∈ l := by
  unfold memK
  rw [List.any_eq_true]
  exact ⟨fun ⟨x, h, e⟩ => of_decide_eq_true e ▸ h, fun h => ⟨j, h, decide_eq_true rfl⟩⟩
def keyE (e : Int × Value) : Key := keyVal e.2
def GoodK (w : World) (e : Int × Value) : Prop := ∃ k, RelV (kV k) e.2 ∧ e.1 = keyH w k
theorem keyVal_rel {k : Key} {u : Value} (r : RelV (kV k) u) : keyVal u = k := by
  cases k with
  | inl i => obtain ⟨t, rfl⟩ := (show ∃ t, u = Value.int i t from r); rfl
  | inr x => obtain ⟨t, rfl⟩ := (show ∃ t, u = Value.str x t from r); rfl
def SetKR (w : World) (h : Heap) (a : Addr) (S : Key → Bool) (n : Nat) : Prop :=
  ∃ o es ep t, h.get? a = some o ∧ o.ExactSet ∧ o.data = .set es ep t ∧ (∀ e ∈ es.toList, GoodK w e) ∧ (es.toList.map keyE).Nodup ∧ (∀ k, S k = true ↔ k ∈ es.toList.map keyE) ∧
    es.size < scanBound ∧ t.fits es.size = true ∧ es.size = n ∧ Ris t.place.toList ∧ (w.params.followText "set-order" = true ∨ t.led = true)
section
variable {P : Program} {w : World} {h h' : Heap} {a : Addr} {S : Key → Bool} {n : Nat}
theorem SetKR.at (R : SetKR w h a S n) (k : ∀ o, h.get? a = some o → h'.get? a = some o) : SetKR w h' a S n := by
  obtain ⟨o, es, ep, t, ho, r⟩ := R
  exact ⟨o, es, ep, t, k o ho, r⟩
theorem SetKR.congr {S' : Key → Bool} (R : SetKR w h a S n) (e : ∀ k, S' k = S k) : SetKR w h a S' n := by
  have q : S' = S := funext e
  rw [q]; exact R
theorem goodK_elems {l : List (Int × Value)} (g : ∀ e ∈ l, GoodK w e) : ElemsOf (mixKind P w) l := fun e he => by
  obtain ⟨k, h1, h2⟩ := g e he
  exact ⟨⟨k, kV_is h1, h2⟩, key_scan h1⟩
theorem goodK_is {e : Int × Value} (g : GoodK w e) (k : Key) : (mixKind P w).is k e.2 = true ↔ keyE e = k := by
  obtain ⟨k0, h1, _⟩ := g
  have e1 : keyE e = k0 := keyVal_rel h1
  rw [e1]
  exact ⟨fun z => (mixKind P w).inj e.2 k0 k (kV_is h1) z, fun z => z ▸ kV_is h1⟩
theorem goodK_mem {l : List (Int × Value)} (g : ∀ e ∈ l, GoodK w e) (k : Key) : k ∈ l.map keyE ↔ ∃ e ∈ l, (mixKind P w).is k e.2 = true := by
  rw [List.mem_map]
  constructor
  · rintro ⟨e, he, q⟩
    exact ⟨e, he, (goodK_is (g e he) k).2 q⟩
  · rintro ⟨e, he, q⟩
    exact ⟨e, he, (goodK_is (g e he) k).1 q⟩
end
section
variable {P : Program} {w : World} {A : Around} {E : Value → Shared → Prop} {s : Shared} {a : Addr} {S : Key → Bool} {n : Nat}
theorem setK_add_tail {g : Bool → Sem Unit} (hg : ∀ (b : Bool) (s₁ : Shared) (Q' : Unit → Shared → Prop), Q' () s₁ → wpAny (model P w) A (g b) Q' E s₁)
    {o : Obj} {es : Array (Int × Value)} {ep : Nat} {t : SetTable} (ho : s.heap.get? a = some o) (hex : o.ExactSet) (hd : o.data = .set es ep t)
    {es1 : Array (Int × Value)} {t2 : SetTable} {S' : Key → Bool} (g1 : ∀ e ∈ es1.toList, GoodK w e) (nd1 : (es1.toList.map keyE).Nodup) (m1 : ∀ k, S' k = true ↔ k ∈ es1.toList.map keyE)
    (hb1 : es1.size < scanBound) (hf2 : t2.fits es1.size = true) (hr : Ris t2.place.toList) (hl : w.params.followText "set-order" = true ∨ t2.led = true) {wasDummy : Bool} {R : Option Bool → Shared → Prop}
    (hR : ∀ h', Heap.SameBut a s.heap h' → SetKR w h' a S' es1.size → R (some true) { s with heap := h' }) :
    wpAny (model P w) A (do
        storeSet a es1 t2
        if (!wasDummy && t2.tooFull) = true then do
            g (relayAll t2 es1 (SetTable.grown es1.size)).2.2
            storeSet a (relayAll t2 es1 (SetTable.grown es1.size)).1 (relayAll t2 es1 (SetTable.grown es1.size)).2.1
            pure (some true)
          else pure (some true)) R E s := by
  refine wpAny_bind (wpAny_storeSet_of ho hd ?_ (fits_of_scanBound hb1))
  have ho1 := store_at (es' := es1) (t' := t2) ho hd
  have sb1 := Heap.SameBut.update s.heap a (Obj.putSet es1 t2)
  split
  · have pm := relayAll_perm t2 es1 (SetTable.grown es1.size)
    have hf3 := relayAll_fits t2 es1 (SetTable.grown es1.size)
    have hr3 := relayAll_ris t2 es1 (SetTable.grown es1.size)
    have hl3 := relayAll_led t2 es1 (SetTable.grown es1.size)
    generalize relayAll t2 es1 (SetTable.grown es1.size) = Z at pm hf3 hr3 hl3 ⊢
    obtain ⟨es2, t3, gave⟩ := Z
    dsimp only at pm hf3 hr3 hl3 ⊢
    have hsz : es2.size = es1.size := by rw [← Array.length_toList, pm.length_eq, Array.length_toList]
    have hb2 : es2.size < scanBound := by rw [hsz]; exact hb1
    refine wpAny_bind (hg _ _ _ ?_)
    refine wpAny_bind (wpAny_storeSet_of ho1 rfl ?_ (fits_of_scanBound hb2))
    have ho2 := store_at (es' := es2) (t' := t3) ho1 rfl
    refine wpAny_pure (hR _ (sb1.trans (Heap.SameBut.update _ a _)) ?_)
    exact ⟨_, es2, _, t3, ho2, hex, rfl, fun e he => g1 e (pm.mem_iff.mp he), (pm.map keyE).nodup_iff.mpr nd1, fun k => (m1 k).trans (pm.map keyE).mem_iff.symm, hb2, hf3, hsz, hr3,
      hl.imp id fun z => by rw [hl3]; exact z⟩
  · exact wpAny_pure (hR _ sb1 ⟨_, es1, _, t2, ho1, hex, rfl, g1, nd1, m1, hb1, hf2, rfl, hr, hl⟩)
theorem setK_add_hashed {k : Key} {u : Value} (ru : RelV (kV k) u) {Q : Bool → Shared → Prop} (R : SetKR w s.heap a S n) (room : n + 1 < scanBound)
    (hQ : ∀ h', Heap.SameBut a s.heap h' → SetKR w h' a (fun j => S j || decide (j = k)) (if S k = true then n else n + 1) → Q (!S k) { s with heap := h' }) :
    wpAny (model P w) A (setAddHashed a u ((mixKind P w).hash k)) Q E s := by
  obtain ⟨o, es, ep, t, ho, hex, hd, g, nd, hm, hb, hf, hn, hr, hl⟩ := R
  have hkey : (mixKind P w).is k u = true := kV_is ru
  have hsc : u.scannable = true := key_scan ru
  have hel : ElemsOf (mixKind P w) es.toList := goodK_elems g
  unfold setAddHashed setAddHashedIn
  refine wpAny_holding (wpAny_bind (wpAny_setState_of ho hd hf ?_))
  dsimp only
  rw [byScan_of hsc hb hel]
  simp only [↓reduceIte]
  unfold setAddByScan
  refine wpAny_bind ?_
  refine wpAny_bind (wpAny_rule ?_)
  refine wpAny_bind (wpAny_setScan_of hkey ho hd hf hel ?_)
  cases hfi : List.findIdx? (fun e => (mixKind P w).is k e.2) es.toList with
  | some j =>
    dsimp only
    obtain ⟨hj, pj, _⟩ := List.findIdx?_eq_some_iff_getElem.mp hfi
    have hSk : S k = true := (hm k).2 ((goodK_mem (P := P) (w := w) g k).2 ⟨es.toList[j], List.getElem_mem hj, pj⟩)
    refine wpAny_pure (wpAny_pure ?_)
    have q := hQ s.heap (Heap.SameBut.refl a s.heap) ⟨o, es, ep, t, ho, hex, hd, g, nd, fun i => by
      rw [Bool.or_eq_true, decide_eq_true_eq, ← hm i]
      exact ⟨fun z => z.elim id (fun e => e ▸ hSk), .inl⟩, hb, hf, by rw [if_pos hSk]; exact hn, hr, hl⟩
    rw [hSk] at q
    exact q
  | none =>
    dsimp only
    have hnk : k ∉ es.toList.map keyE := fun z => by
      obtain ⟨e, he, q⟩ := (goodK_mem (P := P) (w := w) g k).1 z
      have c := List.findIdx?_eq_none_iff.mp hfi e he
      rw [q] at c
      cases c
    have hSk : S k = false := by
      cases q : S k with
      | false => rfl
      | true => exact absurd ((hm k).1 q) hnk
    have hgw : ∀ (b : Bool) {s₁ : Shared} {Q' : Unit → Shared → Prop}, Q' () s₁ → wpAny (model P w) A (match b with | true => rule "set.scan.the-table-gave-way" | false => pure ()) Q' E s₁ :=
      fun b s₁ Q' q => by cases b <;> first | exact wpAny_pure q | exact wpAny_rule q
    have pm := layNew_perm t es ((mixKind P w).hash k) u
    have hf1 := layNew_fits t es ((mixKind P w).hash k) u
    have hr1 := layNew_ris t es ((mixKind P w).hash k) u hr
    have hl1 := layNew_led t es ((mixKind P w).hash k) u
    generalize layNew t es ((mixKind P w).hash k) u = Z at pm hf1 hr1 hl1 ⊢
    obtain ⟨es1, t1, wasDummy, gave⟩ := Z
    dsimp only at pm hf1 hr1 hl1 ⊢
    rw [Array.toList_push] at pm
    have pc : es1.toList.Perm (((mixKind P w).hash k, u) :: es.toList) := pm.trans (List.perm_append_singleton _ _)
    have pk : (es1.toList.map keyE).Perm (k :: es.toList.map keyE) := by
      have q := pc.map keyE
      rw [List.map_cons] at q
      rwa [show keyE ((mixKind P w).hash k, u) = k from keyVal_rel ru] at q
    have g1 : ∀ e ∈ es1.toList, GoodK w e := fun e he => by
      rcases List.mem_cons.mp (pc.mem_iff.mp he) with z | z
      · rw [z]; exact ⟨k, ru, rfl⟩
      · exact g e z
    have nd1 : (es1.toList.map keyE).Nodup := pk.nodup_iff.mpr (List.nodup_cons.mpr ⟨hnk, nd⟩)
    have m1 : ∀ i, (S i || decide (i = k)) = true ↔ i ∈ es1.toList.map keyE := fun i => by
      rw [Bool.or_eq_true, decide_eq_true_eq, hm i, pk.mem_iff, List.mem_cons]
      exact Or.comm
    have hsz : es1.size = n + 1 := by rw [← Array.length_toList, pc.length_eq, List.length_cons, Array.length_toList, hn]
    have hb1 : es1.size < scanBound := by rw [hsz]; exact room
    have hled : w.params.followText "set-order" = true ∨ t1.led = true := hl.imp id fun z => by rw [hl1]; exact z
    have fin : ∀ h', Heap.SameBut a s.heap h' → SetKR w h' a (fun j => S j || decide (j = k)) es1.size → Q true { s with heap := h' } := fun h' sb r => by
      have q := hQ h' sb
      rw [hSk] at q
      rw [hsz] at r
      exact q r
    refine wpAny_bind (hgw _ ?_)
    split
    · refine wpAny_bind ?_
      rw [hashByValue_scannable 8 hsc]
      refine wpAny_pure ?_
      refine setK_add_tail ?_ ho hex hd g1 nd1 m1 hb1 ?_ ?_ ?_ ?_
      · intro b s₁ Q' q; cases b <;> first | exact wpAny_pure q | exact wpAny_rule q
      · first | (split <;> first | exact hf1 | exact SetTable.fits_plain_off hf1) | exact hf1
      · first | (split <;> exact hr1) | exact hr1
      · first | (split <;> exact hled) | exact hled
      · intro h' sb r; dsimp only; exact wpAny_pure (fin h' sb r)
    · refine wpAny_bind (wpAny_pure ?_)
      simp only [↓reduceIte]
      refine setK_add_tail ?_ ho hex hd g1 nd1 m1 hb1 hf1 hr1 hled ?_
      · intro b s₁ Q' q; cases b <;> first | exact wpAny_pure q | exact wpAny_rule q
      · intro h' sb r; dsimp only; exact wpAny_pure (fin h' sb r)
theorem setK_new_at {w : World} {h : Heap} {a : Addr} {ns : List Key} (ho : h.get? a = some { cls := .type "set", dict := none, data := .set #[] 0 (.fresh 0 0 (!w.params.followText "set-order")) }) : SetKR w h a (memK (ns.take 0)) 0 :=
  ⟨_, #[], 0, _, ho, ⟨rfl, rfl, rfl⟩, rfl, (fun e he => by simp at he), (by simp), (fun k => by simp [memK]), (by decide), (by rfl), rfl, List.Pairwise.nil, by
    show _ ∨ (!w.params.followText "set-order") = true
    cases w.params.followText "set-order"
    · exact .inr rfl
    · exact .inl rfl⟩
theorem set_update_keys {I : Addr} {fp wr : List Addr} {G : Array GenState → Array GenState → Prop} {n : Nat} {Pv : Nat → Value → Prop} {St : Nat → Shared → Prop} {R : Result → Shared → Prop}
    (W : WalksS P w A.in1 I fp wr G n Pv St) (S : Addr) (hSf : S ∉ fp) (ns : List Key) (hn : n = ns.length) (hb : ns.length + 1 < scanBound) (hval : ∀ i v, Pv i v → ∃ k, ns[i]? = some k ∧ RelV (kV k) v) :
    ∀ (k i : Nat) (s : Shared), n - i = k → i ≤ n → St i s → (∃ c, c ≤ i ∧ SetKR w s.heap S (memK (ns.take i)) c) →
      (∀ s' c, Moved (S :: wr) G s s' → c ≤ n → SetKR w s'.heap S (memK ns) c → R (.ok (.ret .none)) s') →
      codeAny (model P w) A (.builtin "set.update.loop" ⟨[.ref S, .ref I], []⟩) R s := by
  have hSw : S ∉ wr := fun h => hSf (W.sub _ h)
  have hsub : ∀ b ∈ wr, b ∈ S :: wr := fun b hb => List.mem_cons_of_mem _ hb
  intro k
  induction k with
  | zero =>
    intro i s hk' hi hst ⟨c, hc, hS⟩ hR
    have hin : i = n := by omega
    subst hin
    refine codeAny_builtin F.entry_set_update_loop ?_
    rw [Around.under_plainId F.plain_set_update_loop _]
    show wpAny _ A.in1 (pyNext (.ref I) >>= _) _ _ s
    refine wpAny_bind (W.done s _ _ hst fun s' hm => ?_)
    show wpAny _ A.in1 (ret Value.none) _ _ s'
    have e : ns.take i = ns := List.take_of_length_le (by omega)
    rw [e] at hS
    exact wpAny_pure (hR s' c (hm.mono hsub) hc (hS.at fun o e => hm.heap S o hSw e))
  | succ k ih =>
    intro i s hk' hi hst ⟨c, hc, hS⟩ hR
    have hlt : i < n := by omega
    refine codeAny_builtin F.entry_set_update_loop ?_
    rw [Around.under_plainId F.plain_set_update_loop _]
    show wpAny _ A.in1 (pyNext (.ref I) >>= _) _ _ s
    refine wpAny_bind (W.item i s _ _ hlt hst fun v s' hP hst' hm => ?_)
    obtain ⟨z, hz, rz⟩ := hval i v hP
    have hS' : SetKR w s'.heap S (memK (ns.take i)) c := hS.at fun o e => hm.heap S o hSw e
    show wpAny _ A.in1 (holding [v] (setAdd S v) >>= _) _ _ s'
    refine wpAny_bind (wpAny_holding ?_)
    unfold setAdd
    refine wpAny_holding ?_
    refine wpAny_bind ((mixKind P w).pyHash (k := z) (kV_is rz) ?_)
    refine setK_add_hashed rz (s := { s' with toks := s'.toks + 1 }) hS' (by omega) fun h' hsb hS2 => ?_
    have hS3 : SetKR w h' S (memK (ns.take (i + 1))) (if memK (ns.take i) z = true then c else c + 1) := hS2.congr fun j => by
      rw [List.take_add_one, hz]
      unfold memK
      simp only [Option.toList, List.any_append, List.any_cons, List.any_nil, Bool.or_false]
      congr 1
      simp only [decide_eq_decide]
      exact eq_comm
    have hc3 : (if memK (ns.take i) z = true then c else c + 1) ≤ i + 1 := by
      split <;> omega
    refine wpAny_pure ⟨plainId_quiet F.plain_set_update_loop _, ih (i + 1) _ (by omega) hlt (W.frame _ s' _ _ hst' (Nat.le_succ _) fun b hb o e => ?_) ⟨_, hc3, hS3⟩ fun s'' c2 hm'' hc'' hS'' => ?_⟩
    · rw [hsb.2 b (fun h : b = S => hSf (by rw [← h]; exact hb))]; exact e
    · refine hR s'' c2 (Moved.trans W.gtrans ((hm.mono hsub).then_heap (Nat.le_succ _) fun b o hb e => ?_) hm'') hc'' hS''
      rw [hsb.2 b (fun h : b = S => hb (by rw [h]; exact List.mem_cons_self))]; exact e
theorem call_set_keys {l : Addr} {items : Array Value} (ns : List Key) {Q : Value → Shared → Prop} (hh : A.handled = none) (hl : s.heap.IsList l items) (hit : Vals (ns.map kV) items.toList) (hb : ns.length + 1 < scanBound)
    (h : ∀ (h' : Heap) (tk c : Nat), SetKR w h' s.heap.objs.size (memK ns) c → c ≤ ns.length → (∀ b o, s.heap.get? b = some o → h'.get? b = some o) → Q (.ref s.heap.objs.size) { s with heap := h', toks := tk }) :
    wpAny (model P w) A (call (.type "set") [.ref l]) Q E s := by
  have hisz : items.size = ns.length := by
    have q : (ns.map kV).length = items.toList.length := Vals.length hit
    have q2 : ns.length = items.size := by simpa using q
    exact q2.symm
  obtain ⟨c, tl, hmro⟩ := F.called_set.mro
  have hmade := F.called_set.made
  have hsub := F.called_set.sub
  refine wpAny_call (codeAny_of_tree ?_)
  show wpAny _ _ (callAny (.type "set") _) _ _ _
  refine wpAny_pure ⟨Code.quiet_builtin _ (by decide +kernel), codeAny_builtin F.entry_type_call ?_⟩
  rw [Around.under_plain (weight_type_call_type "set" [.ref l] []) rfl]
  have h1 := F.called_set.notType
  have h2 := F.called_set.canCreate
  have hct := F.typeCall_set_1 (.ref l)
  repeat (any_goals (first | assumption | wp_step))
  refine codeAny_mono (code_set_led1 (.ref l) (E := E) (Q₁ := fun obj s₁ => obj = .ref s.heap.objs.size ∧ s₁ = { s with heap := s.heap.push { cls := .type "set", dict := none, data := .set #[] 0 (.fresh 0 0 (!w.params.followText "set-order")) } }) ⟨rfl, rfl⟩) fun r s₁ hr => ?_
  cases r with
  | error e => exact hr
  | ok fl =>
    cases fl with
    | ret obj =>
      obtain ⟨rfl, rfl⟩ := hr
      have hS : (s.heap.push { cls := .type "set", dict := none, data := .set #[] 0 (.fresh 0 0 (!w.params.followText "set-order")) }).get? s.heap.objs.size = some { cls := .type "set", dict := none, data := .set #[] 0 (.fresh 0 0 (!w.params.followText "set-order")) } := Heap.get?_push_size _ rfl
      have hT : Shared.TypeIs { s with heap := s.heap.push { cls := .type "set", dict := none, data := .set #[] 0 (.fresh 0 0 (!w.params.followText "set-order")) } } (.ref s.heap.objs.size) "set" := ⟨_, hS, rfl⟩
      have hli := F.called_set.init.lookup
      have hbi := F.called_set.init.bind (.ref s.heap.objs.size)
      repeat (any_goals (first | assumption | wp_step))
      refine codeAny_mono (codeAny_call_builtin (R := wants (fun r s₂ => r = .none ∧ ∃ h' tk c, s₂ = { s with heap := h', toks := tk } ∧ SetKR w h' s.heap.objs.size (memK ns) c ∧ c ≤ ns.length ∧
          (∀ b o, s.heap.get? b = some o → h'.get? b = some o)) E) F.called_set.init.plain F.entry_set_init (check_set_init_1 hT ?_)) fun r₂ s₂ hr₂ => ?_
      · obtain ⟨ol, hol, hcl, nl, hdl⟩ := hl
        obtain ⟨ocls, odict, odata, oslots⟩ := ol
        simp only at hcl hdl
        subst hcl; subst hdl
        have hol' : (s.heap.push { cls := .type "set", dict := none, data := .set #[] 0 (.fresh 0 0 (!w.params.followText "set-order")) }).get? l = some { cls := .type "list", dict := odict, data := .seq items nl, slots := oslots } := Heap.get?_push_of_some _ hol
        have hsls := F.sub_list_set
        have hslf := F.sub_list_frozenset
        have hne : (Value.type "list" == Value.type "dict") = false := by decide
        have hl1 : (s.heap.push { cls := .type "set", dict := none, data := .set #[] 0 (.fresh 0 0 (!w.params.followText "set-order")) }).IsList l items := ⟨_, hol', rfl, nl, rfl⟩
        unfold Builtin.«set.__init__» noKeywords Builtin.Frozenset.updateFrom
        generalize hPI : pyIter = PI
        wp_walk
        subst hPI
        refine wpAny_pyIter_list hl1 ?_
        refine wpAny_bind (wpAny_runValue ?_)
        have hlS : l < s.heap.objs.size := Heap.lt_size hol
        have hh3 : A.in1.in1.in1.handled = none := by simp [hh]
        have hneI : l ≠ (s.heap.push { cls := .type "set", dict := none, data := .set #[] 0 (.fresh 0 0 (!w.params.followText "set-order")) }).objs.size := by
          rw [Heap.size_push]; exact Nat.ne_of_lt (Nat.lt_succ_of_lt hlS)
        have hSf : s.heap.objs.size ∉ [(s.heap.push { cls := .type "set", dict := none, data := .set #[] 0 (.fresh 0 0 (!w.params.followText "set-order")) }).objs.size, l] := by
          rw [Heap.size_push]; simp only [List.mem_cons, List.mem_singleton, List.not_mem_nil, or_false, not_or]
          exact ⟨Nat.ne_of_lt (Nat.lt_succ_self _), Nat.ne_of_gt hlS⟩
        have hval : ∀ (i : Nat) (v : Value), items[i]? = some v → ∃ k, ns[i]? = some k ∧ RelV (kV k) v := fun i v hv => by
          have hi : i < ns.length := by rw [← hisz]; exact (Array.getElem?_eq_some_iff.mp hv).1
          have e : (ns.map kV)[i]? = some (kV ns[i]) := by rw [List.getElem?_map, List.getElem?_eq_getElem hi]; rfl
          obtain ⟨u, hu, ru⟩ := Vals.get (i := i) hit e
          rw [Array.getElem?_toList, hv] at hu
          cases hu
          exact ⟨ns[i], List.getElem?_eq_getElem hi, ru⟩
        refine set_update_keys ((Walks.list hh3 _ l hneI items).toS) s.heap.objs.size
          hSf ns hisz hb hval (items.size - 0) 0 _ (by omega) (Nat.zero_le _)
          ⟨⟨_, Heap.get?_push_size _ rfl, rfl, rfl⟩, (hl1.push _)⟩ ?hS0 ?hR
        case hS0 =>
          have hget : ((s.heap.push { cls := .type "set", dict := none, data := .set #[] 0 (.fresh 0 0 (!w.params.followText "set-order")) }).push { cls := .type "list_iterator", data := .fields #[.ref l, .int 0 0] }).get? s.heap.objs.size
              = some { cls := .type "set", dict := none, data := .set #[] 0 (.fresh 0 0 (!w.params.followText "set-order")) } := Heap.get?_push_of_some _ hS
          exact ⟨0, Nat.le_refl 0, setK_new_at hget⟩
        case hR =>
          intro s' c' hm hc' hS'
          obtain ⟨h', g2, d', tk', os'⟩ := s'
          have eg : g2 = s.gens := hm.gens
          have ed : d' = s.drawn := hm.drawn
          have eo : os' = s.os := hm.os
          subst eg; subst ed; subst eo
          show wpAny _ _ _ _ _ _
          refine wpAny_pure ?_
          show wpAny _ _ (ret Value.none) _ _ _
          rw [hisz] at hc'
          refine wpAny_pure ⟨rfl, h', tk', c', rfl, hS', hc', fun b o e => ?_⟩
          have hb0 : b < s.heap.objs.size := Heap.lt_size e
          have hb1 : b ≠ s.heap.objs.size := Nat.ne_of_lt hb0
          have hb2 : b ≠ (s.heap.push { cls := .type "set", dict := none, data := .set #[] 0 (.fresh 0 0 (!w.params.followText "set-order")) }).objs.size := by
            rw [Heap.size_push]; exact Nat.ne_of_lt (Nat.lt_succ_of_lt hb0)
          exact hm.heap b o (by simp only [List.mem_cons, List.mem_singleton, List.not_mem_nil, or_false, not_or]; exact ⟨hb1, hb2⟩) (Heap.get?_push_of_some _ (Heap.get?_push_of_some _ e))
      · cases r₂ with
        | error e => exact hr₂
        | ok fl₂ =>
          cases fl₂ with
          | ret r =>
            obtain ⟨rfl, h', tk, c', rfl, hS', hc', hk'⟩ := hr₂
            repeat (any_goals (first | assumption | wp_step))
            exact h _ _ _ hS' hc' hk'
          | _ => exact hr₂.elim
    | _ => exact hr.elim
end
end Ev

set_option Elab.async false
set_option linter.all false
set_option maxRecDepth 100000
set_option maxHeartbeats 4000000
namespace Ev
open PySem PySem.Spec PyProof.Rows L2

/-! ### S. sorted -/
abbrev dLe : PyData → PyData → Bool := PySem.W.dataLe false id
theorem dLe_trans (a b c : PyData) (h : dLe a b = true) (h' : dLe b c = true) : dLe a c = true := (PySem.W.sortLe_total (listOrd itemOrd) false fun b => PySem.W.keyToks (id b)).trans a b c h h'
theorem dLe_total (a b : PyData) : (dLe a b || dLe b a) = true := Bool.or_eq_true_iff.mpr ((PySem.W.sortLe_total (listOrd itemOrd) false fun b => PySem.W.keyToks (id b)).total a b)
theorem dLe_anti {a b : PyData} (h : dLe a b = true) (h' : dLe b a = true) : PySem.W.keyToks a = PySem.W.keyToks b := by
  have h1 : (!(PyProof.Rows.lexLt itemOrd (PySem.W.keyToks b) (PySem.W.keyToks a))) = true := h
  have h2 : (!(PyProof.Rows.lexLt itemOrd (PySem.W.keyToks a) (PySem.W.keyToks b))) = true := h'
  rw [Bool.not_eq_true'] at h1 h2
  exact (listOrd itemOrd).total _ _ h2 h1
def tup1 : PyData → Bool
  | .tuple (_ :: _) => true
  | _ => false
def notNT : PyData → Bool
  | .none => false
  | .tuple _ => false
  | _ => true
def sortOk (ds : List PyData) : Bool := ds.all (fun x => ds.all (PySem.W.alike x)) && ((ds.all tup1 || ds.all notNT) && (PyData.plainAll ds && (ds.all (fun x => decide (x.depth ≤ 60)) && szOk ds)))
theorem sortOk_t {ds : List PyData} (h : sortOk ds = true) : PySem.W.AllAlike ds ∧ PySem.W.Sortable ds ∧ PyData.plainAll ds = true ∧ (∀ d ∈ ds, d.depth ≤ 60) ∧ ds.length ≤ sizeLine := by
  unfold sortOk at h
  simp only [Bool.and_eq_true, Bool.or_eq_true, List.all_eq_true, decide_eq_true_eq] at h
  obtain ⟨h1, h2, h3, h4, h5⟩ := h
  refine ⟨h1, ?_, h3, h4, of_decide_eq_true h5⟩
  rcases h2 with h2 | h2
  · refine .inl fun d hd => ?_
    have := h2 d hd
    unfold tup1 at this
    split at this
    · exact ⟨_, _, rfl⟩
    · cases this
  · refine .inr fun d hd => ?_
    have := h2 d hd
    unfold notNT at this
    split at this
    · cases this
    · cases this
    · rename_i n1 n2
      exact ⟨n1, n2⟩
def sortD (ds : List PyData) : List PyData := ds.mergeSort dLe
def sortedD : List PyData → Option PyData
  | [.list ds] => if sortOk ds then some (.list (sortD ds)) else none
  | _ => none
section
variable {X : Cx} {K : PySem.W.Frag} {H H' : Hp} {W : ASet} {t : OT} {d : PyData} {Q : VK}
theorem plain_of {ds : List PyData} (h : PyData.plainAll ds = true) : ∀ d ∈ ds, d.plain = true := by
  induction ds with
  | nil => intro d hd; cases hd
  | cons x ds ih =>
    simp only [PyData.plainAll, Bool.and_eq_true] at h
    intro d hd
    rcases List.mem_cons.mp hd with rfl | hd
    · exact h.1
    · exact ih h.2 d hd
theorem zip_snd {xs : List V} {ds : List PyData} (r : RpA K H W xs ds) : (xs.zip ds).map Prod.snd = ds := by
  rw [List.map_snd_zip]
  exact Nat.le_of_eq r.length.symm
theorem each_zip : ∀ {xs : List V} {ds : List PyData} {us : List Value}, RpA K H W xs ds → Vals xs us → PySem.W.EachIs (fun u (p : V × PyData) => RelV p.1 u ∧ Rp K H W p.1 p.2) us (xs.zip ds)
  | _, _, _, .nil, r => by cases r; exact .nil
  | _, _, _, .cons h t, r => by
    cases r with
    | cons rh rt => exact .cons ⟨rh, h⟩ (each_zip t rt)
theorem each_back : ∀ {us : List Value} {ps : List (V × PyData)}, PySem.W.EachIs (fun u (p : V × PyData) => RelV p.1 u ∧ Rp K H W p.1 p.2) us ps → Vals (ps.map Prod.fst) us ∧ RpA K H W (ps.map Prod.fst) (ps.map Prod.snd)
  | _, _, .nil => ⟨.nil, .nil⟩
  | _, _, .cons h t => by
    obtain ⟨h1, h2⟩ := each_back t
    exact ⟨.cons h.1 h1, .cons h.2 h2⟩
theorem sort_snd (ps : List (V × PyData)) : (ps.mergeSort (PySem.W.dataLe false Prod.snd)).map Prod.snd = sortD (ps.map Prod.snd) := PySem.W.sort_maps (r := PySem.W.dataLe false Prod.snd) (s := dLe) Prod.snd fun _ _ _ _ => rfl
theorem each_reads {pins : List (Addr × Obj)} {s : Shared} {σ : L2.St} (I : Inv X pins σ H s) {xs : List V} {ds : List PyData} {us : List Value} (ra : RpA X.K H W xs ds) (rv : Vals xs us) (hp : PyData.plainAll ds = true) :
    PySem.W.EachIs (fun u (p : V × PyData) => ∃ as, Reads s.heap u p.2 as) us (xs.zip ds) :=
  (PySem.W.each_mem (each_zip ra rv)).mono fun u p ⟨⟨h1, h2⟩, hm⟩ => Rq.noDict I (.rp h2) h1 (plain_of hp _ (List.of_mem_zip hm).2)
theorem c_sorted (hu : X.A.units + 64 < cLine) : CallOk X (.builtin "sorted") sortedD (.ls .sh) := by
  intro pins s σ H xs us Q ds d W I r qs wt hg k
  unfold sortedD at hg
  split at hg
  · rename_i ds'
    by_cases c : sortOk ds' = true
    · rw [if_pos c] at hg
      cases hg
      obtain ⟨c1, c2, c3, c4, c5⟩ := sortOk_t c
      obtain ⟨x, rfl, qx⟩ := qs.one
      obtain ⟨a, ys, rfl, hl, ra⟩ := qx.listI
      obtain ⟨its, rv, hI, _⟩ := I.list hl
      rw [Vals.ref1 r]
      have hz := zip_snd ra
      have hz' : (ys.zip ds').map Prod.snd = ds' := hz
      refine PySem.W.sorted_data (enc := Prod.snd) hI.isList (each_zip ra rv) (each_reads I ra rv c3) (by rw [hz]; exact c1) (by rw [hz]; exact c2) (by rw [← List.length_map (f := Prod.snd), hz]; exact c5) (fun b hb => ?_) fun out ho he => ?_
      · have := c4 b.2 (List.of_mem_zip hb).2
        omega
      · obtain ⟨h1, h2⟩ := each_back he
        rw [sort_snd, hz] at h2
        obtain ⟨ep, he'⟩ := PyProof.Rows.sortedAll_at s.heap its out.toArray
        have hlen : (((ys.zip ds').mergeSort (PySem.W.dataLe false Prod.snd)).map Prod.fst).length ≤ sizeLine := by
          rw [List.length_map, List.length_mergeSort, ← List.length_map (f := Prod.snd), hz]; exact c5
        exact ⟨.ref _, upd H (s.heap.objs.size + 1) (.lst _), I.laid (t' := s.toks) (fun _ _ => PyProof.Rows.sortedAll_old) (Nat.le_succ _) ⟨hlen, _, ep, by simpa using h1, he'⟩, rfl, k.newL (I.hok.fresh (Nat.le_succ _)) h2⟩
    · rw [if_neg c] at hg; cases hg
  · cases hg
end

/-! ### T. sorted(set(..)), of ints, of texts -/
def keysOf : List PyData → Option (List Key)
  | [] => some []
  | .int i :: ds => (keysOf ds).map (.inl i :: ·)
  | .str x :: ds => (keysOf ds).map (.inr x :: ·)
  | _ => none
/-- each item once, as first met -/
def nubF : List PyData → List PyData → List PyData
  | _, [] => []
  | seen, d :: ds => if seen.any (fun y => PyData.eqv y d) then nubF seen ds else d :: nubF (seen ++ [d]) ds
def nub (ds : List PyData) : List PyData := nubF [] ds
def setOk (ds : List PyData) : Bool := (ds.all (fun x => match x with | .int _ => true | _ => false) || ds.all (fun x => match x with | .str _ => true | _ => false)) && decide (ds.length + 1 < 4096)
def sortSetD : List PyData → Option PyData
  | [.list ds] => if setOk ds then some (.list (sortD (nub ds))) else none
  | _ => none
theorem keysOf_len : ∀ {ds : List PyData} {ks : List Key}, keysOf ds = some ks → ks.length = ds.length ∧ ds = ks.map keyD
  | [], ks, h => by cases h; exact ⟨rfl, rfl⟩
  | d :: ds, ks, h => by
    unfold keysOf at h
    split at h
    · rename_i e; cases e
    · rename_i e; cases e
      cases q : keysOf ds with
      | none => rw [q] at h; cases h
      | some ks' =>
        rw [q] at h; cases h
        obtain ⟨h1, h2⟩ := keysOf_len q
        exact ⟨congrArg (· + 1) h1, congrArg (_ :: ·) h2⟩
    · rename_i e; cases e
      cases q : keysOf ds with
      | none => rw [q] at h; cases h
      | some ks' =>
        rw [q] at h; cases h
        obtain ⟨h1, h2⟩ := keysOf_len q
        exact ⟨congrArg (· + 1) h1, congrArg (_ :: ·) h2⟩
    · cases h
theorem keys_rel {K : PySem.W.Frag} {H : Hp} {W : ASet} : ∀ {ks : List Key} {vs : List V}, RpA K H W vs (ks.map keyD) → vs = ks.map kV
  | [], _, r => by cases r; rfl
  | .inl i :: ks, _, .cons h t => by rw [keys_rel t]; cases h; rfl
  | .inr i :: ks, _, .cons h t => by rw [keys_rel t]; cases h; rfl
theorem rp_key {K : PySem.W.Frag} {H : Hp} {W : ASet} (k : Key) : Rp K H W (kV k) (keyD k) := by
  cases k with
  | inl i => exact .int i
  | inr x => exact .str x
theorem rpa_keys {K : PySem.W.Frag} {H : Hp} {W : ASet} : ∀ ks : List Key, RpA K H W (ks.map kV) (ks.map keyD)
  | [] => .nil
  | k :: ks => .cons (rp_key k) (rpa_keys ks)
theorem eqv_key (a b : Key) : PyData.eqv (keyD a) (keyD b) = decide (a = b) := by
  cases a with
  | inl i => cases b with
    | inl j =>
      show PyData.eqv (.int i) (.int j) = _
      by_cases e : i = j
      · subst e; simp [PyData.eqv]
      · rw [decide_eq_false (fun q => e (Sum.inl.inj q))]; simp [PyData.eqv, e]
    | inr y => rw [decide_eq_false (fun q => nomatch q)]; simp [keyD, PyData.eqv]
  | inr x => cases b with
    | inl j => rw [decide_eq_false (fun q => nomatch q)]; simp [keyD, PyData.eqv]
    | inr y =>
      show PyData.eqv (.str x) (.str y) = _
      by_cases e : x = y
      · subst e; simp [PyData.eqv]
      · rw [decide_eq_false (fun q => e (Sum.inr.inj q))]; simp [PyData.eqv, e]
def nubK : List Key → List Key → List Key
  | _, [] => []
  | seen, d :: ds => if memK seen d then nubK seen ds else d :: nubK (seen ++ [d]) ds
theorem nub_keys : ∀ (ks seen : List Key), nubF (seen.map keyD) (ks.map keyD) = (nubK seen ks).map keyD
  | [], _ => rfl
  | k :: ks, seen => by
    have e : (seen.map keyD).any (fun y => PyData.eqv y (keyD k)) = memK seen k := by
      unfold memK
      rw [List.any_map]
      congr 1
      funext x
      exact eqv_key x k
    show (if (seen.map keyD).any (fun y => PyData.eqv y (keyD k)) = true then nubF (seen.map keyD) (ks.map keyD) else keyD k :: nubF (seen.map keyD ++ [keyD k]) (ks.map keyD)) = List.map keyD (if memK seen k = true then nubK seen ks else k :: nubK (seen ++ [k]) ks)
    rw [e]
    by_cases c : memK seen k = true
    · rw [if_pos c, if_pos c]; exact nub_keys ks seen
    · rw [if_neg c, if_neg c]
      have := nub_keys ks (seen ++ [k])
      rw [List.map_append] at this
      rw [List.map_cons]
      exact congrArg (_ :: ·) this
theorem nubK_mem : ∀ (ks seen : List Key) (j : Key), j ∈ nubK seen ks ↔ j ∈ ks ∧ j ∉ seen
  | [], seen, j => by simp [nubK]
  | k :: ks, seen, j => by
    unfold nubK
    by_cases c : memK seen k = true
    · rw [if_pos c, nubK_mem ks seen j, List.mem_cons]
      have hk := memK_iff.mp c
      constructor
      · exact fun h => ⟨.inr h.1, h.2⟩
      · rintro ⟨rfl | h, n⟩
        · exact (n hk).elim
        · exact ⟨h, n⟩
    · rw [if_neg c, List.mem_cons, nubK_mem ks (seen ++ [k]) j, List.mem_cons, List.mem_append, List.mem_singleton]
      have hk : k ∉ seen := fun z => c (memK_iff.mpr z)
      constructor
      · rintro (rfl | ⟨h, n⟩)
        · exact ⟨.inl rfl, hk⟩
        · exact ⟨.inr h, fun z => n (.inl z)⟩
      · rintro ⟨rfl | h, n⟩
        · exact .inl rfl
        · by_cases e : j = k
          · exact .inl e
          · exact .inr ⟨h, fun z => z.elim n e⟩
theorem nubK_nodup : ∀ (ks seen : List Key), (nubK seen ks).Nodup
  | [], seen => List.nodup_nil
  | k :: ks, seen => by
    unfold nubK
    by_cases c : memK seen k = true
    · rw [if_pos c]; exact nubK_nodup ks seen
    · rw [if_neg c]
      refine List.nodup_cons.mpr ⟨fun z => ?_, nubK_nodup ks _⟩
      have := (nubK_mem ks (seen ++ [k]) k).mp z
      exact this.2 (List.mem_append.mpr (.inr (List.mem_singleton.mpr rfl)))
theorem nubK_len : ∀ (ks seen : List Key), (nubK seen ks).length ≤ ks.length
  | [], seen => Nat.le_refl _
  | k :: ks, seen => by
    unfold nubK
    split
    · have := nubK_len ks seen; simp only [List.length_cons]; omega
    · have := nubK_len ks (seen ++ [k]); simp only [List.length_cons]; omega
theorem keyD_toks {a b : Key} (h : PySem.W.keyToks (keyD a) = PySem.W.keyToks (keyD b)) : a = b := by
  cases a with
  | inl i => cases b with
    | inl j =>
      have h : [Sum.inl i] = [(Sum.inl j : Int ⊕ List Nat)] := by simpa [keyD, PySem.W.keyToks] using h
      simp at h
      rw [h]
    | inr y => simp [keyD, PySem.W.keyToks] at h
  | inr x => cases b with
    | inl j => simp [keyD, PySem.W.keyToks] at h
    | inr y =>
      have h : [(Sum.inr x.cps.toList : Int ⊕ List Nat)] = [Sum.inr y.cps.toList] := by simpa [keyD, PySem.W.keyToks] using h
      simp only [List.cons.injEq, Sum.inr.injEq, and_true] at h
      rw [PySem.W.str_of_cps h]
/-- sorting tells nothing of how a set's members came -/
theorem sort_keys_eq {k1 k2 : List Key} (p : k1.Perm k2) : sortD (k1.map keyD) = sortD (k2.map keyD) := by
  refine List.Perm.eq_of_pairwise (le := fun a b => dLe a b = true) (fun a b ha hb h1 h2 => ?_) (List.pairwise_mergeSort dLe_trans dLe_total _) (List.pairwise_mergeSort dLe_trans dLe_total _) ?_
  · have ha := (List.mergeSort_perm _ _).mem_iff.mp ha
    have hb := (List.mergeSort_perm _ _).mem_iff.mp hb
    obtain ⟨x, _, rfl⟩ := List.mem_map.mp ha
    obtain ⟨y, _, rfl⟩ := List.mem_map.mp hb
    rw [keyD_toks (dLe_anti h1 h2)]
  · exact ((List.mergeSort_perm _ _).trans (p.map keyD)).trans (List.mergeSort_perm _ _).symm
def SetKO (w : World) (a : Addr) (S : Key → Bool) (n : Nat) : HO := .ext fun h => SetKR w h a S n
section
variable {X : Cx}
theorem setKO_new {w : World} {P : Program} {H : Hp} {h : Heap} {a : Addr} {S : Key → Bool} {n : Nat} (R : SetKR w h a S n) : ObjOk P w H h a (SetKO w a S n) := by
  have ⟨o, _, _, _, ho, _⟩ := R
  exact ⟨R, ⟨o, ho⟩, fun h1 h2 p k => SetKR.at p k⟩
theorem setKO_get {pins : List (Addr × Obj)} {σ : L2.St} {H : Hp} {s : Shared} {a : Addr} {S : Key → Bool} {n : Nat} (I : Inv X pins σ H s) (ha : H a = some (SetKO X.w a S n)) : SetKR X.w s.heap a S n := (I.hok a _ ha).1
def rSetK (K : PySem.W.Frag) (w : World) : List V → Hp → VK → Prop := fun xs H Q => ∃ (l : Addr) (ks : List Key), xs = [.ref l] ∧ SqL K H l (ks.map kV) ∧ ks.length + 1 < scanBound ∧ ∀ p n, H p = none → n ≤ ks.length → Q (.ref p) (upd H p (SetKO w p (memK ks) n))
theorem cr_setK (hc : X.calm = true) : CallR X (.type "set") (rSetK X.K X.w) := by
  intro pins s σ H xs us Q I r h
  obtain ⟨l, ks, rfl, hl, hb, q⟩ := h
  obtain ⟨its, rv, hI, _⟩ := I.list hl
  rw [Vals.ref1 r]
  refine call_set_keys ks (I.ok.hd hc) hI.isList (by simpa using rv) hb fun h' tk c R hc' keep => ?_
  exact ⟨.ref _, upd H s.heap.objs.size (SetKO X.w s.heap.objs.size (memK ks) c), I.laid (t' := tk) keep (Nat.le_refl _) (setKO_new R), rfl, q _ c (I.hok.fresh (Nat.le_refl _)) hc'⟩
/-- all ints, or all texts -/
def oneKind (ks : List Key) : Prop := (∀ k ∈ ks, ∃ i, k = .inl i) ∨ (∀ k ∈ ks, ∃ x, k = .inr x)
theorem alike_keys {ks : List Key} (h : oneKind ks) : PySem.W.AllAlike (ks.map keyD) ∧ PySem.W.Sortable (ks.map keyD) := by
  refine ⟨fun d hd d' hd' => ?_, .inr fun d hd => ?_⟩
  · obtain ⟨k, hk, rfl⟩ := List.mem_map.mp hd
    obtain ⟨k', hk', rfl⟩ := List.mem_map.mp hd'
    rcases h with h | h
    · obtain ⟨i, rfl⟩ := h k hk
      obtain ⟨j, rfl⟩ := h k' hk'
      rfl
    · obtain ⟨i, rfl⟩ := h k hk
      obtain ⟨j, rfl⟩ := h k' hk'
      rfl
  · obtain ⟨k, hk, rfl⟩ := List.mem_map.mp hd
    cases k with
    | inl i => exact ⟨nofun, nofun⟩
    | inr i => exact ⟨nofun, nofun⟩
theorem depth_key (k : Key) : (keyD k).depth = 0 := by cases k <;> simp [keyD, PyData.depth]
theorem reads_key {h : Heap} {k : Key} {u : Value} (r : RelV (kV k) u) : ∃ as, Reads h u (keyD k) as := by
  cases k with
  | inl i => obtain ⟨t, rfl⟩ := (show ∃ t, u = Value.int i t from r); exact ⟨_, .int _ _⟩
  | inr x => obtain ⟨t, rfl⟩ := (show ∃ t, u = Value.str x t from r); exact ⟨_, .str _ _⟩
theorem each_keys {h : Heap} : ∀ {vs : List Value}, (∀ v ∈ vs, ∃ k, RelV (kV k) v) → PySem.W.EachIs (fun u k => RelV (kV k) u) vs (vs.map keyVal) ∧ PySem.W.EachIs (fun v b => ∃ as, Reads h v (keyD b) as) vs (vs.map keyVal)
  | [], _ => ⟨.nil, .nil⟩
  | v :: vs, hv => by
    obtain ⟨k, hk⟩ := hv v List.mem_cons_self
    obtain ⟨h1, h2⟩ := each_keys (h := h) fun u hu => hv u (List.mem_cons_of_mem _ hu)
    have e := keyVal_rel hk
    exact ⟨.cons (by rw [e]; exact hk) h1, .cons (by rw [e]; exact reads_key hk) h2⟩
theorem vals_each : ∀ {us : List Value} {ks : List Key}, PySem.W.EachIs (fun u k => RelV (kV k) u) us ks → Vals (ks.map kV) us
  | _, _, .nil => .nil
  | _, _, .cons h t => .cons h (vals_each t)
theorem sorted_setK {P : Program} {w : World} {A : Around} {E : Value → Shared → Prop} {s : Shared} {a : Addr} {ks : List Key} {n : Nat} {Q : Value → Shared → Prop} (R : SetKR w s.heap a (memK ks) n) (hh : A.handled = none) (ok : oneKind ks) (hu : A.units + 64 < cLine) (hsm : ks.length ≤ sizeLine)
    (hQ : ∀ s' p (out : Array Value) (c : Nat) (ns : List Key), (∀ b o, s.heap.get? b = some o → s'.heap.get? b = some o) → s'.gens = s.gens → s'.os = s.os → s.heap.objs.size ≤ p →
      s'.heap.get? p = some (seqObj "list" out c) → Vals (ns.map kV) out.toList → ns.map keyD = sortD ((nubK [] ks).map keyD) → Q (.ref p) s') :
    wpAny (model P w) A (call (.builtin "sorted") [.ref a]) Q E s := by
  obtain ⟨o, es, ep, t, ho, hex, hd, g, nd, hm, hb, hf, hn, hr, hl⟩ := R
  refine Calls.call_function_entry kind_sorted plain_sorted entry_sorted (args_sorted1 _) ?_
  unfold Builtin.«sorted»
  refine wpAny_bind (m := checkCount "sorted" 1 1 _) (wpAny_pure ?_)
  refine wpAny_bind (collect_set (A := A.in1) hh ⟨o, ho, hex.1, hd⟩ hf hb hr hl fun s1 vs k1 hz g1 o1 pm => ?_)
  have hk : ∀ v ∈ vs, ∃ k, RelV (kV k) v := fun v hv => by
    obtain ⟨e, he, q⟩ := List.mem_map.mp (pm.mem_iff.mp hv)
    obtain ⟨k, h1, _⟩ := g e he
    exact ⟨k, by rw [← q]; exact h1⟩
  have pk : (vs.map keyVal).Perm (es.toList.map keyE) := by
    have q := pm.map keyVal
    rw [List.map_map] at q
    exact q
  have pn : (vs.map keyVal).Perm (nubK [] ks) := by
    refine pk.trans ((List.perm_ext_iff_of_nodup nd (nubK_nodup ks [])).mpr fun k => ?_)
    rw [← hm k, memK_iff, nubK_mem]
    simp
  have hvl : vs.length ≤ sizeLine := by
    have := pn.length_eq
    rw [List.length_map] at this
    have l2 := nubK_len ks []
    omega
  have ok2 : oneKind (vs.map keyVal) := by
    have hmem : ∀ k ∈ vs.map keyVal, k ∈ ks := fun k h => ((nubK_mem ks [] k).mp (pn.mem_iff.mp h)).1
    exact ok.imp (fun z k h => z k (hmem k h)) fun z k h => z k (hmem k h)
  refine wpAny_bind (wpAny_newList ?_ hvl)
  have hoL : (s1.heap.push (seqObj "list" vs.toArray 0)).get? s1.heap.objs.size = some (seqObj "list" vs.toArray 0) := Heap.get?_push_size _ rfl
  obtain ⟨ea, eb⟩ := each_keys (h := s1.heap.push (seqObj "list" vs.toArray 0)) hk
  obtain ⟨c1, c2⟩ := alike_keys ok2
  have eb' : PySem.W.EachIs (fun v b => ∃ as, Reads (s1.heap.push (seqObj "list" vs.toArray 0)) v (keyD b) as ∧ s1.heap.objs.size ∉ as) vs (vs.map keyVal) := eb.mono fun v b ⟨as, r⟩ => ⟨as, r, by
    cases b <;> cases r <;> simp⟩
  refine wpAny_bind (wpAny_holding (PySem.W.list_sort_data (enc := keyD) hoL ea eb' c1 c2 (by rw [List.length_map]; exact hvl) (fun b hb => by rw [depth_key]; show A.units + 1 + 1 + 0 < cLine; omega) fun out ho2 he => ?_))
  obtain ⟨c, hc⟩ := sortedHeap_at (vs := vs) (out := out.toArray) hoL
  refine wpAny_pure ⟨_, rfl, hQ _ s1.heap.objs.size out.toArray c ((vs.map keyVal).mergeSort (PySem.W.dataLe false keyD)) (fun b u e => ?_) g1 o1 hz hc (by simpa using vals_each he) ?_⟩
  · have q := k1 b u e
    have hlt := Heap.lt_size q
    show (sortedHeap (s1.heap.push (seqObj "list" vs.toArray 0)) s1.heap.objs.size vs out.toArray).get? b = some u
    rw [sortedHeap_old (Nat.ne_of_lt hlt) (by rw [size_push']; exact Nat.lt_succ_of_lt hlt)]
    exact Heap.get?_push_of_some _ q
  · rw [← sort_keys_eq pn]
    exact PySem.W.sort_maps (r := PySem.W.dataLe false keyD) (s := dLe) keyD fun _ _ _ _ => rfl
def rSortedK (w : World) : List V → Hp → VK → Prop := fun vs H Q => ∃ (a : Addr) (ks : List Key) (n : Nat), vs = [V.ref a] ∧ H a = some (SetKO w a (memK ks) n) ∧ oneKind ks ∧ ks.length ≤ sizeLine ∧
  ∀ (ns : List Key) (p : Addr), ns.map keyD = sortD ((nubK [] ks).map keyD) → H p = none → Q (.ref p) (upd H p (.lst (ns.map kV)))
theorem cr_sortedK (hc : X.calm = true) (hu : X.A.units + 64 < cLine) : CallR X (.builtin "sorted") (rSortedK X.w) := by
  intro pins s σ H vs us Q I r h
  obtain ⟨a, ks, n, rfl, ha, ok, hsm, q⟩ := h
  have R := setKO_get I ha
  rw [Vals.ref1 r]
  refine sorted_setK R (I.ok.hd hc) ok hu hsm fun s' p out c ns k g o hp hg hi hs => ?_
  have hlen : (ns.map kV).length ≤ sizeLine := by
    have e := congrArg List.length hs
    unfold sortD at e
    rw [List.length_map, List.length_mergeSort, List.length_map] at e
    have := nubK_len ks []
    rw [List.length_map]; omega
  have hn : H p = none := I.hok.fresh hp
  have J : Inv X pins σ (upd H p (.lst (ns.map kV))) { s with heap := s'.heap, gens := s'.gens, drawn := s'.drawn, toks := s'.toks } :=
    I.call (ch := []) (Un.laid k hp hn) (I.hok.laid k hp ⟨hlen, out.toList, c, hi, hg⟩) (by rw [g]; exact I.bare) (fun _ z => nomatch z)
  have e : s' = { s with heap := s'.heap, gens := s'.gens, drawn := s'.drawn, toks := s'.toks } := by
    cases s'
    cases s
    cases o
    rfl
  rw [e]
  exact ⟨.ref p, _, J, rfl, q ns p hs hn⟩
theorem setOk_t {ds : List PyData} (h : setOk ds = true) : ∃ ks, ds = ks.map keyD ∧ oneKind ks ∧ ks.length + 1 < 4096 := by
  unfold setOk at h
  simp only [Bool.and_eq_true, Bool.or_eq_true, List.all_eq_true, decide_eq_true_eq] at h
  obtain ⟨h1, h2⟩ := h
  rcases h1 with h1 | h1
  · have : ∃ is : List Int, ds = is.map PyData.int := by
      clear h2
      induction ds with
      | nil => exact ⟨[], rfl⟩
      | cons d ds ih =>
        obtain ⟨is, e⟩ := ih fun x hx => h1 x (List.mem_cons_of_mem _ hx)
        have := h1 d List.mem_cons_self
        split at this
        · exact ⟨_ :: is, by rw [e]; rfl⟩
        · cases this
    obtain ⟨is, rfl⟩ := this
    refine ⟨is.map .inl, by rw [List.map_map]; rfl, .inl fun k hk => ?_, by simpa using h2⟩
    obtain ⟨i, _, e⟩ := List.mem_map.mp hk
    exact ⟨i, e.symm⟩
  · have : ∃ is : List Str, ds = is.map PyData.str := by
      clear h2
      induction ds with
      | nil => exact ⟨[], rfl⟩
      | cons d ds ih =>
        obtain ⟨is, e⟩ := ih fun x hx => h1 x (List.mem_cons_of_mem _ hx)
        have := h1 d List.mem_cons_self
        split at this
        · exact ⟨_ :: is, by rw [e]; rfl⟩
        · cases this
    obtain ⟨is, rfl⟩ := this
    refine ⟨is.map .inr, by rw [List.map_map]; rfl, .inr fun k hk => ?_, by simpa using h2⟩
    obtain ⟨i, _, e⟩ := List.mem_map.mp hk
    exact ⟨i, e.symm⟩
/-- sorted(set(e)) -/
theorem ev_sortSet {τ : List OT} {p : Bool} {e : Expr} {fr : M (List PyData)} {pp pp2 pos pos2 : Pos} (hc : X.calm = true) (hu : X.A.units + 64 < cLine) (hg : Gl X "sorted") (hm : X.mg "sorted" = none) (hg2 : Gl X "set") (hm2 : X.mg "set" = none) (ha : EvQ X τ p [e] fr)
    (he : starEach [e] X.env = (false, eval e X.env) :: starEach [] X.env) (he2 : starEach [.Call (.Name "set" pp2) [e] [] pos2] X.env = (false, eval (.Call (.Name "set" pp2) [e] [] pos2) X.env) :: starEach [] X.env) :
    EvM X τ p (.ow (.ls .sh)) (.Call (.Name "sorted" pp) [.Call (.Name "set" pp2) [e] [] pos2] [] pos) (mapM fr sortSetD) := by
  refine PE.imp (pe_callB (cr_sortedK hc hu) hg hm (by rfl) (pa_cons (pe_callTy (cr_setK hc) hg2 hm2 (by rfl) ha (by decide) (by decide) he (by rfl)) pa_nil he2) (by decide) (by decide) he2 (by rfl)) fun σ H Q ⟨Wo, F, env, d, env', S, hf, k⟩ => ?_
  obtain ⟨ds, h1, h2⟩ := mapM_some hf
  refine ⟨Wo, F, env, ds, env', S, h1, fun vs H1 S1 k1 rq => ?_⟩
  unfold sortSetD at h2
  split at h2
  · rename_i ds'
    by_cases c : setOk ds' = true
    · rw [if_pos c] at h2
      cases h2
      obtain ⟨ks, rfl, ok, hb⟩ := setOk_t c
      obtain ⟨x, rfl, qx⟩ := rq.one
      obtain ⟨a, ys, rfl, hl, ra⟩ := qx.listI
      have ey := keys_rel ra
      subst ey
      refine ⟨a, ks, rfl, hl, by unfold scanBound; omega, fun q n nq hn => ⟨q, ks, n, rfl, upd_same, ok, by rw [sizeLine_eq]; omega, fun ns p2 hs np2 => ?_⟩⟩
      have sm := up_same (o := SetKO X.w q (memK ks) n) nq
      have hn2 : nub (ks.map keyD) = (nubK [] ks).map keyD := nub_keys ks []
      have := nx_of (t := .ls .sh) k (S1.same sm) (k1.then sm)
      rw [hn2, ← hs] at this
      exact this.newL np2 (rpa_keys ns)
    · rw [if_neg c] at h2; cases h2
  · cases h2
end
end Ev

set_option Elab.async false
set_option linter.all false
set_option maxRecDepth 100000
set_option maxHeartbeats 4000000
namespace Ev
open PySem PySem.Spec PyProof.Rows L2

/-! ### U. enumerate(tuple) -/
def Iteu (K : PySem.W.Frag) (a : Addr) : It :=
  ⟨fun i H => ∃ (xs : List V) (x : V), SqT K H a xs ∧ xs[i]? = some x, fun i H v H' => ∃ T x, v = .ref T ∧ H T = none ∧ H' = upd H T (.tup [.int (i : Nat), x]) ∧ ∀ xs, SqT K H a xs → xs[i]? = some x, fun i H => ∃ xs : List V, SqT K H a xs ∧ xs.length ≤ i⟩
theorem tuple_inj {X : Cx} {pins : List (Addr × Obj)} {σ : L2.St} {H : Hp} {s : Shared} {a : Addr} {xs ys : List V} (I : Inv X pins σ H s) (h1 : SqT X.K H a xs) (h2 : SqT X.K H a ys) : xs = ys := by
  obtain ⟨i1, r1, ⟨o1, e1, _, n1, d1⟩, _⟩ := I.tuple h1
  obtain ⟨i2, r2, ⟨o2, e2, _, n2, d2⟩, _⟩ := I.tuple h2
  rw [e1] at e2
  cases e2
  rw [d1] at d2
  have : i1 = i2 := by
    injection d2 with d2 _
    simpa using d2
  subst this
  exact Vals.inj r1 r2
theorem turn_enumT {P : Program} {w : World} {K : PySem.W.Frag} {elts : List Expr} {kk : Nat} {tpos : Pos} (a e it : Addr) :
    Turn P w K (.Tuple elts kk tpos) (Iteu K a) [e, it] e (fun i h => (∃ old, IsEnum h e it ((i : Nat) : Int) old) ∧ h.IsTupleIter it a i ∧ e ≠ it ∧ a ≠ it ∧ a ≠ e) where
  mem := by simp
  obj := fun i h st b hb => by
    obtain ⟨⟨old, he⟩, ⟨o, ho, hc, hd⟩, _⟩ := st
    have e' : b = e ∨ b = it := by simpa using hb
    rcases e' with z | z
    · rw [z]; exact ⟨_, he, fun v q => nomatch q⟩
    · rw [z]; exact ⟨o, ho, fun v q => by rw [hd] at q; cases q⟩
  keep := fun i h h' st k => let ⟨⟨old, he⟩, hi, hne⟩ := st; ⟨⟨old, k e (by simp) _ he⟩, hi.at fun o q => k it (by simp) o q, hne⟩
  item := by
    intro X hP hw hK hc i pins s σ H E I hf st hg
    subst hP hw hK
    obtain ⟨⟨old, he⟩, hit, hne, hai, hae⟩ := st
    obtain ⟨xs, x, hq, hx⟩ := hg
    obtain ⟨its, rv, p, hz⟩ := I.tuple hq
    obtain ⟨u, hu, ru⟩ := rv.get hx
    have hel : e < s.heap.objs.size := Heap.lt_size he
    have hil : it < s.heap.objs.size := by obtain ⟨_, q, _⟩ := hit; exact Heap.lt_size q
    have hlt : i < its.toArray.size := by
      have := (List.getElem?_eq_some_iff.mp hu).1
      simpa using this
    have hef : e ∉ [it, a] := by
      simp only [List.mem_cons, List.not_mem_nil, or_false, not_or]
      exact ⟨hne, Ne.symm hae⟩
    refine wpAny_pyNext_enum_itemD (PySem.Draws.tuple (by simp [I.ok.hd hc]) it a hai its.toArray) he ⟨hit, p⟩ hlt hne hef fun y h' tk hP ho hit' hT hsz hk => ?_
    have ey : y = u := by
      rw [List.getElem?_toArray, hu] at hP
      exact (Option.some.inj hP).symm
    subst ey
    refine ⟨_, rfl, wpAny_letOwnedTupleGo_enum (s := { s with heap := h', toks := tk + 1 }) ho fun h'' he' sb => ?_⟩
    have hT2 : h''.get? s.heap.objs.size = some { cls := .type "tuple", data := .seq #[.int i tk, y] } := (sb.2 _ (Nat.ne_of_gt hel)).trans hT
    have new : ObjOk X.prog X.w (upd H s.heap.objs.size (.tup [.int (i : Nat), x])) h'' s.heap.objs.size (.tup [.int (i : Nat), x]) :=
      ⟨by show 2 ≤ sizeLine; decide, [.int i tk, y], .cons ⟨_, rfl⟩ (.cons ru .nil), ⟨_, hT2, rfl, _, rfl⟩⟩
    have I1 : Inv X pins σ (upd H s.heap.objs.size (.tup [.int (i : Nat), x])) { s with heap := h'', toks := tk + 1 } :=
      I.turnedNew (ch := [e, it]) (fun b ob hb q => (sb.2 b (fun z => hb (by simp [z]))).trans (hk b ob (fun z => hb (by simp [z])) (fun z => hb (by simp [z])) q)) hf (Nat.le_refl _) new
    refine ⟨.ref s.heap.objs.size, _, I1, rfl, ⟨_, x, rfl, I.hok.fresh (Nat.le_refl _), rfl, fun ys hy => by rw [tuple_inj I hy hq]; exact hx⟩, ⟨⟨y, ?_⟩, hit'.1.at fun o q => (sb.2 it (Ne.symm hne)).trans q, hne, hai, hae⟩, fun b hb => ?_⟩
    · have e1 : ((i + 1 : Nat) : Int) = (i : Int) + 1 := by omega
      rw [e1]; exact he'
    · have hb' : b < s.heap.objs.size := by
        have e' : b = e ∨ b = it := by simpa using hb
        rcases e' with z | z
        · rw [z]; exact hel
        · rw [z]; exact hil
      rw [upd_ne (Nat.ne_of_lt hb')]
      exact (hf b hb).1
  done := by
    intro X hP hw hK hc i pins s σ H E I hf st hg
    subst hP hw hK
    obtain ⟨⟨old, he⟩, hit, hne, hai, hae⟩ := st
    obtain ⟨xs, hq, hx⟩ := hg
    obtain ⟨its, rv, p, hz⟩ := I.tuple hq
    obtain ⟨f0, f1, f2, f3, f4, f5⟩ := hf it (by simp)
    have hl := rv.length
    -- the iterator may stand at or behind the end
    have hT : s.TypeIs (.ref e) "enumerate" := ⟨_, he, rfl⟩
    unfold pyNext
    refine wpAny_bind (wpAny_attempt (wpAny_callSpecial?_slot (name := Str.ofString "__next__") hT F.slot_enumerate_next
      (wpAny_call_entry F.slot_enumerate_next hT F.entry_enumerate_next ?_ (F.args_enumerate_next_1 _))))
    show wpAny _ _ (field (.ref e) 2 >>= _) _ _ _
    refine wpAny_bind (wpAny_field he rfl (x := .ref it) rfl ?_)
    refine wpAny_bind (PySem.wpAny_nextOf_tuple_end (A := X.A.in1) (by simp [I.ok.hd hc]) hit p (by simp; omega) fun h' x he' hx' => ?_)
    obtain ⟨o, ho, hc2⟩ := hx'
    refine wpAny_bind (wpAny_isInstance (T := "StopIteration") (b := true) ⟨o, ho, hc2⟩ isSubtype_stop ?_)
    exact wpAny_pure ⟨rfl, I.turned (t' := s.toks) (fun b o hb q => he' b o hb q) f0 f1 f3 f4 f5⟩
  self := fun A i s Q E st h => let ⟨⟨_, he⟩, _⟩ := st; wpAny_pyIter_enum he h
theorem meets_enumerate_newT (l : Addr) (items : Array Value) (n : Nat) (dct : Option Addr) (sl : Array (Option Value)) :
    Meets (Builtin.«enumerate.__new__» ⟨[.type "enumerate", .ref l], []⟩) (fun _ R s => s.heap.get? l = some { cls := .type "tuple", dict := dct, data := .seq items n, slots := sl } ∧
      R (.ok (.ret (.ref (s.heap.push { cls := .type "tuple_iterator", data := .fields #[.ref l, .int 0 0] }).objs.size)))
        { s with heap := (s.heap.push { cls := .type "tuple_iterator", data := .fields #[.ref l, .int 0 0] }).push { cls := .type "enumerate", data := .fields #[.none, .bool false, .ref s.heap.objs.size, rawInt 0, .none, .none] } }) :=
  .of_wp fun prog w A R s h => by
    obtain ⟨hp, g, d, tk, os⟩ := s; obtain ⟨hl, h⟩ := h
    have hsub := sub_enumerate
    have hL : Heap.IsTuple (Shared.heap ⟨hp, g, d, tk, os⟩) l items := ⟨_, hl, rfl, n, rfl⟩
    wp_walk using wpAny_loadPart' hl
    refine wpAny_stack_any fun st => wpAny_pure ?_
    split
    · rename_i c _ _ _ _ _
      cases (c == Value.type "enumerate")
      · wp_walk using wpAny_loadPart' hl, wpAny_pyIter_tuple hL
        exact ⟨_, rfl, h⟩
      · wp_walk using wpAny_loadPart' hl, wpAny_pyIter_tuple hL
        exact ⟨_, rfl, h⟩
    · wp_walk using wpAny_loadPart' hl, wpAny_pyIter_tuple hL
      exact ⟨_, rfl, h⟩
theorem call_enumerate_tuple {prog : Program} {w : World} {A : Around} {E : Value → Shared → Prop} {s : Shared} {l : Addr} {items : Array Value} {Q : Value → Shared → Prop} (hL : s.heap.IsTuple l items)
    (h : ∀ h', IsEnum h' (s.heap.objs.size + 1) s.heap.objs.size 0 .none → h'.IsTupleIter s.heap.objs.size l 0 → h'.objs.size = s.heap.objs.size + 2 →
      (∀ b o, s.heap.get? b = some o → h'.get? b = some o) → Q (.ref (s.heap.objs.size + 1)) { s with heap := h' }) :
    wpAny (model prog w) A (call (.type "enumerate") [.ref l]) Q E s := by
  obtain ⟨⟨c, dct, dt, sl⟩, hl, hc, n, hd⟩ := hL
  replace hc : c = .type "tuple" := hc
  replace hd : dt = .seq items n := hd
  subst hc hd
  refine callType_new F.called_enumerate (by decide) (F.typeCall_enumerate_1 _) (F.newCall_enumerate_1 _) (fun obj => F.args_object_init_2 obj _) F.entry_enumerate_new
    (meets_enumerate_newT l items n dct sl) ⟨hl, ?_⟩
  have hz : (s.heap.push { cls := .type "tuple_iterator", data := .fields #[.ref l, .int 0 0] }).objs.size = s.heap.objs.size + 1 := Heap.size_push ..
  show _ ∧ _
  rw [hz]
  have he : IsEnum ((s.heap.push { cls := .type "tuple_iterator", data := .fields #[.ref l, .int 0 0] }).push
      { cls := .type "enumerate", data := .fields #[.none, .bool false, .ref s.heap.objs.size, rawInt 0, .none, .none] }) (s.heap.objs.size + 1) s.heap.objs.size 0 .none := by
    have := Heap.get?_push_size (s.heap.push { cls := .type "tuple_iterator", data := .fields #[.ref l, .int 0 0] })
      (o := { cls := .type "enumerate", data := .fields #[.none, .bool false, .ref s.heap.objs.size, rawInt 0, .none, .none] }) rfl
    rw [hz] at this; exact this
  refine ⟨⟨_, he, rfl⟩, h _ he ⟨_, Heap.get?_push_of_some _ (Heap.get?_push_size _ rfl), rfl, rfl⟩ (by rw [Heap.size_push, hz]) fun b o x => Heap.get?_push_of_some _ (Heap.get?_push_of_some _ x)⟩
def iEnumT (K : PySem.W.Frag) (ta : TA) : TI := fun σ H R => ta σ H fun vs H1 => ∃ a xs, vs = [.ref a] ∧ SqT K H1 a xs ∧ R (Iteu K a) H1
theorem pi_enumT {X : Cx} {e : Expr} {ta : TA} {p pos tpos : Pos} {elts : List Expr} {kk : Nat} (hg : Gl X "enumerate") (hm : X.mg "enumerate" = none) (ha : PA X [e] ta) (hs : starEach [e] X.env = [(false, eval e X.env)] := by rfl) :
    PI X (.Tuple elts kk tpos) (.Call (.Name "enumerate" p) [e] [] pos) (iEnumT X.K ta) := by
  refine ⟨fun pins s σ H R I h => ?_⟩
  refine Call_ (ld_blt I hg hm boot_enumerate (PyProof.Rows.callWith_type1 (thn (ha.run pos pins s σ H _ I h) fun us s1 ⟨vs, H1, I1, r1, q1⟩ => ?_) hs rfl))
  obtain ⟨a, xs, ex, hq, q⟩ := q1
  subst ex
  cases r1 with
  | cons r rr =>
    cases rr
    cases r
    obtain ⟨its, rv, p', hz⟩ := I1.tuple hq
    have hal : a < s1.heap.objs.size := by obtain ⟨_, q, _⟩ := p'; exact Heap.lt_size q
    refine call_enumerate_tuple p' fun h' he hit hsz hk => wpAny_pyIter_enum he ?_
    have I2 : Inv X pins σ H1 { s1 with heap := h' } := I1.kept (t' := s1.toks) hk
    refine ⟨s1.heap.objs.size + 1, [s1.heap.objs.size + 1, s1.heap.objs.size], _, _, H1, rfl, I2, turn_enumT a (s1.heap.objs.size + 1) s1.heap.objs.size, ⟨⟨.none, he⟩, hit, Nat.succ_ne_self _, Nat.ne_of_lt hal, Nat.ne_of_lt (Nat.lt_succ_of_lt hal)⟩, fun b hb => ?_, q⟩
    have e' : b = s1.heap.objs.size + 1 ∨ b = s1.heap.objs.size := by simpa using hb
    have hle : s1.heap.objs.size ≤ b := by
      rcases e' with z | z
      · rw [z]; exact Nat.le_add_right _ _
      · rw [z]; exact Nat.le_refl _
    exact I1.fpOk hle (I1.hok.fresh hle)
/-! by data -/
def enumTD : List PyData → Option (List PyData)
  | [.tuple ds] => some (enumFrom 0 ds)
  | _ => none
theorem yields_enumT {K : PySem.W.Frag} {H0 : Hp} {B C : ASet} {a : Addr} {xs : List V} {ds : List PyData} (h : (Rd H0 a (.tup xs) ∧ ¬ C a) ∨ KT K a xs) (r : RpA K H0 B xs ds) : Yields K C B (Iteu K a) H0 (enumFrom 0 ds) := by
  refine ⟨fun i H W d kc kp wt hd => ?_, fun i H kc hd => ?_⟩
  · rw [enumFrom_get, Nat.zero_add] at hd
    cases e : ds[i]? with
    | none => rw [e] at hd; cases hd
    | some d' =>
      rw [e] at hd
      cases hd
      have sq := sqT_keep h kc
      obtain ⟨x, hx, rx⟩ := r.get e
      refine ⟨⟨xs, x, sq, hx⟩, fun x' H' hy => ?_⟩
      obtain ⟨T, x2, rfl, nT, rfl, hy⟩ := hy
      have := hy xs sq
      rw [hx] at this
      cases this
      have sm := up_same (o := .tup [.int (i : Nat), x]) nT
      refine ⟨sm, .tup (.inl ⟨.inl upd_same, fun w => ?_⟩) (.cons (.int _) (.cons ((rx.keep kp).keep ⟨fun a o e _ => sm a o e, fun _ _ _ n => n⟩) .nil))⟩
      obtain ⟨o, e⟩ := wt T w
      rw [nT] at e; cases e
  · rw [enumFrom_get] at hd
    refine ⟨xs, sqT_keep h kc, ?_⟩
    cases e : ds[i]? with
    | none =>
      have := List.getElem?_eq_none_iff.mp e
      rw [r.length]; exact this
    | some d => rw [e] at hd; cases hd
section
variable {X : Cx} {τ : List OT} {p q : Bool} {m : Md} {tg e : Expr} {es : List Expr} {f : M PyData} {fr : M (List PyData)} {pos : Pos}
theorem evI_enumTW {pp tpos : Pos} {elts : List Expr} {kk : Nat} (hg : Gl X "enumerate") (hm : X.mg "enumerate" = none) (ha : EvQ X τ p [e] fr) (hs : starEach [e] X.env = [(false, eval e X.env)]) :
    EvI X τ p true (.Tuple elts kk tpos) (.Call (.Name "enumerate" pp) [e] [] pos) (mapM fr enumTD) := by
  refine PI.imp (pi_enumT hg hm ha hs) fun σ H R ⟨Wo, F, env, ds, env', S, hf, k⟩ => ?_
  obtain ⟨xs, h1, h2⟩ := mapM_some hf
  refine ⟨Wo, F, env, xs, env', S, h1, fun vs H' S' kq rq => ?_⟩
  unfold enumTD at h2
  split at h2
  · rename_i ds'
    cases h2
    obtain ⟨x, rfl, rx⟩ := rq.one
    cases rx with
    | rp rx =>
      cases rx with
      | tup hq ra => exact ⟨_, _, rfl, hq.imp (fun z => z.1) id, k _ H' S' kq (yields_enumT (hq.imp (fun z => ⟨z.1, fun z => z⟩) id) ra)⟩
  · cases h2
theorem evI_enumTS {pp tpos : Pos} {elts : List Expr} {kk : Nat} (hg : Gl X "enumerate") (hm : X.mg "enumerate" = none) (ha : EvL X τ p .sh [e] fr) (hs : starEach [e] X.env = [(false, eval e X.env)]) :
    EvI X τ p false (.Tuple elts kk tpos) (.Call (.Name "enumerate" pp) [e] [] pos) (mapM fr enumTD) := by
  refine PI.imp (pi_enumT hg hm ha hs) fun σ H R ⟨Wo, F, env, ds, env', S, hf, k⟩ => ?_
  obtain ⟨xs, h1, h2⟩ := mapM_some hf
  refine ⟨Wo, F, env, xs, env', S, h1, fun vs H' G S' kq ol g => ?_⟩
  obtain ⟨ra, _⟩ := ol.sh_rpa
  unfold enumTD at h2
  split at h2
  · rename_i ds'
    cases h2
    cases ra with
    | cons r t =>
      cases t
      have r := r.keep (Kp.less (W' := WF Wo F) fun a o _ n x => n (by rw [wf_un]; exact .inl x))
      cases r with
      | tup hq ra => exact ⟨_, _, rfl, hq.imp (fun z => z.1) id, k _ H' S'.less kq (yields_enumT hq ra)⟩
  · cases h2
/-- enumerate, of a list or a tuple -/
def enumAF (fr : M (List PyData)) : M (List PyData) := fun env => (mapM fr enumD env).or (mapM fr enumTD env)
theorem evI_enumA {pp tpos : Pos} {elts : List Expr} {kk : Nat} (hg : Gl X "enumerate") (hm : X.mg "enumerate" = none) (ha : EvQ X τ p [e] fr) (hs : starEach [e] X.env = [(false, eval e X.env)]) :
    EvI X τ p true (.Tuple elts kk tpos) (.Call (.Name "enumerate" pp) [e] [] pos) (enumAF fr) := (evI_enumW hg hm ha hs).or (evI_enumTW hg hm ha hs)
theorem evI_enumB {pp tpos : Pos} {elts : List Expr} {kk : Nat} (hg : Gl X "enumerate") (hm : X.mg "enumerate" = none) (ha : EvL X τ p .sh [e] fr) (hs : starEach [e] X.env = [(false, eval e X.env)]) :
    EvI X τ p false (.Tuple elts kk tpos) (.Call (.Name "enumerate" pp) [e] [] pos) (enumAF fr) := (evI_enum hg hm ha hs).or (evI_enumTS hg hm ha hs)
end
end Ev

set_option Elab.async false
set_option linter.all false
set_option maxRecDepth 100000
set_option maxHeartbeats 4000000
namespace Ev
open PySem PySem.Spec PyProof.Rows L2

/-! ### V. isinstance, bit_length, slices, constants -/
def tyN : PyData → String
  | .none => "NoneType"
  | .bool _ => "bool"
  | .int _ => "int"
  | .str _ => "str"
  | .list _ => "list"
  | .tuple _ => "tuple"
  | .dict _ => "dict"
section
variable {X : Cx} {K : PySem.W.Frag} {H H' : Hp} {W : ASet} {t : OT} {d : PyData} {Q : VK} {v : V}
theorem sqL_ty {a : Addr} {xs : List V} (h : SqL K H a xs) : TyX K H (.ref a) (.type "list") := by
  rcases h with (h | ⟨o, h⟩) | ⟨o, its, n, h, c, _⟩
  · exact .base (.lst h)
  · exact .base (.frz h)
  · exact .kList h c
theorem sqT_ty {a : Addr} {xs : List V} (h : SqT K H a xs) : TyX K H (.ref a) (.type "tuple") := by
  rcases h with (h | ⟨o, h⟩) | ⟨o, its, n, h, c, _⟩
  · exact .base (.tup h)
  · exact .fTuple h
  · exact .kTuple h c
theorem Rq.ty (r : Rq K H W v d) : TyX K H v (.type (tyN d)) := by
  cases r with
  | rp r => cases r with
    | non => exact .base .non
    | bl b => exact .base (.bl b)
    | int i => exact .base (.int i)
    | str x => exact .base (.str x)
    | lst h _ => exact sqL_ty (h.imp (fun z => z.1) id)
    | tup h _ => exact sqT_ty (h.imp (fun z => z.1) id)
    | dct h _ _ => rcases h with h | ⟨o, h⟩
                   · exact .base (.dK h)
                   · exact .fDict h
  | ls h _ => exact .base (.lst h)
  | dc h _ => exact .base (.dK h)
end
def isiD (T : String) : PyData → Option PyData := fun d => (kitB (tyN d) T).map PyData.bool
def isi2D (T U : String) : PyData → Option PyData := fun d => (kitB (tyN d) T).bind fun b => match b with
  | true => some (.bool true)
  | false => (kitB (tyN d) U).map PyData.bool
section
variable {X : Cx} {τ : List OT} {p q : Bool} {m m2 : Md} {e : Expr} {es : List Expr} {f : M PyData} {fr : M (List PyData)} {pos : Pos}
/-- an expression's value gets a new datum, the heap stays -/
def mapF (f : M PyData) (g : PyData → Option PyData) : M PyData := mapM f g
theorem ev_isi {T : String} {c : Str} {pp pc : Pos} (hg : Gl X "isinstance") (hm : X.mg "isinstance" = none) (hg2 : Gl X c) (hm2 : X.mg c = none) (hv2 : bootBuiltins c = some (.type T)) (hn2 : c ≠ "__name__") (hd2 : (c == ("__debug__" : Str)) = false) (h : EvM X τ p m e f)
    (he : starEach [e, .Name c pc] X.env = (false, eval e X.env) :: starEach [.Name c pc] X.env) (he2 : starEach [.Name c pc] X.env = (false, eval (.Name c pc) X.env) :: starEach [] X.env) :
    EvM X τ p (.ow .sh) (.Call (.Name "isinstance" pp) [e, .Name c pc] [] pos) (mapF f (isiD T)) := by
  refine PE.imp (pe_callB call_isi hg hm (by rfl) (pa_cons h (pa_cons (pe_bltn (v := .ty T) hg2 hm2 hv2 rfl hn2 hd2) pa_nil he2) he) (by decide) (by decide) he (by rw [he2]; rfl)) fun σ H Q ⟨Wo, F, env, d, env', S, hf, k⟩ => ?_
  obtain ⟨x, h1, h2⟩ := mapM_some hf
  refine ⟨Wo, F, env, x, env', S, h1, fun v H' G S' kq md g => ?_⟩
  unfold isiD at h2
  cases q : kitB (tyN x) T with
  | none => rw [q] at h2; cases h2
  | some b =>
    rw [q] at h2
    cases h2
    exact ⟨v, .ty T, _, _, b, rfl, .ty T, (md.rq S g).ty, kit_ty q, fin_sh k S'.less kq (.bl b)⟩
theorem ev_isi2 {T U : String} {c c2 : Str} {pp pc pc2 pt : Pos} {kk : Nat} (hg : Gl X "isinstance") (hm : X.mg "isinstance" = none) (hg2 : Gl X c) (hm2 : X.mg c = none) (hv2 : bootBuiltins c = some (.type T)) (hn2 : c ≠ "__name__") (hd2 : (c == ("__debug__" : Str)) = false)
    (hg3 : Gl X c2) (hm3 : X.mg c2 = none) (hv3 : bootBuiltins c2 = some (.type U)) (hn3 : c2 ≠ "__name__") (hd3 : (c2 == ("__debug__" : Str)) = false) (h : EvM X τ p m e f)
    (he : starEach [e, .Tuple [.Name c pc, .Name c2 pc2] kk pt] X.env = (false, eval e X.env) :: starEach [.Tuple [.Name c pc, .Name c2 pc2] kk pt] X.env) (he2 : starEach [.Tuple [.Name c pc, .Name c2 pc2] kk pt] X.env = (false, eval (.Tuple [.Name c pc, .Name c2 pc2] kk pt) X.env) :: starEach [] X.env)
    (he3 : starEach [.Name c pc, .Name c2 pc2] X.env = (false, eval (.Name c pc) X.env) :: starEach [.Name c2 pc2] X.env) (he4 : starEach [.Name c2 pc2] X.env = (false, eval (.Name c2 pc2) X.env) :: starEach [] X.env) :
    EvM X τ p (.ow .sh) (.Call (.Name "isinstance" pp) [e, .Tuple [.Name c pc, .Name c2 pc2] kk pt] [] pos) (mapF f (isi2D T U)) := by
  refine PE.imp (pe_callB call_isiT hg hm (by rfl) (pa_cons h (pa_cons (pe_tup (pa_cons (pe_bltn (v := .ty T) hg2 hm2 hv2 rfl hn2 hd2) (pa_cons (pe_bltn (v := .ty U) hg3 hm3 hv3 rfl hn3 hd3) pa_nil he4) he3)) pa_nil he2) he) (by decide) (by decide) he (by rw [he2]; rfl)) fun σ H Q ⟨Wo, F, env, d, env', S, hf, k⟩ => ?_
  obtain ⟨x, h1, h2⟩ := mapM_some hf
  refine ⟨Wo, F, env, x, env', S, h1, fun v H' G S' kq md g => ⟨by show 2 ≤ sizeLine; decide, fun tp ntp => ?_⟩⟩
  have sm := up_same (o := .tup [.ty T, .ty U]) ntp
  have rx : Rq X.K (upd H' tp (.tup [.ty T, .ty U])) (WF Wo F) v x := (md.rq S g).same sm
  unfold isi2D at h2
  cases q : kitB (tyN x) T with
  | none => rw [q] at h2; cases h2
  | some b =>
    rw [q] at h2
    simp only [Option.bind_some] at h2
    cases b with
    | true =>
      cases h2
      exact ⟨v, tp, _, _, [.type T, .type U], true, rfl, upd_same, .cons (.ty T) (.cons (.ty U) .nil), rx.ty, kitAny_cons (kit_ty q) (fun z => nomatch z) (fun _ => rfl), fin_sh k (S'.less.same sm) (kq.then sm) (.bl _)⟩
    | false =>
      cases q2 : kitB (tyN x) U with
      | none => rw [q2] at h2; cases h2
      | some b =>
        rw [q2] at h2
        cases h2
        refine ⟨v, tp, _, _, [.type T, .type U], b, rfl, upd_same, .cons (.ty T) (.cons (.ty U) .nil), rx.ty, kitAny_cons (kit_ty q) (fun _ => kitAny_cons (kit_ty q2) (fun z => by rw [z]; exact kitAny_nil) (fun z => z)) (fun z => nomatch z), fin_sh k (S'.less.same sm) (kq.then sm) (.bl _)⟩
/-- x.bit_length() -/
def bitsD : PyData → Option PyData
  | .int i => some (.int (Builtin.Int.intBits i : Nat))
  | _ => none
theorem ev_bits {apos : Pos} (h : EvM X τ p m e f) (hbase : attributeBase e "bit_length" X.env (eval e X.env) = eval e X.env) (hline : (apos.endLine == pos.line) = true) : EvM X τ p (.ow .sh) (.Call (.Attribute e "bit_length" apos) [] [] pos) (mapF f bitsD) := by
  refine PE.imp (pe_bits h hbase hline) fun σ H Q ⟨Wo, F, env, d, env', S, hf, k⟩ => ?_
  obtain ⟨x, h1, h2⟩ := mapM_some hf
  refine ⟨Wo, F, env, x, env', S, h1, fun v H' G S' kq md g => ?_⟩
  unfold bitsD at h2
  split at h2
  · cases h2
    exact ⟨_, (md.rq S g).intI, fin_sh k S'.less kq (.int _)⟩
  · cases h2
/-! constants -/
def conF (d : PyData) : M PyData := fun env => some (d, env)
theorem ev_int {i : Int} {j : Nat} : EvM X τ true (.ow .sh) (.Constant (.int i) j pos) (conF (.int i)) := ev_const pe_int fun σ H Q h => h _ fun _ => .int _
theorem ev_str {i : Str} {j : Nat} : EvM X τ true (.ow .sh) (.Constant (.str i) j pos) (conF (.str i)) := ev_const pe_str fun σ H Q h => h _ fun _ => .str _
theorem ev_bool {i : Bool} {j : Nat} : EvM X τ true (.ow .sh) (.Constant (.bool i) j pos) (conF (.bool i)) := ev_const pe_bl fun σ H Q h => h _ fun _ => .bl _
theorem ev_none {j : Nat} : EvM X τ true (.ow .sh) (.Constant .none j pos) (conF .none) := ev_const pe_non fun σ H Q h => h _ fun _ => .non
/-- a module's constant -/
theorem ev_glob {x : Str} {v : V} {u : Value} {d : PyData} (hg : Gl X x) (hm : X.mg x = some u) (r : RelV v u) (hr : ∀ H W, Rp X.K H W v d) (hd : (x == ("__debug__" : Str)) = false) : EvM X τ true (.ow .sh) (.Name x pos) (conF d) := ev_const (pe_glob hg hm r hd) fun σ H Q h => h _ fun W => hr H W
/-! slices -/
def rdO (K : PySem.W.Frag) (τ : List OT) (f : M (Option Int)) : TO := fun σ H Q =>
  ∃ Wo F env o env', Slots K H Wo τ σ env F ∧ f env = some (o, env') ∧ ∀ H', Slots K H' Wo τ σ env' F → Sm H H' → Q o H'
def EvO (X : Cx) (τ : List OT) (e : Option Expr) (f : M (Option Int)) : Prop := PO X e (rdO X.K τ f)
theorem PO.imp {e : Option Expr} {t t' : TO} (h : PO X e t) (i : ∀ σ H Q, t' σ H Q → t σ H Q) : PO X e t' := ⟨fun pins s σ H Q I q => h.run pins s σ H Q I (i _ _ _ q)⟩
def noO : M (Option Int) := fun env => some (none, env)
def intOf : PyData → Option (Option Int)
  | .int i => some (some i)
  | _ => none
def yesO (f : M PyData) : M (Option Int) := mapM f intOf
theorem evO_none : EvO X τ none noO := PO.imp po_none fun σ H Q ⟨Wo, F, env, o, env', S, hf, k⟩ => by
  cases hf
  exact k H S fun _ _ e => e
theorem evO_some (h : EvM X τ true m e f) : EvO X τ (some e) (yesO f) := PO.imp (po_some h) fun σ H Q ⟨Wo, F, env, o, env', S, hf, k⟩ => by
  obtain ⟨x, h1, h2⟩ := mapM_some hf
  refine ⟨Wo, F, env, x, env', S, h1, fun v H' G S' kq md g => ?_⟩
  unfold intOf at h2
  split at h2
  · cases h2
    exact ⟨_, (md.rq S g).intI, k H' S'.less kq.tt⟩
  · cases h2
def cutL {α : Type} (xs : List α) (lo hi : Option Int) : List α := (xs.drop (HT.sIx xs.length 0 lo)).take (HT.sIx xs.length xs.length hi - HT.sIx xs.length 0 lo)
def cutD (lo hi : Option Int) : PyData → Option PyData
  | .list ds => some (.list (cutL ds lo hi))
  | .tuple ds => if (cutL ds lo hi).length < ds.length then some (.tuple (cutL ds lo hi)) else none
  | _ => none
def sliceF (fe : M PyData) (fl fh : M (Option Int)) : M PyData := fun env => (fe env).bind fun x => (fl x.2).bind fun l => (fh l.2).bind fun h => (cutD l.1 h.1 x.1).map fun d => (d, h.2)
theorem cut_rpa {K : PySem.W.Frag} {H : Hp} {W : ASet} {xs : List V} {ds : List PyData} (r : RpA K H W xs ds) (lo hi : Option Int) : RpA K H W (cutV xs lo hi) (cutL ds lo hi) := by
  unfold cutV cutL
  rw [r.length]
  exact (r.drop _).take _
theorem ev_slice {lo hi : Option Expr} {fl fh : M (Option Int)} {p2 : Pos} (h : EvM X τ p m e f) (h1 : EvO X τ lo fl) (h2 : EvO X τ hi fh) : EvM X τ p (.ow .sh) (.Subscript e (.Slice lo hi none p2) pos) (sliceF f fl fh) := by
  refine PE.imp (pe_slice (sl_list.or sl_tup) h h1 h2) fun σ H Q ⟨Wo, F, env, d, env', S, hf, k⟩ => ?_
  unfold sliceF at hf
  cases q1 : f env with
  | none => rw [q1] at hf; cases hf
  | some x =>
  obtain ⟨x, e1⟩ := x
  rw [q1] at hf
  simp only [Option.bind_some] at hf
  cases q2 : fl e1 with
  | none => rw [q2] at hf; cases hf
  | some l =>
  obtain ⟨l, e2⟩ := l
  rw [q2] at hf
  simp only [Option.bind_some] at hf
  cases q3 : fh e2 with
  | none => rw [q3] at hf; cases hf
  | some u =>
  obtain ⟨u, e3⟩ := u
  rw [q3] at hf
  simp only [Option.bind_some] at hf
  cases q4 : cutD l u x with
  | none => rw [q4] at hf; cases hf
  | some d' =>
  rw [q4] at hf
  cases hf
  refine ⟨Wo, F, env, x, e1, S, q1, fun v H1 G1 S1 k1 md1 g1 => ⟨Wo, F, e1, l, e2, S1.less, q2, fun H2 S2 sm2 => ⟨Wo, F, e2, u, _, S2, q3, fun H3 S3 sm3 => ?_⟩⟩⟩
  have sm : Sm H1 H3 := fun a o e => sm3 a o (sm2 a o e)
  have rx : Rq X.K H3 (WF Wo F) v x := (md1.rq S g1).same sm
  unfold cutD at q4
  split at q4
  · cases q4
    obtain ⟨a, xs, rfl, hl, ra⟩ := rx.listI
    refine .inl ⟨a, xs, rfl, hl, fun np nn => ?_⟩
    exact (nx_of (t := .ls .sh) (fun v H' G S' kq md g => fin_sh k S'.less kq (Own.rpW S g md)) S3 (k1.then sm)).newL nn (cut_rpa ra l u)
  · rename_i ds
    by_cases c : (cutL ds l u).length < ds.length
    · rw [if_pos c] at q4
      cases q4
      obtain ⟨a, xs, rfl, hl, ra⟩ := rx.tupI
      refine .inr ⟨a, xs, rfl, hl, fun z => ?_, fun np nn => ?_⟩
      · unfold cutL at c
        rw [ra.length] at z
        rw [z.1, z.2] at c
        simp at c
      · exact (nx_of (t := .sh) k S3 (k1.then sm)).newT nn (fun a w => S3.tracked w) (cut_rpa ra l u)
    · rw [if_neg c] at q4; cases q4
  · cases q4
end
end Ev

set_option Elab.async false
set_option linter.all false
set_option maxRecDepth 100000
set_option maxHeartbeats 4000000
namespace Ev
open PySem PySem.Spec PyProof.Rows L2

/-! ### W. sum(lists, list) -/
theorem args_sum2 (a b : Value) : argsOk "sum" ⟨[a, b], []⟩ := by unfold argsOk; kernel_rfl
theorem sub_list_str' : isSubtype (.type "list") (.type "str") = pure false := by rw [isSubtype_type]; kernel_rfl
theorem sub_list_bytes' : isSubtype (.type "list") (.type "bytes") = pure false := by rw [isSubtype_type]; kernel_rfl
theorem sub_list_bytearray' : isSubtype (.type "list") (.type "bytearray") = pure false := by rw [isSubtype_type]; kernel_rfl
section
variable {P : Program} {w : World} {A : Around} {E : Value → Shared → Prop} {s : Shared}
/-- list + list -/
theorem cat_at {l b : Addr} {xs ys : List Value} {Q : Value → Shared → Prop} (hl : s.heap.IsList l xs.toArray) (hb : s.heap.IsList b ys.toArray) (hz : xs.length + ys.length ≤ sizeLine)
    (h : Q (.ref s.heap.objs.size) { s with heap := s.heap.push { cls := Value.type "list", data := Data.seq (xs ++ ys).toArray } }) : wpAny (model P w) A (binaryOp .Add (.ref l) (.ref b)) Q E s := by
  obtain ⟨⟨cls, dd, data, sl⟩, ho, hc, n, hd⟩ := id hl
  obtain ⟨⟨cls2, dd2, data2, sl2⟩, ho2, hc2, n2, hd2⟩ := id hb
  simp only at hc hd hc2 hd2
  subst hc hd hc2 hd2
  have e : xs.toArray ++ ys.toArray = (xs ++ ys).toArray := by simp
  refine concat_meets ⟨_, ho, rfl⟩ ⟨_, ho2, rfl⟩ noFill_list_add seq_list_add PySem.F.slot_list_add PySem.F.entry_list_add (PySem.F.args_list_add_2 _ _) (list_addW l b xs.toArray ys.toArray n n2 dd dd2 sl sl2 (by rw [List.size_toArray, List.size_toArray]; exact hz)) ⟨ho, ho2, ?_⟩
  rw [e]
  exact h
def flat (rows : List (Addr × List Value)) : List Value := (rows.map Prod.snd).flatten
theorem sum_loop_lists {I : Addr} {fp wr : List Addr} {G : Array GenState → Array GenState → Prop} {n : Nat} {Pv : Nat → Value → Prop} {St : Nat → Shared → Prop} {R : Result → Shared → Prop}
    (W : WalksS P w A.in1 I fp wr G n Pv St) (S : Addr) (hSf : S ∉ fp) (rows : List (Addr × List Value)) (hn : rows.length = n) (st0 : Addr) (init : List Value) (hval : ∀ i v, Pv i v → ∃ r, rows[i]? = some r ∧ v = .ref r.1) (hz : init.length + (flat rows).length ≤ sizeLine) (hrw : ∀ r ∈ rows, r.1 ∉ wr ∧ r.1 ≠ S) (hwS : ∀ b ∈ wr, b < S) :
    ∀ (k i : Nat) (s : Shared) (a : Addr) (c : Nat), n - i = k → i ≤ n → St i s → s.heap.get? S = some { cls := .type "list", dict := none, data := .seq #[.ref a] c, slots := #[] } →
    (∀ r ∈ rows, s.heap.IsList r.1 r.2.toArray) → s.heap.IsList a (init ++ flat (rows.take i)).toArray → a ∉ wr → ((i = 0 ∧ a = st0 ∧ a ≠ S) ∨ (S < a ∧ s.heap.get? a = some { cls := .type "list", data := .seq (init ++ flat (rows.take i)).toArray })) →
    (∀ s' a', Moved (S :: wr) G s s' → s'.heap.IsList a' (init ++ flat rows).toArray → ((n = 0 ∧ a' = st0) ∨ (S < a' ∧ s'.heap.get? a' = some { cls := .type "list", data := .seq (init ++ flat rows).toArray })) → R (.ok (.ret (.ref a'))) s') → codeAny (model P w) A (.builtin "sum.loop" ⟨[.ref I, .ref S, rawInt 2, rawInt 0], []⟩) R s := by
  have hSw : S ∉ wr := fun h => hSf (W.sub _ h)
  have hsub : ∀ b ∈ wr, b ∈ S :: wr := fun b hb => List.mem_cons_of_mem _ hb
  intro k
  induction k with
  | zero =>
    intro i s a c hk hi hst hS hrows ha haw hcase hR
    have hin : i = n := by omega
    subst hin
    refine codeAny_builtin F.entry_sum_loop ?_
    rw [Around.under_plainId F.plain_sum_loop _]
    show wpAny _ A.in1 (seqItems? (.ref S) >>= _) _ _ s
    refine wpAny_bind (wpAny_seqItems hS rfl ?_)
    show wpAny _ A.in1 (tryCatch (pyNext (.ref I)) _ >>= _) _ _ s
    refine wpAny_bind (wpAny_tryCatch (W.done s _ _ hst fun s' hm => ?_))
    have e : rows.take i = rows := List.take_of_length_le (by omega)
    rw [e] at ha hcase
    exact wpAny_pure (hR s' a (hm.mono hsub) (ha.at fun o e => hm.heap a o haw e) (hcase.imp (fun z => ⟨z.1, z.2.1⟩) fun z => ⟨z.1, hm.heap a _ haw z.2⟩))
  | succ k ih =>
    intro i s a c hk hi hst hS hrows ha haw hcase hR
    have hlt : i < n := by omega
    refine codeAny_builtin F.entry_sum_loop ?_
    rw [Around.under_plainId F.plain_sum_loop _]
    show wpAny _ A.in1 (seqItems? (.ref S) >>= _) _ _ s
    refine wpAny_bind (wpAny_seqItems hS rfl ?_)
    show wpAny _ A.in1 (tryCatch (pyNext (.ref I)) _ >>= _) _ _ s
    refine wpAny_bind (wpAny_tryCatch (W.item i s _ _ hlt hst fun v s' hP hst' hm => ?_))
    obtain ⟨r, hr, rfl⟩ := hval i v hP
    have hS' := hm.heap S _ hSw hS
    have ha' := ha.at fun o e => hm.heap a o haw e
    have hrm : r ∈ rows := List.mem_of_getElem? hr
    have hrows' : ∀ r ∈ rows, s'.heap.IsList r.1 r.2.toArray := fun r h => (hrows r h).at fun o e => hm.heap _ o (hrw r h).1 e
    have et : flat (rows.take (i + 1)) = flat (rows.take i) ++ r.2 := by
      unfold flat
      rw [List.take_add_one, hr]
      simp
    have hzz : (flat (rows.take i)).length + r.2.length ≤ (flat rows).length := by
      have q : flat rows = flat (rows.take (i + 1)) ++ flat (rows.drop (i + 1)) := by
        unfold flat
        rw [← List.flatten_append, ← List.map_append, List.take_append_drop]
      rw [q, et]
      simp only [List.length_append]
      omega
    show wpAny _ A.in1 ((holding [Value.ref r.1] (binaryOp .Add (.ref a) (.ref r.1))).attempt >>= _) _ _ _
    refine wpAny_bind (wpAny_attempt (wpAny_holding (cat_at ha' (hrows' r hrm) (by rw [List.length_append]; omega) ?_)))
    have hlS : S < s'.heap.objs.size := Heap.lt_size hS'
    have hS2 := Heap.get?_push_of_some ({ cls := Value.type "list", data := Data.seq ((init ++ flat (rows.take i)) ++ r.2).toArray } : Obj) hS'
    show wpAny _ A.in1 (updateSeq S (fun _ => #[.ref s'.heap.objs.size]) >>= _) _ _ _
    refine wpAny_bind (wpAny_updateSeq hS2 rfl ?_)
    have hS₂ := Heap.get?_update_self (Obj.mapSeq fun _ => #[Value.ref s'.heap.objs.size]) hS2 rfl
    refine wpAny_bind (wpAny_letGo ?_)
    have keep : ∀ b o, b ≠ S → s'.heap.get? b = some o → (((s'.heap.push { cls := Value.type "list", data := Data.seq ((init ++ flat (rows.take i)) ++ r.2).toArray }).update S (Obj.mapSeq fun _ => #[Value.ref s'.heap.objs.size])).update S (Obj.mapSeq fun _ => #[Value.ref s'.heap.objs.size])).get? b = some o := fun b o hb e =>
      (Heap.get?_update_other _ _ (Ne.symm hb)).trans ((Heap.get?_update_other _ _ (Ne.symm hb)).trans (Heap.get?_push_of_some _ e))
    have hnew : (((s'.heap.push { cls := Value.type "list", data := Data.seq ((init ++ flat (rows.take i)) ++ r.2).toArray }).update S (Obj.mapSeq fun _ => #[Value.ref s'.heap.objs.size])).update S (Obj.mapSeq fun _ => #[Value.ref s'.heap.objs.size])).get? s'.heap.objs.size = some { cls := Value.type "list", data := Data.seq ((init ++ flat (rows.take i)) ++ r.2).toArray } :=
      (Heap.get?_update_other _ _ (Nat.ne_of_lt hlS)).trans ((Heap.get?_update_other _ _ (Nat.ne_of_lt hlS)).trans (Heap.get?_push_size _ rfl))
    refine wpAny_bind (wpAny_updateSeq hS₂ rfl (wpAny_pure ⟨plainId_quiet F.plain_sum_loop _, ih (i + 1) _ s'.heap.objs.size _ (by omega) hlt (W.frame _ s' _ _ hst' (Nat.le_refl _) fun b hb o e => keep b o (fun z => hSf (z ▸ hb)) e) (Heap.get?_update_self _ hS₂ rfl) (fun r' h' => (hrows' r' h').at fun o e => keep _ o (hrw r' h').2 e) ?_ (fun z => Nat.lt_asymm hlS (hwS _ z)) (.inr ⟨hlS, by rw [et, ← List.append_assoc]; exact hnew⟩) fun s'' a'' hm'' hl'' hc'' => ?_⟩))
    · rw [et, ← List.append_assoc]
      exact ⟨_, hnew, rfl, _, rfl⟩
    · refine hR s'' a'' (Moved.trans W.gtrans ((hm.mono hsub).then_heap (Nat.le_refl _) fun b o hb e => keep b o (fun z => hb (z ▸ List.mem_cons_self)) e) hm'') hl'' hc''
theorem call_sum_lists {l st0 : Addr} {items : Array Value} {rows : List (Addr × List Value)} {init : List Value} {Q : Value → Shared → Prop} (hh : A.handled = none) (hl : s.heap.IsList l items) (hit : items.toList = rows.map fun r => .ref r.1) (hrows : ∀ r ∈ rows, s.heap.IsList r.1 r.2.toArray)
    (hs : s.heap.IsList st0 init.toArray) (hz : init.length + (flat rows).length ≤ sizeLine)
    (h : ∀ (h' : Heap) (tk : Nat) (a : Addr), (∀ b o, s.heap.get? b = some o → h'.get? b = some o) → h'.IsList a (init ++ flat rows).toArray → ((rows = [] ∧ a = st0) ∨ (s.heap.objs.size ≤ a ∧ h'.get? a = some { cls := .type "list", data := .seq (init ++ flat rows).toArray })) → Q (.ref a) { s with heap := h', toks := tk }) :
    wpAny (model P w) A (call (.builtin "sum") [.ref l, .ref st0]) Q E s := by
  refine call_function_tree F.kind_sum F.plain_sum F.entry_sum (args_sum2 _ _) ?_
  unfold Builtin.«sum»
  simp only [List.length_cons, List.length_nil]
  rw [if_neg (by decide)]
  refine wpAny_bind (wpAny_of_eq (show Builtin.Builtins.bindParams "sum" ["start"] 0 ⟨[.ref st0], []⟩ = pure [some (.ref st0)] from rfl) ?_)
  have hlS : l < s.heap.objs.size := by obtain ⟨o, ho, _⟩ := hl; exact Heap.lt_size ho
  have hsS : st0 < s.heap.objs.size := by obtain ⟨o, ho, _⟩ := hs; exact Heap.lt_size ho
  refine wpAny_bind (wpAny_pyIter_list hl ?_)
  have hs2 := hs.push { cls := .type "list_iterator", data := .fields #[.ref l, .int 0 0] }
  have hT : Shared.TypeIs { s with heap := s.heap.push { cls := .type "list_iterator", data := .fields #[.ref l, .int 0 0] } } (.ref st0) "list" := by
    obtain ⟨o, ho, hc, _⟩ := hs2
    exact ⟨o, ho, hc⟩
  refine wpAny_bind (wpAny_pure ?_)
  simp only [List.forIn_cons, List.forIn_nil]
  refine wpAny_bind (wpAny_bind (wpAny_bind (wpAny_isInstance (T := "list") (b := false) hT sub_list_str' ?_)))
  simp only [Bool.false_eq_true, if_false]
  refine wpAny_pure (wpAny_bind (wpAny_bind (wpAny_isInstance (T := "list") (b := false) hT sub_list_bytes' ?_)))
  simp only [Bool.false_eq_true, if_false]
  refine wpAny_pure (wpAny_bind (wpAny_bind (wpAny_isInstance (T := "list") (b := false) hT sub_list_bytearray' ?_)))
  simp only [Bool.false_eq_true, if_false]
  refine wpAny_pure (wpAny_pure ?_)
  refine wpAny_bind (wpAny_newObj_type ?_)
  have hz1 : (s.heap.push { cls := .type "list_iterator", data := .fields #[.ref l, .int 0 0] }).objs.size = s.heap.objs.size + 1 := Heap.size_push ..
  have hne : l ≠ s.heap.objs.size := Nat.ne_of_lt hlS
  have isz : items.size = rows.length := by
    have := congrArg List.length hit
    simpa using this
  have hlt : ∀ r ∈ rows, r.1 < s.heap.objs.size := fun r hr => by
    obtain ⟨o, ho, _⟩ := hrows r hr
    exact Heap.lt_size ho
  refine wpAny_pure ⟨plainId_quiet F.plain_sum_loop _, sum_loop_lists ((Walks.list (by simp [hh]) s.heap.objs.size l hne items).toS) (s.heap.push { cls := .type "list_iterator", data := .fields #[.ref l, .int 0 0] }).objs.size
    (by rw [hz1]; simp only [List.mem_cons, List.not_mem_nil, or_false, not_or]; exact ⟨Nat.succ_ne_self _, Nat.ne_of_gt (Nat.lt_succ_of_lt hlS)⟩) rows isz.symm st0 init (fun i v hv => ?_) hz (fun r hr => ?_) (fun b hb => ?_) items.size 0 _ st0 0 rfl (Nat.zero_le _) ⟨?_, (hl.push _).push _⟩ (Heap.get?_push_size _ rfl) (fun r hr => ((hrows r hr).push _).push _) ?_ ?_ (.inl ⟨rfl, rfl, ?_⟩) fun s' a' hm hl' hc => ?_⟩
  · have e : items.toList[i]? = some v := by rw [Array.getElem?_toList]; exact hv
    rw [hit, List.getElem?_map] at e
    cases q : rows[i]? with
    | none => rw [q] at e; cases e
    | some r => rw [q] at e; exact ⟨r, rfl, (Option.some.inj e).symm⟩
  · have := hlt r hr
    rw [hz1]
    simp only [List.mem_cons, List.not_mem_nil, or_false]
    exact ⟨Nat.ne_of_lt this, Nat.ne_of_lt (Nat.lt_succ_of_lt this)⟩
  · rw [hz1]
    simp only [List.mem_cons, List.not_mem_nil, or_false] at hb
    rw [hb]
    exact Nat.lt_succ_self _
  · exact ⟨_, Heap.get?_push_of_some _ (Heap.get?_push_size _ rfl), rfl, rfl⟩
  · simpa [flat] using hs2.push _
  · simp only [List.mem_cons, List.not_mem_nil, or_false]; exact Nat.ne_of_lt hsS
  · rw [hz1]; exact Nat.ne_of_lt (Nat.lt_succ_of_lt hsS)
  · obtain ⟨h', g2, d', tk', os'⟩ := s'
    have eg : g2 = s.gens := hm.gens
    have ed : d' = s.drawn := hm.drawn
    have eo : os' = s.os := hm.os
    subst eg ed eo
    refine h h' tk' a' (fun b o e => ?_) hl' (hc.imp (fun z => ⟨List.length_eq_zero_iff.mp (by omega), z.2⟩) fun z => ⟨by have z := z.1; rw [hz1] at z; exact Nat.le_of_lt (Nat.lt_of_succ_lt z), z.2⟩)
    have hb := Heap.lt_size e
    exact hm.heap b o (by rw [hz1]; simp only [List.mem_cons, List.not_mem_nil, or_false, not_or]; exact ⟨Nat.ne_of_lt (Nat.lt_succ_of_lt hb), Nat.ne_of_lt hb⟩) (Heap.get?_push_of_some _ (Heap.get?_push_of_some _ e))
end
end Ev

set_option Elab.async false
set_option linter.all false
set_option maxRecDepth 100000
set_option maxHeartbeats 4000000
namespace Ev
open PySem PySem.Spec PyProof.Rows L2

/-! ### X. sum(lists, list), by data; more calls -/
def rSumL (K : PySem.W.Frag) : List V → Hp → VK → Prop := fun vs H Q => ∃ (l b : Addr) (rows : List (Addr × List V)) (ys : List V), vs = [.ref l, .ref b] ∧ SqL K H l (rows.map fun r => V.ref r.1) ∧ (∀ r ∈ rows, SqL K H r.1 r.2) ∧ SqL K H b ys ∧
  ys.length + (rows.map Prod.snd).flatten.length ≤ sizeLine ∧ (rows = [] → Q (.ref b) H) ∧ ∀ p, H p = none → Q (.ref p) (upd H p (.lst (ys ++ (rows.map Prod.snd).flatten)))
section
variable {X : Cx}
theorem rows_vals {pins : List (Addr × Obj)} {s : Shared} {σ : L2.St} {H : Hp} (I : Inv X pins σ H s) : ∀ {rows : List (Addr × List V)}, (∀ r ∈ rows, SqL X.K H r.1 r.2) →
    ∃ rv : List (Addr × List Value), rv.map Prod.fst = rows.map Prod.fst ∧ (∀ r ∈ rv, s.heap.IsList r.1 r.2.toArray) ∧ Vals (rows.map Prod.snd).flatten (flat rv) ∧ rv.length = rows.length
  | [], _ => ⟨[], rfl, (fun r h => nomatch h), .nil, rfl⟩
  | r :: rows, h => by
    obtain ⟨rv, h1, h2, h3, h4⟩ := rows_vals I fun r' h' => h r' (List.mem_cons_of_mem _ h')
    obtain ⟨its, r1, hl, _⟩ := I.list (h r List.mem_cons_self)
    refine ⟨(r.1, its) :: rv, by simp [h1], fun r' hr' => ?_, ?_, by simp [h4]⟩
    · rcases List.mem_cons.mp hr' with rfl | hr'
      · exact hl.isList
      · exact h2 r' hr'
    · unfold flat
      rw [List.map_cons, List.map_cons, List.flatten_cons, List.flatten_cons]
      exact Vals.append r1 h3
theorem cr_sumL (hc : X.calm = true) : CallR X (.builtin "sum") (rSumL X.K) := by
  intro pins s σ H vs us Q I r h
  obtain ⟨l, b, rows, ys, rfl, hl, hrows, hb, hz, q0, q1⟩ := h
  obtain ⟨u1, u2, rfl, r1, r2⟩ := vals2 r
  cases r1
  cases r2
  obtain ⟨its, rv, hIl, _⟩ := I.list hl
  obtain ⟨ib, rb, hIb, _⟩ := I.list hb
  obtain ⟨rw', e1, e2, e3, e4⟩ := rows_vals I hrows
  have hit : its.toArray.toList = rw'.map fun r => Value.ref r.1 := by
    have e5 : rows.map (fun r => V.ref r.1) = (rw'.map Prod.fst).map V.ref := by rw [e1, List.map_map]; rfl
    rw [e5] at rv
    have e6 := Vals.inj (us := its) rv rv
    have : ∀ {bs : List Addr} {us : List Value}, Vals (bs.map V.ref) us → us = bs.map Value.ref := by
      intro bs
      induction bs with
      | nil => intro us r; cases r; rfl
      | cons b bs ih => intro us r; cases r with | cons h t => cases h; rw [ih t]; rfl
    rw [show its.toArray.toList = its by simp, this rv, List.map_map]; rfl
  have lz : ib.length + (flat rw').length ≤ sizeLine := by
    have a1 := rb.length
    have a2 := e3.length
    omega
  refine call_sum_lists (I.ok.hd hc) hIl.isList hit e2 hIb.isList lz fun h' tk a keep ha hcase => ?_
  rcases hcase with ⟨h0, rfl⟩ | hn
  · have : rows = [] := List.length_eq_zero_iff.mp (by rw [← e4, h0]; rfl)
    have I2 : Inv X pins σ H { s with heap := h', toks := tk } := I.kept keep
    exact ⟨.ref a, H, I2, rfl, q0 this⟩
  · have hlen : (ys ++ (rows.map Prod.snd).flatten).length ≤ sizeLine := by rw [List.length_append]; exact hz
    exact ⟨.ref a, upd H a (.lst (ys ++ (rows.map Prod.snd).flatten)), I.laid (t' := tk) keep hn.1 ⟨hlen, ib ++ flat rw', 0, Vals.append rb e3, hn.2⟩, rfl, q1 a (I.hok.fresh hn.1)⟩
def listsOf : List PyData → Option (List (List PyData))
  | [] => some []
  | .list xs :: ds => (listsOf ds).map (xs :: ·)
  | _ => none
def sumLD : List PyData → Option PyData
  | [.list ds, .list st] => (listsOf ds).bind fun ls => if st.length + ls.flatten.length ≤ sizeLine then some (.list (st ++ ls.flatten)) else none
  | _ => none
theorem lists_rows {K : PySem.W.Frag} {H : Hp} {W : ASet} : ∀ {ds : List PyData} {ls : List (List PyData)} {vs : List V}, listsOf ds = some ls → RpA K H W vs ds → ∃ rows : List (Addr × List V), vs = rows.map (fun r => V.ref r.1) ∧ (∀ r ∈ rows, SqL K H r.1 r.2) ∧ RpA K H W (rows.map Prod.snd).flatten ls.flatten ∧ rows.length = ls.length
  | [], ls, _, h, r => by cases h; cases r; exact ⟨[], rfl, (fun r h => nomatch h), .nil, rfl⟩
  | d :: ds, ls, _, h, .cons r1 r2 => by
    unfold listsOf at h
    split at h
    · rename_i e; cases e
    · rename_i e
      cases e
      cases q : listsOf ds with
      | none => rw [q] at h; cases h
      | some ls' =>
        rw [q] at h
        cases h
        obtain ⟨rows, rfl, h2, h3, h4⟩ := lists_rows q r2
        obtain ⟨a, xs, rfl, hl, ra⟩ := r1.listI
        refine ⟨(a, xs) :: rows, rfl, fun r hr => ?_, ?_, by simp [h4]⟩
        · rcases List.mem_cons.mp hr with rfl | hr
          · exact hl
          · exact h2 r hr
        · rw [List.map_cons, List.flatten_cons, List.flatten_cons]
          exact ra.append h3
    · cases h
variable {τ : List OT} {p q : Bool} {m m2 : Md} {a b e : Expr} {es : List Expr} {f : M PyData} {fr : M (List PyData)} {pos pp : Pos}
/-- sum(lists, list) -/
theorem ev_sumL (hc : X.calm = true) (hg : Gl X "sum") (hm : X.mg "sum" = none) (h : EvL X τ p .sh [a, b] fr) (he : starEach [a, b] X.env = (false, eval a X.env) :: starEach [b] X.env) (hpl : (backTo pos (starEach [b] X.env)).any (·.1) = false) :
    EvM X τ p (.ow .sh) (.Call (.Name "sum" pp) [a, b] [] pos) (mapM fr sumLD) := by
  refine PE.imp (pe_callB (cr_sumL hc) hg hm (by rfl) h (by decide) (by decide) he hpl) fun σ H Q ⟨Wo, F, env, d, env', S, hf, k⟩ => ?_
  obtain ⟨ds, h1, h2⟩ := mapM_some hf
  refine ⟨Wo, F, env, ds, env', S, h1, fun vs H' G S' kq ol g => ?_⟩
  have ra : RpA X.K H' (WF Wo F) vs ds := ol.sh_rpa.1.keep (Kp.less fun a o _ n z => n (by rw [wf_un]; exact .inl z))
  unfold sumLD at h2
  split at h2
  · rename_i rs st
    cases q : listsOf rs with
    | none => rw [q] at h2; cases h2
    | some ls =>
      rw [q] at h2
      simp only [Option.bind_some] at h2
      by_cases c : st.length + ls.flatten.length ≤ sizeLine
      · rw [if_pos c] at h2
        cases h2
        cases ra with
        | cons r1 t =>
          cases t with
          | cons r2 t =>
            cases t
            obtain ⟨l, xs, rfl, hl, rl⟩ := r1.listI
            have r2' := r2
            obtain ⟨b', ys, rfl, hb, rb⟩ := r2.listI
            obtain ⟨rows, rfl, hr1, hr2, hr3⟩ := lists_rows q rl
            have e1 := hr2.length
            have e2 := rb.length
            refine ⟨l, b', rows, ys, rfl, hl, hr1, hb, by omega, fun e0 => ?_, fun np nn => ?_⟩
            · subst e0
              have : ls = [] := List.length_eq_zero_iff.mp hr3.symm
              subst this
              rw [List.flatten_nil, List.append_nil] at k
              exact fin_sh k S'.less kq r2'
            · exact (nx_of (t := .ls .sh) (fun v H' G S' kq md g => fin_sh k S'.less kq (Own.rpW S g md)) S'.less kq).newL nn (rb.append hr2)
      · rw [if_neg c] at h2; cases h2
  · cases h2
end
end Ev

set_option Elab.async false
set_option linter.all false
set_option maxRecDepth 100000
set_option maxHeartbeats 4000000
namespace Ev
open PySem PySem.Spec PyProof.Rows L2

/-! ### Y. read only: nothing is barred -/
def rdW (K : PySem.W.Frag) (τ : List OT) (f : M PyData) : TE := fun σ H Q =>
  ∃ Wo F env d env', Slots K H Wo τ σ env F ∧ f env = some (d, env') ∧ ∀ v H', Slots K H' Wo τ σ env' F → Sm H H' → Wk K H' v d → Q v H'
def EvW (X : Cx) (τ : List OT) (e : Expr) (f : M PyData) : Prop := PE X e (rdW X.K τ f)
def rdWL (K : PySem.W.Frag) (τ : List OT) (f : M (List PyData)) : TA := fun σ H Q =>
  ∃ Wo F env ds env', Slots K H Wo τ σ env F ∧ f env = some (ds, env') ∧ ∀ vs H', Slots K H' Wo τ σ env' F → Sm H H' → RpA K H' W0 vs ds → Q vs H'
def EvWL (X : Cx) (τ : List OT) (es : List Expr) (f : M (List PyData)) : Prop := PA X es (rdWL X.K τ f)
section
variable {X : Cx} {τ : List OT} {p q : Bool} {m m2 : Md} {t : OT} {e : Expr} {es : List Expr} {f : M PyData} {fr : M (List PyData)} {pos : Pos}
theorem MdP.weak {K : PySem.W.Frag} {H : Hp} {W G : ASet} {v : V} {d : PyData} (h : MdP K H W G m v d) : Wk K H v d := by
  cases m with
  | sk => exact h.2.weak
  | ow t => exact Own.weak h
theorem evW_of (h : EvM X τ true m e f) : EvW X τ e f := PE.imp h fun σ H Q ⟨Wo, F, env, d, env', S, hf, k⟩ => ⟨Wo, F, env, d, env', S, hf, fun v H' G S' kq md g => k v H' S'.less kq.tt md.weak⟩
theorem evW_var {i : Nat} {x : Str} (hN : X.N[i]? = some x) (hv : Vis X.env.scope x) (hd : (x == ("__debug__" : Str)) = false) (hcd : (x == ("__classdict__" : Str)) = false) : EvW X τ (.Name x pos) (varF i) := by
  refine PE.imp (pe_var hN hv hd hcd) fun σ H Q hq => ?_
  obtain ⟨Wo, F, env, d, env', S, hf, k⟩ := hq
  obtain ⟨e, rfl⟩ := varF_some hf
  obtain ⟨v, h1, h2⟩ := S.slot i d e
  exact ⟨v, h1, k v H S (fun _ _ e => e) h2.weak⟩
theorem evWL_nil : EvWL X τ [] nilF := PA.imp pa_nil fun σ H Q ⟨Wo, F, env, ds, env', S, hf, k⟩ => by
  cases hf
  exact k [] H S (fun _ _ e => e) .nil
theorem Wk.same {K : PySem.W.Frag} {H H' : Hp} {v : V} {d : PyData} (sm : Sm H H') (r : Wk K H v d) : Wk K H' v d := r.keep ⟨fun a o e _ => sm a o e, fun _ _ _ n => n⟩
theorem WkA.same {K : PySem.W.Frag} {H H' : Hp} {v : List V} {d : List PyData} (sm : Sm H H') (r : RpA K H W0 v d) : RpA K H' W0 v d := r.keep ⟨fun a o e _ => sm a o e, fun _ _ _ n => n⟩
theorem evWL_cons (ha : EvW X τ e f) (hr : EvWL X τ es fr) (hs : starEach (e :: es) X.env = (false, eval e X.env) :: starEach es X.env) : EvWL X τ (e :: es) (consF f fr) := by
  refine PA.imp (pa_cons ha hr hs) fun σ H Q ⟨Wo, F, env, ds, env', S, hf, k⟩ => ?_
  obtain ⟨x, e1, r, h1, h2, rfl⟩ := consF_some hf
  exact ⟨Wo, F, env, x, e1, S, h1, fun v H1 S1 sm1 w1 => ⟨Wo, F, e1, r, env', S1, h2, fun vs H2 S2 sm2 w2 => k (v :: vs) H2 S2 (fun a o e => sm2 a o (sm1 a o e)) (.cons (Wk.same sm2 w1) w2)⟩⟩
theorem evW_lst (h : EvWL X τ es fr) : EvW X τ (.List es pos) (mapM fr mkL) := by
  refine PE.imp (pe_lst h) fun σ H Q ⟨Wo, F, env, d, env', S, hf, k⟩ => ?_
  obtain ⟨ds, h1, h2⟩ := mapM_some hf
  obtain ⟨z, rfl⟩ := mkL_some h2
  refine ⟨Wo, F, env, ds, env', S, h1, fun vs H1 S1 sm r => ⟨by rw [r.length]; exact z, fun a na => ?_⟩⟩
  have sm2 := up_same (o := .lst vs) na
  exact k _ _ (S1.same sm2) (fun b o e => sm2 b o (sm b o e)) (.lst (.inl ⟨.inl upd_same, fun z => z⟩) (WkA.same sm2 r))
theorem evW_tup {kk : Nat} (h : EvWL X τ es fr) : EvW X τ (.Tuple es kk pos) (mapM fr mkT) := by
  refine PE.imp (pe_tup h) fun σ H Q ⟨Wo, F, env, d, env', S, hf, k⟩ => ?_
  obtain ⟨ds, h1, h2⟩ := mapM_some hf
  obtain ⟨z, rfl⟩ := mkT_some h2
  refine ⟨Wo, F, env, ds, env', S, h1, fun vs H1 S1 sm r => ⟨by rw [r.length]; exact z, fun a na => ?_⟩⟩
  have sm2 := up_same (o := .tup vs) na
  exact k _ _ (S1.same sm2) (fun b o e => sm2 b o (sm b o e)) (.tup (.inl ⟨.inl upd_same, fun z => z⟩) (WkA.same sm2 r))
def atomD : PyData → Option PyData
  | .none => some .none
  | .bool b => some (.bool b)
  | .int i => some (.int i)
  | .str x => some (.str x)
  | _ => none
theorem atom_rp {K : PySem.W.Frag} {H H' : Hp} {W W' : ASet} {v : V} {d d' : PyData} (h : atomD d = some d') (r : Rp K H W v d) : d' = d ∧ Rp K H' W' v d := by
  unfold atomD at h
  split at h <;> first | (cases h; cases r; exact ⟨rfl, .non⟩) | (cases h; cases r; exact ⟨rfl, .bl _⟩) | (cases h; cases r; exact ⟨rfl, .int _⟩) | (cases h; cases r; exact ⟨rfl, .str _⟩) | cases h
variable {P : Program} {w : World} {K : PySem.W.Frag} {mg : Str → Option Value} {base : Heap} {k kk : Nat} {N : List Str} {sc : Scope} {fn : Str → Bool} {ret : OT} {own : List OT} {ps : List Str} {c : FnSem} {x : Str} {pp : Pos}
/-- f(..), whose answer is no list: the arguments are only read -/
theorem ev_callW (hX : XOk X P w K mg base kk N sc fn) (hf : HasFn P w K mg base k x ps own .sh c) (hk : k ≤ kk) (ho : ∀ i, own.getD i .sh = .sh) (hl : ∀ ds r, c ds = some r → own.length = ds.length) (hg : Gl X x) (ha : EvWL X τ (e :: es) fr)
    (hdb : (x == ("__debug__" : Str)) = false) (he : starEach (e :: es) X.env = (false, eval e X.env) :: starEach es X.env) (hpl : (backTo pos (starEach es X.env)).any (·.1) = false) : EvM X τ true (.ow .sh) (.Call (.Name x pp) (e :: es) [] pos) (mapM fr fun ds => (callF c ds).bind atomD) := by
  obtain ⟨f, fd, F, hm, hkp, hb⟩ := hf.ex
  have F : FnOk X.prog X.w X.K X.mg X.base CX0 k f fd ps (spF K own .sh c) := by rw [hX.prog, hX.wd, hX.frag, hX.mods, hX.bs]; exact F
  refine PE.imp (pe_call F (hX.room.mono hk) hg (by rw [hX.mods]; exact hm) (by rw [hX.frag]; exact hkp) (by rw [hX.frag]; exact hb) .nil pass0 ha hdb he hpl) fun σ H Q ⟨Wo, F, env, d, env', S, hf, kq⟩ => ?_
  obtain ⟨ds, h1, h2⟩ := mapM_some hf
  refine ⟨Wo, F, env, ds, env', S, h1, fun vs H1 S1 sm1 ra => ?_⟩
  unfold callF at h2
  cases q : c ds with
  | none => rw [q] at h2; cases h2
  | some r =>
    obtain ⟨d', outs⟩ := r
    rw [q] at h2
    have h2 : atomD d' = some d := h2
    show spF K own .sh c (vs ++ []) H1 Q E0
    rw [List.append_nil, ← hX.frag]
    refine ⟨W0, fun _ => Z0, ds, d', outs, data_slots ho (hl _ _ q) (fun a w => w.elim) ra, q, fun v H' G' _ kc ow g' => ?_⟩
    have sm : Sm H1 H' := fun a o e => kc.keep a o e fun _ z => z
    obtain ⟨rfl, r⟩ := atom_rp (H' := H') (W' := WF Wo F) h2 ow.1
    exact fin_sh kq (S1.same sm) ((Kq.sm sm1).then sm) r

/-! ### Z. calls by keywords alone -/
def perm {α : Type} (ix : List Nat) (l : List α) : List α := ix.filterMap fun i => l[i]?
theorem perm_vals (ix : List Nat) {zs : List V} {ws : List Value} (r : Vals zs ws) : Vals (perm ix zs) (perm ix ws) := by
  induction ix with
  | nil => exact .nil
  | cons i ix ih =>
    unfold perm
    rw [List.filterMap_cons, List.filterMap_cons]
    cases q : zs[i]? with
    | none =>
      rw [Vals.none_of r q]
      exact ih
    | some z =>
      obtain ⟨u, hu, ru⟩ := Vals.get (i := i) r q
      rw [hu]
      exact .cons ru ih
theorem perm_rpa {K : PySem.W.Frag} {H : Hp} {W : ASet} (ix : List Nat) {zs : List V} {ds : List PyData} (r : RpA K H W zs ds) : RpA K H W (perm ix zs) (perm ix ds) := by
  induction ix with
  | nil => exact .nil
  | cons i ix ih =>
    unfold perm
    rw [List.filterMap_cons, List.filterMap_cons]
    cases q : ds[i]? with
    | none =>
      have : zs[i]? = none := by
        rw [List.getElem?_eq_none_iff] at q ⊢
        rw [r.length]; exact q
      rw [this]
      exact ih
    | some z =>
      obtain ⟨u, hu, ru⟩ := r.get q
      rw [hu]
      exact .cons ru ih
structure HasFnK (P : Program) (w : World) (K : PySem.W.Frag) (mg : Str → Option Value) (base : Heap) (k : Nat) (x : Str) (ps ks : List Str) (ix : List Nat) (own : List OT) (ret : OT) (c : FnSem) : Prop where
  ex : ∃ f fd, FnOk P w K mg base CX0 k f fd ps (spF K own ret c) ∧ mg x = some (.ref f) ∧ PySem.W.keepIn K (.ref f) = true ∧ KBn K fd ps 0 ks (fun _ ws => perm ix ws) (fun _ zs => perm ix zs)
theorem FunD.kbn {x qual : Str} {params : Arguments} {body : List Stmt} {scope : Scope} {kws : List (Str × V)} {f : Addr} {fd : FuncData} {ks : List Str} {ix : List Nat} (F : FunD K x qual params body scope [] kws f fd)
    (h : ∀ (kV doc pm : Value) (an : Option Addr) (cdv ct : Value) (ws : List Value), ws.length = ks.length → bindArgs (PySem.W.fnOf x qual params body scope .none kV doc pm an cdv ct) ⟨[], ks.zip ws⟩ = pure (ps.zip (perm ix ws))) : KBn K fd ps 0 ks (fun _ ws => perm ix ws) (fun _ zs => perm ix zs) := by
  obtain ⟨oc, od, dV, kV, doc, pm, an, cdv, ct, osl, rfl, lk, hcd, hD, hK⟩ := F.ex
  rcases hD with ⟨_, rfl⟩ | ⟨e, _⟩
  · refine ⟨fun s us ws X l1 l2 => ?_, fun _ r => perm_vals ix r⟩
    have e0 : us = [] := List.length_eq_zero_iff.mp l1
    subst e0
    exact .of_eq (h kV doc pm an cdv ct ws l2)
  · exact absurd rfl e
def EvKw (X : Cx) (τ : List OT) (p : Bool) (kws : List Keyword) (f : M (List PyData)) : Prop := PK X kws (rdL X.K τ p .sh f)
theorem PK.imp {kws : List Keyword} {t t' : TA} (h : PK X kws t) (i : ∀ σ H Q, t' σ H Q → t σ H Q) : PK X kws t' := ⟨fun pos pins s σ H Q I q => h.run pos pins s σ H Q I (i _ _ _ q)⟩
theorem evKw_nil : EvKw X τ true [] nilF := PK.imp pk_nil fun σ H Q ⟨Wo, F, env, ds, env', S, hf, k⟩ => by
  cases hf
  exact k [] H Z0 (by rw [un2_z]; exact S) Kq.refl (fun _ z => z) Nw.z
theorem evKw_cons {nm : Option Str} {kpos : Pos} {kws : List Keyword} (ha : EvM X τ p (.ow .sh) e f) (hr : EvKw X τ q kws fr) : EvKw X τ (p && q) (⟨nm, e, kpos⟩ :: kws) (consF f fr) := by
  refine PK.imp (pk_cons ha hr) fun σ H Q ⟨Wo, F, env, ds, env', S, hf, k⟩ => ?_
  obtain ⟨x, e1, r, h1, h2, rfl⟩ := consF_some hf
  refine ⟨Wo, F, env, x, e1, S, h1, fun v H1 G1 S1 k1 md1 g1 => ⟨Un2 Wo G1, F, e1, r, env', S1, h2, fun vs H2 G S2 k2 ol gf => ?_⟩⟩
  have ow2 := Own.stay md1 S1 k2 gf
  have tr := (Own.tracked md1)
  refine k (v :: vs) H2 (Un2 G1 G) (by rw [← un2_assoc]; exact S2) (k1.trans k2) ?_ fun a x => x.elim (g1 a) fun y => S1.newBack k1 (gf a y)
  rw [← un2_assoc]
  exact ⟨G1, G, fun _ => Iff.rfl, fun a x y => (by
    obtain ⟨o, e⟩ := tr a x
    rw [gf a y] at e; cases e), ow2, ol⟩
/-- the keywords' values, when they are as many as they should be -/
def kwF (n : Nat) (ix : List Nat) (c : FnSem) : List PyData → Option PyData := fun ds => if ds.length = n then callF c (perm ix ds) else none
theorem ev_callK {ks : List Str} {ix : List Nat} {kws : List Keyword} (hX : XOk X P w K mg base kk N sc fn) (hf : HasFnK P w K mg base k x ps ks ix own ret c) (hk : k ≤ kk) (ho : ∀ i, own.getD i .sh = .sh) (hl : ∀ ds r, c ds = some r → own.length = ds.length) (hg : Gl X x) (ha : EvKw X τ p kws fr)
    (hall : (backToKw pos (keywordEach kws X.env)).all (·.1.isSome) = true) (hks : (backToKw pos (keywordEach kws X.env)).filterMap (·.1) = ks) (hdb : (x == ("__debug__" : Str)) = false) (hpl : ((backTo pos (starEach [] X.env)).any (·.1) || (backToKw pos (keywordEach kws X.env)).any (·.1.isNone)) = false) :
    EvM X τ p (.ow ret) (.Call (.Name x pp) [] kws pos) (mapM fr (kwF ks.length ix c)) := by
  obtain ⟨f, fd, F, hm, hkp, hb⟩ := hf.ex
  have F : FnOk X.prog X.w X.K X.mg X.base CX0 k f fd ps (spF K own ret c) := by rw [hX.prog, hX.wd, hX.frag, hX.mods, hX.bs]; exact F
  refine ⟨fun pins s σ H Q I h => ?_⟩
  refine wpAny_Call_Name_kw (ld_glob I hg (by rw [hX.mods]; exact hm) ?_ hdb)
  obtain ⟨Wo, F', env, d, env', S, hf, kq⟩ := h
  obtain ⟨ds, h1, h2⟩ := mapM_some hf
  refine PySem.W.callWith_KW0 (h₀ := X.base) I.ok.mod.kin (by rw [hX.frag]; exact hkp) hall (thn (ha.run pos pins s σ H (fun zs H2 => zs.length = ks.length ∧ spF X.K own ret c (perm ix zs) H2 Q E0) I ⟨Wo, F', env, ds, env', S, h1, fun vs H1 G S1 k1 ol g => ?_⟩) fun ws s2 ⟨zs, H2, I2, rz, l2, q2⟩ => ⟨I2.kIn, ?_⟩) hpl
  · have S1 := S1.less
    have ra : RpA X.K H1 (WF Wo F') vs ds := ol.sh_rpa.1.keep (Kp.less fun a o _ n z => n (by rw [wf_un]; exact .inl z))
    unfold kwF at h2
    have hlen : ds.length = ks.length := by
      by_cases e : ds.length = ks.length
      · exact e
      · rw [if_neg e] at h2; cases h2
    rw [if_pos hlen] at h2
    unfold callF at h2
    cases q : c (perm ix ds) with
    | none => rw [q] at h2; cases h2
    | some r =>
      obtain ⟨d', outs⟩ := r
      rw [q] at h2
      cases h2
      refine ⟨?_, WF Wo F', fun _ => Z0, perm ix ds, d', outs, data_slots ho (hl _ _ q) (fun a w => S1.tracked w) (perm_rpa ix ra), q, fun v H' G' _ kc ow g' => ?_⟩
      · rw [ra.length]
        exact hlen
      · have sm : Sm H1 H' := fun a o e => kc.keep a o e fun _ z => z
        refine kq v H' G' (S1.grow sm g' ow.tracked) (k1.then sm) ?_ (S1.nwBack k1 g')
        rw [wf_z, ← wf_un] at ow
        exact ow
  · rw [hks]
    rw [← hX.frag] at F hb
    exact run_fnN F (hX.room.mono hk) hb pass0 I2 .nil rz rfl l2 q2
end
end Ev

set_option Elab.async false
set_option linter.all false
set_option maxRecDepth 100000
set_option maxHeartbeats 4000000
namespace Ev
open PySem PySem.Spec PyProof.Rows L2

/-! ### AA. lists in a slot's own list change; the slot is given up -/
section
variable {K : PySem.W.Frag} {H H2 : Hp} {Wo : ASet} {τ : List OT} {σ σ2 : L2.St} {env : Env} {F : Nat → ASet} {i j : Nat} {bor : List Nat} {G : ASet}
theorem own_get : ∀ {xs : List V} {ds : List PyData} {W G : ASet} {l : Nat} {v : V}, OwnL (Own K H W (.ls .sh)) xs ds G → xs[l]? = some v → ∃ c ys es, v = .ref c ∧ ds[l]? = some (.list es) ∧ H c = some (.lst ys) ∧ ys.length = es.length ∧ G c
  | [], [], _, _, l, v, _, e => by simp at e
  | x :: xs, d :: ds, W, G, 0, v, h, e => by
    obtain ⟨F, G', eG, dj, p, r⟩ := h
    simp at e
    subst e
    obtain ⟨a, ys, es, G2, rfl, rfl, ha, hF, _, ol⟩ := p
    exact ⟨a, ys, es, rfl, rfl, ha, ol.length, (eG a).mpr (.inl ((hF a).mpr (.inl rfl)))⟩
  | x :: xs, d :: ds, W, G, l + 1, v, h, e => by
    obtain ⟨F, G', eG, dj, p, r⟩ := h
    obtain ⟨c, ys, es, h1, h2, h3, h4, h5⟩ := own_get (l := l) r (by simpa using e)
    exact ⟨c, ys, es, h1, by simpa using h2, h3, h4, (eG c).mpr (.inr h5)⟩
  | [], _ :: _, _, _, _, _, h, _ => h.elim
  | _ :: _, [], _, _, _, _, h, _ => h.elim
theorem own_apart : ∀ {xs : List V} {ds : List PyData} {W G : ASet} {l m : Nat} {c : Addr}, OwnL (Own K H W (.ls .sh)) xs ds G → xs[l]? = some (.ref c) → xs[m]? = some (.ref c) → l = m
  | [], [], _, _, l, _, _, _, e, _ => by simp at e
  | x :: xs, d :: ds, W, G, l, m, c, h, e, e' => by
    obtain ⟨F, G', eG, dj, p, r⟩ := h
    have hx : ∀ {l : Nat}, (x :: xs)[l + 1]? = some (V.ref c) → x = .ref c → False := fun {l} el ex => by
      obtain ⟨c', ys, es, h1, _, _, _, h5⟩ := own_get (l := l) r (by simpa using el)
      cases h1
      obtain ⟨a, ys', es', G2, ea, _, _, hF, _, _⟩ := p
      rw [ex] at ea
      cases ea
      exact dj c ((hF c).mpr (.inl rfl)) h5
    cases l with
    | zero => cases m with
      | zero => rfl
      | succ m => exact (hx e' (by simpa using e)).elim
    | succ l => cases m with
      | zero => exact (hx e (by simpa using e')).elim
      | succ m => rw [own_apart (l := l) (m := m) r (by simpa using e) (by simpa using e')]
  | [], _ :: _, _, _, _, _, _, h, _, _ => h.elim
  | _ :: _, [], _, _, _, _, _, h, _, _ => h.elim
theorem drop_slots (S : Slots K H Wo τ σ env F) (hi : i < τ.length) (htj : τ.getD j .sh = .sh ∨ j = i) (hG : ∀ b, G b → F i b) (keep : ∀ b o, H b = some o → ¬ G b → H2 b = some o) (there : ∀ b o, H b = some o → ∃ o', H2 b = some o') (hl : σ2.length = σ.length) (hσ : ∀ l, l ≠ j → σ2[l]? = σ[l]?) :
    Slots K H2 Wo (τ.set i .sh) σ2 ((env.set i none).set j none) (setF F i Z0) := by
  have hw : ∀ a, WF Wo (setF F i Z0) a → WF Wo F a := fun a x => by
    rcases x with x | ⟨l, x⟩
    · exact .inl x
    · exact (setF_sub x).elim (fun x => .inr ⟨l, x⟩) fun x => x.elim
  have kp : Kp H (WF Wo F) H2 (WF Wo (setF F i Z0)) := ⟨fun b o e n => keep b o e fun z => n (.inr ⟨i, hG b z⟩), fun b o _ n x => n (hw b x)⟩
  refine ⟨by rw [List.length_set, List.length_set, hl, S.len], by rw [List.length_set, List.length_set, List.length_set, S.tl], fun b x => ⟨?_, fun l y => ?_⟩, fun l m b x y => ?_, fun l d e => ?_, fun l h b x => ?_⟩
  · obtain ⟨o, e⟩ := (S.wo b x).1
    exact there b o e
  · exact (setF_sub y).elim ((S.wo b x).2 l) id
  · exact (setF_sub x).elim (fun x => (setF_sub y).elim (S.disj l m b x) fun z => z.elim) fun z => z.elim
  · have nj : l ≠ j := fun z => by
      subst z
      have hlt : l < ((env.set i none).set l none).length := (List.getElem?_eq_some_iff.mp e).1
      rw [List.getElem?_set_self (by simpa using hlt)] at e
      cases e
    rw [List.getElem?_set_ne (Ne.symm nj)] at e
    have ni : l ≠ i := fun z => by
      subst z
      have hlt : l < (env.set l none).length := (List.getElem?_eq_some_iff.mp e).1
      rw [List.getElem?_set_self (by simpa using hlt)] at e
      cases e
    rw [List.getElem?_set_ne (Ne.symm ni)] at e
    obtain ⟨v, h1, h2⟩ := S.slot l d e
    refine ⟨v, by rw [hσ l nj]; exact h1, ?_⟩
    rw [getD_set hi, if_neg ni, setF_ne ni]
    exact h2.keep kp fun b o x e => keep b o e fun z => ni (S.disj l i b x (hG b z))
  · by_cases ni : l = i
    · subst ni; rw [setF_same] at x; exact x
    · rw [setF_ne ni] at x
      by_cases nj : l = j
      · subst nj
        exact S.shZ (htj.resolve_right ni) b x
      · refine S.void l (fun d e => h d ?_) b x
        rw [List.getElem?_set_ne (Ne.symm nj), List.getElem?_set_ne (Ne.symm ni)]
        exact e
theorem drop_kf (hi : i ∉ bor) (hG : ∀ b, G b → F i b) (keep : ∀ b o, H b = some o → ¬ G b → H2 b = some o) (there : ∀ b o, H b = some o → ∃ o', H2 b = some o') : KF bor F (setF F i Z0) H H2 :=
  ⟨fun b o e n => keep b o e fun z => n i (hG b z), there, fun l b hl x => (setF_sub x).elim (fun x => .inr ⟨l, hl, x⟩) fun z => z.elim, fun l hl => setF_ne fun e => hi (by rw [← e]; exact hl)⟩
end
def smallL : PyData → Bool
  | .list es => decide (es.length < sizeLine)
  | _ => false
def appAllS (i j : Nat) : Env → Option Fl := fun env => (listAt env i).bind fun ds => if ds.all smallL then some (.nx ((env.set i none).set j none)) else none
section
variable {X : Cx} {bor : List Nat} {τ0 τ τ1 τ' τl : List OT} {tr t : OT} {p q : Bool} {m m2 : Md} {e a b : Expr} {i j : Nat} {x y : Str}
/-- for y in x: y.append(n), x's lists are its own -/
theorem evS_forApp {py py2 px apos cpos epos cp pos : Pos} {n : Int} {kk : Nat} (hp : PassesOwn (model X.prog X.w) X.A X.env X.xe) (hc : X.calm = true) (hN : X.N.Nodup) (hx : X.N[i]? = some x) (hv : Vis X.env.scope x) (hd : (x == ("__debug__" : Str)) = false) (hcd : (x == ("__classdict__" : Str)) = false)
    (hy : X.N[j]? = some y) (hvy : Vis X.env.scope y) (hly : Loc X.env.scope y) (hfy : X.fn y = true ∨ X.env.scope.names.lookup y = some .local) (hdy : (y == ("__debug__" : Str)) = false) (hcdy : (y == ("__classdict__" : Str)) = false) (ht : τ.getD i .sh = .ls (.ls .sh)) (htj : τ.getD j .sh = .sh) (hi : i < τ.length) (hj : j < τ.length) (hb : i ∉ bor)
    (hs : swapsWith (.Call (.Attribute (.Name y py2) "append" apos) [.Constant (.int n) kk cp] [] cpos) none epos.line X.env = pure false) (hst : starEach [.Constant (.int n) kk cp] X.env = [(false, eval (.Constant (.int n) kk cp) X.env)])
    (hfew : ((backTo cpos (starEach [.Constant (.int n) kk cp] X.env)).all (fun x => !x.1) && (backToKw cpos (keywordEach [] X.env)).all (fun x => x.1.isSome) && decide ([Expr.Constant (.int n) kk cp].length + ([] : List Keyword).length + (if ([] : List Keyword).isEmpty then 0 else 1) < 30)) = true)
    (hline : (apos.endLine == cpos.line) = true) :
    EvS X bor τ0 τ (τ.set i .sh) τl tr (.For (.Name y py) (.Name x px) [.Expr (.Call (.Attribute (.Name y py2) "append" apos) [.Constant (.int n) kk cp] [] cpos) epos] [] pos) (appAllS i j) := by
  refine PS.imp (ps_for hp hc (pi_list (pe_var hx hv hd hcd)) (pg_name hN hy hly hfy)
    (pss_one (ps_expr (pe_bm PySem.F.plainAttrs_list PySem.F.slot_list_append PySem.F.type_list_append mt_append (pe_var hy hvy hdy hcdy) (pa_cons pe_int pa_nil hst) (by rfl) hfew hline hst (by rfl)) hs)) (fun _ => rfl)) fun D σ H ⟨Wo, F, env, fl, S, hf, k⟩ => ?_
  unfold appAllS at hf
  cases q0 : listAt env i with
  | none => rw [q0] at hf; cases hf
  | some ds =>
  rw [q0] at hf
  simp only [Option.bind_some] at hf
  by_cases c : ds.all smallL = true
  · rw [if_pos c] at hf
    cases hf
    obtain ⟨a, xs, G, h1, ha, hF, nG, ol⟩ := S.lsI ht (listAt_some q0)
    have hGF : ∀ b, G b → F i b := fun b z => (hF b).mpr (.inr z)
    refine ⟨.ref a, h1, a, rfl, ⟨xs, .inl (.inl ha)⟩, fun l m σ2 H2 => l ≤ xs.length ∧ m = xs.length - l ∧ σ2.length = σ.length ∧ (∀ z, z ≠ j → σ2[z]? = σ[z]?) ∧ (∀ b o, H b = some o → ¬ G b → H2 b = some o) ∧ (∀ b o, H b = some o → ∃ o', H2 b = some o') ∧
      ∀ z, l ≤ z → ∀ v, xs[z]? = some v → ∃ c ys, v = .ref c ∧ G c ∧ H2 c = some (.lst ys) ∧ ys.length < sizeLine, ⟨xs.length - 0, Nat.zero_le _, rfl, rfl, fun _ _ => rfl, fun _ _ e _ => e, fun _ o e => ⟨o, e⟩, fun z _ v hz => ?_⟩, ?_⟩
    · obtain ⟨c', ys, es, e1, e2, e3, e4, e5⟩ := own_get ol hz
      have := List.all_eq_true.mp c _ (List.mem_of_getElem? e2)
      exact ⟨c', ys, e1, e5, e3, by rw [e4]; exact of_decide_eq_true this⟩
    rintro l m σ2 H2 ⟨hle, rfl, hl2, hσ, keep, there, hrest⟩
    have ha2 : H2 a = some (.lst xs) := keep a _ ha nG
    cases hd' : xs[l]? with
    | none =>
      left
      refine ⟨⟨xs, .inl (.inl ha2), List.getElem?_eq_none_iff.mp hd'⟩, ?_⟩
      exact k σ2 H2 _ (drop_slots S hi (.inl htj) hGF keep there hl2 hσ) (drop_kf hb hGF keep there)
    | some v =>
      right
      obtain ⟨c', ys, rfl, gc, hc', hys⟩ := hrest l (Nat.le_refl _) v hd'
      have hlt : l < xs.length := (List.getElem?_eq_some_iff.mp hd').1
      have hjl : j < σ.length := by rw [S.len, ← S.tl]; exact hj
      refine ⟨⟨xs, _, .inl (.inl ha2), hd'⟩, fun σ' H' => σ' = σ2.set j (some (.ref c')) ∧ H' = upd H2 c' (.lst (ys ++ [.int n])), fun σ' H' hn => ?_, fun w H' hy' => ?_⟩
      · obtain ⟨rfl, rfl⟩ := hn
        refine ⟨xs.length - (l + 1), by omega, hlt, rfl, by rw [List.length_set, hl2], fun z hz => by rw [List.getElem?_set_ne (Ne.symm hz)]; exact hσ z hz, fun b o e n => ?_, fun b o e => ?_, fun z hz v hv' => ?_⟩
        · rw [upd_ne (fun z => n (by rw [z]; exact gc))]; exact keep b o e n
        · by_cases z : b = c'
          · subst z; exact ⟨_, upd_same⟩
          · rw [upd_ne z]; exact there b o e
        · obtain ⟨c2, ys2, rfl, g2, h2, l2⟩ := hrest z (by omega) v hv'
          refine ⟨c2, ys2, rfl, g2, ?_, l2⟩
          rw [upd_ne (fun e => by
            subst e
            have := own_apart ol hv' hd'
            omega)]
          exact h2
      · obtain ⟨rfl, hw⟩ := hy'
        have := hw xs (.inl (.inl ha2))
        rw [hd'] at this
        cases this
        refine ⟨.ref c', by rw [List.getElem?_set_self (by rw [hl2]; exact hjl)], .inl ⟨rfl, ys, .inl (.inl hc')⟩, ?_⟩
        exact ⟨c', ys, .int n, rfl, rfl, hc', hys, rfl, rfl⟩
  · rw [if_neg c] at hf; cases hf
def appIxS (i : Nat) (n : Int) : Env → Option Fl := fun env => (listAt env i).bind fun ds => (atI ds n).bind fun d => if smallL d then some (.nx ((env.set i none).set i none)) else none
/-- x[n].append(c), x's lists are its own -/
theorem evS_appIx {px cp1 spos apos cpos cp pos : Pos} {n0 n : Int} {kk0 kk : Nat} (hx : X.N[i]? = some x) (hv : Vis X.env.scope x) (hd : (x == ("__debug__" : Str)) = false) (hcd : (x == ("__classdict__" : Str)) = false) (ht : τ.getD i .sh = .ls (.ls .sh)) (hi : i < τ.length) (hb : i ∉ bor) (hpl : PlainIx (.Constant (.int n0) kk0 cp1))
    (hbase : attributeBase (.Subscript (.Name x px) (.Constant (.int n0) kk0 cp1) spos) "append" X.env (eval (.Subscript (.Name x px) (.Constant (.int n0) kk0 cp1) spos) X.env) = eval (.Subscript (.Name x px) (.Constant (.int n0) kk0 cp1) spos) X.env)
    (hs : swapsWith (.Call (.Attribute (.Subscript (.Name x px) (.Constant (.int n0) kk0 cp1) spos) "append" apos) [.Constant (.int n) kk cp] [] cpos) none pos.line X.env = pure false) (hst : starEach [.Constant (.int n) kk cp] X.env = [(false, eval (.Constant (.int n) kk cp) X.env)])
    (hfew : ((backTo cpos (starEach [.Constant (.int n) kk cp] X.env)).all (fun x => !x.1) && (backToKw cpos (keywordEach [] X.env)).all (fun x => x.1.isSome) && decide ([Expr.Constant (.int n) kk cp].length + ([] : List Keyword).length + (if ([] : List Keyword).isEmpty then 0 else 1) < 30)) = true)
    (hline : (apos.endLine == cpos.line) = true) :
    EvS X bor τ0 τ (τ.set i .sh) τl tr (.Expr (.Call (.Attribute (.Subscript (.Name x px) (.Constant (.int n0) kk0 cp1) spos) "append" apos) [.Constant (.int n) kk cp] [] cpos) pos) (appIxS i n0) := by
  refine PS.imp (ps_expr (pe_bm PySem.F.plainAttrs_list PySem.F.slot_list_append PySem.F.type_list_append mt_append (pe_ix ix_seq (pe_var hx hv hd hcd) pe_int hpl) (pa_cons pe_int pa_nil hst) hbase hfew hline hst (by rfl)) hs) fun D σ H ⟨Wo, F, env, fl, S, hf, k⟩ => ?_
  unfold appIxS at hf
  cases q0 : listAt env i with
  | none => rw [q0] at hf; cases hf
  | some ds =>
  rw [q0] at hf
  simp only [Option.bind_some] at hf
  cases q1 : atI ds n0 with
  | none => rw [q1] at hf; cases hf
  | some d =>
  rw [q1] at hf
  simp only [Option.bind_some] at hf
  by_cases c : smallL d = true
  · rw [if_pos c] at hf
    cases hf
    obtain ⟨a, xs, G, h1, ha, hF, nG, ol⟩ := S.lsI ht (listAt_some q0)
    have hGF : ∀ b, G b → F i b := fun b z => (hF b).mpr (.inr z)
    unfold atI at q1
    cases q2 : ixN ds.length n0 with
    | none => rw [q2] at q1; cases q1
    | some l =>
    rw [q2] at q1
    have q1 : ds[l]? = some d := q1
    have hl : l < xs.length := by rw [ol.length]; exact (List.getElem?_eq_some_iff.mp q1).1
    obtain ⟨c', ys, es, e1, e2, e3, e4, e5⟩ := own_get (l := l) ol (List.getElem?_eq_getElem hl)
    rw [q1] at e2
    cases e2
    have hys : ys.length < sizeLine := by rw [e4]; exact of_decide_eq_true c
    refine ⟨.ref a, h1, .inl ⟨a, xs, n0, .ref c', rfl, rfl, .inl (.inl ha), ?_, .inl ⟨rfl, ys, .inl (.inl e3)⟩, c', ys, .int n, rfl, rfl, e3, hys, ?_⟩⟩
    · unfold atI
      rw [ol.length, q2]
      show xs[l]? = some (.ref c')
      rw [List.getElem?_eq_getElem hl, e1]
    · have keep : ∀ b o, H b = some o → ¬ G b → upd H c' (.lst (ys ++ [.int n])) b = some o := fun b o e nb => by rw [upd_ne (fun z => nb (by rw [z]; exact e5))]; exact e
      have there : ∀ b o, H b = some o → ∃ o', upd H c' (.lst (ys ++ [.int n])) b = some o' := fun b o e => by
        by_cases z : b = c'
        · subst z; exact ⟨_, upd_same⟩
        · rw [upd_ne z]; exact ⟨o, e⟩
      exact k σ _ _ (drop_slots S hi (.inr rfl) hGF keep there rfl fun _ _ => rfl) (drop_kf hb hGF keep there)
  · rw [if_neg c] at hf; cases hf
/-- list(range(e)) -/
def listRgD : List PyData → Option PyData
  | [.int j] => if decide (-(2 ^ 62) ≤ j) && decide (j ≤ 2 ^ 24) then some (.list (rngD 0 j.toNat)) else none
  | _ => none
theorem ev_listRg {f : M PyData} {pp pp2 pos pos2 : Pos} (hc : X.calm = true) (hg : Gl X "list") (hm : X.mg "list" = none) (hg2 : Gl X "range") (hm2 : X.mg "range" = none) (h : EvM X τ p m e f)
    (na : starEach [e] X.env = (false, eval e X.env) :: starEach [] X.env) (na2 : starEach [.Call (.Name "range" pp2) [e] [] pos2] X.env = (false, eval (.Call (.Name "range" pp2) [e] [] pos2) X.env) :: starEach [] X.env) :
    EvM X τ p (.ow (.ls .sh)) (.Call (.Name "list" pp) [.Call (.Name "range" pp2) [e] [] pos2] [] pos) (mapF f fun d => listRgD [d]) := by
  refine PE.imp (pe_listRg hc hg hm (prg_1 hg2 hm2 h na) na2) fun σ H Q ⟨Wo, F, env, d, env', S, hf, k⟩ => ?_
  obtain ⟨x, h1, h2⟩ := mapM_some hf
  refine ⟨Wo, F, env, x, env', S, h1, fun v H' G S' kq md g => ?_⟩
  unfold listRgD at h2
  split at h2
  · rename_i j e
    cases e
    by_cases c : (decide (-(2 ^ 62) ≤ j) && decide (j ≤ 2 ^ 24)) = true
    · rw [if_pos c] at h2
      cases h2
      simp only [Bool.and_eq_true, decide_eq_true_eq] at c
      refine ⟨j, (md.rq S g).intI, ⟨by omega, by omega, c.1, by omega, by omega⟩, fun q nq => ?_⟩
      refine (nx_of (t := .ls .sh) k S'.less kq).newL nq ?_
      unfold rgV rngD
      rw [Int.sub_zero]
      generalize List.range j.toNat = l
      induction l with
      | nil => exact .nil
      | cons n l ih => exact .cons (.int _) ih
    · rw [if_neg c] at h2; cases h2
  · cases h2
end
end Ev

set_option Elab.async false
set_option linter.all false
set_option maxRecDepth 100000
set_option maxHeartbeats 4000000
namespace Ev
open PySem PySem.Spec PyProof.Rows L2

/-! ### BB. comprehensions, by what the context says -/
section
variable {X : Cx} {P : Program} {w : World} {K : PySem.W.Frag} {mg : Str → Option Value} {base : Heap} {k kk : Nat} {N : List Str} {sc : Scope} {fn : Str → Bool} {τ : List OT} {p q : Bool} {m m2 : Md} {t : OT}
theorem XOk.blk (hX : XOk X P w K mg base k N sc fn) (scope : Scope) (s : Shared) (H : Hp) (C : Addr) (cl : List (Str × Addr)) (fp : List Addr) : XOk (X.blk s H scope (compEnvC scope cl C X.env) fp) P w K mg base k N (relS scope sc) (fun x => scope.names.lookup x == some .cell) := by
  refine ⟨hX.prog, hX.wd, hX.frag, hX.mods, hX.bs, hX.names, hX.nd, ?_, rfl, hX.calm, hX.room, PassesOwn.never⟩
  rw [← hX.scope]
  rfl
abbrev Blk (P : Program) (w : World) (K : PySem.W.Frag) (mg : Str → Option Value) (base : Heap) (k : Nat) (N : List Str) (sc scope : Scope) (Y : Cx) : Prop := XOk Y P w K mg base k N (relS scope sc) (fun x => scope.names.lookup x == some .cell)
/-- [elt for tg in iter if ..] -/
theorem x_lc {elt tg iter : Expr} {ifs : List Expr} {scope : Scope} {own : List (Str × Nat)} {pos : Pos} {src : M (List PyData)} {asg : PyData → Env → Option Env} {cond : M Bool} {fe : M PyData} {ws : List Nat} {po pc pe : Bool} (hX : XOk X P w K mg base k N sc fn) (hi : EvI X τ p po tg iter src)
    (ok : blkC N sc scope own = true) (hv : (own.map (·.2)).all (fun i => decide (τ.getD i .sh = .sh)) = true) (hw : ws.all (fun i => decide (i ∈ own.map (·.2))) = true) (ho : (!po || (pc && pe)) = true)
    (hg : ∀ Y, Blk P w K mg base k N sc scope Y → EvG Y τ ws tg asg) (ht : ∀ Y, Blk P w K mg base k N sc scope Y → EvTs Y τ pc ifs cond) (he : ∀ Y, Blk P w K mg base k N sc scope Y → EvM Y τ pe (.ow t) elt fe) (hs : ∀ x, foldedSetIterable iter X.env x = pure x) :
    EvM X τ (p && (pc && pe)) (.ow (.ls t)) (.ListComp elt [⟨tg, iter, ifs, 0⟩] scope pos) (compF (pc && pe) src asg cond fe (own.map (·.2))) := by
  refine PE.imp (pe_lc (own := own) (g := rdG X.K τ ws asg) (tt := rdT X.K τ pc cond) (te := rdM X.K τ pe (.ow t) fe) hX.calm (by rw [hX.names]; exact hX.nd) hi (blkOk_by (by rw [hX.names, hX.scope]; exact ok)) (fun s H C cl fp => hg _ (hX.blk scope s H C cl fp)) (fun s H C cl fp => ht _ (hX.blk scope s H C cl fp)) (fun s H C cl fp => he _ (hX.blk scope s H C cl fp)) hs) fun σ H Q h => ?_
  exact comp_rd (fun i hi => of_decide_eq_true (List.all_eq_true.mp hv i hi)) (fun i hi => of_decide_eq_true (List.all_eq_true.mp hw i hi)) (fun e => by subst e; simpa using ho) h
/-- x = [..], the block's list goes to the name at once -/
theorem xS_setLc {bor : List Nat} {τ0 τl : List OT} {tr : OT} {i : Nat} {y : Str} {py : Pos} {elt tg iter : Expr} {ifs : List Expr} {scope : Scope} {own : List (Str × Nat)} {pos spos : Pos} {src : M (List PyData)} {asg : PyData → Env → Option Env} {cond : M Bool} {fe : M PyData} {ws : List Nat} {po pc pe : Bool} (hX : XOk X P w K mg base k N sc fn) (hi : EvI X τ p po tg iter src)
    (hy : N[i]? = some y) (hyl : sc.names.lookup y = some .local) (hsw : ((if sc.kind.isAnnotationScope then ScopeKind.function else sc.kind) == .function && sc.names.lookup y == some .local && py.line == pos.line && !(scope.names.any fun (n, k) => n == y && (k == .local || k == .cell))) = true) (hil : i < τ.length) (hb : i ∉ bor)
    (ok : blkC N sc scope own = true) (hv : (own.map (·.2)).all (fun i => decide (τ.getD i .sh = .sh)) = true) (hw : ws.all (fun i => decide (i ∈ own.map (·.2))) = true) (ho : (!po || (pc && pe)) = true)
    (hg : ∀ Y, Blk P w K mg base k N sc scope Y → EvG Y τ ws tg asg) (ht : ∀ Y, Blk P w K mg base k N sc scope Y → EvTs Y τ pc ifs cond) (he : ∀ Y, Blk P w K mg base k N sc scope Y → EvM Y τ pe (.ow t) elt fe) (hs : ∀ x, foldedSetIterable iter X.env x = pure x) :
    EvS X bor τ0 τ (τ.set i (.ls t)) τl tr (.Assign [.Name y py] (.ListComp elt [⟨tg, iter, ifs, 0⟩] scope pos) spos) (asgS i (compF (pc && pe) src asg cond fe (own.map (·.2)))) := by
  have hsw2 : swapsWith (.ListComp elt [⟨tg, iter, ifs, 0⟩] scope pos) (some (.Name y py)) spos.line X.env = pure true := by
    rw [← hX.scope] at hsw
    show pure _ = pure true
    exact congrArg pure hsw
  refine PS.imp (ps_setLc (own := own) (g := rdG X.K τ ws asg) (tt := rdT X.K τ pc cond) (te := rdM X.K τ pe (.ow t) fe) hX.calm (by rw [hX.names]; exact hX.nd) (by rw [hX.names]; exact hy) (by rw [hX.scope]; exact hyl) hsw2 hi (blkOk_by (by rw [hX.names, hX.scope]; exact ok)) (fun s H C cl fp => hg _ (hX.blk scope s H C cl fp)) (fun s H C cl fp => ht _ (hX.blk scope s H C cl fp)) (fun s H C cl fp => he _ (hX.blk scope s H C cl fp)) hs) fun D σ H h => ?_
  have h := asg_rd (p := p && (pc && pe)) hil hb h
  exact comp_rd (Q := fun v H' => gName i v σ H' D.nx) (fun i hi => of_decide_eq_true (List.all_eq_true.mp hv i hi)) (fun i hi => of_decide_eq_true (List.all_eq_true.mp hw i hi)) (fun e => by subst e; simpa using ho) h
/-! two generators, nothing of the slots' own changes in the block -/
def go2 (asg : PyData → Env → Option Env) (cond : M Bool) (src1 : M (List PyData)) (asg1 : PyData → Env → Option Env) (cond1 : M Bool) (elt : M PyData) (vs vs1 : List Nat) : List PyData → Env → Option (List PyData × Env)
  | [], env => some ([], env)
  | d :: ds, env => (asg d env).bind fun e1 => (cond e1).bind fun c => match c.1 with
    | true => (src1 c.2).bind fun s1 => (goC asg1 cond1 elt vs1 s1.1 (wipeE s1.2 vs1)).bind fun r => (go2 asg cond src1 asg1 cond1 elt vs vs1 ds (wipeE r.2 vs)).map fun z => (r.1 ++ z.1, z.2)
    | false => go2 asg cond src1 asg1 cond1 elt vs vs1 ds (wipeE c.2 vs)
def comp2F (src : M (List PyData)) (asg : PyData → Env → Option Env) (cond : M Bool) (src1 : M (List PyData)) (asg1 : PyData → Env → Option Env) (cond1 : M Bool) (elt : M PyData) (vs vs1 : List Nat) : M PyData := fun env =>
  (src env).bind fun s => (go2 asg cond src1 asg1 cond1 elt vs vs1 s.1 (wipeE s.2 vs)).bind fun r => if szOk r.1 then some (.list r.1, s.2) else none
end
section
variable {K : PySem.W.Frag} {τ : List OT} {vs vs1 ws ws1 : List Nat} {p own : Bool} {src src1 : M (List PyData)} {asg asg1 : PyData → Env → Option Env} {cond cond1 : M Bool} {elt : M PyData}
theorem wipe_sub {σ : L2.St} {vs vs1 : List Nat} (h : ∀ i ∈ vs1, i ∈ vs) {σ' : L2.St} (e : L2.wipe σ' vs1 = L2.wipe σ vs1) (hl : σ'.length = σ.length) : L2.wipe σ' vs = L2.wipe σ vs := by
  refine wipe_eq hl fun j hj => ?_
  have hj1 : j ∉ vs1 := fun z => hj (h j z)
  have this : (L2.wipe σ' vs1)[j]? = (L2.wipe σ vs1)[j]? := by rw [e]
  rwa [wipe_get hj1, wipe_get hj1] at this
theorem comp2_rd (hv : ∀ i ∈ vs, τ.getD i .sh = .sh) (hw : ∀ i ∈ ws, i ∈ vs) (hw1 : ∀ i ∈ ws1, i ∈ vs1) (hvv : ∀ i ∈ vs1, i ∈ vs) {σ : L2.St} {H : Hp} {Q : VK} (h : rdM K τ p (.ow (.ls .sh)) (comp2F src asg cond src1 asg1 cond1 elt vs vs1) σ H Q) :
    tLc2 (rdI K τ p own src) (rdG K τ ws asg) (rdT K τ true cond) (rdI K τ true false src1) (rdG K τ ws1 asg1) (rdT K τ true cond1) (rdM K τ true (.ow .sh) elt) vs vs1 σ H Q := by
  have hv1 : ∀ i ∈ vs1, τ.getD i .sh = .sh := fun i hi => hv i (hvv i hi)
  obtain ⟨Wo, F, env, d, env', S, hf, k⟩ := h
  unfold comp2F at hf
  cases hs : src env with
  | none => rw [hs] at hf; cases hf
  | some s1 =>
  obtain ⟨ds, e1⟩ := s1
  rw [hs] at hf
  simp only [Option.bind_some] at hf
  cases hg : go2 asg cond src1 asg1 cond1 elt vs vs1 ds (wipeE e1 vs) with
  | none => rw [hg] at hf; cases hf
  | some r =>
  obtain ⟨ys, eE⟩ := r
  rw [hg] at hf
  simp only [Option.bind_some] at hf
  have hz : szOk ys = true := by
    cases q : szOk ys with
    | true => rfl
    | false => rw [q] at hf; cases hf
  rw [if_pos hz] at hf
  cases hf
  have hz : ys.length ≤ sizeLine := by unfold szOk at hz; exact of_decide_eq_true hz
  refine ⟨Wo, F, env, ds, env', S, hs, fun J H1 S1 k1 Y D nD => ?_⟩
  let WD : ASet := Un2 Wo fun b => b = D
  -- between two rows
  let InvC : Nat → Hp → Prop := fun i H2 => i ≤ ds.length ∧ ∃ (env2 : Env) (done rest : List PyData) (acc : List V), ys = done ++ rest ∧ go2 asg cond src1 asg1 cond1 elt vs vs1 (ds.drop i) env2 = some (rest, eE) ∧
    Slots K H2 WD τ (L2.wipe σ vs) env2 F ∧ H2 D = some (.lst acc) ∧ RpA K H2 (WF WD F) acc done ∧ Sm H1 H2
  refine ⟨fun i m H2 => m = ds.length - i ∧ InvC i H2, ⟨ds.length - 0, rfl, Nat.zero_le _, wipeE env' vs, [], ys, [], rfl, hg, ?_, upd_same, .nil, up_same nD⟩, ?_⟩
  · exact (S1.wipe (vs := vs) hv).grow (up_same (o := .lst []) nD) (nw_one nD) fun b e => ⟨.lst [], by rw [e]; exact upd_same⟩
  rintro i m H2 ⟨rfl, hi, env2, done, rest, acc, hys, hgo, S2, hD, ra, sm2⟩
  have keepC : ∀ a o, H1 a = some o → ¬ (if own then Z0 else WF Wo F) a → H2 a = some o := fun a o e _ => sm2 a o e
  have k2 : Kq true F H1 H2 := Kq.sm sm2
  cases hd : ds[i]? with
  | none =>
    left
    refine ⟨Y.stop i H2 keepC hd, ?_⟩
    have hle := List.getElem?_eq_none_iff.mp hd
    rw [List.drop_eq_nil_of_le hle] at hgo
    cases hgo
    rw [List.append_nil] at hys
    subst hys
    refine k _ H2 (fun b => b = D) (S1.grow sm2 (nw_one nD) fun b hb => ⟨_, by subst hb; exact hD⟩) (k1.then sm2) ⟨D, acc, ys, Z0, rfl, rfl, hD, fun b => ⟨.inl, fun z => z.elim id fun z => z.elim⟩, fun z => z, OwnL.of_rpa ra fun _ z => z⟩ fun b hb => by subst hb; exact S1.newBack k1 nD
  | some d =>
    right
    have hlt : i < ds.length := (List.getElem?_eq_some_iff.mp hd).1
    have hdrop : ds.drop i = d :: ds.drop (i + 1) := by
      rw [List.drop_eq_getElem_cons hlt]
      have := (List.getElem?_eq_some_iff.mp hd).2
      rw [this]
    obtain ⟨go, yl⟩ := Y.go i H2 (WF WD F) d keepC (k2.kpG (nw_one nD)) (fun a w => S2.tracked w) hd
    refine ⟨go, InvC (i + 1), fun H' hn => ⟨ds.length - (i + 1), by omega, rfl, hn⟩, fun x H3 hy => ?_⟩
    obtain ⟨sm3, rx⟩ := yl x H3 hy
    rw [hdrop] at hgo
    unfold go2 at hgo
    cases h1 : asg d env2 with
    | none => rw [h1] at hgo; cases hgo
    | some e2 =>
    rw [h1] at hgo
    simp only [Option.bind_some] at hgo
    have S3 := S2.same sm3
    refine ⟨WD, F, env2, d, e2, S3, rx, h1, fun σ2 S4 l4 q4 => ?_⟩
    have hwp : L2.wipe σ2 vs = L2.wipe σ vs := by
      have e5 : L2.wipe σ2 vs = L2.wipe (L2.wipe σ vs) vs := wipe_eq l4 fun j hj => q4 j fun z => hj (hw j z)
      rw [e5]
      exact wipe_eq (L2.wipe_length _ _) fun j hj => wipe_get hj
    refine ⟨hwp, ?_⟩
    cases h2 : cond e2 with
    | none => rw [h2] at hgo; cases hgo
    | some c =>
    obtain ⟨c, e3⟩ := c
    rw [h2] at hgo
    simp only [Option.bind_some] at hgo
    refine ⟨WD, F, e2, c, e3, S4, h2, fun H5 S5 k5 => ?_⟩
    have sm5 : Sm H2 H5 := fun a o e => k5.tt a o (sm3 a o e)
    have hD5 : H5 D = some (.lst acc) := sm5 D _ hD
    have ra5 : RpA K H5 (WF WD F) acc done := ra.keep ⟨fun a o e _ => sm5 a o e, fun _ _ _ n => n⟩
    have sm15 : Sm H1 H5 := fun a o e => sm5 a o (sm2 a o e)
    cases c with
    | false =>
      simp only at hgo
      refine L2.iteF ⟨hlt, wipeE e3 vs, done, rest, acc, hys, hgo, ?_, hD5, ra5, sm15⟩
      have := S5.wipe (vs := vs) hv
      rwa [hwp] at this
    | true =>
      simp only at hgo
      cases h3 : src1 e3 with
      | none => rw [h3] at hgo; cases hgo
      | some s1 =>
      obtain ⟨ds1, e4⟩ := s1
      rw [h3] at hgo
      simp only [Option.bind_some] at hgo
      cases h4 : goC asg1 cond1 elt vs1 ds1 (wipeE e4 vs1) with
      | none => rw [h4] at hgo; cases hgo
      | some r1 =>
      obtain ⟨ys1, eI⟩ := r1
      rw [h4] at hgo
      simp only [Option.bind_some] at hgo
      cases h5 : go2 asg cond src1 asg1 cond1 elt vs vs1 (ds.drop (i + 1)) (wipeE eI vs) with
      | none => rw [h5] at hgo; cases hgo
      | some r2 =>
      obtain ⟨rest', eE'⟩ := r2
      rw [h5] at hgo
      cases hgo
      refine iteT ⟨WD, F, e3, ds1, e4, S5, h3, fun J1 H6 S6 k6 Y1 => ?_⟩
      -- within a row
      let InvI : Nat → Hp → Prop := fun l H7 => l ≤ ds1.length ∧ ∃ (env7 : Env) (done1 rest1 : List PyData) (acc7 : List V), ys1 = done1 ++ rest1 ∧ goC asg1 cond1 elt vs1 (ds1.drop l) env7 = some (rest1, eI) ∧
        Slots K H7 WD τ (L2.wipe σ2 vs1) env7 F ∧ H7 D = some (.lst acc7) ∧ RpA K H7 (WF WD F) acc7 (done ++ done1) ∧ Sm H1 H7 ∧ (∀ a o, H6 a = some o → a ≠ D → H7 a = some o)
      have smD : Sm H5 H6 := k6.tt
      refine ⟨fun l m H7 => m = ds1.length - l ∧ InvI l H7, ⟨ds1.length - 0, rfl, Nat.zero_le _, wipeE e4 vs1, [], ys1, acc, rfl, h4, S6.wipe (vs := vs1) hv1, smD _ _ hD5, by rw [List.append_nil]; exact ra5.keep ⟨fun a o e _ => smD a o e, fun _ _ _ n => n⟩, fun a o e => smD a o (sm15 a o e), fun _ _ e _ => e⟩, ?_⟩
      rintro l m H7 ⟨rfl, hl, env7, done1, rest1, acc7, hys1, hgo1, S7, hD7, ra7, sm17, sm67⟩
      have wfD : WF WD F D := .inl (.inr rfl)
      have keepC1 : ∀ a o, H6 a = some o → ¬ (if false then Z0 else WF WD F) a → H7 a = some o := fun a o e n => sm67 a o e fun z => n (by rw [z]; exact wfD)
      have kp67 : Kp H6 (WF WD F) H7 (WF WD F) := ⟨fun a o e n => sm67 a o e fun z => n (by rw [z]; exact wfD), fun _ _ _ n => n⟩
      have hl4 : σ2.length = σ.length := by rw [l4, L2.wipe_length]
      cases hd1 : ds1[l]? with
      | none =>
        left
        refine ⟨Y1.stop l H7 keepC1 hd1, ?_⟩
        have hle := List.getElem?_eq_none_iff.mp hd1
        rw [List.drop_eq_nil_of_le hle] at hgo1
        cases hgo1
        rw [List.append_nil] at hys1
        subst hys1
        refine ⟨hlt, wipeE eI vs, done ++ ys1, rest', acc7, by rw [hys, List.append_assoc], h5, ?_, hD7, ra7, sm17⟩
        have := S7.wipe (vs := vs) hv
        have e6 : L2.wipe (L2.wipe σ2 vs1) vs = L2.wipe σ vs := by
          rw [← hwp]
          exact wipe_eq (L2.wipe_length _ _) fun j hj => wipe_get fun z => hj (hvv j z)
        rwa [e6] at this
      | some d1 =>
        right
        have hlt1 : l < ds1.length := (List.getElem?_eq_some_iff.mp hd1).1
        have hdrop1 : ds1.drop l = d1 :: ds1.drop (l + 1) := by
          rw [List.drop_eq_getElem_cons hlt1]
          have := (List.getElem?_eq_some_iff.mp hd1).2
          rw [this]
        obtain ⟨go1, yl1⟩ := Y1.go l H7 (WF WD F) d1 keepC1 kp67 (fun a w => S7.tracked w) hd1
        refine ⟨go1, InvI (l + 1), fun H' hn => ⟨ds1.length - (l + 1), by omega, rfl, hn⟩, fun x1 H8 hy1 => ?_⟩
        obtain ⟨sm8, rx1⟩ := yl1 x1 H8 hy1
        rw [hdrop1] at hgo1
        unfold goC at hgo1
        cases g1 : asg1 d1 env7 with
        | none => rw [g1] at hgo1; cases hgo1
        | some f2 =>
        rw [g1] at hgo1
        simp only [Option.bind_some] at hgo1
        refine ⟨WD, F, env7, d1, f2, S7.same sm8, rx1, g1, fun σ3 S9 l9 q9 => ?_⟩
        have hwp1 : L2.wipe σ3 vs1 = L2.wipe σ2 vs1 := by
          have e5 : L2.wipe σ3 vs1 = L2.wipe (L2.wipe σ2 vs1) vs1 := wipe_eq l9 fun j hj => q9 j fun z => hj (hw1 j z)
          rw [e5]
          exact wipe_eq (L2.wipe_length _ _) fun j hj => wipe_get hj
        refine ⟨hwp1, ?_⟩
        cases g2 : cond1 f2 with
        | none => rw [g2] at hgo1; cases hgo1
        | some c1 =>
        obtain ⟨c1, f3⟩ := c1
        rw [g2] at hgo1
        simp only [Option.bind_some] at hgo1
        refine ⟨WD, F, f2, c1, f3, S9, g2, fun H10 S10 k10 => ?_⟩
        have sm710 : Sm H7 H10 := fun a o e => k10.tt a o (sm8 a o e)
        have hD10 : H10 D = some (.lst acc7) := sm710 D _ hD7
        have ra10 : RpA K H10 (WF WD F) acc7 (done ++ done1) := ra7.keep ⟨fun a o e _ => sm710 a o e, fun _ _ _ n => n⟩
        cases c1 with
        | false =>
          simp only at hgo1
          refine L2.iteF ⟨hlt1, wipeE f3 vs1, done1, rest1, acc7, hys1, hgo1, ?_, hD10, ra10, fun a o e => sm710 a o (sm17 a o e), fun a o e n => sm710 a o (sm67 a o e n)⟩
          have := S10.wipe (vs := vs1) hv1
          rwa [hwp1] at this
        | true =>
          simp only at hgo1
          cases g3 : elt f3 with
          | none => rw [g3] at hgo1; cases hgo1
          | some y =>
          obtain ⟨y, f4⟩ := y
          rw [g3] at hgo1
          simp only [Option.bind_some] at hgo1
          cases g4 : goC asg1 cond1 elt vs1 (ds1.drop (l + 1)) (wipeE f4 vs1) with
          | none => rw [g4] at hgo1; cases hgo1
          | some r =>
          obtain ⟨rest1', eI'⟩ := r
          rw [g4] at hgo1
          cases hgo1
          refine iteT ⟨WD, F, f3, y, f4, S10, g3, fun z H11 G11 S11 k11 ow11 g11 => ?_⟩
          have S11 := S11.less
          have rz : Rp K H11 (WF WD F) z y := Own.rpW S10 g11 ow11
          have sm1011 : Sm H10 H11 := k11.tt
          have hD11 : H11 D = some (.lst acc7) := sm1011 D _ hD10
          have ra11 : RpA K H11 (WF WD F) acc7 (done ++ done1) := ra10.keep ⟨fun a o e _ => sm1011 a o e, fun _ _ _ n => n⟩
          have kpD : Kp H11 (WF WD F) (upd H11 D (.lst (acc7 ++ [z]))) (WF WD F) := ⟨fun a u e n => by rw [upd_ne (fun q => n (by rw [q]; exact wfD))]; exact e, fun _ _ _ n => n⟩
          have hlen : acc7.length < sizeLine := by
            have e1 := ra11.length
            have e2 : ys.length = done.length + (ys1.length + rest'.length) := by rw [hys]; simp
            have e3 : ys1.length = done1.length + (rest1'.length + 1) := by rw [hys1]; simp
            simp only [List.length_append] at e1
            omega
          refine ⟨acc7, hD11, hlen, hlt1, wipeE f4 vs1, done1 ++ [y], rest1', acc7 ++ [z], by rw [hys1, List.append_assoc]; rfl, g4, ?_, upd_same, ?_, fun a o e => ?_, fun a o e n => ?_⟩
          · have := (S11.wipe (vs := vs1) hv1).barred (D := D) (o := .lst (acc7 ++ [z])) (.inr rfl)
            rwa [hwp1] at this
          · rw [← List.append_assoc]
            exact (ra11.keep kpD).append (.cons (rz.keep kpD) .nil)
          · rw [upd_ne (fun q => by rw [q, nD] at e; cases e)]
            exact sm1011 a o (sm710 a o (sm17 a o e))
          · rw [upd_ne n]
            exact sm1011 a o (sm710 a o (sm67 a o e n))
end
section
variable {X : Cx} {P : Program} {w : World} {K : PySem.W.Frag} {mg : Str → Option Value} {base : Heap} {k kk : Nat} {N : List Str} {sc : Scope} {fn : Str → Bool} {τ : List OT} {p q : Bool}
/-- [elt for tg in iter if .. for tg1 in iter1 if ..] -/
theorem x_lc2 {elt tg iter tg1 iter1 : Expr} {ifs ifs1 : List Expr} {scope : Scope} {own : List (Str × Nat)} {pos : Pos} {src src1 : M (List PyData)} {asg asg1 : PyData → Env → Option Env} {cond cond1 : M Bool} {fe : M PyData} {ws ws1 vs1 : List Nat} {po : Bool} (hX : XOk X P w K mg base k N sc fn) (hi : EvI X τ p po tg iter src)
    (ok : blkC N sc scope own = true) (hv : (own.map (·.2)).all (fun i => decide (τ.getD i .sh = .sh)) = true) (hw : ws.all (fun i => decide (i ∈ own.map (·.2))) = true) (hw1 : ws1.all (fun i => decide (i ∈ vs1)) = true) (hvv : vs1.all (fun i => decide (i ∈ own.map (·.2))) = true)
    (hg : ∀ Y, Blk P w K mg base k N sc scope Y → EvG Y τ ws tg asg) (ht : ∀ Y, Blk P w K mg base k N sc scope Y → EvTs Y τ true ifs cond) (hi1 : ∀ Y, Blk P w K mg base k N sc scope Y → EvI Y τ true false tg1 iter1 src1) (hg1 : ∀ Y, Blk P w K mg base k N sc scope Y → EvG Y τ ws1 tg1 asg1) (ht1 : ∀ Y, Blk P w K mg base k N sc scope Y → EvTs Y τ true ifs1 cond1)
    (he : ∀ Y, Blk P w K mg base k N sc scope Y → EvM Y τ true (.ow .sh) elt fe) (hs : ∀ x, foldedSetIterable iter X.env x = pure x) (hs1 : ∀ env x, foldedSetIterable iter1 env x = pure x) :
    EvM X τ p (.ow (.ls .sh)) (.ListComp elt [⟨tg, iter, ifs, 0⟩, ⟨tg1, iter1, ifs1, 0⟩] scope pos) (comp2F src asg cond src1 asg1 cond1 fe (own.map (·.2)) vs1) := by
  refine PE.imp (pe_lc2 (own := own) (vs1 := vs1) (g := rdG X.K τ ws asg) (tt := rdT X.K τ true cond) (wi1 := rdI X.K τ true false src1) (g1 := rdG X.K τ ws1 asg1) (tt1 := rdT X.K τ true cond1) (te := rdM X.K τ true (.ow .sh) fe) hX.calm (by rw [hX.names]; exact hX.nd) hi (blkOk_by (by rw [hX.names, hX.scope]; exact ok)) (fun i hi => of_decide_eq_true (List.all_eq_true.mp hvv i hi))
    (fun s H C cl fp => hg _ (hX.blk scope s H C cl fp)) (fun s H C cl fp => ht _ (hX.blk scope s H C cl fp)) (fun s H C cl fp => hi1 _ (hX.blk scope s H C cl fp)) (fun s H C cl fp => hg1 _ (hX.blk scope s H C cl fp)) (fun s H C cl fp => ht1 _ (hX.blk scope s H C cl fp)) (fun s H C cl fp => he _ (hX.blk scope s H C cl fp)) hs hs1) fun σ H Q h => ?_
  exact comp2_rd (fun i hi => of_decide_eq_true (List.all_eq_true.mp hv i hi)) (fun i hi => of_decide_eq_true (List.all_eq_true.mp hw i hi)) (fun i hi => of_decide_eq_true (List.all_eq_true.mp hw1 i hi)) (fun i hi => of_decide_eq_true (List.all_eq_true.mp hvv i hi)) h
end
end Ev

set_option Elab.async false
set_option linter.all false
set_option maxRecDepth 100000
set_option maxHeartbeats 4000000
namespace Ev
open PySem PySem.Spec PyProof.Rows L2

/-! ### CC. the rules as a def's walk wants them: side conditions about the written scope alone -/
def visB (sc : Scope) (x : Str) : Bool := match sc.names.lookup x with
  | some .local => true
  | some .cell => true
  | some .free => true
  | _ => false
def locB (sc : Scope) (x : Str) : Bool := match sc.names.lookup x with
  | some .local => true
  | some .cell => true
  | _ => false
def pureB (sc : Scope) (x : Str) : Bool := match sc.names.lookup x with
  | some .local => true
  | _ => false
def glB (sc : Scope) (x : Str) : Bool := match sc.names.lookup x with
  | some .globalImplicit => true
  | _ => false
def nmB (x : Str) : Bool := !(x == ("__debug__" : Str)) && !(x == ("__classdict__" : Str))
theorem visB_ok {sc : Scope} {x : Str} (h : visB sc x = true) : Vis sc x := by
  unfold visB at h
  split at h <;> first | exact .inl (by assumption) | exact .inr (.inl (by assumption)) | exact .inr (.inr (by assumption)) | cases h
theorem locB_ok {sc : Scope} {x : Str} (h : locB sc x = true) : Loc sc x := by
  unfold locB at h
  split at h <;> first | exact .inl (by assumption) | exact .inr (by assumption) | cases h
theorem pureB_ok {sc : Scope} {x : Str} (h : pureB sc x = true) : sc.names.lookup x = some .local := by
  unfold pureB at h
  split at h <;> first | assumption | cases h
theorem glB_ok {sc : Scope} {x : Str} (h : glB sc x = true) : sc.names.lookup x = some .globalImplicit := by
  unfold glB at h
  split at h <;> first | assumption | cases h
theorem nmB_d {x : Str} (h : nmB x = true) : (x == ("__debug__" : Str)) = false := by
  unfold nmB at h
  cases e : (x == ("__debug__" : Str)) with
  | false => rfl
  | true => rw [e] at h; cases h
theorem nmB_c {x : Str} (h : nmB x = true) : (x == ("__classdict__" : Str)) = false := by
  unfold nmB at h
  cases e : (x == ("__classdict__" : Str)) with
  | false => rfl
  | true => rw [e, Bool.and_comm] at h; cases h
section
variable {X : Cx} {P : Program} {w : World} {K : PySem.W.Frag} {mg : Str → Option Value} {base : Heap} {k kk : Nat} {N : List Str} {sc : Scope} {fn : Str → Bool} {τ : List OT} {p q : Bool} {m m2 : Md} {t : OT} {x y : Str} {i j : Nat} {pos pos' pp : Pos} {a b c e : Expr} {es : List Expr} {f fa fb : M PyData} {fr : M (List PyData)}
theorem XOk.gl (hX : XOk X P w K mg base k N sc fn) (h : glB sc x = true) : Gl X x := by
  show X.env.scope.names.lookup x = _
  rw [hX.scope]
  exact glB_ok h
theorem XOk.vis (hX : XOk X P w K mg base k N sc fn) (h : visB sc x = true) : Vis X.env.scope x := by rw [hX.scope]; exact visB_ok h
theorem XOk.loc (hX : XOk X P w K mg base k N sc fn) (h : locB sc x = true) : Loc X.env.scope x := by rw [hX.scope]; exact locB_ok h
theorem XOk.nm (hX : XOk X P w K mg base k N sc fn) (h : N[i]? = some x) : X.N[i]? = some x := by rw [hX.names]; exact h
theorem XOk.ndup (hX : XOk X P w K mg base k N sc fn) : X.N.Nodup := by rw [hX.names]; exact hX.nd
theorem XOk.mg' (hX : XOk X P w K mg base k N sc fn) {v : Option Value} (h : mg x = v) : X.mg x = v := by rw [hX.mods]; exact h
theorem XOk.r64 (hX : XOk X P w K mg base k N sc fn) : X.A.units + 64 < cLine := room64 hX.room (by decide)
theorem XOk.r65 (hX : XOk X P w K mg base k N sc fn) : X.A.units + 65 < cLine := room64 hX.room (by decide)
theorem XOk.put (hX : XOk X P w K mg base k N sc fn) (h : (fn x || pureB sc x) = true) : X.fn x = true ∨ X.env.scope.names.lookup x = some .local := by
  rw [hX.cells, hX.scope]
  rcases Bool.or_eq_true_iff.mp h with h | h
  · exact .inl h
  · exact .inr (pureB_ok h)
theorem x_var (hX : XOk X P w K mg base k N sc fn) (hN : N[i]? = some x) (hv : visB sc x = true) (ht : τ.getD i .sh = .sh) (hn : nmB x = true) : EvM X τ true (.ow .sh) (.Name x pos) (varF i) :=
  ev_var (hX.nm hN) (hX.vis hv) ht (nmB_d hn) (nmB_c hn)
theorem x_own (hX : XOk X P w K mg base k N sc fn) (hN : N[i]? = some x) (hv : visB sc x = true) (ht : τ.getD i .sh = .ls .sh) (hn : nmB x = true) : EvM X τ true .sk (.Name x pos) (varF i) :=
  ev_own (hX.nm hN) (hX.vis hv) (.inl ht) (nmB_d hn) (nmB_c hn)
theorem xW_var (hX : XOk X P w K mg base k N sc fn) (hN : N[i]? = some x) (hv : visB sc x = true) (hn : nmB x = true) : EvW X τ (.Name x pos) (varF i) :=
  evW_var (hX.nm hN) (hX.vis hv) (nmB_d hn) (nmB_c hn)
theorem xG_name (hX : XOk X P w K mg base k N sc fn) (hN : N[i]? = some x) (hx : locB sc x = true) (hf : (fn x || pureB sc x) = true) (ht : τ.getD i .sh = .sh) : EvG X τ [i] (.Name x pos) (nmG i) :=
  evG_name hX.ndup (hX.nm hN) (hX.loc hx) (hX.put hf) ht
/-- a module's constant of one value -/
theorem x_glob {v : V} {u : Value} {d : PyData} (hX : XOk X P w K mg base k N sc fn) (hg : glB sc x = true) (hm : mg x = some u) (r : RelV v u) (hr : ∀ H W, Rp K H W v d) (hn : nmB x = true) : EvM X τ true (.ow .sh) (.Name x pos) (conF d) :=
  ev_glob (hX.gl hg) (hX.mg' hm) r (fun H W => by rw [hX.frag]; exact hr H W) (nmB_d hn)
/-- a builtin function of data -/
theorem x_callB {id : String} {g : List PyData → Option PyData} (hX : XOk X P w K mg base k N sc fn) (hc : CallOk X (.builtin id) g t) (hg : glB sc x = true) (hm : mg x = none) (hv : bootBuiltins x = some (.builtin id)) (ha : EvQ X τ p (e :: es) fr) (hn : x ≠ "__name__") (hd : nmB x = true)
    (he : starEach (e :: es) X.env = (false, eval e X.env) :: starEach es X.env) (hpl : (backTo pos (starEach es X.env)).any (·.1) = false) : EvM X τ p (.ow t) (.Call (.Name x pp) (e :: es) [] pos) (mapM fr g) :=
  ev_callB hc (hX.gl hg) (hX.mg' hm) hv ha hn (nmB_d hd) he hpl
theorem x_callTy {T : String} {g : List PyData → Option PyData} (hX : XOk X P w K mg base k N sc fn) (hc : CallOk X (.type T) g t) (hg : glB sc x = true) (hm : mg x = none) (hv : bootBuiltins x = some (.type T)) (ha : EvQ X τ p (e :: es) fr) (hn : x ≠ "__name__") (hd : nmB x = true)
    (he : starEach (e :: es) X.env = (false, eval e X.env) :: starEach es X.env) (hpl : (backTo pos (starEach es X.env)).any (·.1) = false) : EvM X τ p (.ow t) (.Call (.Name x pp) (e :: es) [] pos) (mapM fr g) :=
  ev_callTy hc (hX.gl hg) (hX.mg' hm) hv ha hn (nmB_d hd) he hpl
theorem x_isi {T : String} {pc : Pos} (hX : XOk X P w K mg base k N sc fn) (hg : glB sc "isinstance" = true) (hm : mg "isinstance" = none) (hg2 : glB sc x = true) (hm2 : mg x = none) (hv2 : bootBuiltins x = some (.type T)) (hn2 : x ≠ "__name__") (hd2 : nmB x = true) (h : EvM X τ p m e f)
    (he : starEach [e, .Name x pc] X.env = (false, eval e X.env) :: starEach [.Name x pc] X.env) : EvM X τ p (.ow .sh) (.Call (.Name "isinstance" pp) [e, .Name x pc] [] pos) (mapF f (isiD T)) :=
  ev_isi (hX.gl hg) (hX.mg' hm) (hX.gl hg2) (hX.mg' hm2) hv2 hn2 (nmB_d hd2) h he rfl
theorem x_isi2 {T U : String} {pc pc2 pt : Pos} {kk : Nat} (hX : XOk X P w K mg base k N sc fn) (hg : glB sc "isinstance" = true) (hm : mg "isinstance" = none) (hg2 : glB sc x = true) (hm2 : mg x = none) (hv2 : bootBuiltins x = some (.type T)) (hn2 : x ≠ "__name__") (hd2 : nmB x = true)
    (hg3 : glB sc y = true) (hm3 : mg y = none) (hv3 : bootBuiltins y = some (.type U)) (hn3 : y ≠ "__name__") (hd3 : nmB y = true) (h : EvM X τ p m e f)
    (he : starEach [e, .Tuple [.Name x pc, .Name y pc2] kk pt] X.env = (false, eval e X.env) :: starEach [.Tuple [.Name x pc, .Name y pc2] kk pt] X.env) : EvM X τ p (.ow .sh) (.Call (.Name "isinstance" pp) [e, .Tuple [.Name x pc, .Name y pc2] kk pt] [] pos) (mapF f (isi2D T U)) :=
  ev_isi2 (hX.gl hg) (hX.mg' hm) (hX.gl hg2) (hX.mg' hm2) hv2 hn2 (nmB_d hd2) (hX.gl hg3) (hX.mg' hm3) hv3 hn3 (nmB_d hd3) h he rfl rfl rfl
theorem x_sortSet {pp2 pos2 : Pos} (hX : XOk X P w K mg base k N sc fn) (hg : glB sc "sorted" = true) (hm : mg "sorted" = none) (hg2 : glB sc "set" = true) (hm2 : mg "set" = none) (ha : EvQ X τ p [e] fr) (he : starEach [e] X.env = (false, eval e X.env) :: starEach [] X.env) :
    EvM X τ p (.ow (.ls .sh)) (.Call (.Name "sorted" pp) [.Call (.Name "set" pp2) [e] [] pos2] [] pos) (mapM fr sortSetD) := ev_sortSet hX.calm hX.r64 (hX.gl hg) (hX.mg' hm) (hX.gl hg2) (hX.mg' hm2) ha he rfl
theorem x_sumL (hX : XOk X P w K mg base k N sc fn) (hg : glB sc "sum" = true) (hm : mg "sum" = none) (h : EvL X τ p .sh [a, b] fr) (he : starEach [a, b] X.env = (false, eval a X.env) :: starEach [b] X.env) (hpl : (backTo pos (starEach [b] X.env)).any (·.1) = false) :
    EvM X τ p (.ow .sh) (.Call (.Name "sum" pp) [a, b] [] pos) (mapM fr sumLD) := ev_sumL hX.calm (hX.gl hg) (hX.mg' hm) h he hpl
theorem x_listRg {pp2 pos2 : Pos} (hX : XOk X P w K mg base k N sc fn) (hg : glB sc "list" = true) (hm : mg "list" = none) (hg2 : glB sc "range" = true) (hm2 : mg "range" = none) (h : EvM X τ p m e f) (na : starEach [e] X.env = (false, eval e X.env) :: starEach [] X.env) :
    EvM X τ p (.ow (.ls .sh)) (.Call (.Name "list" pp) [.Call (.Name "range" pp2) [e] [] pos2] [] pos) (mapF f fun d => listRgD [d]) := ev_listRg hX.calm (hX.gl hg) (hX.mg' hm) (hX.gl hg2) (hX.mg' hm2) h na rfl
/-! iteration -/
variable {tg : Expr}
theorem xI_rng1 (hX : XOk X P w K mg base k N sc fn) (hg : glB sc "range" = true) (hm : mg "range" = none) (ha : EvQ X τ p [a] fr) (hs : starEach [a] X.env = [(false, eval a X.env)]) : EvI X τ p false tg (.Call (.Name "range" pp) [a] [] pos) (mapM fr rng1D) := evI_rng1 (hX.gl hg) (hX.mg' hm) ha hs
theorem xI_rng2 (hX : XOk X P w K mg base k N sc fn) (hg : glB sc "range" = true) (hm : mg "range" = none) (ha : EvQ X τ p [a, b] fr) (hs : starEach [a, b] X.env = [(false, eval a X.env), (false, eval b X.env)]) (hs2 : starEach [b] X.env = [(false, eval b X.env)]) : EvI X τ p false tg (.Call (.Name "range" pp) [a, b] [] pos) (mapM fr rng2D) := evI_rng2 (hX.gl hg) (hX.mg' hm) ha hs hs2
theorem xI_enum {tpos : Pos} {elts : List Expr} {kk : Nat} (hX : XOk X P w K mg base k N sc fn) (hg : glB sc "enumerate" = true) (hm : mg "enumerate" = none) (ha : EvQ X τ p [e] fr) (hs : starEach [e] X.env = [(false, eval e X.env)]) : EvI X τ p true (.Tuple elts kk tpos) (.Call (.Name "enumerate" pp) [e] [] pos) (enumAF fr) := evI_enumA (hX.gl hg) (hX.mg' hm) ha hs
theorem xI_enumB {tpos : Pos} {elts : List Expr} {kk : Nat} (hX : XOk X P w K mg base k N sc fn) (hg : glB sc "enumerate" = true) (hm : mg "enumerate" = none) (ha : EvL X τ p .sh [e] fr) (hs : starEach [e] X.env = [(false, eval e X.env)]) : EvI X τ p false (.Tuple elts kk tpos) (.Call (.Name "enumerate" pp) [e] [] pos) (enumAF fr) := evI_enumB (hX.gl hg) (hX.mg' hm) ha hs
/-- a list, a tuple or a text -/
def seqAF (f : M PyData) : M (List PyData) := fun env => (mapM f itemsD env).or (mapM f strItems env)
theorem xI_any (h : EvM X τ p (.ow t) e f) : EvI X τ p false tg e (seqAF f) := (evI_seq h).or (evI_str h)
theorem xI_own (h : EvM X τ p .sk e f) : EvI X τ p true tg e (mapM f itemsD) := evI_seq h
/-! calls of defs -/
variable {ret : OT} {own : List OT} {ps ks : List Str} {c' : FnSem}
def allSh (own : List OT) : Bool := own.all fun t => decide (t = .sh)
theorem allSh_ok (h : allSh own = true) (i : Nat) : own.getD i .sh = .sh := by
  rw [List.getD_eq_getElem?_getD]
  cases e : own[i]? with
  | none => rfl
  | some z => exact of_decide_eq_true (List.all_eq_true.mp h z (List.mem_of_getElem? e))
/-- a def's answers come of as many arguments as it has parameters -/
structure FnLen (own : List OT) (c : FnSem) : Prop where
  len : ∀ ds r, c ds = some r → own.length = ds.length
theorem fnLen_run {n : Nat} {fb : Env → Option Fl} : FnLen own (runB own ret n fb) := ⟨fun ds r h => by
  unfold runB at h
  by_cases e : ds.length = own.length
  · exact e.symm
  · rw [if_neg e] at h; cases h⟩
theorem fnLen_bad : FnLen own (fun _ => none) := ⟨fun _ _ h => nomatch h⟩
theorem x_call (hX : XOk X P w K mg base kk N sc fn) (hf : HasFn P w K mg base k x ps own ret c') (hl : FnLen own c') (hk : k ≤ kk) (ho : allSh own = true) (hg : glB sc x = true) (ha : EvL X τ p .sh (e :: es) fr)
    (hd : nmB x = true) (he : starEach (e :: es) X.env = (false, eval e X.env) :: starEach es X.env) (hpl : (backTo pos (starEach es X.env)).any (·.1) = false) : EvM X τ p (.ow ret) (.Call (.Name x pp) (e :: es) [] pos) (mapM fr (callF c')) := ev_call hX hf hk (allSh_ok ho) hl.len (hX.gl hg) ha (nmB_d hd) he hpl
theorem x_call0 (hX : XOk X P w K mg base kk N sc fn) (hf : HasFn P w K mg base k x ps own ret c') (hl : FnLen own c') (hk : k ≤ kk) (ho : allSh own = true) (hg : glB sc x = true) (hd : nmB x = true) : EvM X τ true (.ow ret) (.Call (.Name x pp) [] [] pos) (mapM nilF (callF c')) := ev_call0 hX hf hk (allSh_ok ho) hl.len (hX.gl hg) (nmB_d hd)
theorem x_callW (hX : XOk X P w K mg base kk N sc fn) (hf : HasFn P w K mg base k x ps own .sh c') (hl : FnLen own c') (hk : k ≤ kk) (ho : allSh own = true) (hg : glB sc x = true) (ha : EvWL X τ (e :: es) fr)
    (hd : nmB x = true) (he : starEach (e :: es) X.env = (false, eval e X.env) :: starEach es X.env) (hpl : (backTo pos (starEach es X.env)).any (·.1) = false) : EvM X τ true (.ow .sh) (.Call (.Name x pp) (e :: es) [] pos) (mapM fr fun ds => (callF c' ds).bind atomD) := ev_callW hX hf hk (allSh_ok ho) hl.len (hX.gl hg) ha (nmB_d hd) he hpl
theorem x_callK {ix : List Nat} {kws : List Keyword} (hX : XOk X P w K mg base kk N sc fn) (hf : HasFnK P w K mg base k x ps ks ix own ret c') (hl : FnLen own c') (hk : k ≤ kk) (ho : allSh own = true) (hg : glB sc x = true) (ha : EvKw X τ p kws fr)
    (hall : (backToKw pos (keywordEach kws X.env)).all (·.1.isSome) = true) (hks : (backToKw pos (keywordEach kws X.env)).filterMap (·.1) = ks) (hd : nmB x = true) (hpl : ((backTo pos (starEach [] X.env)).any (·.1) || (backToKw pos (keywordEach kws X.env)).any (·.1.isNone)) = false) :
    EvM X τ p (.ow ret) (.Call (.Name x pp) [] kws pos) (mapM fr (kwF ks.length ix c')) := ev_callK hX hf hk (allSh_ok ho) hl.len (hX.gl hg) ha hall hks (nmB_d hd) hpl
theorem x_lend {n : Nat} {yp : Pos} (hX : XOk X P w K mg base kk N sc fn) (hf : HasFn P w K mg base k x ps (.ls .sh :: List.replicate n .sh) ret c') (hl : FnLen (.ls .sh :: List.replicate n .sh) c') (hk : k ≤ kk) (hg : glB sc x = true) (hN : N[j]? = some y) (hv : visB sc y = true) (hn : nmB y = true) (ht : τ.getD j .sh = .ls .sh) (ha : EvL X τ p .sh es fr)
    (hd : nmB x = true) (he : starEach (.Name y yp :: es) X.env = (false, eval (.Name y yp) X.env) :: starEach es X.env) (hpl : (backTo pos (starEach es X.env)).any (·.1) = false) : EvM X τ false (.ow ret) (.Call (.Name x pp) (.Name y yp :: es) [] pos) (lendF j fr c') :=
  ev_lend hX hf hk (fun ds r h => by have := hl.len ds r h; simpa using this) (hX.gl hg) (hX.nm hN) (hX.vis hv) (nmB_d hn) (nmB_c hn) ht ha (nmB_d hd) he hpl
/-! statements -/
variable {bor : List Nat} {τ0 τ1 τ' τl : List OT} {tr : OT} {fs fb' : Env → Option Fl} {body : List Stmt} {vs : List Nat} {src : M (List PyData)} {asg : PyData → Env → Option Env}
def notIn (i : Nat) (l : List Nat) : Bool := !l.contains i
theorem notIn_ok {i : Nat} {l : List Nat} (h : notIn i l = true) : i ∉ l := fun z => by
  unfold notIn at h
  rw [List.contains_iff_mem.mpr z] at h
  cases h
theorem xS_set (hX : XOk X P w K mg base k N sc fn) (hx : N[i]? = some x) (hl : locB sc x = true) (hf : (fn x || pureB sc x) = true) (hi : i < τ.length) (hb : notIn i bor = true) (h : EvM X τ p (.ow t) e f) (hs : swapsWith e (some (.Name x pos')) pos.line X.env = pure false) :
    EvS X bor τ0 τ (τ.set i t) τl tr (.Assign [.Name x pos'] e pos) (asgS i f) := evS_set hX.ndup (hX.nm hx) (hX.loc hl) hi (notIn_ok hb) h hs (hX.put hf)
/-- a comprehension that goes to a cell: as any value -/
theorem sw_cell (hX : XOk X P w K mg base k N sc fn) {elt : Expr} {gens : List Comprehension} {scope : Scope} {l : Nat} (h : pureB sc x = false) : swapsWith (.ListComp elt gens scope pos) (some (.Name x pos')) l X.env = pure false := by
  show pure _ = pure false
  have e : (X.env.kindOf x == some NameKind.local) = false := by
    show (X.env.scope.names.lookup x == some NameKind.local) = false
    rw [hX.scope]
    unfold pureB at h
    cases q : sc.names.lookup x with
    | none => rfl
    | some z => rw [q] at h; cases z <;> first | rfl | cases h
  rw [e, Bool.and_false, Bool.false_and, Bool.false_and]
theorem sw_env {ts : List Expr} {v : Expr} (hX : XOk X P w K mg base k N sc fn) (env : PySem.Env) (h : env.scope = sc) : swappedStores ts v X.env = swappedStores ts v env := by
  unfold swappedStores PySem.Env.blockKind PySem.Env.kindOf
  rw [hX.scope, h]
end
end Ev

set_option Elab.async false
set_option linter.all false
set_option maxRecDepth 100000
set_option maxHeartbeats 4000000
namespace Ev
open PySem PySem.Spec PyProof.Rows L2

/-! ### DD. statements by scope -/
def envOf (sc : Scope) : PySem.Env := { scope := sc, locals := 0, globals := 0, cells := [] }
section
variable {X : Cx} {P : Program} {w : World} {K : PySem.W.Frag} {mg : Str → Option Value} {base : Heap} {k kk : Nat} {N : List Str} {sc : Scope} {fn : Str → Bool} {τ : List OT} {p q : Bool} {m m2 : Md} {t : OT} {x y : Str} {i j : Nat} {pos pos' pp : Pos} {a b c e : Expr} {es : List Expr} {f fa fb fe fi : M PyData} {fr : M (List PyData)}
variable {bor : List Nat} {τ0 τ1 τ' τl : List OT} {tr : OT} {fs fb' : Env → Option Fl} {body : List Stmt} {vs : List Nat} {src : M (List PyData)} {asg : PyData → Env → Option Env} {fgs : List PyData → Env → Option Env} {tg iter : Expr}
theorem xG_tup {k' n : Nat} (hX : XOk X P w K mg base k N sc fn) (h : EvGs X τ vs es fgs) (hn : (assignEach es X.env).length = n) (hst : (assignEach es X.env).findIdx? (·.1) = none) : EvG X τ vs (.Tuple es k' pos) (tupG fgs n) := evG_tup hX.calm h hn hst
theorem xS_asgG (hX : XOk X P w K mg base k N sc fn) (h : EvM X τ p (.ow .sh) e f) (hg : EvG X τ vs tg asg) (hw : swappedStores [tg] e (envOf sc) = pure none) (hs : swapsWithSole [tg] e pos.line X.env = pure false) (h1 : (assignEach [tg] X.env).map (·.2) = [assign tg X.env]) :
    EvS X bor τ0 τ τ τl tr (.Assign [tg] e pos) (asgG f asg) := evS_asgG h hg hs ((sw_env hX (envOf sc) rfl).trans hw) h1
theorem xS_par {x y : Str} {px py pt : Pos} {kt k2 : Nat} {pt2 : Pos} {fe : M (List PyData)} (hX : XOk X P w K mg base k N sc fn) (hi : N[i]? = some x) (hj : N[j]? = some y) (hij : decide (i = j) = false) (hx : pureB sc x = true) (hy : pureB sc y = true) (ha : EvL X τ p .sh [a, b] fe) (hti : τ.getD i .sh = .sh) (htj : τ.getD j .sh = .sh)
    (hw : swappedStores [.Tuple [.Name x px, .Name y py] kt pt] (.Tuple [a, b] k2 pt2) (envOf sc) = pure (some [x, y])) (hs : swapsWithSole [.Tuple [.Name x px, .Name y py] kt pt] (.Tuple [a, b] k2 pt2) pos.line X.env = pure false) :
    EvS X bor τ0 τ τ τl tr (.Assign [.Tuple [.Name x px, .Name y py] kt pt] (.Tuple [a, b] k2 pt2) pos) (parS i j fe) :=
  evS_par hX.calm hX.ndup (hX.nm hi) (hX.nm hj) (of_decide_eq_false hij) (by rw [hX.scope]; exact pureB_ok hx) (by rw [hX.scope]; exact pureB_ok hy) ha hti htj ((sw_env hX (envOf sc) rfl).trans hw) hs
theorem xS_append {apos cpos : Pos} (hX : XOk X P w K mg base k N sc fn) (hN : N[i]? = some x) (hv : visB sc x = true) (hn : nmB x = true) (ht : τ.getD i .sh = .ls t) (hb : (notIn i bor || decide (t = .sh)) = true) (h : EvM X τ p (.ow t) e fe)
    (hs : swapsWith (.Call (.Attribute (.Name x pp) "append" apos) [e] [] cpos) none pos.line X.env = pure false) (hst : starEach [e] X.env = [(false, eval e X.env)])
    (hfew : ((backTo cpos (starEach [e] X.env)).all (fun x => !x.1) && (backToKw cpos (keywordEach [] X.env)).all (fun x => x.1.isSome) && decide ([e].length + ([] : List Keyword).length + (if ([] : List Keyword).isEmpty then 0 else 1) < 30)) = true)
    (hline : (apos.endLine == cpos.line) = true) : EvS X bor τ0 τ τ τl tr (.Expr (.Call (.Attribute (.Name x pp) "append" apos) [e] [] cpos) pos) (appendS i fe) :=
  evS_append (hX.nm hN) (hX.vis hv) (nmB_d hn) (nmB_c hn) ht ((Bool.or_eq_true_iff.mp hb).imp notIn_ok of_decide_eq_true) h hs hst hfew hline
theorem xS_setIx {ix : Expr} {spos : Pos} (hX : XOk X P w K mg base k N sc fn) (hN : N[i]? = some x) (hv : visB sc x = true) (hn : nmB x = true) (ht : τ.getD i .sh = .ls .sh) (h : EvM X τ p (.ow .sh) e fe) (hi : EvM X τ true m ix fi)
    (hs : swapsWithSole [.Subscript (.Name x pp) ix spos] e pos.line X.env = pure false) (hw : swappedStores [.Subscript (.Name x pp) ix spos] e (envOf sc) = pure none) (h1 : (assignEach [.Subscript (.Name x pp) ix spos] X.env).map (·.2) = [assign (.Subscript (.Name x pp) ix spos) X.env])
    (ha : ∀ v, assign (.Subscript (.Name x pp) ix spos) X.env v = (do
      let ov ← holding [v] (eval (.Name x pp) X.env)
      let iv ← holding [v, ov] (eval ix X.env)
      standAt spos
      holding [v, ov, iv] (setItem ov iv v)
      release [v, ov, iv] [])) : EvS X bor τ0 τ τ τl tr (.Assign [.Subscript (.Name x pp) ix spos] e pos) (setIxS i fe fi) :=
  evS_setIx (hX.nm hN) (hX.vis hv) (nmB_d hn) (nmB_c hn) ht h hi hs ((sw_env hX (envOf sc) rfl).trans hw) h1 ha
def borOk (bor : List Nat) (τ τ0 : List OT) : Bool := bor.all fun i => decide (τ.getD i .sh = τ0.getD i .sh)
theorem borOk_ok (h : borOk bor τ τ0 = true) : ∀ i ∈ bor, τ.getD i .sh = τ0.getD i .sh := fun i hi => of_decide_eq_true (List.all_eq_true.mp h i hi)
theorem xS_ret (h : EvM X τ p (.ow tr) e f) (hb : borOk bor τ τ0 = true) : EvS X bor τ0 τ τ' τl tr (.Return (some e) pos) (retS f) := evS_ret h (borOk_ok hb)
theorem xS_retO (hX : XOk X P w K mg base k N sc fn) (hN : N[i]? = some x) (hv : visB sc x = true) (hn : nmB x = true) (ht : τ.getD i .sh = tr) (hi : i < τ.length) (hb : notIn i bor = true) (hbt : borOk bor τ τ0 = true) : EvS X bor τ0 τ τ' τl tr (.Return (some (.Name x pp)) pos) (retOF i) :=
  evS_retO (hX.nm hN) (hX.vis hv) ht hi (notIn_ok hb) (borOk_ok hbt) (nmB_d hn) (nmB_c hn)
theorem xS_for (hX : XOk X P w K mg base k N sc fn) (hi : EvI X τ p false tg iter src) (hg : EvG X τ vs tg asg) (hb : EvSs X bor τ0 τ τ τ tr body fb') (hs : ∀ x, foldedSetIterable iter X.env x = pure x) : EvS X bor τ0 τ τ τl tr (.For tg iter body [] pos) (forS src asg fb') :=
  evS_for hX.pass hX.calm hi hg hb hs
theorem xS_forApp {py py2 px apos cpos epos cp pos : Pos} {n : Int} {kk : Nat} (hX : XOk X P w K mg base k N sc fn) (hN : N[i]? = some x) (hv : visB sc x = true) (hn : nmB x = true) (hN2 : N[j]? = some y) (hv2 : visB sc y = true) (hl2 : locB sc y = true) (hf2 : (fn y || pureB sc y) = true) (hn2 : nmB y = true) (ht : τ.getD i .sh = .ls (.ls .sh)) (htj : τ.getD j .sh = .sh) (hi : i < τ.length) (hj : j < τ.length) (hb : notIn i bor = true)
    (hs : swapsWith (.Call (.Attribute (.Name y py2) "append" apos) [.Constant (.int n) kk cp] [] cpos) none epos.line X.env = pure false) (hst : starEach [.Constant (.int n) kk cp] X.env = [(false, eval (.Constant (.int n) kk cp) X.env)])
    (hfew : ((backTo cpos (starEach [.Constant (.int n) kk cp] X.env)).all (fun x => !x.1) && (backToKw cpos (keywordEach [] X.env)).all (fun x => x.1.isSome) && decide ([Expr.Constant (.int n) kk cp].length + ([] : List Keyword).length + (if ([] : List Keyword).isEmpty then 0 else 1) < 30)) = true)
    (hline : (apos.endLine == cpos.line) = true) : EvS X bor τ0 τ (τ.set i .sh) τl tr (.For (.Name y py) (.Name x px) [.Expr (.Call (.Attribute (.Name y py2) "append" apos) [.Constant (.int n) kk cp] [] cpos) epos] [] pos) (appAllS i j) :=
  evS_forApp hX.pass hX.calm hX.ndup (hX.nm hN) (hX.vis hv) (nmB_d hn) (nmB_c hn) (hX.nm hN2) (hX.vis hv2) (hX.loc hl2) (hX.put hf2) (nmB_d hn2) (nmB_c hn2) ht htj hi hj (notIn_ok hb) hs hst hfew hline
theorem xS_appIx {px cp1 spos apos cpos cp pos : Pos} {n0 n : Int} {kk0 kk : Nat} (hX : XOk X P w K mg base k N sc fn) (hN : N[i]? = some x) (hv : visB sc x = true) (hn : nmB x = true) (ht : τ.getD i .sh = .ls (.ls .sh)) (hi : i < τ.length) (hb : notIn i bor = true) (hpl : PlainIx (.Constant (.int n0) kk0 cp1))
    (hbase : attributeBase (.Subscript (.Name x px) (.Constant (.int n0) kk0 cp1) spos) "append" X.env (eval (.Subscript (.Name x px) (.Constant (.int n0) kk0 cp1) spos) X.env) = eval (.Subscript (.Name x px) (.Constant (.int n0) kk0 cp1) spos) X.env)
    (hs : swapsWith (.Call (.Attribute (.Subscript (.Name x px) (.Constant (.int n0) kk0 cp1) spos) "append" apos) [.Constant (.int n) kk cp] [] cpos) none pos.line X.env = pure false) (hst : starEach [.Constant (.int n) kk cp] X.env = [(false, eval (.Constant (.int n) kk cp) X.env)])
    (hfew : ((backTo cpos (starEach [.Constant (.int n) kk cp] X.env)).all (fun x => !x.1) && (backToKw cpos (keywordEach [] X.env)).all (fun x => x.1.isSome) && decide ([Expr.Constant (.int n) kk cp].length + ([] : List Keyword).length + (if ([] : List Keyword).isEmpty then 0 else 1) < 30)) = true)
    (hline : (apos.endLine == cpos.line) = true) : EvS X bor τ0 τ (τ.set i .sh) τl tr (.Expr (.Call (.Attribute (.Subscript (.Name x px) (.Constant (.int n0) kk0 cp1) spos) "append" apos) [.Constant (.int n) kk cp] [] cpos) pos) (appIxS i n0) :=
  evS_appIx (hX.nm hN) (hX.vis hv) (nmB_d hn) (nmB_c hn) ht hi (notIn_ok hb) hpl hbase hs hst hfew hline
end

/-- a module's constant: one value, whatever the heap -/
def Con (K : PySem.W.Frag) (mg : Str → Option Value) (x : Str) (d : PyData) : Prop := ∃ (u : Value) (v : V), mg x = some u ∧ RelV v u ∧ ∀ H W, Rp K H W v d
theorem x_con {X : Cx} {P : Program} {w : World} {K : PySem.W.Frag} {mg : Str → Option Value} {base : Heap} {k : Nat} {N : List Str} {sc : Scope} {fn : Str → Bool} {τ : List OT} {x : Str} {pos : Pos} {d : PyData} (hX : XOk X P w K mg base k N sc fn) (hg : glB sc x = true) (hc : Con K mg x d) (hn : nmB x = true) :
    EvM X τ true (.ow .sh) (.Name x pos) (conF d) := by
  obtain ⟨u, v, h1, h2, h3⟩ := hc
  exact x_glob hX hg h1 h2 h3 hn
theorem con_str {K : PySem.W.Frag} {mg : Str → Option Value} {x z : Str} (h : ∃ t, mg x = some (.str z t)) : Con K mg x (.str z) := by
  obtain ⟨t, h⟩ := h
  exact ⟨_, .str z, h, ⟨t, rfl⟩, fun _ _ => .str _⟩
theorem con_int {K : PySem.W.Frag} {mg : Str → Option Value} {x : Str} {i : Int} (h : ∃ t, mg x = some (.int i t)) : Con K mg x (.int i) := by
  obtain ⟨t, h⟩ := h
  exact ⟨_, .int i, h, ⟨t, rfl⟩, fun _ _ => .int _⟩
theorem con_tup {K : PySem.W.Frag} {mg : Str → Option Value} {x : Str} {a : Addr} {xs : List V} {ds : List PyData} (h : mg x = some (.ref a)) (hs : ∀ H, SqT K H a xs) (hr : ∀ H W, RpA K H W xs ds) : Con K mg x (.tuple ds) := by
  refine ⟨_, .ref a, h, rfl, fun H W => .tup (.inr ?_) (hr H W)⟩
  rcases hs (fun _ => none) with (z | ⟨o, z⟩) | z
  · cases z
  · cases z
  · exact z
theorem funD_eq {K : PySem.W.Frag} {x qual : Str} {params : Arguments} {body : List Stmt} {scope : Scope} {dvs : List V} {kws : List (Str × V)} {f : Addr} {fd fd' : FuncData} (F : FunD K x qual params body scope dvs kws f fd) (F' : FunD K x qual params body scope dvs kws f fd') : fd = fd' := by
  obtain ⟨_, _, _, _, _, _, _, _, _, _, _, l1, _⟩ := F.ex
  obtain ⟨_, _, _, _, _, _, _, _, _, _, _, l2, _⟩ := F'.ex
  rw [l1] at l2
  simp at l2
  exact l2.2.2.1
def badF : M PyData := fun _ => none
def badS : Env → Option Fl := fun _ => none

/-! ### EE. a def of the text -/
section
variable {P : Program} {w : World} {K : PySem.W.Frag} {mg : Str → Option Value} {base : Heap} {k : Nat} {N ps : List Str} {own τ' : List OT} {ret : OT} {fb : Env → Option Fl} {x : Str} {params : Arguments} {body : List Stmt} {scope : Scope}
def ownOk (own : List OT) : Bool := own.all fun t => decide (t = .sh ∨ t = .ls .sh)
theorem ownOk_ok (h : ownOk own = true) (i : Nat) : own.getD i .sh = .sh ∨ own.getD i .sh = .ls .sh := by
  rw [List.getD_eq_getElem?_getD]
  cases e : own[i]? with
  | none => exact .inl rfl
  | some z => exact of_decide_eq_true (List.all_eq_true.mp h z (List.mem_of_getElem? e))
/-- where a def stands, by name -/
structure DefAt (K : PySem.W.Frag) (mg : Str → Option Value) (x : Str) (params : Arguments) (body : List Stmt) (scope : Scope) : Prop where
  ex : ∃ f fd, FunD K x x params body scope [] [] f fd ∧ mg x = some (.ref f)
/-- a def's promise, with its object -/
structure HasFull (P : Program) (w : World) (K : PySem.W.Frag) (mg : Str → Option Value) (base : Heap) (k : Nat) (x : Str) (params : Arguments) (body : List Stmt) (scope : Scope) (ps : List Str) (own : List OT) (ret : OT) (c : FnSem) : Prop where
  ex : ∃ f fd, FunD K x x params body scope [] [] f fd ∧ mg x = some (.ref f) ∧ FnOk P w K mg base CX0 k f fd ps (spF K own ret c) ∧ Binds K fd ps []
/-- every parameter is given, by place -/
abbrev BindP (x : Str) (params : Arguments) (body : List Stmt) (scope : Scope) (ps : List Str) : Prop := ∀ (kV doc pm : Value) (an : Option Addr) (cdv ct : Value) (us : List Value), us.length = ps.length → bindArgs (PySem.W.fnOf x x params body scope .none kV doc pm an cdv ct) ⟨us, []⟩ = pure (ps.zip us)
abbrev BindK (x : Str) (params : Arguments) (body : List Stmt) (scope : Scope) (ps ks : List Str) (ix : List Nat) : Prop := ∀ (kV doc pm : Value) (an : Option Addr) (cdv ct : Value) (ws : List Value), ws.length = ks.length → bindArgs (PySem.W.fnOf x x params body scope .none kV doc pm an cdv ct) ⟨[], ks.zip ws⟩ = pure (ps.zip (perm ix ws))
variable {c : FnSem}
theorem has_full (D : DefAt K mg x params body scope) (S : FnScope N ps scope) (hl : own.length = ps.length) (hown : ownOk own = true) (ht : borOk (borOf own) τ' own = true) (hbind : BindP x params body scope ps)
    (hb : ∀ X : Cx, XOk X P w K mg base k N scope (fun _ => true) → EvSs X (borOf own) (own ++ List.replicate (N.length - own.length) .sh) (own ++ List.replicate (N.length - own.length) .sh) τ' (own ++ List.replicate (N.length - own.length) .sh) ret body fb) :
    HasFull P w K mg base (k + 1) x params body scope ps own ret (runB own ret N.length fb) := by
  obtain ⟨f, fd, F, hm⟩ := D.ex
  exact ⟨⟨f, fd, F, hm, fn_ok F S hl (ownOk_ok hown) (fun _ _ h => h) (borOk_ok ht) hb, FunD.bindsN (ps := ps) F hbind⟩⟩
/-- nothing is known of its answers -/
theorem has_none (D : DefAt K mg x params body scope) (S : FnScope N ps scope) (hl : own.length = ps.length) (hown : ownOk own = true) (hbind : BindP x params body scope ps) : HasFull P w K mg base (k + 1) x params body scope ps own ret (fun _ => none) := by
  obtain ⟨f, fd, F, hm⟩ := D.ex
  exact ⟨⟨f, fd, F, hm, fn_ok (k := k) (τ' := own) (fb := fun _ => none) F S hl (ownOk_ok hown) (fun _ _ h => nomatch h) (fun _ _ => rfl) (fun X hX => evSs_bad), FunD.bindsN (ps := ps) F hbind⟩⟩
theorem HasFull.fn (h : HasFull P w K mg base k x params body scope ps own ret c) : HasFn P w K mg base k x ps own ret c := by
  obtain ⟨f, fd, F, hm, G, b⟩ := h.ex
  exact ⟨⟨f, fd, G, hm, F.kp, b⟩⟩
theorem HasFull.kw {ks : List Str} {ix : List Nat} (h : HasFull P w K mg base k x params body scope ps own ret c) (hb : BindK x params body scope ps ks ix) : HasFnK P w K mg base k x ps ks ix own ret c := by
  obtain ⟨f, fd, F, hm, G, b⟩ := h.ex
  exact ⟨⟨f, fd, G, hm, F.kp, FunD.kbn F hb⟩⟩
end
end Ev

set_option Elab.async false
set_option linter.all false
set_option maxRecDepth 100000
set_option maxHeartbeats 4000000
namespace Ev
open PySem PySem.Spec PyProof.Rows L2

/-! ### FF. what the combinators do, one step each -/
section
variable {α : Type} {fa fb fc f : M PyData} {g g' : PyData → PyData → Option PyData} {env e1 e2 e3 : Env} {x y z d : PyData} {fr : M (List PyData)} {b : Bool}
theorem conF_e : conF d env = some (d, env) := rfl
theorem nilF_e : nilF env = some ([], env) := rfl
theorem noO_e : noO env = some (none, env) := rfl
theorem yesF_e : yesF env = some (true, env) := rfl
theorem varF_e {i : Nat} (h : env[i]? = some (some d)) : varF i env = some (d, env) := by unfold varF; rw [h]; rfl
theorem bind2_e {h : PyData → PyData → Option α} {r : α} (h1 : fa env = some (x, e1)) (h2 : fb e1 = some (y, e2)) (h3 : h x y = some r) : bind2 fa fb h env = some (r, e2) := by
  unfold bind2; rw [h1]; simp only [Option.bind_some]; rw [h2]; simp only [Option.bind_some]; rw [h3]; rfl
theorem mapM_e {β : Type} {m : M α} {h : α → Option β} {a : α} {r : β} (h1 : m env = some (a, e1)) (h2 : h a = some r) : mapM m h env = some (r, e1) := by
  unfold mapM; rw [h1]; simp only [Option.bind_some]; rw [h2]; rfl
theorem mapF_e {h : PyData → Option PyData} (h1 : f env = some (x, e1)) (h2 : h x = some y) : mapF f h env = some (y, e1) := mapM_e h1 h2
theorem consF_e {l : List PyData} (h1 : f env = some (x, e1)) (h2 : fr e1 = some (l, e2)) : consF f fr env = some (x :: l, e2) := by
  unfold consF; rw [h1]; simp only [Option.bind_some]; rw [h2]; rfl
theorem asB_e (h : f env = some (.bool b, e1)) : asB f env = some (b, e1) := asB_of h
theorem andF_t (h1 : fa env = some (.bool true, e1)) (h2 : fb e1 = some (y, e2)) : andF fa fb env = some (y, e2) := by unfold andF; rw [asB_of h1]; exact h2
theorem andF_f (h1 : fa env = some (.bool false, e1)) : andF fa fb env = some (.bool false, e1) := by unfold andF; rw [asB_of h1]
theorem orF_t (h1 : fa env = some (.bool true, e1)) : orF fa fb env = some (.bool true, e1) := by unfold orF; rw [asB_of h1]
theorem orF_f (h1 : fa env = some (.bool false, e1)) (h2 : fb e1 = some (y, e2)) : orF fa fb env = some (y, e2) := by unfold orF; rw [asB_of h1]; exact h2
theorem notF_e (h1 : fa env = some (.bool b, e1)) : notF fa env = some (.bool (!b), e1) := by unfold notF; rw [asB_of h1]; rfl
theorem iteF_t (h1 : fc env = some (.bool true, e1)) (h2 : fa e1 = some (y, e2)) : iteF fc fa fb env = some (y, e2) := by unfold iteF; rw [asB_of h1]; exact h2
theorem iteF_f (h1 : fc env = some (.bool false, e1)) (h2 : fb e1 = some (y, e2)) : iteF fc fa fb env = some (y, e2) := by unfold iteF; rw [asB_of h1]; exact h2
theorem chainF_t (h1 : fa env = some (x, e1)) (h2 : fb e1 = some (y, e2)) (h3 : g x y = some (.bool true)) (h4 : fc e2 = some (z, e3)) (h5 : g' y z = some d) : chainF fa fb fc g g' env = some (d, e3) := by
  unfold chainF; rw [h1]; simp only [Option.bind_some]; rw [h2]; simp only [Option.bind_some]; rw [h3]; simp only [h4, Option.bind_some, h5, Option.map_some]
theorem chainF_f (h1 : fa env = some (x, e1)) (h2 : fb e1 = some (y, e2)) (h3 : g x y = some (.bool false)) : chainF fa fb fc g g' env = some (.bool false, e2) := by
  unfold chainF; rw [h1]; simp only [Option.bind_some]; rw [h2]; simp only [Option.bind_some]; rw [h3]
variable {fs ft : Env → Option Fl} {fl : Fl} {i j : Nat}
theorem seqS_n (h1 : fs env = some (.nx e1)) (h2 : ft e1 = some fl) : seqS fs ft env = some fl := by unfold seqS; rw [h1]; exact h2
theorem seqS_r {d : PyData} (h1 : fs env = some (.rt d e1)) : seqS fs ft env = some (.rt d e1) := by unfold seqS; rw [h1]
theorem skipS_e : skipS env = some (.nx env) := rfl
theorem retS_e (h : f env = some (d, e1)) : retS f env = some (.rt d e1) := by unfold retS; rw [h]; rfl
theorem exprS_e (h : f env = some (d, e1)) : exprS f env = some (.nx e1) := by unfold exprS; rw [h]; rfl
theorem asgS_e (h : f env = some (d, e1)) : asgS i f env = some (.nx (e1.set i (some d))) := by unfold asgS; rw [h]; rfl
theorem asgG_e {fg : PyData → Env → Option Env} (h : f env = some (d, e1)) (h2 : fg d e1 = some e2) : asgG f fg env = some (.nx e2) := by unfold asgG; rw [h]; simp only [Option.bind_some]; rw [h2]; rfl
theorem parS_e (h : fr env = some ([x, y], e1)) : parS i j fr env = some (.nx ((e1.set i (some x)).set j (some y))) := by unfold parS; rw [h]; rfl
theorem ifS_t (h1 : fc env = some (.bool true, e1)) (h2 : fs e1 = some fl) : ifS fc fs ft env = some fl := by unfold ifS; rw [asB_of h1]; exact h2
theorem ifS_f (h1 : fc env = some (.bool false, e1)) (h2 : ft e1 = some fl) : ifS fc fs ft env = some fl := by unfold ifS; rw [asB_of h1]; exact h2
theorem forS_e {src : M (List PyData)} {asg : PyData → Env → Option Env} {body : Env → Option Fl} {ds : List PyData} (h : src env = some (ds, e1)) (h2 : goF asg body ds e1 = some fl) : forS src asg body env = some fl := by unfold forS; rw [h]; exact h2
theorem yesO_e {k : Int} (h : f env = some (.int k, e1)) : yesO f env = some (some k, e1) := mapM_e h rfl
theorem sliceF_e {fl fh : M (Option Int)} {l u : Option Int} (h1 : f env = some (x, e1)) (h2 : fl e1 = some (l, e2)) (h3 : fh e2 = some (u, e3)) (h4 : cutD l u x = some y) : sliceF f fl fh env = some (y, e3) := by
  unfold sliceF; rw [h1]; simp only [Option.bind_some]; rw [h2]; simp only [Option.bind_some]; rw [h3]; simp only [Option.bind_some]; rw [h4]; rfl
theorem seqAF_l {l : List PyData} (h : f env = some (.list l, e1)) : seqAF f env = some (l, e1) := by
  unfold seqAF; rw [mapM_e h (show itemsD (.list l) = some l from rfl)]; rfl
theorem seqAF_t {l : List PyData} (h : f env = some (.tuple l, e1)) : seqAF f env = some (l, e1) := by
  unfold seqAF; rw [mapM_e h (show itemsD (.tuple l) = some l from rfl)]; rfl
theorem enumAF_l {l : List PyData} (h : fr env = some ([.list l], e1)) : enumAF fr env = some (enumFrom 0 l, e1) := by
  unfold enumAF; rw [mapM_e h (show enumD [.list l] = some (enumFrom 0 l) from rfl)]; rfl
theorem enumAF_t {l : List PyData} (h : fr env = some ([.tuple l], e1)) : enumAF fr env = some (enumFrom 0 l, e1) := by
  unfold enumAF
  have e : mapM fr enumD env = none := by unfold mapM; rw [h]; rfl
  rw [e, mapM_e h (show enumTD [.tuple l] = some (enumFrom 0 l) from rfl)]; rfl
/-! comprehensions whose block leaves the slots as they are -/
theorem goC_pure {β : Type} {asg : PyData → Env → Option Env} {cond : M Bool} {elt : M PyData} {vs : List Nat} {enc : β → PyData} {p : β → Bool} {h : β → PyData} : ∀ {l : List β},
    (∀ a ∈ l, ∃ e1 e2, asg (enc a) env = some e1 ∧ cond e1 = some (p a, e2) ∧ (p a = false → wipeE e2 vs = env) ∧ (p a = true → ∃ e3, elt e2 = some (h a, e3) ∧ wipeE e3 vs = env)) → goC asg cond elt vs (l.map enc) env = some ((l.filter p).map h, env)
  | [], _ => rfl
  | a :: l, hl => by
    obtain ⟨e1, e2, h1, h2, h3, h4⟩ := hl a List.mem_cons_self
    have ih := goC_pure (l := l) fun b hb => hl b (List.mem_cons_of_mem _ hb)
    rw [List.map_cons]
    unfold goC
    rw [h1]
    simp only [Option.bind_some]
    rw [h2]
    simp only [Option.bind_some]
    cases q : p a with
    | false =>
      rw [List.filter_cons_of_neg (by simp [q])]
      simp only
      rw [h3 q, ih]
    | true =>
      obtain ⟨e3, h5, h6⟩ := h4 q
      rw [List.filter_cons_of_pos q, List.map_cons]
      simp only
      rw [h5]
      simp only [Option.bind_some]
      rw [h6, ih]
      rfl
theorem compF_pure {β : Type} {src : M (List PyData)} {asg : PyData → Env → Option Env} {cond : M Bool} {elt : M PyData} {vs : List Nat} {enc : β → PyData} {p : β → Bool} {h : β → PyData} {l : List β} (hs : src env = some (l.map enc, e1)) (hz : l.length ≤ sizeLine)
    (hl : ∀ a ∈ l, ∃ e2 e3, asg (enc a) (wipeE e1 vs) = some e2 ∧ cond e2 = some (p a, e3) ∧ (p a = false → wipeE e3 vs = wipeE e1 vs) ∧ (p a = true → ∃ e4, elt e3 = some (h a, e4) ∧ wipeE e4 vs = wipeE e1 vs)) : compF true src asg cond elt vs env = some (.list ((l.filter p).map h), e1) := by
  unfold compF
  rw [hs]
  simp only [Option.bind_some]
  rw [goC_pure hl]
  simp only [Option.bind_some]
  have : szOk (l.map enc) = true := decide_eq_true (by rw [List.length_map]; exact hz)
  rw [if_pos this]
  rfl
theorem go2_pure {β γ : Type} {asg asg1 : PyData → Env → Option Env} {cond cond1 : M Bool} {src1 : M (List PyData)} {elt : M PyData} {vs vs1 : List Nat} {enc : β → PyData} {enc1 : γ → PyData} {h : γ → PyData} {rows : β → List γ} : ∀ {l : List β},
    (∀ a ∈ l, ∃ e1 e2 e3, asg (enc a) env = some e1 ∧ cond e1 = some (true, e2) ∧ src1 e2 = some ((rows a).map enc1, e3) ∧ wipeE (wipeE e3 vs1) vs = env ∧
      ∀ c ∈ rows a, ∃ f1 f2 f3, asg1 (enc1 c) (wipeE e3 vs1) = some f1 ∧ cond1 f1 = some (true, f2) ∧ elt f2 = some (h c, f3) ∧ wipeE f3 vs1 = wipeE e3 vs1) → go2 asg cond src1 asg1 cond1 elt vs vs1 (l.map enc) env = some ((l.flatMap rows).map h, env)
  | [], _ => rfl
  | a :: l, hl => by
    obtain ⟨e1, e2, e3, h1, h2, h3, h4, h5⟩ := hl a List.mem_cons_self
    have ih := go2_pure (l := l) fun b hb => hl b (List.mem_cons_of_mem _ hb)
    rw [List.map_cons]
    unfold go2
    rw [h1]
    simp only [Option.bind_some]
    rw [h2]
    simp only [Option.bind_some]
    rw [h3]
    simp only [Option.bind_some]
    rw [goC_pure (p := fun _ => true) (h := h) fun c hc => by
      obtain ⟨f1, f2, f3, g1, g2, g3, g4⟩ := h5 c hc
      exact ⟨f1, f2, g1, g2, (fun z => nomatch z), fun _ => ⟨f3, g3, g4⟩⟩]
    simp only [Option.bind_some]
    have ef : (rows a).filter (fun _ => true) = rows a := List.filter_eq_self.mpr (by simp)
    rw [h4, ih, ef, List.flatMap_cons, List.map_append]
    rfl
theorem comp2F_pure {β γ : Type} {src src1 : M (List PyData)} {asg asg1 : PyData → Env → Option Env} {cond cond1 : M Bool} {elt : M PyData} {vs vs1 : List Nat} {enc : β → PyData} {enc1 : γ → PyData} {h : γ → PyData} {rows : β → List γ} {l : List β} (hs : src env = some (l.map enc, e1)) (hz : (l.flatMap rows).length ≤ sizeLine)
    (hl : ∀ a ∈ l, ∃ e2 e3 e4, asg (enc a) (wipeE e1 vs) = some e2 ∧ cond e2 = some (true, e3) ∧ src1 e3 = some ((rows a).map enc1, e4) ∧ wipeE (wipeE e4 vs1) vs = wipeE e1 vs ∧
      ∀ c ∈ rows a, ∃ f1 f2 f3, asg1 (enc1 c) (wipeE e4 vs1) = some f1 ∧ cond1 f1 = some (true, f2) ∧ elt f2 = some (h c, f3) ∧ wipeE f3 vs1 = wipeE e4 vs1) : comp2F src asg cond src1 asg1 cond1 elt vs vs1 env = some (.list ((l.flatMap rows).map h), e1) := by
  unfold comp2F
  rw [hs]
  simp only [Option.bind_some]
  rw [go2_pure hl]
  simp only [Option.bind_some]
  have : szOk ((l.flatMap rows).map h) = true := decide_eq_true (by rw [List.length_map]; exact hz)
  rw [if_pos this]
/-! defs -/
variable {own : List OT} {ret : OT} {n : Nat}
theorem outsOf_sh (h : allSh own = true) (env : Env) : ∀ (ds : List PyData) (i : Nat), outsOf own env ds i = some ds
  | [], _ => rfl
  | d :: ds, i => by
    unfold outsOf
    rw [allSh_ok h i, outsOf_sh h env ds (i + 1)]
    rfl
theorem run_rt {ds : List PyData} (h : allSh own = true) (hl : ds.length = own.length) (hf : fs (ds.map some ++ List.replicate (n - ds.length) none) = some (.rt d e1)) : runB own ret n fs ds = some (d, ds) := by
  unfold runB
  rw [if_pos hl, hf]
  simp only
  rw [outsOf_sh h]
  rfl
theorem run_nx {ds : List PyData} (h : allSh own = true) (hl : ds.length = own.length) (hf : fs (ds.map some ++ List.replicate (n - ds.length) none) = some (.nx e1)) : runB own .sh n fs ds = some (.none, ds) := by
  unfold runB
  rw [if_pos hl, hf]
  simp only
  rw [if_pos trivial, outsOf_sh h]
  rfl
theorem callF_e {c : FnSem} {ds outs : List PyData} (h : c ds = some (d, outs)) : callF c ds = some d := by unfold callF; rw [h]; rfl
/-- with the generator lent -/
theorem run_lent {l l' : List PyData} {ds : List PyData} {k : Nat} (hk : ds.length = k) (hf : fs ((PyData.list l :: ds).map some ++ List.replicate (n - (k + 1)) none) = some (.rt d e1)) (he : e1[0]? = some (some (.list l'))) : runB (.ls .sh :: List.replicate k .sh) ret n fs (.list l :: ds) = some (d, .list l' :: ds) := by
  unfold runB
  rw [if_pos (by simp [hk])]
  have : (PyData.list l :: ds).length = k + 1 := by simp [hk]
  rw [this, hf]
  simp only
  unfold outsOf
  have e0 : (OT.ls .sh :: List.replicate k OT.sh).getD 0 .sh = .ls .sh := rfl
  rw [e0]
  simp only
  rw [he]
  simp only
  have aux : ∀ (ds : List PyData) (i : Nat), outsOf (.ls .sh :: List.replicate k .sh) e1 ds (i + 1) = some ds := by
    intro ds
    induction ds with
    | nil => intro i; rfl
    | cons d ds ih =>
      intro i
      unfold outsOf
      have e1 : (OT.ls .sh :: List.replicate k OT.sh).getD (i + 1) .sh = .sh := by
        rw [List.getD_eq_getElem?_getD, List.getElem?_cons_succ, List.getElem?_replicate]
        split <;> rfl
      rw [e1, ih (i + 1)]
      rfl
  rw [aux ds 0]
  rfl
theorem lendF_e {c : FnSem} {l l' ds rest : List PyData} (h0 : listAt env j = some l) (h1 : fr env = some (ds, e1)) (h2 : listAt e1 j = some l) (h3 : c (.list l :: ds) = some (d, .list l' :: rest)) : lendF j fr c env = some (d, e1.set j (some (.list l'))) := by
  unfold lendF
  rw [h0]
  simp only [Option.bind_some]
  rw [h1]
  simp only [Option.bind_some]
  rw [h2]
  simp only [Option.bind_some]
  rw [h3]
end
end Ev

set_option Elab.async false
set_option linter.all false
set_option maxRecDepth 100000
set_option maxHeartbeats 4000000
namespace Ev
open PySem PySem.Spec PyProof.Rows L2

/-! ### GG. kinds of data -/
def isL : PyData → Bool
  | .list _ => true
  | _ => false
def isT : PyData → Bool
  | .tuple _ => true
  | _ => false
def isS : PyData → Bool
  | .str _ => true
  | _ => false
def isBl : PyData → Bool
  | .bool _ => true
  | _ => false
def isI : PyData → Bool
  | .int _ => true
  | .bool _ => true
  | _ => false
def isDc : PyData → Bool
  | .dict _ => true
  | _ => false
theorem kit_l (d : PyData) : kitB (tyN d) "list" = some (isL d) := by
  cases d with
  | none => exact (show kitB "NoneType" "list" = some false by decide +kernel)
  | bool b => exact (show kitB "bool" "list" = some false by decide +kernel)
  | int i => exact (show kitB "int" "list" = some false by decide +kernel)
  | str x => exact (show kitB "str" "list" = some false by decide +kernel)
  | list l => exact (show kitB "list" "list" = some true by decide +kernel)
  | tuple l => exact (show kitB "tuple" "list" = some false by decide +kernel)
  | dict l => exact (show kitB "dict" "list" = some false by decide +kernel)
theorem isi_l (d : PyData) : isiD "list" d = some (.bool (isL d)) := by unfold isiD; rw [kit_l]; rfl
theorem kit_t (d : PyData) : kitB (tyN d) "tuple" = some (isT d) := by
  cases d with
  | none => exact (show kitB "NoneType" "tuple" = some false by decide +kernel)
  | bool b => exact (show kitB "bool" "tuple" = some false by decide +kernel)
  | int i => exact (show kitB "int" "tuple" = some false by decide +kernel)
  | str x => exact (show kitB "str" "tuple" = some false by decide +kernel)
  | list l => exact (show kitB "list" "tuple" = some false by decide +kernel)
  | tuple l => exact (show kitB "tuple" "tuple" = some true by decide +kernel)
  | dict l => exact (show kitB "dict" "tuple" = some false by decide +kernel)
theorem isi_t (d : PyData) : isiD "tuple" d = some (.bool (isT d)) := by unfold isiD; rw [kit_t]; rfl
theorem kit_s (d : PyData) : kitB (tyN d) "str" = some (isS d) := by
  cases d with
  | none => exact (show kitB "NoneType" "str" = some false by decide +kernel)
  | bool b => exact (show kitB "bool" "str" = some false by decide +kernel)
  | int i => exact (show kitB "int" "str" = some false by decide +kernel)
  | str x => exact (show kitB "str" "str" = some true by decide +kernel)
  | list l => exact (show kitB "list" "str" = some false by decide +kernel)
  | tuple l => exact (show kitB "tuple" "str" = some false by decide +kernel)
  | dict l => exact (show kitB "dict" "str" = some false by decide +kernel)
theorem isi_s (d : PyData) : isiD "str" d = some (.bool (isS d)) := by unfold isiD; rw [kit_s]; rfl
theorem kit_b (d : PyData) : kitB (tyN d) "bool" = some (isBl d) := by
  cases d with
  | none => exact (show kitB "NoneType" "bool" = some false by decide +kernel)
  | bool b => exact (show kitB "bool" "bool" = some true by decide +kernel)
  | int i => exact (show kitB "int" "bool" = some false by decide +kernel)
  | str x => exact (show kitB "str" "bool" = some false by decide +kernel)
  | list l => exact (show kitB "list" "bool" = some false by decide +kernel)
  | tuple l => exact (show kitB "tuple" "bool" = some false by decide +kernel)
  | dict l => exact (show kitB "dict" "bool" = some false by decide +kernel)
theorem isi_b (d : PyData) : isiD "bool" d = some (.bool (isBl d)) := by unfold isiD; rw [kit_b]; rfl
theorem kit_i (d : PyData) : kitB (tyN d) "int" = some (isI d) := by
  cases d with
  | none => exact (show kitB "NoneType" "int" = some false by decide +kernel)
  | bool b => exact (show kitB "bool" "int" = some true by decide +kernel)
  | int i => exact (show kitB "int" "int" = some true by decide +kernel)
  | str x => exact (show kitB "str" "int" = some false by decide +kernel)
  | list l => exact (show kitB "list" "int" = some false by decide +kernel)
  | tuple l => exact (show kitB "tuple" "int" = some false by decide +kernel)
  | dict l => exact (show kitB "dict" "int" = some false by decide +kernel)
theorem isi_i (d : PyData) : isiD "int" d = some (.bool (isI d)) := by unfold isiD; rw [kit_i]; rfl
theorem kit_d (d : PyData) : kitB (tyN d) "dict" = some (isDc d) := by
  cases d with
  | none => exact (show kitB "NoneType" "dict" = some false by decide +kernel)
  | bool b => exact (show kitB "bool" "dict" = some false by decide +kernel)
  | int i => exact (show kitB "int" "dict" = some false by decide +kernel)
  | str x => exact (show kitB "str" "dict" = some false by decide +kernel)
  | list l => exact (show kitB "list" "dict" = some false by decide +kernel)
  | tuple l => exact (show kitB "tuple" "dict" = some false by decide +kernel)
  | dict l => exact (show kitB "dict" "dict" = some true by decide +kernel)
theorem isi_d (d : PyData) : isiD "dict" d = some (.bool (isDc d)) := by unfold isiD; rw [kit_d]; rfl
theorem isi_lt (d : PyData) : isi2D "list" "tuple" d = some (.bool (isL d || isT d)) := by
  unfold isi2D
  rw [kit_l, kit_t]
  cases isL d <;> rfl
/-! position and item -/
def encP (p : PyData × Nat) : PyData := .tuple [.int (p.2 : Nat), p.1]
theorem enumFrom_map : ∀ (ds : List PyData) (k : Nat), enumFrom k ds = (ds.zipIdx k).map encP
  | [], _ => rfl
  | d :: ds, k => by
    rw [List.zipIdx_cons, List.map_cons]
    show _ :: enumFrom (k + 1) ds = _
    rw [enumFrom_map ds (k + 1)]
    rfl
theorem zip_at {ds : List PyData} {p : PyData × Nat} (h : p ∈ ds.zipIdx) : ds[p.2]? = some p.1 := List.mem_zipIdx_iff_getElem?.mp h
theorem ixL {ds : List PyData} {i : Nat} {d : PyData} (h : ds[i]? = some d) : ixD (.list ds) (.int (i : Nat)) = some d := atI_nat h
theorem ixT {ds : List PyData} {i : Nat} {d : PyData} (h : ds[i]? = some d) : ixD (.tuple ds) (.int (i : Nat)) = some d := atI_nat h
/-! == of atoms -/
theorem beq_eq_decide {α : Type} [DecidableEq α] [BEq α] [LawfulBEq α] (i j : α) : (i == j) = decide (i = j) := by
  by_cases h : i = j
  · subst h; simp
  · rw [decide_eq_false h]; simpa using h
theorem eqD_i (i j : Int) : eqD (.int i) (.int j) = some (.bool (decide (i = j))) := by
  unfold eqD eqOk
  simp [PyData.plain, PyData.depth, PyData.eqv]
  rw [beq_eq_decide]
theorem neD_i (i j : Int) : neD (.int i) (.int j) = some (.bool (!decide (i = j))) := by
  unfold neD eqOk
  simp [PyData.plain, PyData.depth, PyData.eqv]
  rw [beq_eq_decide]
theorem eqD_s (i j : Str) : eqD (.str i) (.str j) = some (.bool (decide (i = j))) := by
  unfold eqD eqOk
  simp [PyData.plain, PyData.depth, PyData.eqv]
  rw [beq_eq_decide]
theorem eqD_b (i j : Bool) : eqD (.bool i) (.bool j) = some (.bool (i == j)) := by
  unfold eqD eqOk
  simp [PyData.plain, PyData.depth, PyData.eqv]
theorem neD_b (i j : Bool) : neD (.bool i) (.bool j) = some (.bool (!(i == j))) := by
  unfold neD eqOk
  simp [PyData.plain, PyData.depth, PyData.eqv]
/-- xs == [] -/
theorem eqD_nil {l : List PyData} (h : PyData.plainAll l = true) (hd : (PyData.list l).depth ≤ 64) : eqD (.list l) (.list []) = some (.bool l.isEmpty) := by
  unfold eqD eqOk
  rw [if_pos (by simp [PyData.plain, PyData.plainAll, h, hd])]
  cases l <;> simp [PyData.eqv, PyData.eqvAll]
theorem neD_nil {l : List PyData} (h : PyData.plainAll l = true) (hd : (PyData.list l).depth ≤ 64) : neD (.list l) (.list []) = some (.bool (!l.isEmpty)) := by
  unfold neD eqOk
  rw [if_pos (by simp [PyData.plain, PyData.plainAll, h, hd])]
  cases l <;> simp [PyData.eqv, PyData.eqvAll]
theorem mkL_e {l : List PyData} (h : l.length ≤ sizeLine) : mkL l = some (.list l) := by unfold mkL; rw [show szOk l = true from decide_eq_true h]; rfl
theorem mkT_e {l : List PyData} (h : l.length ≤ sizeLine) : mkT l = some (.tuple l) := by unfold mkT; rw [show szOk l = true from decide_eq_true h]; rfl
theorem ltD_i (i j : Int) : ltD (.int i) (.int j) = some (.bool (decide (i < j))) := by
  unfold ltD ordD ordOk
  rw [if_pos (by simp [PySem.W.alike, PyData.plain, PyData.depth])]
  show some (PyData.bool (PySem.W.dataLt (.int i) (.int j))) = _
  rw [PySem.W.dataLt_int]
theorem gtD_i (i j : Int) : gtD (.int i) (.int j) = some (.bool (decide (j < i))) := by
  unfold gtD ordD ordOk
  rw [if_pos (by simp [PySem.W.alike, PyData.plain, PyData.depth])]
  show some (PyData.bool (PySem.W.dataLt (.int j) (.int i))) = _
  rw [PySem.W.dataLt_int]
theorem leD_i (i j : Int) : leD (.int i) (.int j) = some (.bool (decide (i ≤ j))) := by
  unfold leD ordD ordOk
  rw [if_pos (by simp [PySem.W.alike, PyData.plain, PyData.depth])]
  show some (PyData.bool (!PySem.W.dataLt (.int j) (.int i))) = _
  rw [PySem.W.dataLt_int]
  congr 2
  by_cases h : i ≤ j
  · rw [decide_eq_true h, decide_eq_false (by omega)]; rfl
  · rw [decide_eq_false h, decide_eq_true (by omega)]; rfl
theorem boolsOf_true {β : Type} : ∀ l : List β, boolsOf (l.map fun _ => PyData.bool true) = some (l.map fun _ => true)
  | [] => rfl
  | _ :: l => by
    show (boolsOf (l.map fun _ => PyData.bool true)).map (true :: ·) = _
    rw [boolsOf_true l]; rfl
theorem allD_true {β : Type} (l : List β) : allD [.list (l.map fun _ => PyData.bool true)] = some (.bool true) := by
  show (boolsOf (l.map fun _ => PyData.bool true)).map (fun bs => PyData.bool (bs.all id)) = _
  rw [boolsOf_true]
  show some (PyData.bool ((l.map fun _ => true).all id)) = _
  congr 2
  rw [List.all_map]
  simp
end Ev

set_option Elab.async false
set_option linter.all false
set_option maxRecDepth 100000
set_option maxHeartbeats 4000000
namespace Ev
open PySem PySem.Spec PyProof.Rows L2

/-! ### HH. sorting encoded things; each thing once -/
def srt {β : Type} (enc : β → PyData) (xs : List β) : List β := xs.mergeSort fun a b => dLe (enc a) (enc b)
theorem sort_enc {β : Type} (enc : β → PyData) (xs : List β) : sortD (xs.map enc) = (srt enc xs).map enc := (PySem.W.sort_maps (r := fun a b => dLe (enc a) (enc b)) (s := dLe) enc fun _ _ _ _ => rfl).symm
theorem srt_perm {β : Type} (enc : β → PyData) (xs : List β) : (srt enc xs).Perm xs := List.mergeSort_perm _ _
theorem srt_sorted {β : Type} (enc : β → PyData) (xs : List β) : (srt enc xs).Pairwise fun a b => dLe (enc a) (enc b) = true := List.pairwise_mergeSort (le := fun a b => dLe (enc a) (enc b)) (fun a b c => dLe_trans _ _ _) (fun a b => dLe_total _ _) xs
theorem srt_len {β : Type} (enc : β → PyData) (xs : List β) : (srt enc xs).length = xs.length := (srt_perm enc xs).length_eq
/-- an encoding whose order tells things apart -/
structure Enc {β : Type} [DecidableEq β] (enc : β → PyData) : Prop where
  toks : ∀ a b, PySem.W.keyToks (enc a) = PySem.W.keyToks (enc b) → a = b
  eqv : ∀ a b, PyData.eqv (enc a) (enc b) = decide (a = b)
  alike : ∀ a b, PySem.W.alike (enc a) (enc b) = true
  plain : ∀ a, (enc a).plain = true
  depth : ∀ a, (enc a).depth ≤ 10
  kind : (∀ a, tup1 (enc a) = true) ∨ (∀ a, notNT (enc a) = true)
section
variable {β : Type} [DecidableEq β] {enc : β → PyData}
theorem plainAll_map (h : ∀ a, (enc a).plain = true) : ∀ xs : List β, PyData.plainAll (xs.map enc) = true
  | [] => by simp [PyData.plainAll]
  | x :: xs => by
    rw [List.map_cons, PyData.plainAll, h x, plainAll_map h xs]
    rfl
theorem depthAll_map {k : Nat} (h : ∀ a, (enc a).depth ≤ k) : ∀ xs : List β, PyData.depthAll (xs.map enc) ≤ k + 1
  | [] => by simp [PyData.depthAll]
  | x :: xs => by
    have h1 := h x
    have h2 := depthAll_map h xs
    rw [List.map_cons, PyData.depthAll]
    omega
theorem Enc.sortOk (E : Enc enc) {xs : List β} (hz : xs.length ≤ sizeLine) : Ev.sortOk (xs.map enc) = true := by
  unfold Ev.sortOk
  simp only [Bool.and_eq_true, Bool.or_eq_true, List.all_eq_true, decide_eq_true_eq]
  refine ⟨fun x hx y hy => ?_, ?_, plainAll_map E.plain xs, fun x hx => ?_, ?_⟩
  · obtain ⟨a, _, rfl⟩ := List.mem_map.mp hx
    obtain ⟨b, _, rfl⟩ := List.mem_map.mp hy
    exact E.alike a b
  · refine E.kind.imp (fun h x hx => ?_) fun h x hx => ?_
    · obtain ⟨a, _, rfl⟩ := List.mem_map.mp hx
      exact h a
    · obtain ⟨a, _, rfl⟩ := List.mem_map.mp hx
      exact h a
  · obtain ⟨a, _, rfl⟩ := List.mem_map.mp hx
    have := E.depth a
    omega
  · exact decide_eq_true (by rw [List.length_map]; exact hz)
theorem Enc.sorted (E : Enc enc) {xs : List β} (hz : xs.length ≤ sizeLine) : sortedD [.list (xs.map enc)] = some (.list ((srt enc xs).map enc)) := by
  show (if Ev.sortOk (xs.map enc) = true then some (PyData.list (sortD (xs.map enc))) else none) = _
  rw [if_pos (E.sortOk hz), sort_enc]
/-- sorted without repeats: strictly rising -/
theorem Enc.strict (E : Enc enc) {xs : List β} (h : xs.Pairwise fun a b => dLe (enc a) (enc b) = true) (hn : xs.Nodup) : xs.Pairwise fun a b => PySem.W.dataLt (enc a) (enc b) = true := by
  have h2 := h.and hn
  refine h2.imp ?_
  rintro a b ⟨h1, h2⟩
  cases q : PySem.W.dataLt (enc a) (enc b) with
  | true => rfl
  | false =>
    have : dLe (enc b) (enc a) = true := by
      show (!PySem.W.dataLt (enc a) (enc b)) = true
      rw [q]; rfl
    exact (h2 (E.toks _ _ (dLe_anti h1 this))).elim
/-- two sorted lists of the same things are the same -/
theorem Enc.sort_eq (E : Enc enc) {xs ys : List β} (p : xs.Perm ys) (h : ys.Pairwise fun a b => dLe (enc a) (enc b) = true) : srt enc xs = ys := by
  refine List.Perm.eq_of_pairwise (le := fun a b => dLe (enc a) (enc b) = true) (fun a b _ _ h1 h2 => E.toks _ _ (dLe_anti h1 h2)) (srt_sorted enc xs) h ((srt_perm enc xs).trans p)
/-- each thing once, as first met -/
def nubT : List β → List β → List β
  | _, [] => []
  | seen, d :: ds => if d ∈ seen then nubT seen ds else d :: nubT (seen ++ [d]) ds
theorem Enc.nub (E : Enc enc) : ∀ (xs seen : List β), nubF (seen.map enc) (xs.map enc) = (nubT seen xs).map enc
  | [], _ => rfl
  | x :: xs, seen => by
    have e : (seen.map enc).any (fun y => PyData.eqv y (enc x)) = decide (x ∈ seen) := by
      rw [List.any_map, Bool.eq_iff_iff, List.any_eq_true, decide_eq_true_eq]
      constructor
      · rintro ⟨y, hy, h⟩
        have : decide (y = x) = true := by rw [← E.eqv]; exact h
        exact of_decide_eq_true this ▸ hy
      · intro h
        exact ⟨x, h, by show PyData.eqv (enc x) (enc x) = true; rw [E.eqv]; exact decide_eq_true rfl⟩
    show (if (seen.map enc).any (fun y => PyData.eqv y (enc x)) = true then nubF (seen.map enc) (xs.map enc) else enc x :: nubF (seen.map enc ++ [enc x]) (xs.map enc)) = List.map enc (if x ∈ seen then nubT seen xs else x :: nubT (seen ++ [x]) xs)
    rw [e]
    by_cases c : x ∈ seen
    · rw [if_pos (decide_eq_true c), if_pos c]; exact Enc.nub E xs seen
    · rw [if_neg (by simpa using c), if_neg c, List.map_cons]
      have := Enc.nub E xs (seen ++ [x])
      rw [List.map_append] at this
      exact congrArg (_ :: ·) this
theorem nubT_mem : ∀ (xs seen : List β) (j : β), j ∈ nubT seen xs ↔ j ∈ xs ∧ j ∉ seen
  | [], seen, j => by simp [nubT]
  | k :: ks, seen, j => by
    unfold nubT
    by_cases c : k ∈ seen
    · rw [if_pos c, nubT_mem ks seen j, List.mem_cons]
      constructor
      · exact fun h => ⟨.inr h.1, h.2⟩
      · rintro ⟨rfl | h, n⟩
        · exact (n c).elim
        · exact ⟨h, n⟩
    · rw [if_neg c, List.mem_cons, nubT_mem ks (seen ++ [k]) j, List.mem_cons, List.mem_append, List.mem_singleton]
      constructor
      · rintro (rfl | ⟨h, n⟩)
        · exact ⟨.inl rfl, c⟩
        · exact ⟨.inr h, fun z => n (.inl z)⟩
      · rintro ⟨rfl | h, n⟩
        · exact .inl rfl
        · by_cases e : j = k
          · exact .inl e
          · exact .inr ⟨h, fun z => z.elim n e⟩
theorem nubT_nodup : ∀ (xs seen : List β), (nubT seen xs).Nodup
  | [], seen => List.nodup_nil
  | k :: ks, seen => by
    unfold nubT
    by_cases c : k ∈ seen
    · rw [if_pos c]; exact nubT_nodup ks seen
    · rw [if_neg c]
      refine List.nodup_cons.mpr ⟨fun z => ?_, nubT_nodup ks _⟩
      have := (nubT_mem ks (seen ++ [k]) k).mp z
      exact this.2 (List.mem_append.mpr (.inr (List.mem_singleton.mpr rfl)))
theorem nubT_len : ∀ (xs seen : List β), (nubT seen xs).length ≤ xs.length
  | [], seen => Nat.le_refl _
  | k :: ks, seen => by
    unfold nubT
    split
    · have := nubT_len ks seen; simp only [List.length_cons]; omega
    · have := nubT_len ks (seen ++ [k]); simp only [List.length_cons]; omega
theorem nubT_congr : ∀ (xs s1 s2 : List β), (∀ j, j ∈ s1 ↔ j ∈ s2) → nubT s1 xs = nubT s2 xs
  | [], _, _, _ => rfl
  | x :: xs, s1, s2, h => by
    unfold nubT
    by_cases c : x ∈ s1
    · rw [if_pos c, if_pos ((h x).mp c), nubT_congr xs s1 s2 h]
    · rw [if_neg c, if_neg (fun z => c ((h x).mpr z)), nubT_congr xs (s1 ++ [x]) (s2 ++ [x]) fun j => by simp [h j]]
/-- [one for at, one in enumerate(xs) if one not in xs[:at]] -/
theorem nub_idx (xs : List β) : ∀ (seen : List β) (k : Nat), k = seen.length → ((xs.zipIdx k).filter fun p => decide (p.1 ∉ (seen ++ xs).take p.2)).map Prod.fst = nubT seen xs := by
  induction xs with
  | nil => intro seen k hk; rfl
  | cons x xs ih =>
    intro seen k hk
    subst hk
    have e1 : seen ++ x :: xs = (seen ++ [x]) ++ xs := by simp
    have ih2 := ih (seen ++ [x]) (seen.length + 1) (by simp)
    rw [List.zipIdx_cons]
    have e2 : (seen ++ x :: xs).take seen.length = seen := by simp
    unfold nubT
    by_cases c : x ∈ seen
    · rw [if_pos c, List.filter_cons_of_neg (by simp [e2, c])]
      rw [e1, ih2]
      exact nubT_congr _ _ _ fun j => by
        rw [List.mem_append, List.mem_singleton]
        exact ⟨fun z => z.elim id fun e => e ▸ c, .inl⟩
    · rw [if_neg c, List.filter_cons_of_pos (by simp [e2, c]), List.map_cons, e1, ih2]
theorem nub_idx0 (xs : List β) : ((xs.zipIdx).filter fun p => decide (p.1 ∉ xs.take p.2)).map Prod.fst = nubT [] xs := nub_idx xs [] 0 rfl
/-! what is in a list -/
theorem any_eqv (E : Enc enc) (x : β) (xs : List β) : ((xs.map enc).any fun y => PyData.eqv y (enc x)) = decide (x ∈ xs) := by
  rw [List.any_map, Bool.eq_iff_iff, List.any_eq_true, decide_eq_true_eq]
  constructor
  · rintro ⟨y, hy, h⟩
    have : decide (y = x) = true := by rw [← E.eqv]; exact h
    exact of_decide_eq_true this ▸ hy
  · intro h
    exact ⟨x, h, by show PyData.eqv (enc x) (enc x) = true; rw [E.eqv]; exact decide_eq_true rfl⟩
theorem Enc.inL (E : Enc enc) (x : β) (xs : List β) : inD false (enc x) (.list (xs.map enc)) = some (.bool (decide (x ∈ xs))) := by
  have hd := E.depth x
  have : inD false (enc x) (.list (xs.map enc)) = inSeq false (enc x) (xs.map enc) := by unfold inD; rfl
  rw [this]
  unfold inSeq
  rw [if_pos (by rw [E.plain, plainAll_map E.plain, decide_eq_true (by omega)]; rfl), any_eqv E]
  rfl
theorem Enc.notInL (E : Enc enc) (x : β) (xs : List β) : inD true (enc x) (.list (xs.map enc)) = some (.bool (decide (x ∉ xs))) := by
  have hd := E.depth x
  have : inD true (enc x) (.list (xs.map enc)) = inSeq true (enc x) (xs.map enc) := by unfold inD; rfl
  rw [this]
  unfold inSeq
  rw [if_pos (by rw [E.plain, plainAll_map E.plain, decide_eq_true (by omega)]; rfl), any_eqv E]
  simp
theorem Enc.inT (E : Enc enc) (x : β) (xs : List β) : inD false (enc x) (.tuple (xs.map enc)) = some (.bool (decide (x ∈ xs))) := by
  have hd := E.depth x
  have : inD false (enc x) (.tuple (xs.map enc)) = inSeq false (enc x) (xs.map enc) := by unfold inD; rfl
  rw [this]
  unfold inSeq
  rw [if_pos (by rw [E.plain, plainAll_map E.plain, decide_eq_true (by omega)]; rfl), any_eqv E]
  rfl
/-! ints, texts -/
theorem encI : Enc PyData.int where
  toks := fun a b h => by simpa [PySem.W.keyToks] using h
  eqv := fun a b => by simp [PyData.eqv, beq_eq_decide]
  alike := fun a b => by simp [PySem.W.alike]
  plain := fun a => by simp [PyData.plain]
  depth := fun a => by simp [PyData.depth]
  kind := .inr fun a => rfl
theorem encS : Enc PyData.str where
  toks := fun a b h => by
    have h : a.cps.toList = b.cps.toList := by simpa [PySem.W.keyToks] using h
    exact PySem.W.str_of_cps h
  eqv := fun a b => by simp [PyData.eqv, beq_eq_decide]
  alike := fun a b => by simp [PySem.W.alike]
  plain := fun a => by simp [PyData.plain]
  depth := fun a => by simp [PyData.depth]
  kind := .inr fun a => rfl
end
end Ev

set_option Elab.async false
set_option linter.all false
set_option maxRecDepth 100000
set_option maxHeartbeats 4000000
namespace Ev
open PySem PySem.Spec PyProof.Rows L2

/-! ### II. more operations by data -/
section
variable {X : Cx} {τ : List OT} {p q : Bool} {m m2 : Md} {e o : Expr} {es : List Expr} {f fa fb : M PyData} {fr : M (List PyData)} {pos : Pos}
def negD : PyData → Option PyData
  | .int i => some (.int (-i))
  | _ => none
theorem ev_neg (h : EvM X τ p m e f) : EvM X τ p (.ow .sh) (.UnaryOp .USub e pos) (mapF f negD) := by
  refine PE.imp (pe_un un_neg h) fun σ H Q ⟨Wo, F, env, d, env', S, hf, k⟩ => ?_
  obtain ⟨x, h1, h2⟩ := mapM_some hf
  refine ⟨Wo, F, env, x, env', S, h1, fun v H' G S' kq md g => ?_⟩
  unfold negD at h2
  split at h2
  · cases h2
    exact ⟨_, (md.rq S g).intI, fin_sh k S'.less kq (.int _)⟩
  · cases h2
def upperD : PyData → Option PyData
  | .str x => if x.length ≤ 5592405 then some (.str (Txt.upper x)) else none
  | _ => none
theorem ev_upper {apos : Pos} (h : EvM X τ p m e f) (hbase : attributeBase e "upper" X.env (eval e X.env) = eval e X.env) (hline : (apos.endLine == pos.line) = true) : EvM X τ p (.ow .sh) (.Call (.Attribute e "upper" apos) [] [] pos) (mapF f upperD) := by
  refine PE.imp (pe_upper h hbase hline) fun σ H Q ⟨Wo, F, env, d, env', S, hf, k⟩ => ?_
  obtain ⟨x, h1, h2⟩ := mapM_some hf
  refine ⟨Wo, F, env, x, env', S, h1, fun v H' G S' kq md g => ?_⟩
  unfold upperD at h2
  split at h2
  · rename_i x
    by_cases c : x.length ≤ 5592405
    · rw [if_pos c] at h2
      cases h2
      have e := (md.rq S g).strI
      exact ⟨⟨x, e⟩, x, e, rfl, c, fin_sh k S'.less kq (.str _)⟩
    · rw [if_neg c] at h2; cases h2
  · cases h2
def strsOf : List PyData → Option (List Str)
  | [] => some []
  | .str x :: r => (strsOf r).map (x :: ·)
  | _ => none
theorem strsOf_some : ∀ {ds : List PyData} {xs : List Str}, strsOf ds = some xs → ds = xs.map .str
  | [], _, h => by cases h; rfl
  | .str x :: r, xs, h => by
    unfold strsOf at h
    cases e : strsOf r with
    | none => rw [e] at h; cases h
    | some ys => rw [e] at h; cases h; rw [strsOf_some e]; rfl
  | .none :: _, _, h => by cases h
  | .bool _ :: _, _, h => by cases h
  | .int _ :: _, _, h => by cases h
  | .list _ :: _, _, h => by cases h
  | .tuple _ :: _, _, h => by cases h
  | .dict _ :: _, _, h => by cases h
theorem strsOf_map : ∀ xs : List Str, strsOf (xs.map .str) = some xs
  | [] => rfl
  | x :: xs => by
    rw [List.map_cons]
    unfold strsOf
    rw [strsOf_map xs]
    rfl
theorem rpa_strs {K : PySem.W.Frag} {H : Hp} {W : ASet} : ∀ {xs : List Str} {vs : List V}, RpA K H W vs (xs.map .str) → vs = xs.map V.str
  | [], vs, r => by rw [List.map_nil] at r; exact r.nilI
  | x :: xs, vs, r => by
    rw [List.map_cons] at r
    cases r with
    | cons h r => rw [h.strI, rpa_strs r]; rfl
def joinOk (a : Str) (ys : List Str) : Bool := decide ((ys.map (·.length)).sum + ys.length * a.length ≤ 16777216)
def joinS (a : Str) (ds : List PyData) : Option PyData := (strsOf ds).bind fun ys => if joinOk a ys then some (.str (Txt.join a ys)) else none
def joinD : PyData → PyData → Option PyData
  | .str a, .list ds => joinS a ds
  | .str a, .tuple ds => joinS a ds
  | _, _ => none
theorem joinS_some {a : Str} {ds : List PyData} {d : PyData} (h : joinS a ds = some d) : ∃ ys, ds = ys.map .str ∧ (ys.map (·.length)).sum + ys.length * a.length ≤ 16777216 ∧ d = .str (Txt.join a ys) := by
  unfold joinS at h
  cases e : strsOf ds with
  | none => rw [e] at h; cases h
  | some ys =>
    rw [e] at h
    simp only [Option.bind_some] at h
    by_cases c : joinOk a ys = true
    · rw [if_pos c] at h
      cases h
      exact ⟨ys, strsOf_some e, of_decide_eq_true c, rfl⟩
    · rw [if_neg c] at h; cases h
theorem ev_join {apos : Pos} (ho : EvM X τ p m o fa) (he : EvM X τ q m2 e fb) (hst : m.stab q = true) (hs : starEach [e] X.env = [(false, eval e X.env)]) (hbase : attributeBase o "join" X.env (eval o X.env) = eval o X.env) (hline : (apos.endLine == pos.line) = true) :
    EvM X τ (p && q) (.ow .sh) (.Call (.Attribute o "join" apos) [e] [] pos) (bind2 fa fb joinD) := by
  refine PE.imp (pe_join ho he hs hbase hline) fun σ H Q ⟨Wo, F, env, d, env', S, hf, k⟩ => ?_
  obtain ⟨dx, e1, dy, h1, h2, h3⟩ := bind2_some hf
  refine ⟨Wo, F, env, dx, e1, S, h1, fun v H1 G1 S1 k1 md1 g1 => ?_⟩
  have fin : ∀ (a : Str) (ds : List PyData), dx = .str a → (dy = .list ds ∨ dy = .tuple ds) → joinS a ds = some d → (∃ a, v = .str a) ∧ rdM X.K τ q m2 fb σ H1 fun y H2 => ∃ a p, ∃ ys : List Str, v = .str a ∧ [y] = [.ref p] ∧ (SqL X.K H2 p (ys.map V.str) ∨ SqT X.K H2 p (ys.map V.str)) ∧ (ys.map (·.length)).sum + ys.length * a.length ≤ 16777216 ∧ Q (.str (Txt.join a ys)) H2 := by
    intro a ds hx hy hj
    subst hx
    have ev := (md1.rq S g1).strI
    obtain ⟨ys, rfl, hz, rfl⟩ := joinS_some hj
    refine ⟨⟨a, ev⟩, Wo, F, e1, dy, env', S1.less, h2, fun u H2 G2 S2 k2 md2 g2 => ?_⟩
    have ru := md2.rq S1.less g2
    rcases hy with rfl | rfl
    · obtain ⟨b, vs, rfl, hl, ra⟩ := ru.listI
      rw [rpa_strs ra] at hl
      exact ⟨a, b, ys, ev, rfl, .inl hl, hz, fin_sh k S2.less (k1.trans k2) (.str _)⟩
    · obtain ⟨b, vs, rfl, hl, ra⟩ := ru.tupI
      rw [rpa_strs ra] at hl
      exact ⟨a, b, ys, ev, rfl, .inr hl, hz, fin_sh k S2.less (k1.trans k2) (.str _)⟩
  unfold joinD at h3
  split at h3
  · exact fin _ _ rfl (.inl rfl) h3
  · exact fin _ _ rfl (.inr rfl) h3
  · cases h3
/-! list * int, text * int -/
def fitsI (k : Int) : Bool := decide (-(2 ^ 63) ≤ k) && decide (k < 2 ^ 63)
def repLD : PyData → PyData → Option PyData
  | .list x, .int k => if fitsI k && decide (x.length * k.toNat ≤ sizeLine) then some (.list (List.replicate k.toNat x).flatten) else none
  | _, _ => none
theorem RpA.rep {K : PySem.W.Frag} {H : Hp} {W : ASet} {vs : List V} {ds : List PyData} (r : RpA K H W vs ds) : ∀ n : Nat, RpA K H W (List.replicate n vs).flatten (List.replicate n ds).flatten
  | 0 => .nil
  | n + 1 => by
    rw [List.replicate_succ, List.replicate_succ, List.flatten_cons, List.flatten_cons]
    exact r.append (RpA.rep r n)
open Builtin in
theorem rmul_listG (a : Int) (t : Tok) (l : Addr) (items : Array Value) (n : Nat) (dd : Option Addr) (sl : Array (Option Value)) :
    Meets (Builtin.«int.__rmul__» ⟨[.int a t, .ref l], []⟩) (fun _ R s => s.heap.get? l = some { cls := .type "list", dict := dd, data := .seq items n, slots := sl } ∧ R (.ok (.ret Value.notImplemented)) s) :=
  .of_wp fun prog w A R s h => by obtain ⟨hp, g, d, tk, os⟩ := s; obtain ⟨hl, h⟩ := h; wp_walk; exact ⟨_, rfl, h⟩
open Builtin in
theorem mul_listG (l : Addr) (items : Array Value) (n : Nat) (dd : Option Addr) (sl : Array (Option Value)) (x : Int) (u : Tok) (hc0 : ¬(!Builtin.List.listFitsIndex x) = true) (hc1 : ¬items.size * x.toNat > (2 ^ 63 - 1) / 8) (hc2 : ¬Builtin.List.listTooLong (items.size * x.toNat) = true) :
    Meets (Builtin.«list.__mul__» ⟨[.ref l, .int x u], []⟩) (fun _ R s => s.heap.get? l = some { cls := .type "list", dict := dd, data := .seq items n, slots := sl } ∧ R (.ok (.ret (Value.ref s.heap.objs.size))) { s with heap := s.heap.push { cls := Value.type "list", data := Data.seq (List.foldl (fun x1 x2 => x1 ++ x2) #[] (List.replicate (if items.isEmpty = true then 0 else x.toNat) items)) }, toks := s.toks }) :=
  .of_wp fun prog w A R s h => by
    obtain ⟨hp, g, d, tk, os⟩ := s; obtain ⟨hl, h⟩ := h
    have hsz := AutoListH.joined_fits hc2
    wp_walk; refine wpAny_ite_false (decide_eq_false (Nat.not_lt.mpr hsz)) ?_; wp_walk; exact ⟨_, rfl, h⟩
theorem op_repQ : OpR X (binaryOp .Mult) (fun x y H Q => ∃ l k xs, x = .ref l ∧ y = .int k ∧ SqL X.K H l xs ∧ -(2 ^ 63) ≤ k ∧ k < 2 ^ 63 ∧ xs.length * k.toNat ≤ sizeLine ∧ ∀ p, H p = none → Q (.ref p) (upd H p (.lst (List.replicate k.toNat xs).flatten))) := by
  intro pins s σ H x y v u Q I rx ry h
  obtain ⟨l, k, xs, rfl, rfl, hH, h1, h2, hz, q⟩ := h
  cases rx
  obtain ⟨t, rfl⟩ := ry
  obtain ⟨its, r, hl, z⟩ := I.list hH
  have n1 := r.length
  obtain ⟨⟨cls, dd, data, sl⟩, ho, hc, n, hd⟩ := id hl.isList
  simp only at hc hd
  subst hc hd
  have hlen : its.toArray.size * k.toNat ≤ sizeLine := by rw [List.size_toArray, ← n1]; exact hz
  have hcap : ¬ its.toArray.size * k.toNat > (2 ^ 63 - 1) / 8 := by
    have : (sizeLine : Nat) ≤ (2 ^ 63 - 1) / 8 := by decide
    omega
  have hfit : ¬ (!Builtin.List.listFitsIndex k) = true := by
    rw [fitsIndex_both h1 h2]
    exact Bool.false_ne_true
  have hlong : ¬ Builtin.List.listTooLong (its.toArray.size * k.toNat) = true := by
    rw [notLongL hlen]
    exact Bool.false_ne_true
  have hnew : List.foldl (fun x1 x2 => x1 ++ x2) #[] (List.replicate (if its.toArray.isEmpty = true then 0 else k.toNat) its.toArray) = (List.replicate k.toNat its).flatten.toArray := by
    have f0 : ∀ m : Nat, List.foldl (fun x1 x2 => x1 ++ x2) #[] (List.replicate m its.toArray) = (List.replicate m its).flatten.toArray := fun m => by
      have := foldl_rep its m []
      rw [List.nil_append] at this
      exact this
    rw [f0]
    cases its with
    | nil => simp
    | cons a b => rfl
  refine wpAny_binaryOp_repeat_ref (T := "list") (U := "int") (by decide) ⟨_, ho, rfl⟩ (fun s' => typeIs_int s' k t) noFill_list_mul F.fills_int_mul F.slot_int_rmul repeat_list F.slot_int_index.lookup
    (call_meets F.slot_int_rmul (typeIs_int s k t) F.entry_int_rmul (F.args_int_rmul_2 _ _) (rmul_listG k t l its.toArray n _ _)
      ⟨ho, rfl, ⟨_, ho, rfl⟩, call_meets F.slot_list_mul ⟨_, ho, rfl⟩ F.entry_list_mul (F.args_list_mul_2 _ _) (mul_listG l its.toArray n _ _ k t hfit hcap hlong) ⟨ho, ?_⟩⟩)
  rw [hnew]
  exact ⟨.ref _, _, I.lnew (t' := s.toks) (r.rep k.toNat) (by rw [PyProof.Rows.lm_len_rep_flat, Nat.mul_comm]; exact hz), rfl, q _ I.fresh⟩
theorem fitsI_t {k : Int} (h : fitsI k = true) : -(2 ^ 63) ≤ k ∧ k < 2 ^ 63 := by
  unfold fitsI at h
  simpa using h
theorem b_repL : BinOk X (binaryOp .Mult) repLD (.ls .sh) := .of op_repQ fun H x y Q dx dy d W qx qy wt hg k => by
  unfold repLD at hg
  split at hg
  · rename_i a b
    by_cases c : (fitsI b && decide (a.length * b.toNat ≤ sizeLine)) = true
    · rw [if_pos c] at hg
      cases hg
      rw [Bool.and_eq_true, decide_eq_true_eq] at c
      obtain ⟨l, xs, rfl, hl, ra⟩ := qx.listI
      exact ⟨l, b, xs, rfl, qy.intI, hl, (fitsI_t c.1).1, (fitsI_t c.1).2, by rw [ra.length]; exact c.2, fun p np => k.newL np (ra.rep _)⟩
    · rw [if_neg c] at hg; cases hg
  · cases hg
def repS (x : Str) (n : Nat) : Str := ⟨(List.replicate n x.cps).foldl (· ++ ·) #[]⟩
theorem rep_acc (z : Array Nat) : ∀ (n : Nat) (acc : Array Nat), ((List.replicate n z).foldl (· ++ ·) acc).toList = acc.toList ++ (List.replicate n z.toList).flatten
  | 0, acc => by simp
  | n + 1, acc => by
    rw [List.replicate_succ, List.foldl_cons, rep_acc z n, List.replicate_succ, List.flatten_cons]
    simp
theorem repS_list (x : Str) (n : Nat) : (repS x n).cps.toList = (List.replicate n x.cps.toList).flatten := by
  have := rep_acc x.cps n #[]
  simpa [repS] using this
theorem repS_len (x : Str) (n : Nat) : (repS x n).length = n * x.length := by
  show (repS x n).cps.size = n * x.cps.size
  rw [← Array.length_toList, repS_list]
  simp
theorem repS_one (x : Str) : repS x 1 = x := PySem.W.str_of_cps (by rw [repS_list]; simp)
theorem repS_nil {x : Str} (h : x.length = 0) (n : Nat) : repS x n = x := by
  have e : x.cps.toList = [] := List.length_eq_zero_iff.mp (by rw [Array.length_toList]; exact h)
  refine PySem.W.str_of_cps ?_
  rw [repS_list, e]
  simp
def repSD : PyData → PyData → Option PyData
  | .str x, .int k => if decide (0 ≤ k) && decide (k < 2 ^ 14) && decide (x.length ≤ 1000) then some (.str (repS x k.toNat)) else none
  | _, _ => none
theorem op_repS : OpR X (binaryOp .Mult) (fun x y H Q => ∃ a k, x = .str a ∧ y = .int k ∧ 0 ≤ k ∧ k < 2 ^ 14 ∧ a.length ≤ 1000 ∧ Q (.str (repS a k.toNat)) H) := by
  intro pins s σ H x y v u Q I rx ry h
  obtain ⟨a, k, rfl, rfl, h1, h2, hz, q⟩ := h
  obtain ⟨t, rfl⟩ := rx
  obtain ⟨t', rfl⟩ := ry
  refine PySem.P.mul_str ?_ (fun c _ => ?_) (fun c _ => ?_) ?_
  · rw [decide_eq_false (by omega), decide_eq_false (by omega)]; rfl
  · have h3 : (1000 : Int) ≤ (2 ^ 63 - 1) / k := by
      rw [Int.le_ediv_iff_mul_le (by omega)]
      omega
    omega
  · have : a.length * k.toNat ≤ 1000 * 2 ^ 14 := Nat.mul_le_mul hz (by omega)
    unfold Builtin.Str.tooLong
    refine decide_eq_false ?_
    rw [sizeLine_eq]
    omega
  · by_cases c : k < 1
    · rw [if_pos c]
      have : k = 0 := by omega
      subst this
      exact ⟨by decide, .str _, H, I.tok _, ⟨_, rfl⟩, q⟩
    · rw [if_neg c]
      by_cases c2 : (k == 1 || a.length == 0) = true
      · rw [if_pos c2]
        refine ⟨.str a, H, I, ⟨t, rfl⟩, ?_⟩
        rw [Bool.or_eq_true] at c2
        rcases c2 with c2 | c2
        · have : k = 1 := by simpa using c2
          subst this
          rw [show (1 : Int).toNat = 1 from rfl, repS_one] at q
          exact q
        · rw [repS_nil (by simpa using c2)] at q
          exact q
      · rw [if_neg c2]
        refine ⟨?_, .str _, H, I.tok _, ⟨_, rfl⟩, q⟩
        show (repS a k.toNat).length ≤ sizeLine
        have : k.toNat * a.length ≤ 2 ^ 14 * 1000 := Nat.mul_le_mul (by omega) hz
        rw [repS_len, sizeLine_eq]
        omega
theorem b_repS : BinOk X (binaryOp .Mult) repSD .sh := .of op_repS fun H x y Q dx dy d W qx qy wt hg k => by
  unfold repSD at hg
  split at hg
  · rename_i a b
    by_cases c : (decide (0 ≤ b) && decide (b < 2 ^ 14) && decide (a.length ≤ 1000)) = true
    · rw [if_pos c] at hg
      cases hg
      simp only [Bool.and_eq_true, decide_eq_true_eq] at c
      exact ⟨a, b, qx.strI, qy.intI, c.1.1, c.1.2, c.2, k.sh (fun _ _ e => e) (.str _)⟩
    · rw [if_neg c] at hg; cases hg
  · cases hg
/-- * of whatever -/
def mulD : PyData → PyData → Option PyData := fun x y => (mulID x y).or ((repSD x y).or (repLD x y))
theorem b_mul : BinOk X (binaryOp .Mult) mulD .sh := b_mulI.or (b_repS.or b_repL.toSh)
/-! str(int), list(text) -/
def strD : List PyData → Option PyData
  | [.int i] => if i.natAbs.log2 < 1920 then some (.str (toString i)) else none
  | _ => none
theorem c_str : CallOk X (.type "str") strD .sh := .of call_str_int fun H xs Q ds d W qs wt hg k => by
  unfold strD at hg
  split at hg
  · rename_i i
    by_cases c : i.natAbs.log2 < 1920
    · rw [if_pos c] at hg
      cases hg
      obtain ⟨x, rfl, qx⟩ := qs.one
      exact ⟨i, by rw [qx.intI], c, k.sh (fun _ _ e => e) (.str _)⟩
    · rw [if_neg c] at hg; cases hg
  · cases hg
def listSD : List PyData → Option PyData
  | [.str x] => if x.cps.size ≤ sizeLine then some (.list (signsD x)) else none
  | _ => none
def signV (x : Str) : List V := x.cps.toList.map fun c => .str ⟨#[c]⟩
theorem vals_signs : ∀ {us : List Value} {cs : List Nat}, us.length = cs.length → (∀ (j : Nat) (v : Value), us[j]? = some v → ∃ c u, cs[j]? = some c ∧ v = .str ⟨#[c]⟩ u) → Vals (cs.map fun c => V.str ⟨#[c]⟩) us
  | [], [], _, _ => .nil
  | [], _ :: _, h, _ => by simp at h
  | _ :: _, [], h, _ => by simp at h
  | u :: us, c :: cs, h, hh => by
    rw [List.map_cons]
    obtain ⟨c', t, e, rfl⟩ := hh 0 u rfl
    simp at e
    subst e
    exact .cons ⟨t, rfl⟩ (vals_signs (by simpa using h) fun j v e => hh (j + 1) v (by simpa using e))
theorem call_list_txt (hc : X.calm = true) : CallR X (.type "list") (fun xs H Q => ∃ x, xs = [.str x] ∧ x.cps.size ≤ sizeLine ∧ ∀ l, H l = none → Q (.ref l) (upd H l (.lst (signV x)))) := by
  intro pins s σ H xs us Q I r h
  obtain ⟨x, rfl, hz, q⟩ := h
  obtain ⟨u, rfl, t, rfl⟩ := vals1 r
  refine PySem.call_list_str (I.ok.hd hc) x t (fun h' tk acc c' hk hS hacc => ?_) hz
  have rv : Vals (signV x) acc.toList := vals_signs (by rw [Array.length_toList, Array.length_toList, hacc.1]) fun j v e => by
    obtain ⟨c, u, e1, e2⟩ := hacc.2 j v (by simpa using e)
    exact ⟨c, u, by simpa using e1, e2⟩
  refine ⟨.ref s.heap.objs.size, _, I.laid (t' := tk) hk (Nat.le_refl _) (show ObjOk X.prog X.w _ h' _ (.lst (signV x)) from ⟨?_, acc.toList, c', rv, ?_⟩), rfl, q _ (I.hok.fresh (Nat.le_refl _))⟩
  · unfold signV
    rw [List.length_map, Array.length_toList]
    exact hz
  · rw [Array.toArray_toList]; exact hS
theorem rpa_signs {K : PySem.W.Frag} {H : Hp} {W : ASet} (x : Str) : RpA K H W (signV x) (signsD x) := by
  unfold signV signsD
  induction x.cps.toList with
  | nil => exact .nil
  | cons c cs ih => exact .cons (.str _) ih
theorem c_listS (hc : X.calm = true) : CallOk X (.type "list") listSD (.ls .sh) := .of (call_list_txt hc) fun H xs Q ds d W qs wt hg k => by
  unfold listSD at hg
  split at hg
  · rename_i x
    by_cases c : x.cps.size ≤ sizeLine
    · rw [if_pos c] at hg
      cases hg
      obtain ⟨v, rfl, qx⟩ := qs.one
      exact ⟨x, by rw [qx.strI], c, fun l nl => k.newL nl (rpa_signs x)⟩
    · rw [if_neg c] at hg; cases hg
  · cases hg
def listAD : List PyData → Option PyData := fun xs => (listD xs).or (listSD xs)
theorem c_listA (hc : X.calm = true) : CallOk X (.type "list") listAD (.ls .sh) := c_list.or (c_listS hc)
end
end Ev

set_option Elab.async false
set_option linter.all false
set_option maxRecDepth 100000
set_option maxHeartbeats 4000000
namespace Ev
open PySem PySem.Spec PyProof.Rows L2

/-! ### JJ. xs[::-1] of a list, of a tuple -/
section
open HT
variable {prog : Program} {w : World} {A : Around} {E : Value → Shared → Prop} {s : Shared}
theorem adjust_rev (n : Nat) : Builtin.Slice.sliceAdjust none none (-1) (n : Int) = ((n : Int) - 1, -1) := by
  unfold Builtin.Slice.sliceAdjust
  first
  | rfl
  | simp
theorem places_rev (n : Nat) : Builtin.Slice.slicePlaces ((n : Int) - 1) (-1) (-1) = n := by
  unfold Builtin.Slice.slicePlaces
  have h1 : ¬ ((-1 : Int) > 0) := by omega
  simp only [h1, if_false]
  have e : (-(-1 : Int)) = 1 := rfl
  simp only [e, Int.ediv_one]
  split <;> omega
theorem applied_rev {sl : Addr} {vs : Value} {n : Nat} {Q : Int × Int × Nat → Shared → Prop} (hs : s.heap.IsSliceOf sl .none .none vs) (ps : IsPart vs (some (-1)))
    (h : Q ((n : Int) - 1, -1, n) s) : wpAny (model prog w) A (Builtin.Slice.sliceApplied (.ref sl) (pure (n : Int))) Q E s := by
  obtain ⟨os, hos, hcs, hds⟩ := id hs
  unfold Builtin.Slice.sliceApplied Builtin.Slice.sliceFields
  refine wpAny_bind (wpAny_bind (wpAny_field hos hds (x := .none) rfl (wpAny_bind (wpAny_field hos hds (x := .none) rfl (wpAny_bind (wpAny_field hos hds (x := vs) rfl (wpAny_pure ?_)))))))
  refine wpAny_bind (slicePart_ ps ?_)
  show wpAny _ _ (if ((-1 : Int) == 0) = true then _ else _) _ _ s
  rw [if_neg (by decide)]
  refine wpAny_bind (slicePart_none (wpAny_bind (slicePart_none (wpAny_bind (wpAny_pure ?_)))))
  show wpAny _ _ (match Builtin.Slice.sliceAdjust none none (-1) (n : Int) with | (lo, hi) => pure (lo, (-1 : Int), Builtin.Slice.slicePlaces lo hi (-1))) _ _ s
  rw [adjust_rev n]
  show wpAny _ _ (pure ((n : Int) - 1, (-1 : Int), Builtin.Slice.slicePlaces ((n : Int) - 1) (-1) (-1))) _ _ s
  rw [places_rev]
  exact wpAny_pure h
theorem pick_rev (xs : Array Value) : ((List.range xs.size).filterMap fun (m : Nat) => xs[(((xs.size : Nat) : Int) - 1 + (m : Int) * (-1)).toNat]?).toArray = xs.toList.reverse.toArray := by
  have e : (fun (m : Nat) => xs[(((xs.size : Nat) : Int) - 1 + (m : Int) * (-1)).toNat]?) = fun m => xs[xs.size - 1 - m]? := by
    funext m
    have : (((xs.size : Nat) : Int) - 1 + (m : Int) * (-1)).toNat = xs.size - 1 - m := by omega
    rw [this]
  rw [e]
  have h := PySem.W.krv_range xs.size
  have e2 : ((List.range xs.size).map fun k => xs.size - 1 - k).filterMap (xs[·]?) = (List.range xs.size).filterMap fun m => xs[xs.size - 1 - m]? := by
    rw [List.filterMap_map]; rfl
  rw [← e2, h, List.filterMap_reverse, PySem.W.krv_all]
theorem getItem_tuple_rev {t sl : Addr} {items : Array Value} {vs : Value} {Q : Value → Shared → Prop} (ht : IsTup s.heap t items) (hs : s.heap.IsSliceOf sl .none .none vs) (ps : IsPart vs (some (-1)))
    (h : Q (.ref s.heap.objs.size) { s with heap := s.heap.push { cls := .type "tuple", data := .seq items.toList.reverse.toArray } })
    (hsz : items.size ≤ sizeLine) : wpAny (model prog w) A (getItem (.ref t) (.ref sl)) Q E s := by
  have htake : sizeOk (.seq items.toList.reverse.toArray) := by
    show items.toList.reverse.toArray.size ≤ sizeLine
    rw [List.size_toArray, List.length_reverse, Array.length_toList]
    exact hsz
  obtain ⟨os, hos, hcs, hds⟩ := id hs
  have hTs : s.TypeIs (.ref sl) "slice" := ⟨os, hos, hcs⟩
  unfold getItem
  try with_reducible refine wpAny_holding ?_
  first | refine wpAny_bind (wpAny_pure ?_) | skip
  refine wpAny_bind (wpAny_sequenceKey ht.typeIs (by decide) ?_)
  refine wpAny_bind (wpAny_callSpecial?_slot (name := Str.ofString "__getitem__") ht.typeIs PyProof.Rows.slot_tuple_getitem
    (wpAny_call_entry PyProof.Rows.slot_tuple_getitem ht.typeIs entry_tuple_getitem ?_ (args_tuple_getitem _ _)))
  show wpAny _ _ (Builtin.Tuple.tupleItemsOf (.ref t) >>= _) _ _ s
  refine wpAny_bind (tupleItemsOf_ ht ?_)
  refine wpAny_bind (wpAny_typeOf hTs ?_)
  rw [if_pos (by decide)]
  refine wpAny_bind (applied_rev hs ps ?_)
  have hno : ¬ (((((items.size : Nat) : Int) - 1) == 0 && (-1 : Int) == 1 && items.size == items.size) = true) := by
    intro q
    rw [Bool.and_eq_true, Bool.and_eq_true] at q
    exact absurd q.1.2 (by decide)
  show wpAny _ _ (if ((((items.size : Nat) : Int) - 1) == 0 && (-1 : Int) == 1 && items.size == items.size) = true then _ else _) _ _ s
  rw [if_neg hno, pick_rev]
  first
    | exact wpAny_bind (m := Builtin.Tuple.tupleExact _) (wpAny_newObj_type (wpAny_pure ⟨_, rfl, wpAny_pure h⟩) htake)
    | exact wpAny_bind (m := Builtin.Tuple.tupleExact _) (wpAny_newObj_type (wpAny_bind (wpAny_pure (wpAny_pure ⟨_, rfl, wpAny_pure h⟩))) htake)
    | exact wpAny_bind (wpAny_bind (m := Builtin.Tuple.tupleExact _) (wpAny_newObj_type (wpAny_pure (wpAny_pure ⟨_, rfl, wpAny_pure h⟩)) htake))
    | exact wpAny_bind (wpAny_bind (m := Builtin.Tuple.tupleExact _) (wpAny_newObj_type (wpAny_pure ⟨_, rfl, wpAny_pure h⟩) htake))
end
section
variable {X : Cx} {τ : List OT} {p q : Bool} {m m2 : Md} {e o : Expr} {es : List Expr} {f fa fb : M PyData} {fr : M (List PyData)} {pos : Pos}
def tRevT (K : PySem.W.Frag) (te : TE) : TE := fun σ H Q => te σ H fun x H1 => ∃ a xs, x = .ref a ∧ SqT K H1 a xs ∧ ∀ p, H1 p = none → Q (.ref p) (upd H1 p (.tup xs.reverse))
theorem pe_revT {e : Expr} {te : TE} {k : Nat} {p1 p2 p3 pos : Pos} (he : PE X e te) : PE X (.Subscript e (.Slice none none (some (.UnaryOp .USub (.Constant (.int 1) k p1) p2)) p3) pos) (tRevT X.K te) := by
  refine ⟨fun pins s σ H Q I h => ?_⟩
  refine Subscript_ (thn (he.run pins s σ H _ I h) fun v s1 ⟨x, H1, I1, r1, q1⟩ => ?_)
  obtain ⟨a, xs, ex, hx, q⟩ := q1
  subst ex
  cases r1
  have hst : PO X (some (.UnaryOp .USub (.Constant (.int 1) k p1) p2)) (tPart (tUn (rU fun i => .int (-i)) (tC (.int 1)))) := po_some (pe_un un_neg pe_int)
  refine wpAny_Slice (thn (po_none.run pins s1 σ H1 (fun o H2 => o = none ∧ H2 = H1) I1 ⟨rfl, rfl⟩) fun vl s2 ⟨l, H2, I2, pl, el, e2⟩ => ?_)
  subst el e2
  refine thn (po_none.run pins s2 σ H2 (fun o H3 => o = none ∧ H3 = H2) I2 ⟨rfl, rfl⟩) fun vu s3 ⟨u, H3, I3, pu, eu, e3⟩ => ?_
  subst eu e3
  cases pl
  cases pu
  refine thn (hst.run pins s3 σ H3 (fun o H4 => o = some (-1) ∧ H4 = H3) I3 ⟨1, rfl, -1, rfl, rfl, rfl⟩) fun vs s4 ⟨o, H4, I4, ps, eo, e4⟩ => ?_
  subst eo e4
  have I5 : Inv X pins σ H4 { s4 with heap := s4.heap.push { cls := .type "slice", data := .fields #[.none, .none, vs] } } := I4.kept (t' := s4.toks) fun b ob q => Heap.get?_push_of_some _ q
  obtain ⟨its, r, ht, hz⟩ := I5.tuple hx
  have hlen := r.length
  show wpAny (model X.prog X.w) X.A (subscriptTail e (.Slice none none (some (.UnaryOp .USub (.Constant (.int 1) k p1) p2)) p3) (.ref a) (.ref s4.heap.objs.size)) (EP X pins σ Q) X.xe { s4 with heap := s4.heap.push { cls := .type "slice", data := .fields #[.none, .none, vs] } }
  refine tail_any (ops := [.ref a, .ref s4.heap.objs.size]) ht.typeIs PyProof.Rows.slot_tuple_getitem.lookup ?_ (by with_unfolding_all rfl)
  refine getItem_tuple_rev ht (Heap.IsSliceOf.new _ .none .none vs) ps ?_ (by rw [List.size_toArray]; omega)
  refine ⟨.ref _, _, I5.laid (t' := s4.toks) (o := .tup xs.reverse) (fun b ob q => Heap.get?_push_of_some _ q) (Nat.le_refl _) ?_, rfl, q _ (I5.hok.fresh (Nat.le_refl _))⟩
  exact ⟨by rw [List.length_reverse]; exact hz, _, r.reverse, IsTup.new _ _⟩
theorem PE.or {e : Expr} {t t' : TE} (h : PE X e t) (h' : PE X e t') : PE X e (fun σ H Q => t σ H Q ∨ t' σ H Q) := ⟨fun pins s σ H Q I q => q.elim (h.run pins s σ H Q I) (h'.run pins s σ H Q I)⟩
def revD : PyData → Option PyData
  | .list ds => some (.list ds.reverse)
  | .tuple ds => some (.tuple ds.reverse)
  | _ => none
theorem ev_rev {k : Nat} {p1 p2 p3 : Pos} (h : EvM X τ p m e f) : EvM X τ p (.ow .sh) (.Subscript e (.Slice none none (some (.UnaryOp .USub (.Constant (.int 1) k p1) p2)) p3) pos) (mapF f revD) := by
  refine PE.imp (PE.or (pe_revL h) (pe_revT h)) fun σ H Q ⟨Wo, F, env, d, env', S, hf, k⟩ => ?_
  obtain ⟨x, h1, h2⟩ := mapM_some hf
  unfold revD at h2
  split at h2
  · cases h2
    refine .inl ⟨Wo, F, env, _, env', S, h1, fun v H' G S' kq md g => ?_⟩
    obtain ⟨a, xs, rfl, hl, ra⟩ := (md.rq S g).listI
    exact ⟨a, xs, rfl, hl, fun np nn => (nx_of (t := .ls .sh) (fun v H' G S' kq md g => fin_sh k S'.less kq (Own.rpW S g md)) S'.less kq).newL nn ra.reverse⟩
  · cases h2
    refine .inr ⟨Wo, F, env, _, env', S, h1, fun v H' G S' kq md g => ?_⟩
    obtain ⟨a, xs, rfl, hl, ra⟩ := (md.rq S g).tupI
    exact ⟨a, xs, rfl, hl, fun np nn => (nx_of (t := .sh) k S'.less kq).newT nn (fun a w => S'.less.tracked w) ra.reverse⟩
  · cases h2
/-! slices whose bounds may change what a slot owns (a draw) -/
def rdOq (K : PySem.W.Frag) (τ : List OT) (p : Bool) (f : M (Option Int)) : TO := fun σ H Q =>
  ∃ Wo F env o env', Slots K H Wo τ σ env F ∧ f env = some (o, env') ∧ ∀ H', Slots K H' Wo τ σ env' F → Kq p F H H' → Q o H'
def EvOq (X : Cx) (τ : List OT) (p : Bool) (e : Option Expr) (f : M (Option Int)) : Prop := PO X e (rdOq X.K τ p f)
theorem evOq_none : EvOq X τ true none noO := PO.imp po_none fun σ H Q ⟨Wo, F, env, o, env', S, hf, k⟩ => by
  cases hf
  exact k H S Kq.refl
theorem evOq_some (h : EvM X τ p m e f) : EvOq X τ p (some e) (yesO f) := PO.imp (po_some h) fun σ H Q ⟨Wo, F, env, o, env', S, hf, k⟩ => by
  obtain ⟨x, h1, h2⟩ := mapM_some hf
  refine ⟨Wo, F, env, x, env', S, h1, fun v H' G S' kq md g => ?_⟩
  unfold intOf at h2
  split at h2
  · cases h2
    exact ⟨_, (md.rq S g).intI, k H' S'.less kq⟩
  · cases h2
theorem ev_sliceQ {lo hi : Option Expr} {fl fh : M (Option Int)} {p2 : Pos} {q1 q2 : Bool} (h : EvM X τ p m e f) (h1 : EvOq X τ q1 lo fl) (h2 : EvOq X τ q2 hi fh) (hs : m.stab (q1 && q2) = true) : EvM X τ (p && (q1 && q2)) (.ow .sh) (.Subscript e (.Slice lo hi none p2) pos) (sliceF f fl fh) := by
  refine PE.imp (pe_slice (sl_list.or (sl_tup.or sl_str)) h h1 h2) fun σ H Q ⟨Wo, F, env, d, env', S, hf, k⟩ => ?_
  unfold sliceF at hf
  cases z1 : f env with
  | none => rw [z1] at hf; cases hf
  | some x =>
  obtain ⟨x, e1⟩ := x
  rw [z1] at hf
  simp only [Option.bind_some] at hf
  cases z2 : fl e1 with
  | none => rw [z2] at hf; cases hf
  | some l =>
  obtain ⟨l, e2⟩ := l
  rw [z2] at hf
  simp only [Option.bind_some] at hf
  cases z3 : fh e2 with
  | none => rw [z3] at hf; cases hf
  | some u =>
  obtain ⟨u, e3⟩ := u
  rw [z3] at hf
  simp only [Option.bind_some] at hf
  cases z4 : cutD l u x with
  | none => rw [z4] at hf; cases hf
  | some d' =>
  rw [z4] at hf
  cases hf
  refine ⟨Wo, F, env, x, e1, S, z1, fun v H1 G1 S1 k1 md1 g1 => ⟨Wo, F, e1, l, e2, S1.less, z2, fun H2 S2 k2 => ⟨Wo, F, e2, u, _, S2, z3, fun H3 S3 k3 => ?_⟩⟩⟩
  have k23 : Kq (q1 && q2) F H1 H3 := k2.trans k3
  have rx : Rq X.K H3 (WF Wo F) v x := md1.stay S g1 k23 hs
  unfold cutD at z4
  split at z4
  · cases z4
    obtain ⟨a, xs, rfl, hl, ra⟩ := rx.listI
    refine .inl ⟨a, xs, rfl, hl, fun np nn => ?_⟩
    exact (nx_of (t := .ls .sh) (fun v H' G S' kq md g => fin_sh k S'.less kq (Own.rpW S g md)) S3 (k1.trans k23)).newL nn (cut_rpa ra l u)
  · rename_i ds
    by_cases c : (cutL ds l u).length < ds.length
    · rw [if_pos c] at z4
      cases z4
      obtain ⟨a, xs, rfl, hl, ra⟩ := rx.tupI
      refine .inr (.inl ⟨a, xs, rfl, hl, fun z => ?_, fun np nn => ?_⟩)
      · unfold cutL at c
        rw [ra.length] at z
        rw [z.1, z.2] at c
        simp at c
      · exact (nx_of (t := .sh) k S3 (k1.trans k23)).newT nn (fun a w => S3.tracked w) (cut_rpa ra l u)
    · rw [if_neg c] at z4; cases z4
  · cases z4
end
end Ev

set_option Elab.async false
set_option linter.all false
set_option maxRecDepth 100000
set_option maxHeartbeats 4000000
namespace Ev
open PySem PySem.Spec PyProof.Rows L2

/-! ### KK. dicts by data -/
def keyOf : PyData → Option Key
  | .int i => some (.inl i)
  | .str x => some (.inr x)
  | _ => none
theorem keyOf_keyD (k : Key) : keyOf (keyD k) = some k := by cases k <;> rfl
theorem keyOf_some {d : PyData} {k : Key} (h : keyOf d = some k) : d = keyD k := by
  cases d <;> simp [keyOf] at h <;> subst h <;> rfl
abbrev DKV := List (PyData × PyData)
def valD (kvs : DKV) (k : Key) : Option PyData := (kvs.find? fun p => decide (keyOf p.1 = some k)).map Prod.snd
def putD (kvs : DKV) (k : Key) (d : PyData) : DKV :=
  if (kvs.any fun p => decide (keyOf p.1 = some k)) = true then kvs.map (fun p => if keyOf p.1 = some k then (p.1, d) else p) else kvs ++ [(keyD k, d)]
def dropD (kvs : DKV) (k : Key) : DKV := kvs.filter fun p => decide (keyOf p.1 ≠ some k)
def mergeD (kvs : DKV) (more : List (Key × PyData)) : DKV := more.foldl (fun acc kv => putD acc kv.1 kv.2) kvs
section
variable {K : PySem.W.Frag} {H : Hp} {W : ASet}
theorem RpK.length : ∀ {ks : List (Key × V)} {kvs : DKV}, RpK K H W ks kvs → ks.length = kvs.length
  | _, _, .nil => rfl
  | _, _, .cons _ r => congrArg (· + 1) (RpK.length r)
theorem RpK.any (k : Key) : ∀ {ks : List (Key × V)} {kvs : DKV}, RpK K H W ks kvs → (ks.any fun kv => decide (kv.1 = k)) = kvs.any fun p => decide (keyOf p.1 = some k)
  | _, _, .nil => rfl
  | (k', v) :: ks, (_, d) :: kvs, .cons _ r => by
    rw [List.any_cons, List.any_cons, RpK.any k r, keyOf_keyD]
    congr 1
    simp
theorem RpK.val (k : Key) : ∀ {ks : List (Key × V)} {kvs : DKV}, RpK K H W ks kvs → (∀ d, valD kvs k = some d → ∃ v, valV ks k = some v ∧ Rp K H W v d) ∧ (valV ks k).isSome = (valD kvs k).isSome
  | _, _, .nil => ⟨(fun d h => nomatch h), rfl⟩
  | (k', v) :: ks, (_, d) :: kvs, .cons h r => by
    obtain ⟨i1, i2⟩ := RpK.val k r
    unfold valD
    by_cases c : k' = k
    · subst c
      rw [List.find?_cons_of_pos (by simp [keyOf_keyD]), valV_pos rfl]
      exact ⟨fun d' h' => by cases h'; exact ⟨v, rfl, h⟩, rfl⟩
    · rw [List.find?_cons_of_neg (by simp [keyOf_keyD, c]), valV_neg c]
      exact ⟨i1, i2⟩
theorem RpK.map_put {k : Key} {v : V} {d : PyData} (h : Rp K H W v d) : ∀ {ks : List (Key × V)} {kvs : DKV}, RpK K H W ks kvs → RpK K H W (ks.map fun kv => if kv.1 = k then (kv.1, v) else kv) (kvs.map fun p => if keyOf p.1 = some k then (p.1, d) else p)
  | _, _, .nil => .nil
  | (k', v') :: ks, (_, d') :: kvs, .cons h' r => by
    rw [List.map_cons, List.map_cons]
    by_cases c : k' = k
    · subst c
      rw [if_pos rfl, if_pos (keyOf_keyD _)]
      exact .cons h (RpK.map_put h r)
    · rw [if_neg c, if_neg (by rw [keyOf_keyD]; simpa using c)]
      exact .cons h' (RpK.map_put h r)
theorem RpK.append : ∀ {ks js : List (Key × V)} {kvs jvs : DKV}, RpK K H W ks kvs → RpK K H W js jvs → RpK K H W (ks ++ js) (kvs ++ jvs)
  | _, _, _, _, .nil, s => s
  | _, _, _, _, .cons h r, s => .cons h (RpK.append r s)
theorem RpK.put {k : Key} {v : V} {d : PyData} (h : Rp K H W v d) {ks : List (Key × V)} {kvs : DKV} (r : RpK K H W ks kvs) : RpK K H W (putK ks k v) (putD kvs k d) := by
  unfold putK putD
  rw [r.any k]
  by_cases c : (kvs.any fun p => decide (keyOf p.1 = some k)) = true
  · rw [if_pos c, if_pos c]; exact r.map_put h
  · rw [if_neg c, if_neg c]; exact r.append (.cons h .nil)
theorem RpK.filter (k : Key) : ∀ {ks : List (Key × V)} {kvs : DKV}, RpK K H W ks kvs → RpK K H W (dropK ks k) (dropD kvs k)
  | _, _, .nil => .nil
  | (k', v) :: ks, (_, d) :: kvs, .cons h r => by
    have ih := RpK.filter k r
    unfold dropK dropD at ih ⊢
    by_cases c : k' = k
    · subst c
      rw [List.filter_cons_of_neg (by simp), List.filter_cons_of_neg (by simp [keyOf_keyD])]
      exact ih
    · rw [List.filter_cons_of_pos (by simpa using c), List.filter_cons_of_pos (by simpa [keyOf_keyD] using c)]
      exact .cons h ih
/-- values beside keys -/
inductive RpM (K : PySem.W.Frag) (H : Hp) (W : ASet) : List (Key × V) → List (Key × PyData) → Prop
  | nil : RpM K H W [] []
  | cons {k : Key} {v : V} {d : PyData} {ks : List (Key × V)} {kds : List (Key × PyData)} : Rp K H W v d → RpM K H W ks kds → RpM K H W ((k, v) :: ks) ((k, d) :: kds)
theorem RpM.merge : ∀ {more : List (Key × V)} {md : List (Key × PyData)}, RpM K H W more md → ∀ {ks : List (Key × V)} {kvs : DKV}, RpK K H W ks kvs → RpK K H W (mergeK ks more) (mergeD kvs md)
  | _, _, .nil, _, _, r => r
  | _, _, .cons h m, _, _, r => RpM.merge m (r.put h)
theorem RpM.keep {H' : Hp} {W' : ASet} (kp : Kp H W H' W') : ∀ {ks : List (Key × V)} {kds : List (Key × PyData)}, RpM K H W ks kds → RpM K H' W' ks kds
  | _, _, .nil => .nil
  | _, _, .cons h m => .cons (h.keep kp) (RpM.keep kp m)
theorem RpM.length : ∀ {ks : List (Key × V)} {kds : List (Key × PyData)}, RpM K H W ks kds → ks.length = kds.length
  | _, _, .nil => rfl
  | _, _, .cons _ r => congrArg (· + 1) (RpM.length r)
theorem Rq.key {v : V} {d : PyData} {k : Key} (h : keyOf d = some k) (r : Rq K H W v d) : v = kV k := by
  rw [keyOf_some h] at r
  cases k with
  | inl i => exact r.intI
  | inr x => exact r.strI
end
/-- all keys are keys -/
def keysM : DKV → Option (List (Key × PyData))
  | [] => some []
  | (a, d) :: r => (keyOf a).bind fun k => (keysM r).map fun z => (k, d) :: z
theorem keysM_cons {a d : PyData} {r : DKV} {z : List (Key × PyData)} (h : keysM ((a, d) :: r) = some z) : ∃ k z', a = keyD k ∧ keysM r = some z' ∧ z = (k, d) :: z' := by
  unfold keysM at h
  cases e : keyOf a with
  | none => rw [e] at h; cases h
  | some k =>
    rw [e] at h
    simp only [Option.bind_some] at h
    cases e2 : keysM r with
    | none => rw [e2] at h; cases h
    | some z' => rw [e2] at h; cases h; exact ⟨k, z', keyOf_some e, rfl, rfl⟩
section
variable {X : Cx} {τ : List OT} {p q : Bool} {m m2 : Md} {e o : Expr} {es : List Expr} {f fa fb : M PyData} {fr : M (List PyData)} {pos : Pos}
/-! {}, {k: v, ..} -/
theorem up_own {H : Hp} {K : PySem.W.Frag} {W : ASet} {a : Addr} {ks : List (Key × V)} {kvs : DKV} (n : H a = none) (r : RpK K H W ks kvs) : Own K (upd H a (.dK ks)) (Un2 W fun b => b = a) .dc (.ref a) (.dict kvs) (fun b => b = a) :=
  ⟨a, ks, kvs, rfl, rfl, upd_same, fun _ => Iff.rfl, r.keep ⟨fun b o e _ => up_same n b o e, fun b o e w x => x.elim w fun z => by rw [z, n] at e; cases e⟩⟩
theorem Nx.newD {K : PySem.W.Frag} {W : ASet} {H : Hp} {ks : List (Key × V)} {kvs : DKV} {Q : VK} (k : Nx K .dc W H (.dict kvs) Q) {a : Addr} (n : H a = none) (r : RpK K H W ks kvs) : Q (.ref a) (upd H a (.dK ks)) :=
  k (.ref a) _ (fun b => b = a) (up_same n) (up_own n r) (nw_one n)
theorem ev_dnew : EvM X τ true (.ow .dc) (.Dict [] [] pos) (conF (.dict [])) := by
  refine PE.imp pe_dnewK fun σ H Q ⟨Wo, F, env, d, env', S, hf, k⟩ => ?_
  cases hf
  exact fun a na => (nx_of (t := .dc) k S Kq.refl).newD na .nil
abbrev MP := M DKV
def nilP : MP := fun env => some ([], env)
def consP (fk fv : M PyData) (fr : MP) : MP := fun env => (fk env).bind fun x => (fv x.2).bind fun y => (fr y.2).map fun z => ((x.1, y.1) :: z.1, z.2)
theorem consP_some {fk fv : M PyData} {fr : MP} {env env' : Env} {ps : DKV} (h : consP fk fv fr env = some (ps, env')) : ∃ x e1 y e2 r, fk env = some (x, e1) ∧ fv e1 = some (y, e2) ∧ fr e2 = some (r, env') ∧ ps = (x, y) :: r := by
  unfold consP at h
  cases h1 : fk env with
  | none => rw [h1] at h; cases h
  | some x =>
  obtain ⟨x, e1⟩ := x
  rw [h1] at h
  simp only [Option.bind_some] at h
  cases h2 : fv e1 with
  | none => rw [h2] at h; cases h
  | some y =>
  obtain ⟨y, e2⟩ := y
  rw [h2] at h
  simp only [Option.bind_some] at h
  cases h3 : fr e2 with
  | none => rw [h3] at h; cases h
  | some r =>
  obtain ⟨r, e3⟩ := r
  rw [h3] at h
  cases h
  exact ⟨x, e1, y, e2, r, rfl, h2, h3, rfl⟩
abbrev RpPs (K : PySem.W.Frag) (H : Hp) (W : ASet) : List (V × V) → DKV → Prop := Paired fun v p => Rp K H W v.1 p.1 ∧ Rp K H W v.2 p.2
theorem RpPs.keep {K : PySem.W.Frag} {H H' : Hp} {W W' : ASet} (kp : Kp H W H' W') : ∀ {vs : List (V × V)} {ps : DKV}, RpPs K H W vs ps → RpPs K H' W' vs ps
  | _, _, .nil => .nil
  | _, _, .cons h r => .cons ⟨h.1.keep kp, h.2.keep kp⟩ (RpPs.keep kp r)
def rdP (K : PySem.W.Frag) (τ : List OT) (p : Bool) (f : MP) (σ : L2.St) (H : Hp) (Q : List (V × V) → Hp → Prop) : Prop :=
  ∃ Wo F env ps env', Slots K H Wo τ σ env F ∧ f env = some (ps, env') ∧ ∀ vs H', Slots K H' Wo τ σ env' F → Kq p F H H' → RpPs K H' (WF Wo F) vs ps → Q vs H'
structure EvP (X : Cx) (τ : List OT) (p : Bool) (pos : Pos) (keys : List (Option Expr)) (values : List Expr) (f : MP) : Prop where
  ex : ∃ trs, PPs X pos keys values trs ∧ ∀ σ H Q, rdP X.K τ p f σ H Q → tPairs trs σ H Q
theorem evP_nil : EvP X τ true pos [] [] nilP := ⟨[], pps_nil, fun σ H Q ⟨Wo, F, env, ps, env', S, hf, k⟩ => by
  cases hf
  exact k [] H S Kq.refl .nil⟩
theorem evP_cons {k v : Expr} {ks : List (Option Expr)} {vs : List Expr} {fk fv : M PyData} {fr : MP} {p1 p2 p3 : Bool} (hk : EvM X τ p1 (.ow .sh) k fk) (hv : EvM X τ p2 (.ow .sh) v fv) (hr : EvP X τ p3 pos ks vs fr) :
    EvP X τ (p1 && (p2 && p3)) pos (some k :: ks) (v :: vs) (consP fk fv fr) := by
  obtain ⟨trs, h1, h2⟩ := hr.ex
  refine ⟨_, pps_cons hk hv h1, fun σ H Q ⟨Wo, F, env, ps, env', S, hf, kk⟩ => ?_⟩
  obtain ⟨x, e1, y, e2, r, a1, a2, a3, rfl⟩ := consP_some hf
  refine ⟨Wo, F, env, x, e1, S, a1, fun v1 H1 G1 S1 k1 md1 g1 => ⟨Wo, F, e1, y, e2, S1.less, a2, fun v2 H2 G2 S2 k2 md2 g2 => ?_⟩⟩
  refine h2 σ H2 _ ⟨Wo, F, e2, r, env', S2.less, a3, fun us H3 S3 k3 ru => kk _ H3 S3 (k1.trans (k2.trans k3)) (.cons ⟨?_, ?_⟩ ru)⟩
  · exact ((Own.rpW S g1 md1).keep k2.kp).keep k3.kp
  · exact (Own.rpW S1.less g2 md2).keep k3.kp
def mkD (ps : DKV) : Option PyData := if ps.length ≤ 15 then (keysM ps).map fun ms => .dict (mergeD [] ms) else none
theorem keysM_rp {K : PySem.W.Frag} {H : Hp} {W : ASet} : ∀ {vs : List (V × V)} {ps : DKV} {ms : List (Key × PyData)}, RpPs K H W vs ps → keysM ps = some ms → ∃ kvs : List (Key × V), vs = kvs.map (fun kv => (kV kv.1, kv.2)) ∧ RpM K H W kvs ms
  | _, _, ms, .nil, h => by cases h; exact ⟨[], rfl, .nil⟩
  | _, (a, d) :: ps, ms, .cons h r, hm => by
    obtain ⟨k, z', rfl, h2, rfl⟩ := keysM_cons hm
    obtain ⟨kvs, rfl, rm⟩ := keysM_rp r h2
    refine ⟨(k, _) :: kvs, ?_, .cons h.2 rm⟩
    rw [List.map_cons, ← Rq.key (keyOf_keyD k) (.rp h.1)]
theorem ev_dsp {keys : List (Option Expr)} {values : List Expr} {fp : MP} (h : EvP X τ p pos keys values fp) (hall : keys.all (·.isSome) = true) (hl : keys.length = values.length) (h0 : keys ≠ []) (h15 : keys.length ≤ 15) :
    EvM X τ p (.ow .dc) (.Dict keys values pos) (mapM fp mkD) := by
  obtain ⟨trs, h1, h2⟩ := h.ex
  refine PE.imp (pe_disp h1 hall hl h0 h15) fun σ H Q ⟨Wo, F, env, d, env', S, hf, k⟩ => ?_
  obtain ⟨ps, g1, g2⟩ := mapM_some hf
  unfold mkD at g2
  by_cases c : ps.length ≤ 15
  · rw [if_pos c] at g2
    cases e : keysM ps with
    | none => rw [e] at g2; cases g2
    | some ms =>
    rw [e] at g2
    cases g2
    intro a na
    have S1 := S.grow (up_same (o := .dK []) na) (nw_one na) fun b e => ⟨.dK [], by rw [e]; exact upd_same⟩
    refine h2 σ _ _ ⟨_, F, env, ps, env', S1, g1, fun vs H' S' kq ru => ?_⟩
    have hA : H' a = some (.dK []) := kq a _ upd_same fun _ i x => (S1.wo a (.inr rfl)).2 i x
    obtain ⟨kvs, rfl, rm⟩ := keysM_rp ru e
    have hlen := Paired.length ru
    rw [List.length_map] at hlen
    refine ⟨hA, kvs, rfl, by omega, ?_⟩
    have nW : ¬ WF Wo F a := fun w => by
      obtain ⟨o, e⟩ := S.tracked w
      rw [na] at e; cases e
    have eW : WF (Un2 Wo fun b => b = a) F = Un2 (WF Wo F) fun b => b = a := wf_un _ _ _
    rw [eW] at rm
    have rk : RpK X.K H' (Un2 (WF Wo F) fun b => b = a) (mergeK [] kvs) (mergeD [] ms) := rm.merge .nil
    have rk2 : RpK X.K (upd H' a (.dK (mergeK [] kvs))) (Un2 (WF Wo F) fun b => b = a) (mergeK [] kvs) (mergeD [] ms) := rk.keep ⟨fun b o e w => by rw [upd_ne (fun z => w (.inr z))]; exact e, fun _ _ _ w => w⟩
    have kq2 : Kq p F H (upd H' a (.dK (mergeK [] kvs))) := fun b o e n => by
      have ne : b ≠ a := fun z => by rw [z, na] at e; cases e
      rw [upd_ne ne]
      exact kq b o (by rw [upd_ne ne]; exact e) n
    refine k (.ref a) _ (fun b => b = a) (S'.barred (.inr rfl)) kq2 ⟨a, _, _, rfl, rfl, upd_same, fun _ => Iff.rfl, ?_⟩ (nw_one na)
    rw [eW]
    exact rk2
  · rw [if_neg c] at g2; cases g2
/-! dict(pairs), dict(d) -/
def pairsM : List PyData → Option (List (Key × PyData))
  | [] => some []
  | .tuple [a, d] :: r => (keyOf a).bind fun k => (pairsM r).map fun z => (k, d) :: z
  | _ => none
def dictCD : List PyData → Option PyData
  | [.list ps] => (pairsM ps).map fun ms => .dict (mergeD [] ms)
  | [.dict kvs] => some (.dict kvs)
  | _ => none
theorem pairsM_cons {d : PyData} {r : List PyData} {z : List (Key × PyData)} (h : pairsM (d :: r) = some z) : ∃ k v z', d = .tuple [keyD k, v] ∧ pairsM r = some z' ∧ z = (k, v) :: z' := by
  unfold pairsM at h
  split at h
  · rename_i he; cases he
  · rename_i a v r' he
    cases he
    cases e : keyOf a with
    | none => rw [e] at h; cases h
    | some k =>
      rw [e] at h
      simp only [Option.bind_some] at h
      cases e2 : pairsM r with
      | none => rw [e2] at h; cases h
      | some z' => rw [e2] at h; cases h; exact ⟨k, v, z', by rw [keyOf_some e], rfl, rfl⟩
  · cases h
theorem pairs_rp {K : PySem.W.Frag} {H : Hp} {W : ASet} : ∀ {ps : List PyData} {vs : List V} {ms : List (Key × PyData)}, RpA K H W vs ps → pairsM ps = some ms → ∃ (as : List Addr) (kvs : List (Key × V)), vs = as.map V.ref ∧ Paired (fun p kv => SqT K H p [kV kv.1, kv.2]) as kvs ∧ RpM K H W kvs ms
  | [], vs, ms, r, h => by cases h; cases r; exact ⟨[], [], rfl, .nil, .nil⟩
  | d :: ps, vs, ms, r, h => by
    obtain ⟨k, v, z', rfl, h2, rfl⟩ := pairsM_cons h
    cases r with
    | cons r1 r2 =>
      obtain ⟨as, kvs, rfl, pr, rm⟩ := pairs_rp r2 h2
      obtain ⟨a, xs, rfl, ht, ra⟩ := r1.tupI
      cases ra with
      | cons rk ra =>
        cases ra with
        | cons rv ra =>
          cases ra
          rw [Rq.key (keyOf_keyD k) (.rp rk)] at ht
          exact ⟨a :: as, (k, _) :: kvs, rfl, .cons ht pr, .cons rv rm⟩
theorem c_dict (hc : X.calm = true) : CallOk X (.type "dict") dictCD .dc := by
  intro pins s σ H xs us Q ds d W I r qs wt hg k
  unfold dictCD at hg
  split at hg
  · rename_i ps
    cases e : pairsM ps with
    | none => rw [e] at hg; cases hg
    | some ms =>
      rw [e] at hg
      cases hg
      obtain ⟨x, rfl, qx⟩ := qs.one
      obtain ⟨a, ys, rfl, hl, ra⟩ := qx.listI
      obtain ⟨as, kvs, rfl, pr, rm⟩ := pairs_rp ra e
      exact call_dictP hc pins s σ H _ us Q I r ⟨a, as, kvs, rfl, hl, pr, fun q nq => k.newD nq (rm.merge .nil)⟩
  · cases hg
    obtain ⟨x, rfl, qx⟩ := qs.one
    obtain ⟨a, ks, rfl, hd, rk⟩ := qx.dictI
    exact call_dictD pins s σ H _ us Q I r ⟨a, ks, rfl, hd, fun q nq => k.newD nq rk⟩
  · cases hg
/-! d[k], k in d -/
def dixD : PyData → PyData → Option PyData
  | .dict kvs, k => (keyOf k).bind (valD kvs)
  | _, _ => none
theorem ev_dix (hu : X.A.units + 1 < cLine) (ha : EvM X τ p m o fa) (hb : EvM X τ q m2 e fb) (hst : m.stab q = true) (hs : NoSl e) : EvM X τ (p && q) (.ow .sh) (.Subscript o e pos) (bind2 fa fb dixD) := by
  refine PE.imp (pe_dget hu ha hb hs) fun σ H Q ⟨Wo, F, env, d, env', S, hf, k⟩ => ?_
  obtain ⟨dx, e1, dy, h1, h2, h3⟩ := bind2_some hf
  refine ⟨Wo, F, env, dx, e1, S, h1, fun v H1 G1 S1 k1 md1 g1 => ⟨Wo, F, e1, dy, env', S1.less, h2, fun u H2 G2 S2 k2 md2 g2 => ?_⟩⟩
  unfold dixD at h3
  split at h3
  · rename_i kvs
    cases ek : keyOf dy with
    | none => rw [ek] at h3; cases h3
    | some key =>
      rw [ek] at h3
      simp only [Option.bind_some] at h3
      obtain ⟨a, ks, rfl, hd, rk⟩ := (md1.stay S g1 k2 hst).dictI
      obtain ⟨x, hx, rx⟩ := (rk.val key).1 _ h3
      refine ⟨a, x, rfl, .inl ⟨ks, key, hd, Rq.key ek (md2.rq S1.less g2), hx.symm⟩, fin_sh k S2.less (k1.trans k2) rx⟩
  · cases h3
def inDD (neg : Bool) : PyData → PyData → Option PyData
  | k, .dict kvs => (keyOf k).map fun key => .bool (if neg then !(valD kvs key).isSome else (valD kvs key).isSome)
  | _, _ => none
theorem b_inDict (hu : X.A.units + 1 < cLine) : BinOk X (compareOp .In) (inDD false) .sh := by
  intro pins s σ H x y v u Q dx dy d W I rx ry qx qy wt hg k
  unfold inDD at hg
  split at hg
  · rename_i kvs
    cases ek : keyOf dx with
    | none => rw [ek] at hg; cases hg
    | some key =>
      rw [ek] at hg
      cases hg
      obtain ⟨a, ks, rfl, hd, rk⟩ := qy.dictI
      obtain rfl : u = Value.ref a := ry
      refine d_in hu I (y := x) (.inl ⟨ks, key, hd, Rq.key ek qx, rfl⟩) rx fun s3 I3 => ⟨.bl (valV ks key).isSome, H, I3, rfl, k.sh (fun _ _ e => e) ?_⟩
      rw [(rk.val key).2]
      exact .bl _
  · cases hg
theorem b_notInDict (hu : X.A.units + 1 < cLine) : BinOk X (compareOp .NotIn) (inDD true) .sh := by
  intro pins s σ H x y v u Q dx dy d W I rx ry qx qy wt hg k
  unfold inDD at hg
  split at hg
  · rename_i kvs
    cases ek : keyOf dx with
    | none => rw [ek] at hg; cases hg
    | some key =>
      rw [ek] at hg
      cases hg
      obtain ⟨a, ks, rfl, hd, rk⟩ := qy.dictI
      obtain rfl : u = Value.ref a := ry
      refine d_notIn hu I (y := x) (.inl ⟨ks, key, hd, Rq.key ek qx, rfl⟩) rx fun s3 I3 => ⟨.bl (!(valV ks key).isSome), H, I3, rfl, k.sh (fun _ _ e => e) ?_⟩
      rw [(rk.val key).2]
      exact .bl _
  · cases hg
def inAD (neg : Bool) : PyData → PyData → Option PyData := fun x y => (inD neg x y).or (inDD neg x y)
theorem b_inA (hu : X.A.units + 65 < cLine) : BinOk X (compareOp .In) (inAD false) .sh := (b_in hu).or (b_inDict (by omega))
theorem b_notInA (hu : X.A.units + 65 < cLine) : BinOk X (compareOp .NotIn) (inAD true) .sh := (b_notIn hu).or (b_notInDict (by omega))
end
end Ev

set_option Elab.async false
set_option linter.all false
set_option maxRecDepth 100000
set_option maxHeartbeats 4000000
namespace Ev
open PySem PySem.Spec PyProof.Rows L2 LiI

/-! ### LL. list(d.items()) -/
section
variable {X : Cx} {e : Expr} {te : TE} {p apos cpos pos : Pos}
def tListItemsR (te : TE) : TE := fun σ H Q => te σ H fun x H1 => ∃ (d : Addr) (kvs : List (Key × V)), x = .ref d ∧ Rd H1 d (.dK kvs) ∧
  ∀ (H' : Hp) (p : Addr) (ts : List Addr), (∀ b o, H1 b = some o → H' b = some o) → H1 p = none → (∀ t ∈ ts, H1 t = none) → p ∉ ts → H' p = some (.lst (ts.map V.ref)) → Paired (fun (t : Addr) (q : Key × V) => H' t = some (.tup [kV q.1, q.2])) ts kvs → Q (.ref p) H'
theorem pe_listItemsR (hc : X.calm = true) (he : PE X e te) (hg : Gl X "list") (hm : X.mg "list" = none) (hv : bootBuiltins "list" = some (.type "list")) (hbase : attributeBase e "items" X.env (eval e X.env) = eval e X.env := by rfl) (hline : (apos.endLine == cpos.line) = true := by rfl)
    (hs : starEach [.Call (.Attribute e "items" apos) [] [] cpos] X.env = (false, eval (.Call (.Attribute e "items" apos) [] [] cpos) X.env) :: starEach [] X.env := by rfl) :
    PE X (.Call (.Name "list" p) [.Call (.Attribute e "items" apos) [] [] cpos] [] pos) (tListItemsR te) := by
  refine ⟨fun pins s σ H Q I hq => ?_⟩
  refine wpAny_Call_Name_kw (ld_blt I hg hm hv ?_)
  refine PyProof.Rows.callWith_type1 ?_ hs rfl
  rw [hs]
  show wpAny _ _ (spliced ((false, eval (.Call (.Attribute e "items" apos) [] [] cpos) X.env) :: backTo pos (starEach [] X.env))) _ _ s
  refine Calls.spliced_cons ?_
  refine wpAny_Call_method (T := "dict") (id := "dict.items") hbase rfl hline F.plainAttrs_dict F.slot_dict_items F.type_dict_items (thn (he.run pins s σ H _ I hq) fun u s1 ⟨x, H1, I1, rx, d, kvs, ex, hd, q⟩ => ?_)
  subst ex
  obtain rfl : u = Value.ref d := rx
  obtain ⟨hz, hs0, vs, kv, hdo⟩ := hd.ok I1.hok
  obtain ⟨ep, hat⟩ := hdo.dictAt
  have lk : kvs.length = vs.length := Paired.length kv
  have I2 : Inv X pins σ H1 { s1 with heap := s1.heap.push { cls := .type "dict_items", data := .fields #[.ref d] } } := I1.kept (t' := s1.toks) fun b ob q => Heap.get?_push_of_some _ q
  refine ⟨hdo.typeIs, hdo.mapOf.noDict, ?_⟩
  show wpAny _ _ (callWith cpos (.builtin "dict.items") [.ref d] [] []) _ X.xe s1
  refine method_meetsIn F.slot_dict_items F.entry_dict_items rfl (PySem.evalArgs_none ⟨rfl, hdo.typeIs, F.args_dict_items_1 _, _, meets_dict_items (mixKind X.prog X.w) d hs0, ⟨vs, hdo⟩, ?_⟩)
  refine Calls.spliced_nil ?_
  refine PySem.W.kdx_call (knd := mixKind X.prog X.w) (kvs := vs) (ep := ep) (I1.ok.hd hc) ⟨_, Heap.get?_push_size _ rfl, rfl, rfl⟩ (hat.push _) (by omega) fun h' tk acc c as hk hS hl hG hacc => ?_
  obtain ⟨H', k1, k2, k3, k4, k5, k6, J⟩ := items_laid (tk := tk) I2 hz kv hk hS hl hG hacc
  exact ⟨.ref _, H', J, rfl, q H' _ as k1 k2 k3 k4 k5 k6⟩
end
section
variable {X : Cx} {τ : List OT} {p q : Bool} {m m2 : Md} {e o : Expr} {es : List Expr} {f fa fb : M PyData} {fr : M (List PyData)} {pos : Pos}
def itemsLD : PyData → Option PyData
  | .dict kvs => some (.list (kvs.map fun kv => .tuple [kv.1, kv.2]))
  | _ => none
theorem tups_rp {K : PySem.W.Frag} {H' : Hp} {W : ASet} {T : ASet} : ∀ {ks : List (Key × V)} {kvs : DKV} {ts : List Addr}, RpK K H' W ks kvs → Paired (fun (t : Addr) (q : Key × V) => H' t = some (.tup [kV q.1, q.2])) ts ks → (∀ t ∈ ts, ¬ W t) → RpA K H' W (ts.map V.ref) (kvs.map fun kv => .tuple [kv.1, kv.2])
  | _, _, _, .nil, .nil, _ => .nil
  | (k, v) :: ks, (_, d) :: kvs, t :: ts, .cons h r, .cons h2 r2, hw =>
    .cons (.tup (.inl ⟨.inl h2, hw t List.mem_cons_self⟩) (.cons (rp_key k) (.cons h .nil))) (tups_rp (T := T) r r2 fun t ht => hw t (List.mem_cons_of_mem _ ht))
theorem ev_listItems {apos cpos pp : Pos} (hc : X.calm = true) (h : EvM X τ p m e f) (hg : Gl X "list") (hm : X.mg "list" = none) (hbase : attributeBase e "items" X.env (eval e X.env) = eval e X.env) (hline : (apos.endLine == cpos.line) = true)
    (hs : starEach [.Call (.Attribute e "items" apos) [] [] cpos] X.env = (false, eval (.Call (.Attribute e "items" apos) [] [] cpos) X.env) :: starEach [] X.env) :
    EvM X τ p (.ow (.ls .sh)) (.Call (.Name "list" pp) [.Call (.Attribute e "items" apos) [] [] cpos] [] pos) (mapF f itemsLD) := by
  refine PE.imp (pe_listItemsR hc h hg hm (by rfl) hbase hline hs) fun σ H Q ⟨Wo, F, env, d, env', S, hf, k⟩ => ?_
  obtain ⟨x, h1, h2⟩ := mapM_some hf
  refine ⟨Wo, F, env, x, env', S, h1, fun v H1 G S' kq md g => ?_⟩
  unfold itemsLD at h2
  split at h2
  · cases h2
    obtain ⟨a, ks, rfl, hd, rk⟩ := (md.rq S g).dictI
    refine ⟨a, ks, rfl, hd, fun H' pp ts k1 k2 k3 k4 k5 k6 => ?_⟩
    have kp : Kp H1 (WF Wo F) H' (Un2 (WF Wo F) fun b => b = pp) := ⟨fun b o e _ => k1 b o e, fun b o e w x => x.elim w fun z => by rw [z, k2] at e; cases e⟩
    have hw : ∀ t ∈ ts, ¬ Un2 (WF Wo F) (fun b => b = pp) t := fun t ht w => by
      rcases w with w | w
      · obtain ⟨o, e⟩ := S'.less.tracked w
        rw [k3 t ht] at e; cases e
      · exact k4 (by rw [← w]; exact ht)
    refine nx_of (t := .ls .sh) k S'.less kq (.ref pp) H' (fun b => b = pp) k1 ?_ (nw_one k2)
    exact ⟨pp, _, _, Z0, rfl, rfl, k5, fun b => ⟨.inl, fun z => z.elim id fun z => z.elim⟩, fun z => z, OwnL.of_rpa (tups_rp (T := Z0) (rk.keep kp) k6 hw) fun _ z => z⟩
  · cases h2
end
/-! ### MM. a dict is walked: it is locked meanwhile -/
/-- as it was, but that one dict is locked, or is not -/
def LkE (H H' : Hp) : Prop := ∀ b, H' b = H b ∨ ∃ o ks, (H b = some (.dK ks) ∧ H' b = some (.frz o (.dK ks))) ∨ (H b = some (.frz o (.dK ks)) ∧ H' b = some (.dK ks))
theorem LkE.rd {H H' : Hp} (k : LkE H H') {a : Addr} {u : HO} (nf : ∀ o u', u ≠ .frz o u') (h : Rd H a u) : Rd H' a u := by
  rcases k a with e | ⟨o, ks, ⟨e1, e2⟩ | ⟨e1, e2⟩⟩
  · unfold Rd; rw [e]; exact h
  · rcases h with h | ⟨o', h⟩
    · rw [e1] at h; cases h; exact .inr ⟨o, e2⟩
    · rw [e1] at h; cases h
  · rcases h with h | ⟨o', h⟩
    · rw [e1] at h
      cases h
      exact absurd rfl (nf _ _)
    · rw [e1] at h; cases h; exact .inl e2
theorem LkE.rdL {H H' : Hp} (k : LkE H H') {a : Addr} {xs : List V} (h : Rd H a (.lst xs)) : Rd H' a (.lst xs) := k.rd (fun _ _ z => nomatch z) h
theorem LkE.rdT {H H' : Hp} (k : LkE H H') {a : Addr} {xs : List V} (h : Rd H a (.tup xs)) : Rd H' a (.tup xs) := k.rd (fun _ _ z => nomatch z) h
theorem LkE.rdD {H H' : Hp} (k : LkE H H') {a : Addr} {xs : List (Key × V)} (h : Rd H a (.dK xs)) : Rd H' a (.dK xs) := k.rd (fun _ _ z => nomatch z) h
section
variable {K : PySem.W.Frag} {H H' : Hp} {W : ASet}
mutual
theorem Rp.lk (k : LkE H H') : ∀ {v : V} {d : PyData}, Rp K H W v d → Rp K H' W v d
  | _, _, .non => .non
  | _, _, .bl b => .bl b
  | _, _, .int i => .int i
  | _, _, .str x => .str x
  | _, _, .lst h r => .lst (h.imp (fun z => ⟨k.rdL z.1, z.2⟩) id) (RpA.lk k r)
  | _, _, .tup h r => .tup (h.imp (fun z => ⟨k.rdT z.1, z.2⟩) id) (RpA.lk k r)
  | _, _, .dct h n r => .dct (k.rdD h) n (RpK.lk k r)
theorem RpA.lk (k : LkE H H') : ∀ {vs : List V} {ds : List PyData}, RpA K H W vs ds → RpA K H' W vs ds
  | _, _, .nil => .nil
  | _, _, .cons h r => .cons (Rp.lk k h) (RpA.lk k r)
theorem RpK.lk (k : LkE H H') : ∀ {vs : List (Key × V)} {ds : DKV}, RpK K H W vs ds → RpK K H' W vs ds
  | _, _, .nil => .nil
  | _, _, .cons h r => .cons (Rp.lk k h) (RpK.lk k r)
end
theorem Own.lk (k : LkE H H') : ∀ {t : OT} {v : V} {d : PyData} {F : ASet}, (∀ a, F a → H' a = H a) → Own K H W t v d F → Own K H' W t v d F
  | .sh, _, _, _, _, h => ⟨h.1.lk k, h.2⟩
  | .ls t, _, _, _, hF, h => by
    obtain ⟨b, xs, ds, G, rfl, rfl, hb, e, n, r⟩ := h
    exact ⟨b, xs, ds, G, rfl, rfl, by rw [hF b ((e b).mpr (.inl rfl))]; exact hb, e, n, r.imp fun v d F s p => Own.lk k (fun a x => hF a ((e a).mpr (.inr (s a x)))) p⟩
  | .dc, _, _, _, hF, h => by
    obtain ⟨b, ks, kvs, rfl, rfl, hb, e, r⟩ := h
    exact ⟨b, ks, kvs, rfl, rfl, by rw [hF b ((e b).mpr rfl)]; exact hb, e, r.lk k⟩
theorem LkE.some (k : LkE H H') {a : Addr} (h : ∃ o, H a = some o) : ∃ o, H' a = some o := by
  obtain ⟨o, h⟩ := h
  rcases k a with e | ⟨o, ks, ⟨e1, e2⟩ | ⟨e1, e2⟩⟩
  · exact ⟨_, by rw [e]; exact h⟩
  · exact ⟨_, e2⟩
  · exact ⟨_, e2⟩
theorem LkE.none (k : LkE H H') {a : Addr} (h : H a = none) : H' a = none := by
  rcases k a with e | ⟨o, ks, ⟨e1, e2⟩ | ⟨e1, e2⟩⟩
  · rw [e]; exact h
  · rw [h] at e1; cases e1
  · rw [h] at e1; cases e1
theorem Slots.lk {Wo : ASet} {τ : List OT} {σ : L2.St} {env : Env} {F : Nat → ASet} (S : Slots K H Wo τ σ env F) (k : LkE H H') (hF : ∀ i a, F i a → H' a = H a) : Slots K H' Wo τ σ env F :=
  ⟨S.len, S.tl, fun a x => ⟨k.some (S.wo a x).1, (S.wo a x).2⟩, S.disj, fun i d e => by
    obtain ⟨v, h1, h2⟩ := S.slot i d e
    exact ⟨v, h1, h2.lk k (hF i)⟩, S.void⟩
end
def keysLD : PyData → Option (List PyData)
  | .dict kvs => some (kvs.map Prod.fst)
  | _ => none
/-- the keys of the dict that a name holds -/
def keysF (i : Nat) : M (List PyData) := mapM (varF i) keysLD
section
variable {X : Cx} {P : Program} {w : World} {K : PySem.W.Frag} {mg : Str → Option Value} {base : Heap} {k kk : Nat} {N : List Str} {sc : Scope} {fn : Str → Bool} {τ : List OT} {p q : Bool} {m m2 : Md} {t : OT}
theorem XOk.r1 (hX : XOk X P w K mg base k N sc fn) : X.A.units + 1 < cLine := room64 hX.room (by decide)
/-- the name's dict is locked -/
def Lkd (i : Nat) (σ : L2.St) (H : Hp) : Prop := ∃ a o ks, σ[i]? = some (some (.ref a)) ∧ H a = some (.frz o (.dK ks))
theorem yields_keys {K : PySem.W.Frag} {H0 : Hp} {B C : ASet} {a : Addr} {o : Obj} {ks : List (Key × V)} {kvs : DKV} (h : H0 a = some (.frz o (.dK ks))) (n : ¬ C a) (r : RpK K H0 B ks kvs) : Yields K C B (Itk a o ks) H0 (kvs.map Prod.fst) := by
  have hk : ∀ (ks : List (Key × V)) (kvs : DKV), RpK K H0 B ks kvs → ∀ (i : Nat) d, (kvs.map Prod.fst)[i]? = some d → ∃ k v, ks[i]? = some (k, v) ∧ d = keyD k := by
    intro ks
    induction ks with
    | nil => intro kvs r i d e; cases r; simp at e
    | cons kv ks ih =>
      intro kvs r i d e
      cases r with
      | cons h r =>
        cases i with
        | zero => simp at e; exact ⟨_, _, rfl, e.symm⟩
        | succ i => exact ih _ r i d (by simpa using e)
  refine ⟨fun i H W d kc kp wt hd => ?_, fun i H kc hd => ?_⟩
  · obtain ⟨key, v, e1, rfl⟩ := hk ks kvs r i d hd
    have ha := kc a _ h n
    refine ⟨⟨ha, (List.getElem?_eq_some_iff.mp e1).1⟩, fun x' H' hy => ?_⟩
    obtain ⟨rfl, key', v', e2, rfl⟩ := hy
    rw [e1] at e2
    cases e2
    exact ⟨fun _ _ e => e, rp_key key⟩
  · refine ⟨kc a _ h n, ?_⟩
    have := List.getElem?_eq_none_iff.mp hd
    rw [List.length_map, ← r.length] at this
    exact this
theorem evI_keysL {i : Nat} {x : Str} {pos : Pos} {tg : Expr} (hN : X.N[i]? = some x) (hv : Vis X.env.scope x) (ht : τ.getD i .sh = .sh) (hd : (x == ("__debug__" : Str)) = false) (hcd : (x == ("__classdict__" : Str)) = false) :
    PI X tg (.Name x pos) (fun σ H R => Lkd i σ H ∧ rdI X.K τ true false (keysF i) σ H R) := by
  refine PI.imp (pi_keys (pe_var hN hv hd hcd)) fun σ H R ⟨⟨a, o, ks, e1, e2⟩, Wo, F, env, ds, env', S, hf, k⟩ => ?_
  obtain ⟨d, h1, h2⟩ := mapM_some hf
  obtain ⟨h3, rfl⟩ := varF_some h1
  obtain ⟨v, h4, ow⟩ := S.slot i d h3
  rw [ht] at ow
  rw [e1] at h4
  cases h4
  unfold keysLD at h2
  split at h2
  · rename_i kvs
    cases h2
    refine ⟨.ref a, e1, a, o, rfl, .inl ⟨ks, e2, k _ H S Kq.refl ?_⟩⟩
    cases ow.1 with
    | dct h n r =>
      rename_i ks'
      have : ks' = ks := by
        rcases h with h | ⟨o', h⟩
        · rw [e2] at h; cases h
        · rw [e2] at h; cases h; rfl
      subst this
      exact yields_keys e2 (by simpa using n) r
  · cases h2
theorem tLc_and {wi wi' : TI} {g : TG} {tt : TT} {te : TE} {vs : List Nat} {σ : L2.St} {H : Hp} {Q : VK} (h : ∀ R, wi σ H R → wi' σ H R) (hw : tLc wi g tt te vs σ H Q) : tLc wi' g tt te vs σ H Q := h _ hw
/-- [elt for k in d if ..], d a name that holds a dict -/
theorem x_lcD {elt tg : Expr} {i : Nat} {x : Str} {pp : Pos} {ifs : List Expr} {scope : Scope} {own : List (Str × Nat)} {pos : Pos} {asg : PyData → Env → Option Env} {cond : M Bool} {fe : M PyData} {ws : List Nat} {pc pe : Bool} (hX : XOk X P w K mg base k N sc fn)
    (hN : N[i]? = some x) (hv : visB sc x = true) (ht : τ.getD i .sh = .sh) (hnm : nmB x = true)
    (ok : blkC N sc scope own = true) (hvv : (own.map (·.2)).all (fun i => decide (τ.getD i .sh = .sh)) = true) (hw : ws.all (fun i => decide (i ∈ own.map (·.2))) = true)
    (hg : ∀ Y, Blk P w K mg base k N sc scope Y → EvG Y τ ws tg asg) (htt : ∀ Y, Blk P w K mg base k N sc scope Y → EvTs Y τ pc ifs cond) (he : ∀ Y, Blk P w K mg base k N sc scope Y → EvM Y τ pe (.ow t) elt fe) (hs : ∀ y, foldedSetIterable (.Name x pp) X.env y = pure y) :
    EvM X τ (pc && pe) (.ow (.ls t)) (.ListComp elt [⟨tg, .Name x pp, ifs, 0⟩] scope pos) (compF (pc && pe) (keysF i) asg cond fe (own.map (·.2))) := by
  have hPI := evI_keysL (X := X) (τ := τ) (i := i) (pos := pp) (tg := tg) (by rw [hX.names]; exact hN) (hX.vis hv) ht (nmB_d hnm) (nmB_c hnm)
  have hPE := pe_lc (own := own) (g := rdG X.K τ ws asg) (tt := rdT X.K τ pc cond) (te := rdM X.K τ pe (.ow t) fe) (pos := pos) hX.calm (by rw [hX.names]; exact hX.nd) hPI (blkOk_by (by rw [hX.names, hX.scope]; exact ok)) (fun s H C cl fp => hg _ (hX.blk scope s H C cl fp)) (fun s H C cl fp => htt _ (hX.blk scope s H C cl fp)) (fun s H C cl fp => he _ (hX.blk scope s H C cl fp)) hs
  refine PE.imp (PE.or hPE (pe_lock hPE)) fun σ H Q h => ?_
  have run : ∀ {H : Hp} {Q : VK}, Lkd i σ H → rdM X.K τ (pc && pe) (.ow (.ls t)) (compF (pc && pe) (keysF i) asg cond fe (own.map (·.2))) σ H Q → tLc (fun σ H R => Lkd i σ H ∧ rdI X.K τ true false (keysF i) σ H R) (rdG X.K τ ws asg) (rdT X.K τ pc cond) (rdM X.K τ pe (.ow t) fe) (own.map (·.2)) σ H Q := fun l h =>
    tLc_and (wi := rdI X.K τ true false (keysF i)) (fun R r => ⟨l, r⟩) (comp_rd (p := true) (own := false) (fun i hi => of_decide_eq_true (List.all_eq_true.mp hvv i hi)) (fun i hi => of_decide_eq_true (List.all_eq_true.mp hw i hi)) (fun e => Bool.noConfusion e) (by simpa using h))
  obtain ⟨Wo, F, env, d, env', S, hf, kQ⟩ := id h
  have hfk : ∃ ds, keysF i env = some (ds, env) := by
    unfold compF at hf
    cases hs : keysF i env with
    | none => rw [hs] at hf; cases hf
    | some s1 =>
      obtain ⟨ds, e1⟩ := s1
      obtain ⟨d, h1, h2⟩ := mapM_some hs
      obtain ⟨_, rfl⟩ := varF_some h1
      exact ⟨ds, rfl⟩
  obtain ⟨ds, hfk⟩ := hfk
  obtain ⟨dd, h1, h2⟩ := mapM_some hfk
  obtain ⟨h3, _⟩ := varF_some h1
  obtain ⟨v, h4, ow⟩ := S.slot i dd h3
  rw [ht] at ow
  unfold keysLD at h2
  split at h2
  · cases ow.1 with
    | dct hr n r =>
      rename_i a ks
      rcases hr with hr | ⟨o, hr⟩
      · right
        refine ⟨a, .dK ks, hr, trivial, fun od => ?_⟩
        have lk : LkE H (upd H a (.frz od (.dK ks))) := fun b => by
          by_cases c : b = a
          · subst c; exact .inr ⟨od, ks, .inl ⟨hr, upd_same⟩⟩
          · exact .inl (upd_ne c)
        have nF : ∀ i, ¬ F i a := fun i x => n (.inr ⟨i, x⟩)
        have S1 := S.lk lk fun i b x => by rw [upd_ne (fun z => nF i (by rw [← z]; exact x))]
        refine run ⟨a, od, ks, h4, upd_same⟩ ⟨Wo, F, env, d, env', S1, hf, fun v H' G S' kq md g => ?_⟩
        have hA : H' a = some (.frz od (.dK ks)) := kq a _ upd_same fun _ => nF
        refine ⟨hA, ?_⟩
        have lk2 : LkE H' (upd H' a (.dK ks)) := fun b => by
          by_cases c : b = a
          · subst c; exact .inr ⟨od, ks, .inr ⟨hA, upd_same⟩⟩
          · exact .inl (upd_ne c)
        have nG : ¬ G a := fun x => by
          have := g a x
          rw [upd_same] at this; cases this
        refine kQ v _ G (S'.lk lk2 fun i b x => by rw [upd_ne (fun z => nF i (by rw [← z]; exact x))]) (fun b o e nn => ?_) ?_ (fun b x => ?_)
        · by_cases c : b = a
          · subst c; rw [hr] at e; cases e; exact upd_same
          · rw [upd_ne c]
            exact kq b o (by rw [upd_ne c]; exact e) nn
        · exact Own.lk lk2 (fun b x => by rw [upd_ne (fun z => nG (by rw [← z]; exact x))]) md
        · have := g b x
          by_cases c : b = a
          · subst c; rw [upd_same] at this; cases this
          · rwa [upd_ne c] at this
      · left
        exact run ⟨a, o, ks, h4, hr⟩ h
  · cases h2
end
end Ev

set_option Elab.async false
set_option linter.all false
set_option maxRecDepth 100000
set_option maxHeartbeats 4000000
namespace Ev
open PySem PySem.Spec PyProof.Rows L2

/-! ### MM. a slot's own tree becomes another one; slots that hold nothing -/
section
variable {K : PySem.W.Frag} {H H' : Hp} {Wo Gn G' : ASet} {τ : List OT} {σ : L2.St} {env : Env} {F : Nat → ASet} {v : V} {d : PyData} {i : Nat} {t : OT} {bor : List Nat}
theorem Slots.updT (S : Slots K H (Un2 Wo Gn) τ σ env F) (hd : ∀ b, Wo b → ¬ Gn b) (hi : i < τ.length) (keep : ∀ b o, H b = some o → ¬ F i b → H' b = some o) (there : ∀ b o, H b = some o → ∃ o', H' b = some o') (hv : σ[i]? = some (some v)) (hG : ∀ b, G' b → F i b ∨ Gn b)
    (ow : Own K H' (WF (Un2 Wo Gn) F) t v d G') : Slots K H' Wo (τ.set i t) σ (env.set i (some d)) (setF F i G') := by
  have hsub : ∀ j b, setF F i G' j b → (∃ k, F k b) ∨ Gn b := fun j b x => by
    rcases setF_sub x with x | x
    · exact .inl ⟨j, x⟩
    · exact (hG b x).imp (fun x => ⟨i, x⟩) id
  have hw : ∀ b, WF Wo (setF F i G') b → WF (Un2 Wo Gn) F b := fun b x => by
    rcases x with x | ⟨j, x⟩
    · exact .inl (.inl x)
    · exact (hsub j b x).elim .inr fun x => .inl (.inr x)
  have kp : Kp H (WF (Un2 Wo Gn) F) H' (WF Wo (setF F i G')) := ⟨fun b o e n => keep b o e fun z => n (.inr ⟨i, z⟩), fun b _ _ n x => n (hw b x)⟩
  have hie : i < env.length := by rw [← S.tl]; exact hi
  refine ⟨by rw [List.length_set, S.len], by rw [List.length_set, List.length_set, S.tl], fun b x => ⟨?_, fun j y => ?_⟩, fun j k b x y => ?_, fun j d' e => ?_, fun j h b x => ?_⟩
  · obtain ⟨o, e⟩ := (S.wo b (.inl x)).1
    exact there b o e
  · rcases hsub j b y with ⟨k, y⟩ | y
    · exact (S.wo b (.inl x)).2 k y
    · exact hd b x y
  · by_cases hj : j = i
    · subst hj
      by_cases hk : k = j
      · exact hk.symm
      · rw [setF_ne hk] at y
        rw [setF_same] at x
        rcases hG b x with x | x
        · exact S.disj j k b x y
        · exact ((S.wo b (.inr x)).2 k y).elim
    · rw [setF_ne hj] at x
      by_cases hk : k = i
      · subst hk
        rw [setF_same] at y
        rcases hG b y with y | y
        · exact S.disj j k b x y
        · exact ((S.wo b (.inr y)).2 j x).elim
      · rw [setF_ne hk] at y; exact S.disj j k b x y
  · rw [getD_set hi]
    by_cases hj : j = i
    · subst hj
      rw [List.getElem?_set_self hie] at e
      cases e
      rw [if_pos rfl, setF_same]
      exact ⟨v, hv, ow.keep (Kp.less fun b _ _ n x => n (hw b x)) fun _ _ _ e => e⟩
    · rw [List.getElem?_set_ne (Ne.symm hj)] at e
      rw [if_neg hj, setF_ne hj]
      obtain ⟨v', h1, h2⟩ := S.slot j d' e
      exact ⟨v', h1, h2.keep kp fun b o x e => keep b o e fun z => hj (S.disj j i b x z)⟩
  · by_cases hj : j = i
    · subst hj
      exact (h d (List.getElem?_set_self hie)).elim
    · rw [setF_ne hj] at x
      exact S.void j (fun d' e => h d' (by rw [List.getElem?_set_ne (Ne.symm hj)]; exact e)) b x
theorem kf_updT (hb : i ∉ bor) (keep : ∀ b o, H b = some o → ¬ F i b → H' b = some o) (there : ∀ b o, H b = some o → ∃ o', H' b = some o') (hG : ∀ b, G' b → F i b ∨ H b = none) : KF bor F (setF F i G') H H' :=
  ⟨fun b o e n => keep b o e (n i), there, fun j b hj x => by
    by_cases e : j = i
    · subst e
      rw [setF_same] at x
      exact (hG b x).elim (fun z => .inr ⟨j, hj, z⟩) .inl
    · rw [setF_ne e] at x; exact .inr ⟨j, hj, x⟩, fun j hj => setF_ne fun e => hb (by rw [← e]; exact hj)⟩
/-- a slot holds nothing any more: what it owned stands beside -/
theorem Slots.void1 (S : Slots K H Wo τ σ env F) (hi : i < τ.length) (t : OT) : Slots K H (Un2 Wo (F i)) (τ.set i t) σ (env.set i none) (setF F i Z0) := by
  refine ⟨by rw [List.length_set, S.len], by rw [List.length_set, List.length_set, S.tl], fun a x => ?_, fun j k a x y => ?_, fun j d' e' => ?_, fun j h a x => ?_⟩
  · rcases x with x | x
    · exact ⟨(S.wo a x).1, fun j y => (setF_sub y).elim ((S.wo a x).2 j) id⟩
    · refine ⟨S.tracked (.inr ⟨i, x⟩), fun j y => ?_⟩
      by_cases hj : j = i
      · subst hj; rw [setF_same] at y; exact y
      · rw [setF_ne hj] at y; exact hj (S.disj j i a y x)
  · exact (setF_sub x).elim (fun x => (setF_sub y).elim (S.disj j k a x) fun z => z.elim) fun z => z.elim
  · by_cases hj : j = i
    · subst hj
      rw [List.getElem?_set_self (by rw [← S.tl]; exact hi)] at e'
      cases e'
    · rw [List.getElem?_set_ne (Ne.symm hj)] at e'
      rw [getD_set hi, if_neg hj, setF_ne hj, wf_move]
      exact S.slot j d' e'
  · by_cases hj : j = i
    · subst hj; rw [setF_same] at x; exact x
    · rw [setF_ne hj] at x
      exact S.void j (fun d' e => h d' (by rw [List.getElem?_set_ne (Ne.symm hj)]; exact e)) a x
end
section
variable {X : Cx} {bor : List Nat} {τ0 τ τ1 τ' τl : List OT} {tr t t' : OT} {p q : Bool} {m m2 : Md} {e a b : Expr} {es : List Expr} {st : Stmt} {sts : List Stmt} {pos cpos apos pp : Pos} {f g fe fi : M PyData} {fs fr : Env → Option Fl} {i j : Nat} {x y : Str}
def voidS (i : Nat) (fs : Env → Option Fl) : Env → Option Fl := fun env => fs (env.set i none)
/-- what a slot holds is not wanted any more: it may own what it likes from now on (no step of the program) -/
theorem evSs_void {t : OT} (hb : i ∉ bor) (hi : i < τ.length) (h : EvSs X bor τ0 (τ.set i t) τ' τl tr sts fs) : EvSs X bor τ0 τ τ' τl tr sts (voidS i fs) :=
  PSs.imp h fun D σ H ⟨Wo, F, env, fl, S, hf, k⟩ => ⟨Wo, setF F i Z0, env.set i none, fl, (S.void1 hi t).less, hf, k.step (kf_freeze hb)⟩
/-- the parts of a slot's own list are data from now on (no step of the program) -/
theorem evSs_frzI (hb : i ∉ bor) (hi : i < τ.length) (ht : τ.getD i .sh = .ls t) (h : EvSs X bor τ0 (τ.set i (.ls .sh)) τ' τl tr sts fs) : EvSs X bor τ0 τ τ' τl tr sts fs :=
  PSs.imp h fun D σ H ⟨Wo, F, env, fl, S, hf, k⟩ => by
    cases hq : env[i]? with
    | none => exact absurd (by rw [← S.tl]; exact hi) (Nat.not_lt.mpr (List.getElem?_eq_none_iff.mp hq))
    | some o =>
      cases o with
      | none =>
        have S2 := (S.void1 hi (.ls .sh)).less
        have e0 : env.set i none = env := by
          refine List.ext_getElem? fun j => ?_
          by_cases hj : j = i
          · subst hj; rw [List.getElem?_set_self (by rw [← S.tl]; exact hi), hq]
          · rw [List.getElem?_set_ne (Ne.symm hj)]
        rw [e0] at S2
        exact ⟨Wo, setF F i Z0, env, fl, S2, hf, k.step (kf_freeze hb)⟩
      | some d =>
        obtain ⟨v, h1, h2⟩ := S.slot i d hq
        rw [ht] at h2
        obtain ⟨c, xs, ds, G, rfl, rfl, hc, hF, nG, ol⟩ := h2
        have e0 : env.set i (some (.list ds)) = env := by
          refine List.ext_getElem? fun j => ?_
          by_cases hj : j = i
          · subst hj; rw [List.getElem?_set_self (by rw [← S.tl]; exact hi), hq]
          · rw [List.getElem?_set_ne (Ne.symm hj)]
        have Sf := S.freeze hi
        -- the parts, ahead of the list itself
        have hw : ∀ b, (WF Wo (setF F i fun b => b = c ∨ Z0 b)) b → WF Wo F b := fun b z => by
          rcases z with z | ⟨j, z⟩
          · exact .inl z
          · exact (setF_sub z).elim (fun z => .inr ⟨j, z⟩) fun z => .inr ⟨i, (hF b).mpr (z.imp id fun z => z.elim)⟩
        have rp : RpA X.K H (WF Wo (setF F i fun b => b = c ∨ Z0 b)) xs ds := ol.rpa fun v d F' s ow => ow.rp (fun b o _ n z => n (hw b z)) fun b z w => by
          rcases w with w | ⟨j, w⟩
          · exact (S.wo b w).2 i ((hF b).mpr (.inr (s b z)))
          · by_cases hj : j = i
            · subst hj
              rw [setF_same] at w
              rcases w with rfl | w
              · exact nG (s b z)
              · exact w
            · rw [setF_ne hj] at w
              exact hj (S.disj j i b w ((hF b).mpr (.inr (s b z))))
        refine ⟨Wo, setF F i fun b => b = c ∨ Z0 b, env, fl, ?_, hf, k.step (kf_updT (H' := H) hb (fun _ _ e _ => e) (fun _ o e => ⟨o, e⟩) fun b z => .inl ((hF b).mpr (z.imp id fun z => z.elim)))⟩
        refine ⟨S.len, by rw [List.length_set, S.tl], fun b z => ⟨(S.wo b z).1, fun j w => ?_⟩, fun j l b z w => ?_, fun j d' e' => ?_, fun j h' b z => ?_⟩
        · exact (setF_sub w).elim ((S.wo b z).2 j) fun w => (S.wo b z).2 i ((hF b).mpr (w.imp id fun w => w.elim))
        · have hz : F j b := by
            by_cases hj : j = i
            · subst hj; rw [setF_same] at z; exact (hF b).mpr (z.imp id fun z => z.elim)
            · rw [setF_ne hj] at z; exact z
          have hw' : F l b := by
            by_cases hj : l = i
            · subst hj; rw [setF_same] at w; exact (hF b).mpr (w.imp id fun z => z.elim)
            · rw [setF_ne hj] at w; exact w
          exact S.disj j l b hz hw'
        · rw [getD_set hi]
          by_cases hj : j = i
          · subst hj
            rw [if_pos rfl, setF_same]
            rw [hq] at e'
            cases e'
            exact ⟨.ref c, h1, c, xs, ds, Z0, rfl, rfl, hc, fun _ => Iff.rfl, fun z => z, OwnL.of_rpa rp fun _ z => z⟩
          · rw [if_neg hj, setF_ne hj]
            obtain ⟨v', h1', h2'⟩ := S.slot j d' e'
            exact ⟨v', h1', h2'.keep (Kp.less fun b _ _ n z => n (hw b z)) fun _ _ _ e => e⟩
        · by_cases hj : j = i
          · subst hj; exact (h' _ hq).elim
          · rw [setF_ne hj] at z; exact S.void j h' b z
end
end Ev

set_option Elab.async false
set_option linter.all false
set_option maxRecDepth 100000
set_option maxHeartbeats 4000000
namespace Ev
open PySem PySem.Spec PyProof.Rows L2

/-! ### NN. things moved into lists, parts of own lists changed, own dicts changed, several names at once -/
theorem set_getD {τ : List OT} {i : Nat} {t : OT} (hi : i < τ.length) (h : τ.getD i .sh = t) : τ.set i t = τ := by
  refine List.ext_getElem? fun j => ?_
  by_cases hj : j = i
  · subst hj
    rw [List.getElem?_set_self hi, ← h, List.getD_eq_getElem?_getD, List.getElem?_eq_getElem hi]
    rfl
  · rw [List.getElem?_set_ne (Ne.symm hj)]
theorem kf_sets {bor : List Nat} {F F' : Nat → ASet} {H H' : Hp} (k : KF bor F F H H') (h : ∀ l b, l ∉ bor → F' l b → H b = none ∨ ∃ j, j ∉ bor ∧ F j b) (hb : ∀ l, l ∈ bor → F' l = F l) : KF bor F F' H H' := ⟨k.keep, k.there, h, hb⟩
section
variable {K : PySem.W.Frag} {H : Hp} {W : ASet}
theorem own_upd {c : Addr} {ys : List V} {es : List PyData} {v : V} {d : PyData} (hW : W c) (hc : H c = some (.lst ys)) (rv : Rp K (upd H c (.lst (ys ++ [v]))) W v d) : ∀ {xs : List V} {ds : List PyData} {G : ASet} {l : Nat}, OwnL (Own K H W (.ls .sh)) xs ds G → xs[l]? = some (.ref c) → ds[l]? = some (.list es) → OwnL (Own K (upd H c (.lst (ys ++ [v]))) W (.ls .sh)) xs (ds.set l (.list (es ++ [d]))) G
  | [], [], _, l, _, e, _ => by simp at e
  | x :: xs, d0 :: ds, G, 0, h, e, e' => by
    obtain ⟨F, G', eG, dj, p, r⟩ := h
    simp at e e'
    subst e; subst e'
    obtain ⟨a, ys', es', G2, ea, ed, ha, hF, nG, ol⟩ := p
    cases ea; cases ed
    rw [hc] at ha
    cases ha
    have kp : Kp H W (upd H c (.lst (ys ++ [v]))) W := ⟨fun b o e n => by rw [upd_ne (fun z => n (by rw [z]; exact hW))]; exact e, fun _ _ _ n => n⟩
    refine ⟨F, G', eG, dj, ⟨c, ys ++ [v], es ++ [d], G2, rfl, rfl, upd_same, hF, nG, ?_⟩, ?_⟩
    · obtain ⟨ra, z⟩ := ol.sh_rpa
      exact OwnL.of_rpa ((ra.keep kp).append (.cons rv .nil)) z
    · refine OwnL.imp (fun v' d' F' s ow => ow.keep kp fun b o z e => ?_) r
      rw [upd_ne (fun w => dj c ((hF c).mpr (.inl rfl)) (by rw [← w]; exact s b z))]
      exact e
  | x :: xs, d0 :: ds, G, l + 1, h, e, e' => by
    obtain ⟨F, G', eG, dj, p, r⟩ := h
    have kp : Kp H W (upd H c (.lst (ys ++ [v]))) W := ⟨fun b o e n => by rw [upd_ne (fun z => n (by rw [z]; exact hW))]; exact e, fun _ _ _ n => n⟩
    obtain ⟨c', _, _, e1, _, _, _, e5⟩ := own_get (l := l) r (by simpa using e)
    cases e1
    refine ⟨F, G', eG, dj, p.keep kp fun b o z e => ?_, own_upd hW hc rv (l := l) r (by simpa using e) (by simpa using e')⟩
    rw [upd_ne (fun w => dj b z (by rw [w]; exact e5))]
    exact e
  | [], _ :: _, _, _, h, _, _ => h.elim
  | _ :: _, [], _, _, h, _, _ => h.elim
theorem own_rows : ∀ {xs : List V} {ds : List PyData} {G : ASet} {ls : List (List PyData)}, listsOf ds = some ls → OwnL (Own K H W (.ls .sh)) xs ds G → ∃ rows : List (Addr × List V), xs = rows.map (fun r => V.ref r.1) ∧ (∀ r ∈ rows, SqL K H r.1 r.2) ∧ RpA K H W (rows.map Prod.snd).flatten ls.flatten ∧ rows.length = ls.length
  | [], [], _, ls, h, _ => by cases h; exact ⟨[], rfl, (fun r h => nomatch h), .nil, rfl⟩
  | x :: xs, d :: ds, G, ls, h, ol => by
    obtain ⟨F, G', eG, dj, p, r⟩ := ol
    obtain ⟨a, ys, es, G2, rfl, rfl, ha, hF, nG, ol2⟩ := p
    unfold listsOf at h
    cases q : listsOf ds with
    | none => rw [q] at h; cases h
    | some ls' =>
      rw [q] at h
      cases h
      obtain ⟨rows, rfl, h2, h3, h4⟩ := own_rows q r
      refine ⟨(a, ys) :: rows, rfl, fun r hr => ?_, ?_, by simp [h4]⟩
      · rcases List.mem_cons.mp hr with rfl | hr
        · exact .inl (.inl ha)
        · exact h2 r hr
      · rw [List.map_cons, List.flatten_cons, List.flatten_cons]
        exact ol2.sh_rpa.1.append h3
  | [], _ :: _, _, _, _, h => h.elim
  | _ :: _, [], _, _, _, h => h.elim
end
def appMvS (i j : Nat) : Env → Option Fl := fun env => (listAt env i).bind fun ds => ((env[j]?).bind id).bind fun d => if ds.length < sizeLine then some (.nx ((env.set j none).set i (some (.list (ds ++ [d]))))) else none
def dictAt (env : Env) (i : Nat) : Option DKV := match env[i]? with
  | some (some (.dict ds)) => some ds
  | _ => none
theorem dictAt_some {env : Env} {i : Nat} {ds : DKV} (h : dictAt env i = some ds) : env[i]? = some (some (.dict ds)) := by
  unfold dictAt at h
  split at h
  · rename_i e; cases h; exact e
  · cases h
section
variable {X : Cx} {bor : List Nat} {τ0 τ τ1 τ' τl : List OT} {tr t t' t1 t2 t3 : OT} {p q : Bool} {m m2 : Md} {e a b c ix : Expr} {es : List Expr} {st : Stmt} {sts : List Stmt} {pos cpos apos pp px py : Pos} {f g fe fk fa fb fc : M PyData} {fs fr : Env → Option Fl} {i j l : Nat} {x y z : Str}
/-- x.append(y): what y's slot owned is x's from now on -/
theorem evS_appMv (hx : X.N[i]? = some x) (hv : Vis X.env.scope x) (hd : (x == ("__debug__" : Str)) = false) (hcd : (x == ("__classdict__" : Str)) = false) (hy : X.N[j]? = some y) (hvy : Vis X.env.scope y) (hdy : (y == ("__debug__" : Str)) = false) (hcdy : (y == ("__classdict__" : Str)) = false)
    (ht : τ.getD i .sh = .ls t) (htj : τ.getD j .sh = t) (hi : i < τ.length) (hj : j < τ.length) (hij : i ≠ j) (hb : i ∉ bor) (hbj : j ∉ bor)
    (hs : swapsWith (.Call (.Attribute (.Name x px) "append" apos) [.Name y py] [] cpos) none pos.line X.env = pure false) (hst : starEach [.Name y py] X.env = [(false, eval (.Name y py) X.env)])
    (hfew : ((backTo cpos (starEach [.Name y py] X.env)).all (fun x => !x.1) && (backToKw cpos (keywordEach [] X.env)).all (fun x => x.1.isSome) && decide ([Expr.Name y py].length + ([] : List Keyword).length + (if ([] : List Keyword).isEmpty then 0 else 1) < 30)) = true)
    (hline : (apos.endLine == cpos.line) = true) :
    EvS X bor τ0 τ τ τl tr (.Expr (.Call (.Attribute (.Name x px) "append" apos) [.Name y py] [] cpos) pos) (appMvS i j) := by
  refine PS.imp (ps_expr (pe_bm PySem.F.plainAttrs_list PySem.F.slot_list_append PySem.F.type_list_append mt_append (pe_var hx hv hd hcd) (pa_cons (pe_var hy hvy hdy hcdy) pa_nil hst) (by rfl) hfew hline hst (by rfl)) hs) fun D σ H ⟨Wo, F, env, fl, S, hf, k⟩ => ?_
  unfold appMvS at hf
  cases q0 : listAt env i with
  | none => rw [q0] at hf; cases hf
  | some ds =>
  rw [q0] at hf
  simp only [Option.bind_some] at hf
  cases q1 : (env[j]?).bind id with
  | none => rw [q1] at hf; cases hf
  | some d =>
  rw [q1] at hf
  simp only [Option.bind_some] at hf
  by_cases hz : ds.length < sizeLine
  · rw [if_pos hz] at hf
    cases hf
    have ej : env[j]? = some (some d) := by
      cases h : env[j]? with
      | none => rw [h] at q1; cases q1
      | some o => rw [h] at q1; exact congrArg some q1
    obtain ⟨a, xs, G0, h1, ha, hF, nG0, ol⟩ := S.lsI ht (listAt_some q0)
    obtain ⟨v, hvj, ow⟩ := S.slot j d ej
    rw [htj] at ow
    have Fa : F i a := (hF a).mpr (.inl rfl)
    have S1 := S.void1 hj t
    rw [set_getD hj htj] at S1
    have nja : ¬ F j a := fun z => hij (S.disj i j a Fa z)
    have kp : Kp H (WF Wo F) (upd H a (.lst (xs ++ [v]))) (WF Wo F) := ⟨fun b o e n => by rw [upd_ne (fun z => n (by rw [z]; exact .inr ⟨i, Fa⟩))]; exact e, fun _ _ _ n => n⟩
    have ol2 := (ol.upd (o := .lst (xs ++ [v])) (.inr ⟨i, Fa⟩) nG0).snoc (ow.keep kp fun b o z e => by rw [upd_ne (fun w => nja (by rw [← w]; exact z))]; exact e) (fun b z w => hij (S.disj i j b ((hF b).mpr (.inr w)) z))
    have keep : ∀ b o, H b = some o → ¬ F i b → upd H a (.lst (xs ++ [v])) b = some o := fun b o e n => by rw [upd_ne (fun z => n (by rw [z]; exact Fa))]; exact e
    have there : ∀ b o, H b = some o → ∃ o', upd H a (.lst (xs ++ [v])) b = some o' := fun b o e => by
      by_cases z : b = a
      · subst z; exact ⟨_, upd_same⟩
      · rw [upd_ne z]; exact ⟨o, e⟩
    have S2 := S1.updT (H' := upd H a (.lst (xs ++ [v]))) (G' := fun b => b = a ∨ (G0 b ∨ F j b)) (t := .ls t) (d := .list (ds ++ [d])) (fun b w z => (S.wo b w).2 j z) hi (by rw [setF_ne hij]; exact keep) there h1
      (fun b z => by
        rw [setF_ne hij]
        rcases z with z | z | z
        · exact .inl ((hF b).mpr (.inl z))
        · exact .inl ((hF b).mpr (.inr z))
        · exact .inr z)
      (by rw [wf_move]; exact ⟨a, xs ++ [v], ds ++ [d], fun b => G0 b ∨ F j b, rfl, rfl, upd_same, fun _ => Iff.rfl, fun z => z.elim nG0 nja, ol2⟩)
    rw [set_getD hi ht] at S2
    refine ⟨.ref a, h1, .inl ⟨rfl, xs, .inl (.inl ha)⟩, v, hvj, a, xs, v, rfl, rfl, ha, by rw [ol.length]; exact hz, k σ _ _ S2 ⟨fun b o e n => keep b o e (n i), there, fun l b hl z => ?_, fun l hl => ?_⟩⟩
    · by_cases e : l = i
      · subst e
        rw [setF_same] at z
        rcases z with rfl | z | z
        · exact .inr ⟨l, hl, Fa⟩
        · exact .inr ⟨l, hl, (hF b).mpr (.inr z)⟩
        · exact .inr ⟨j, hbj, z⟩
      · rw [setF_ne e] at z
        exact (setF_sub z).elim (fun z => .inr ⟨l, hl, z⟩) fun z => z.elim
    · rw [setF_ne fun e => hb (by rw [← e]; exact hl), setF_ne fun e => hbj (by rw [← e]; exact hl)]
  · rw [if_neg hz] at hf; cases hf
def appNS (i : Nat) (fk fe : M PyData) : Env → Option Fl := fun env => (listAt env i).bind fun _ => (fk env).bind fun kd => match kd.1 with
  | .int n => (listAt kd.2 i).bind fun ds1 => (ixN ds1.length n).bind fun l => (fe kd.2).bind fun x => (listAt x.2 i).bind fun ds => match ds[l]? with
    | some (.list es) => if es.length < sizeLine then some (.nx (x.2.set i (some (.list (ds.set l (.list (es ++ [x.1]))))))) else none
    | _ => none
  | _ => none
theorem ixN_lt {n : Nat} {i : Int} {l : Nat} (h : ixN n i = some l) : l < n := by
  unfold ixN at h
  repeat' split at h
  all_goals first | (cases h; omega) | (cases h)
/-- x[k].append(e), x's lists are its own -/
theorem evS_appN {spos : Pos} (hx : X.N[i]? = some x) (hv : Vis X.env.scope x) (hd : (x == ("__debug__" : Str)) = false) (hcd : (x == ("__classdict__" : Str)) = false) (ht : τ.getD i .sh = .ls (.ls .sh)) (hi : i < τ.length) (hb : i ∉ bor) (hk : EvM X τ true m ix fk) (he : EvM X τ true (.ow .sh) e fe) (hpl : PlainIx ix)
    (hbase : attributeBase (.Subscript (.Name x px) ix spos) "append" X.env (eval (.Subscript (.Name x px) ix spos) X.env) = eval (.Subscript (.Name x px) ix spos) X.env)
    (hs : swapsWith (.Call (.Attribute (.Subscript (.Name x px) ix spos) "append" apos) [e] [] cpos) none pos.line X.env = pure false) (hst : starEach [e] X.env = [(false, eval e X.env)])
    (hfew : ((backTo cpos (starEach [e] X.env)).all (fun x => !x.1) && (backToKw cpos (keywordEach [] X.env)).all (fun x => x.1.isSome) && decide ([e].length + ([] : List Keyword).length + (if ([] : List Keyword).isEmpty then 0 else 1) < 30)) = true)
    (hline : (apos.endLine == cpos.line) = true) :
    EvS X bor τ0 τ τ τl tr (.Expr (.Call (.Attribute (.Subscript (.Name x px) ix spos) "append" apos) [e] [] cpos) pos) (appNS i fk fe) := by
  refine PS.imp (ps_expr (pe_bm PySem.F.plainAttrs_list PySem.F.slot_list_append PySem.F.type_list_append mt_append (pe_ix ix_seq (pe_var hx hv hd hcd) hk hpl) (pa_cons he pa_nil hst) hbase hfew hline hst (by rfl)) hs) fun D σ H ⟨Wo, F, env, fl, S, hf, k⟩ => ?_
  unfold appNS at hf
  cases q0 : listAt env i with
  | none => rw [q0] at hf; cases hf
  | some ds0 =>
  rw [q0] at hf
  simp only [Option.bind_some] at hf
  cases q1 : fk env with
  | none => rw [q1] at hf; cases hf
  | some r =>
  obtain ⟨kd, e1⟩ := r
  rw [q1] at hf
  simp only [Option.bind_some] at hf
  cases kd with
  | int n =>
    simp only at hf
    cases q2 : listAt e1 i with
    | none => rw [q2] at hf; cases hf
    | some ds1 =>
    rw [q2] at hf
    simp only [Option.bind_some] at hf
    cases q4 : ixN ds1.length n with
    | none => rw [q4] at hf; cases hf
    | some l =>
    rw [q4] at hf
    simp only [Option.bind_some] at hf
    cases q6 : fe e1 with
    | none => rw [q6] at hf; cases hf
    | some r =>
    obtain ⟨d, e2⟩ := r
    rw [q6] at hf
    simp only [Option.bind_some] at hf
    cases q3 : listAt e2 i with
    | none => rw [q3] at hf; cases hf
    | some ds =>
    rw [q3] at hf
    simp only [Option.bind_some] at hf
    split at hf
    · rename_i es q5
      by_cases hz : es.length < sizeLine
      · rw [if_pos hz] at hf
        cases hf
        obtain ⟨a, xs0, G0, h1, _, _, _, _⟩ := S.lsI ht (listAt_some q0)
        refine ⟨.ref a, h1, Wo, F, env, .int n, e1, S, q1, fun u H1 G1 S1 k1 md1 g1 => ?_⟩
        cases (md1.rq S g1).intI
        have S1 := S1.less
        obtain ⟨a', xs, G, h1', ha1, hF1, nG1, ol1⟩ := S1.lsI ht (listAt_some q2)
        rw [h1] at h1'
        cases h1'
        have hl : l < xs.length := by rw [ol1.length]; exact ixN_lt q4
        obtain ⟨c, ys, es1, ec, _, hc1, _, _⟩ := own_get (l := l) ol1 (List.getElem?_eq_getElem hl)
        refine .inl ⟨a, xs, n, .ref c, rfl, rfl, .inl (.inl ha1), ?_, .inl ⟨rfl, ys, .inl (.inl hc1)⟩, Wo, F, e1, d, e2, S1, q6, fun v H2 G2 S2 k2 md2 g2 => ?_⟩
        · unfold atI
          rw [ol1.length, q4]
          show xs[l]? = some (.ref c)
          rw [List.getElem?_eq_getElem hl, ec]
        · have rv : Rp X.K H2 (WF Wo F) v d := Own.rpW S1 g2 md2
          have S2 := S2.less
          obtain ⟨a', xs', G', h1', ha2, hF, nG, ol⟩ := S2.lsI ht (listAt_some q3)
          rw [h1] at h1'
          cases h1'
          rw [k2.tt a _ ha1] at ha2
          cases ha2
          have hxl : xs[l]? = some (.ref c) := by rw [List.getElem?_eq_getElem hl, ec]
          obtain ⟨c', ys2, es2, e1', e2', e3, e4, e5⟩ := own_get (l := l) ol hxl
          cases e1'
          rw [q5] at e2'
          cases e2'
          have hy : ys2 = ys := by
            have := k2.tt c _ hc1
            rw [e3] at this
            cases this
            rfl
          subst hy
          have Fc : F i c := (hF c).mpr (.inr e5)
          have nac : a ≠ c := fun z => nG (by rw [z]; exact e5)
          have kp : Kp H2 (WF Wo F) (upd H2 c (.lst (ys2 ++ [v]))) (WF Wo F) := ⟨fun b o e n => by rw [upd_ne (fun z => n (by rw [z]; exact .inr ⟨i, Fc⟩))]; exact e, fun _ _ _ n => n⟩
          have keep : ∀ b o, H2 b = some o → ¬ F i b → upd H2 c (.lst (ys2 ++ [v])) b = some o := fun b o e n => by rw [upd_ne (fun z => n (by rw [z]; exact Fc))]; exact e
          have there : ∀ b o, H2 b = some o → ∃ o', upd H2 c (.lst (ys2 ++ [v])) b = some o' := fun b o e => by
            by_cases z : b = c
            · subst z; exact ⟨_, upd_same⟩
            · rw [upd_ne z]; exact ⟨o, e⟩
          have ol' := own_upd (c := c) (ys := ys2) (v := v) (d := d) (.inr ⟨i, Fc⟩) e3 (rv.keep kp) ol hxl q5
          have S3 := Slots.updT (Gn := Z0) (G' := F i) (t := .ls (.ls .sh)) (d := .list (ds.set l (.list (es ++ [d])))) (by rw [un2_z]; exact S2) (fun _ _ z => z) hi keep there h1 (fun b z => .inl z)
            (by rw [un2_z]; exact ⟨a, xs, _, G', rfl, rfl, by rw [upd_ne nac]; exact k2.tt a _ ha1, hF, nG, ol'⟩)
          rw [set_getD hi ht] at S3
          refine ⟨c, ys2, v, rfl, rfl, e3, by rw [e4]; exact hz, k σ _ _ S3 ?_⟩
          have k0 := KF.of (bor := bor) S2 (k1.trans k2)
          refine k0.trans (kf_updT hb keep there fun b z => .inl z)
      · rw [if_neg hz] at hf; cases hf
    · cases hf
  | _ => cases hf
theorem OwnL.at {P : V → PyData → ASet → Prop} : ∀ {xs : List V} {ds : List PyData} {G : ASet} {l : Nat} {d : PyData}, OwnL P xs ds G → ds[l]? = some d → ∃ v F, xs[l]? = some v ∧ P v d F ∧ ∀ b, F b → G b
  | [], [], _, l, d, _, e => by simp at e
  | x :: xs, d0 :: ds, G, 0, d, h, e => by
    obtain ⟨F, G', eG, dj, p, r⟩ := h
    simp at e
    subst e
    exact ⟨x, F, rfl, p, fun b z => (eG b).mpr (.inl z)⟩
  | x :: xs, d0 :: ds, G, l + 1, d, h, e => by
    obtain ⟨F, G', eG, dj, p, r⟩ := h
    obtain ⟨v, F', h1, h2, h3⟩ := OwnL.at (l := l) r (by simpa using e)
    exact ⟨v, F', by simpa using h1, h2, fun b z => (eG b).mpr (.inr (h3 b z))⟩
  | [], _ :: _, _, _, _, h, _ => h.elim
  | _ :: _, [], _, _, _, h, _ => h.elim
/-- x[k] of a list of own lists: to be read -/
theorem ev_ixO {spos : Pos} (hx : X.N[i]? = some x) (hv : Vis X.env.scope x) (hd : (x == ("__debug__" : Str)) = false) (hcd : (x == ("__classdict__" : Str)) = false) (ht : τ.getD i .sh = .ls (.ls .sh)) (hk : EvM X τ true m ix fk) (hpl : PlainIx ix) : EvM X τ true .sk (.Subscript (.Name x px) ix spos) (bind2 (varF i) fk ixD) := by
  refine PE.imp (pe_ix ix_seq (pe_var hx hv hd hcd) hk hpl) fun σ H Q ⟨Wo, F, env, d, env', S, hf, k⟩ => ?_
  obtain ⟨dx, e1, dy, h1, h2, h3⟩ := bind2_some hf
  obtain ⟨q0, eq1⟩ := varF_some h1
  subst eq1
  obtain ⟨v, hv1, ow⟩ := S.slot i dx q0
  rw [ht] at ow
  obtain ⟨a, xs, ds, G, rfl, rfl, ha, hF, nG, ol⟩ := ow
  refine ⟨.ref a, hv1, Wo, F, _, dy, env', S, h2, fun u H1 G1 S1 k1 md1 g1 => ?_⟩
  unfold ixD at h3
  cases dy with
  | int n =>
    simp only at h3
    cases (md1.rq S g1).intI
    have S1 := S1.less
    have ha1 := k1.tt a _ ha
    obtain ⟨w, hw, F', hd', ow⟩ : ∃ w, atI xs n = some w ∧ ∃ F', (∀ b, F' b → G b) ∧ Own X.K H (WF Wo F) (.ls .sh) w d F' := by
      unfold atI at h3 ⊢
      rw [ol.length]
      cases q4 : ixN ds.length n with
      | none => rw [q4] at h3; cases h3
      | some l =>
        rw [q4] at h3
        have h3 : ds[l]? = some d := h3
        obtain ⟨w, F', h5, h6, h7⟩ := ol.at h3
        exact ⟨w, h5, F', h7, h6⟩
    obtain ⟨c, ys, es, G2, rfl, rfl, hc, hF2, nG2, ol2⟩ := ow
    refine .inl ⟨a, xs, n, .ref c, rfl, rfl, .inl (.inl ha1), hw, k _ H1 Z0 (by rw [un2_z]; exact S1) k1 ⟨fun _ z => z, ?_⟩ Nw.z⟩
    rw [un2_z]
    exact .ls (k1.tt c _ hc) (ol2.sh_rpa.1.keep k1.kp)
  | _ => cases h3
/-! operands that are only read -/
def atomF (f : M PyData) : M PyData := fun env => (f env).bind fun r => (atomD r.1).map fun d => (d, r.2)
theorem atomF_some {f : M PyData} {env env' : Env} {d : PyData} (h : atomF f env = some (d, env')) : f env = some (d, env') ∧ atomD d = some d := by
  unfold atomF at h
  cases q : f env with
  | none => rw [q] at h; cases h
  | some r =>
    obtain ⟨x, e1⟩ := r
    rw [q] at h
    simp only [Option.bind_some] at h
    cases q1 : atomD x with
    | none => rw [q1] at h; cases h
    | some y =>
      rw [q1] at h
      cases h
      have : d = x := by
        unfold atomD at q1
        split at q1 <;> first | (cases q1; rfl) | cases q1
      subst this
      exact ⟨rfl, q1⟩
theorem twoW_rd {g : PyData → PyData → Option PyData} {σ : L2.St} {H : Hp} {Q : VK} (h : rdM X.K τ true (.ow .sh) (atomF (bind2 fa fb g)) σ H Q) : tOp (rdB X.K g .sh) (rdW X.K τ fa) (rdW X.K τ fb) σ H Q := by
  obtain ⟨Wo, F, env, d, env', S, hf, k⟩ := h
  obtain ⟨h0, hat⟩ := atomF_some hf
  obtain ⟨dx, e1, dy, h1, h2, h3⟩ := bind2_some h0
  refine ⟨Wo, F, env, dx, e1, S, h1, fun v H1 S1 sm1 w1 => ⟨Wo, F, e1, dy, env', S1, h2, fun u H2 S2 sm2 w2 => ?_⟩⟩
  refine ⟨dx, dy, d, W0, .rp (w1.same sm2), .rp w2, fun _ z => z.elim, h3, fun z H3 G sm3 ow g => ?_⟩
  obtain ⟨_, r⟩ := atom_rp (H' := H3) (W' := WF Wo F) hat ow.1
  have sm : Sm H H3 := fun a o e => sm3 a o (sm2 a o (sm1 a o e))
  exact fin_sh k (S2.same sm3) (Kq.sm sm) r
theorem ev_cmpW {op : CmpOp} {g : PyData → PyData → Option PyData} (ho : BinOk X (compareOp op) g .sh) (ha : EvW X τ a fa) (hb : EvW X τ b fb) (hm : behindInMarks op b = false) :
    EvM X τ true (.ow .sh) (.Compare a [op] [b] pos) (atomF (bind2 fa fb g)) := PE.imp (pe_cmpR ho.opR ha hb hm) fun _ _ _ h => twoW_rd h
theorem evT_cmpW {op : CmpOp} {g : PyData → PyData → Option PyData} (ho : BinOk X (compareOp op) g .sh) (ha : EvW X τ a fa) (hb : EvW X τ b fb) (hm : behindInMarks op b = false) :
    EvT X τ true (.Compare a [op] [b] pos) (asB (atomF (bind2 fa fb g))) :=
  PT.imp (pt_cmpR ho.opR ha hb hm) fun σ H Q ⟨Wo, F, env, d, env', S, hf, k⟩ => twoW_rd ⟨Wo, F, env, _, env', S, asB_some hf, fun v H' G S' kq md _ => ⟨d, md.bool, k H' S'.less kq⟩⟩
/-! sum of a slot's own lists -/
def sumOF (i : Nat) (fb : M PyData) : M PyData := fun env => (listAt env i).bind fun ds => (fb env).bind fun r => (sumLD [.list ds, r.1]).map fun d => (d, r.2)
theorem ev_sumO (hc : X.calm = true) (hg : Gl X "sum") (hm : X.mg "sum" = none) (hx : X.N[i]? = some x) (hv : Vis X.env.scope x) (hd : (x == ("__debug__" : Str)) = false) (hcd : (x == ("__classdict__" : Str)) = false) (ht : τ.getD i .sh = .ls (.ls .sh)) (hb : EvM X τ true (.ow t) b fb)
    (he : starEach [.Name x px, b] X.env = (false, eval (.Name x px) X.env) :: starEach [b] X.env) (he2 : starEach [b] X.env = (false, eval b X.env) :: starEach [] X.env) (hpl : (backTo pos (starEach [b] X.env)).any (·.1) = false) :
    EvM X τ true (.ow .sh) (.Call (.Name "sum" pp) [.Name x px, b] [] pos) (sumOF i fb) := by
  refine PE.imp (pe_callB (cr_sumL hc) hg hm (by rfl) (pa_cons (pe_var hx hv hd hcd) (pa_cons hb pa_nil he2) he) (by decide) (by decide) he hpl) fun σ H Q ⟨Wo, F, env, d, env', S, hf, k⟩ => ?_
  unfold sumOF at hf
  cases q0 : listAt env i with
  | none => rw [q0] at hf; cases hf
  | some ds =>
  rw [q0] at hf
  simp only [Option.bind_some] at hf
  cases q1 : fb env with
  | none => rw [q1] at hf; cases hf
  | some r =>
  obtain ⟨z, e1⟩ := r
  rw [q1] at hf
  simp only [Option.bind_some] at hf
  cases q2 : sumLD [.list ds, z] with
  | none => rw [q2] at hf; cases hf
  | some w =>
  rw [q2] at hf
  cases hf
  obtain ⟨a, xs, G, h1, ha, hF, nG, ol⟩ := S.lsI ht (listAt_some q0)
  refine ⟨.ref a, h1, Wo, F, env, z, _, S, q1, fun u H1 G1 S1 k1 md1 g1 => ?_⟩
  have r2 : Rp X.K H1 (WF Wo F) u z := Own.rpW S g1 md1
  have S1 := S1.less
  have ol1 : OwnL (Own X.K H1 (WF Wo F) (.ls .sh)) xs ds G := ol.imp fun v' d' F' s ow => ow.keep k1.kp fun b o _ e => k1.tt b o e
  unfold sumLD at q2
  split at q2
  · rename_i rs st e0
    cases e0
    cases q : listsOf ds with
    | none => rw [q] at q2; cases q2
    | some ls =>
      rw [q] at q2
      simp only [Option.bind_some] at q2
      by_cases c : st.length + ls.flatten.length ≤ sizeLine
      · rw [if_pos c] at q2
        cases q2
        have r2' := r2
        obtain ⟨b', ys, rfl, hb', rb⟩ := r2.listI
        obtain ⟨rows, rfl, hr1, hr2, hr3⟩ := own_rows q ol1
        have e1 := hr2.length
        have e2 := rb.length
        refine ⟨a, b', rows, ys, rfl, .inl (.inl (k1.tt a _ ha)), hr1, hb', by omega, fun e0 => ?_, fun np nn => ?_⟩
        · subst e0
          have : ls = [] := List.length_eq_zero_iff.mp hr3.symm
          subst this
          rw [List.flatten_nil, List.append_nil] at k
          exact fin_sh k S1 k1 r2'
        · exact (nx_of (t := .ls .sh) (fun v H' G S' kq md g => fin_sh k S'.less kq (Own.rpW S g md)) S1 k1).newL nn (rb.append hr2)
      · rw [if_neg c] at q2; cases q2
  · cases q2
end
end Ev

set_option Elab.async false
set_option linter.all false
set_option maxRecDepth 100000
set_option maxHeartbeats 4000000
namespace Ev
open PySem PySem.Spec PyProof.Rows L2

/-! ### OO. own dicts, sorted(dict), several names at once; by scope -/
section
variable {X : Cx} {bor : List Nat} {τ0 τ τ1 τ' τl : List OT} {tr t t' t1 t2 t3 : OT} {p q r : Bool} {m m2 : Md} {e a b c ix : Expr} {es : List Expr} {st : Stmt} {sts : List Stmt} {pos cpos apos pp px py pz : Pos} {f g fe fk fa fb fc : M PyData} {fs fr : Env → Option Fl} {i j l : Nat} {x y z : Str}
def dputS (i : Nat) (fe fk : M PyData) : Env → Option Fl := fun env => (fe env).bind fun x => (dictAt x.2 i).bind fun _ => (fk x.2).bind fun kd => (dictAt kd.2 i).bind fun kvs => (keyOf kd.1).bind fun key =>
  if kvs.length < sizeLine then some (.nx (kd.2.set i (some (.dict (putD kvs key x.1))))) else none
/-- x[k] = e, of a slot's own dict -/
theorem evS_dput {spos : Pos} (hu : X.A.units + 1 < cLine) (hx : X.N[i]? = some x) (hv : Vis X.env.scope x) (hd : (x == ("__debug__" : Str)) = false) (hcd : (x == ("__classdict__" : Str)) = false) (ht : τ.getD i .sh = .dc) (hi : i < τ.length) (hb : i ∉ bor) (h : EvM X τ p (.ow t) e fe) (hk : EvM X τ true m ix fk)
    (hs : swapsWith e (some (.Subscript (.Name x px) ix spos)) pos.line X.env = pure false) :
    EvS X bor τ0 τ τ τl tr (.Assign [.Subscript (.Name x px) ix spos] e pos) (dputS i fe fk) := by
  refine PS.imp (ps_dput hu (pe_var hx hv hd hcd) hk h hs) fun D σ H ⟨Wo, F, env, fl, S, hf, k⟩ => ?_
  unfold dputS at hf
  cases q1 : fe env with
  | none => rw [q1] at hf; cases hf
  | some r =>
  obtain ⟨d, e1⟩ := r
  rw [q1] at hf
  simp only [Option.bind_some] at hf
  cases q0 : dictAt e1 i with
  | none => rw [q0] at hf; cases hf
  | some ds0 =>
  rw [q0] at hf
  simp only [Option.bind_some] at hf
  cases q2 : fk e1 with
  | none => rw [q2] at hf; cases hf
  | some r =>
  obtain ⟨kd, e2⟩ := r
  rw [q2] at hf
  simp only [Option.bind_some] at hf
  cases q3 : dictAt e2 i with
  | none => rw [q3] at hf; cases hf
  | some kvs =>
  rw [q3] at hf
  simp only [Option.bind_some] at hf
  cases q4 : keyOf kd with
  | none => rw [q4] at hf; cases hf
  | some key =>
  rw [q4] at hf
  simp only [Option.bind_some] at hf
  by_cases hz : kvs.length < sizeLine
  · rw [if_pos hz] at hf
    cases hf
    refine ⟨Wo, F, env, d, e1, S, q1, fun v H1 G S1 k1 md g => ?_⟩
    have rv := Own.rpW S g md
    have S1 := S1.less
    obtain ⟨v0, hv0, ow0⟩ := S1.slot i _ (dictAt_some q0)
    rw [ht] at ow0
    obtain ⟨a, ks0, _, rfl, _, ha0, hF0, _⟩ := ow0
    refine ⟨.ref a, hv0, Wo, F, e1, kd, e2, S1, q2, fun u H2 G2 S2 k2 md2 g2 => ?_⟩
    have S2' := S2.less
    obtain ⟨v1, hv1, ow1⟩ := S2'.slot i _ (dictAt_some q3)
    rw [hv0] at hv1
    cases hv1
    rw [ht] at ow1
    obtain ⟨a', ks, kvs', ea, ed, ha, hF, rk⟩ := ow1
    cases ea; cases ed
    have Fa : F i a := (hF a).mpr rfl
    have rv2 : Rp X.K H2 (WF Wo F) v d := rv.keep k2.kp
    have kp : Kp H2 (WF Wo F) (upd H2 a (.dK (putK ks key v))) (WF Wo F) := ⟨fun b o e n => by rw [upd_ne (fun z => n (by rw [z]; exact .inr ⟨i, Fa⟩))]; exact e, fun _ _ _ n => n⟩
    have keep : ∀ b o, H2 b = some o → ¬ F i b → upd H2 a (.dK (putK ks key v)) b = some o := fun b o e n => by rw [upd_ne (fun z => n (by rw [z]; exact Fa))]; exact e
    have there : ∀ b o, H2 b = some o → ∃ o', upd H2 a (.dK (putK ks key v)) b = some o' := fun b o e => by
      by_cases z : b = a
      · subst z; exact ⟨_, upd_same⟩
      · rw [upd_ne z]; exact ⟨o, e⟩
    have S3 := Slots.updT (Gn := Z0) (G' := F i) (t := .dc) (d := .dict (putD kvs key d)) (by rw [un2_z]; exact S2') (fun _ _ z => z) hi keep there hv0 (fun b z => .inl z)
      (by rw [un2_z]; exact ⟨a, _, _, rfl, rfl, upd_same, hF, (rk.keep kp).put (rv2.keep kp)⟩)
    rw [set_getD hi ht] at S3
    have ek : u = kV key := Rq.key q4 (md2.rq S1 g2)
    subst ek
    exact ⟨a, _, rfl, DPut.k ha (by rw [rk.length]; exact hz), k σ _ _ S3 ((KF.of (bor := bor) S2' (k1.trans k2)).trans (kf_updT hb keep there fun b z => .inl z))⟩
  · rw [if_neg hz] at hf; cases hf
/-! sorted(d), d's keys are ints -/
def intKeys : DKV → Option (List Int)
  | [] => some []
  | (.int i, _) :: kvs => (intKeys kvs).map (i :: ·)
  | _ => none
def sortI (ks : List Int) : List Int := ks.mergeSort fun a b => decide (a ≤ b)
def sortedDD : List PyData → Option PyData
  | [.dict kvs] => (intKeys kvs).bind fun ks => if ks.length < 64 then some (.list ((sortI ks).map .int)) else none
  | _ => none
theorem intKeys_rk {K : PySem.W.Frag} {H : Hp} {W : ASet} : ∀ {ks : List (Key × V)} {kvs : DKV} {is : List Int}, RpK K H W ks kvs → intKeys kvs = some is → ks.map (·.1) = is.map Sum.inl
  | _, _, _, .nil, h => by cases h; rfl
  | (k, v) :: ks, (_, d) :: kvs, is, .cons h r, e => by
    cases k with
    | inl i =>
      have e : (intKeys kvs).map (i :: ·) = some is := e
      cases q : intKeys kvs with
      | none => rw [q] at e; cases e
      | some js =>
        rw [q] at e
        cases e
        rw [List.map_cons, List.map_cons, intKeys_rk r q]
    | inr x => cases e
theorem sortI_of {ys ks : List Int} (h : ys.Perm ks) (s : ys.Pairwise (· ≤ ·)) : ys = sortI ks := by
  have hs := List.pairwise_mergeSort (le := fun a b : Int => decide (a ≤ b)) (fun a b c => by simp; omega) (fun a b => by simp; omega) ks
  exact List.Perm.eq_of_pairwise (le := fun a b : Int => a ≤ b) (fun a b _ _ h1 h2 => by omega) s (hs.imp fun h => of_decide_eq_true h) (h.trans (List.mergeSort_perm ks _).symm)
theorem c_sortedD (hc : X.calm = true) : CallOk X (.builtin "sorted") sortedDD (.ls .sh) := by
  intro pins s σ H xs us Q ds d W I r qs wt hg k
  unfold sortedDD at hg
  split at hg
  · rename_i kvs
    cases q : intKeys kvs with
    | none => rw [q] at hg; cases hg
    | some ks =>
      rw [q] at hg
      simp only [Option.bind_some] at hg
      by_cases c : ks.length < 64
      · rw [if_pos c] at hg
        cases hg
        obtain ⟨x, rfl, qx⟩ := qs.one
        obtain ⟨a, kk, rfl, hd, rk⟩ := qx.dictI
        refine call_sortedDI hc pins s σ H _ us Q I r ⟨a, kk, ks, rfl, hd, intKeys_rk rk q, c, fun ys p hp hs hn => ?_⟩
        rw [sortI_of hp hs]
        refine k.newL hn ?_
        generalize sortI ks = l
        induction l with
        | nil => exact .nil
        | cons n l ih => exact .cons (.int _) ih
      · rw [if_neg c] at hg; cases hg
  · cases hg
/-- of a list or a dict -/
def sortedAD : List PyData → Option PyData := fun ds => (sortedD ds).or (sortedDD ds)
theorem c_sortedA (hu : X.A.units + 64 < cLine) (hc : X.calm = true) : CallOk X (.builtin "sorted") sortedAD (.ls .sh) := (c_sorted hu).or (c_sortedD hc)
/-! a, b = x, y: each its own -/
def par2F (i j : Nat) (fa fb : M PyData) : Env → Option Fl := fun env => (fa env).bind fun x => (fb x.2).map fun y => .nx ((y.2.set j (some y.1)).set i (some x.1))
theorem kf_pair {K : PySem.W.Frag} {H H2 : Hp} {Wo G1 G2 : ASet} {σ : L2.St} {env : Env} {F : Nat → ASet} (S : Slots K H2 Wo τ σ env F) (kq : Kq p F H H2) (g1 : Nw G1 H) (g2 : Nw G2 H) (hi : i ∉ bor) (hj : j ∉ bor) : KF bor F (setF (setF F j G2) i G1) H H2 :=
  kf_sets (KF.of S kq) (fun l b hl z => by
    by_cases e : l = i
    · subst e; rw [setF_same] at z; exact .inl (g1 b z)
    · rw [setF_ne e] at z
      exact (setF_sub z).elim (fun z => .inr ⟨l, hl, z⟩) fun z => .inl (g2 b z)) fun l hl => by rw [setF_ne fun e => hi (by rw [← e]; exact hl), setF_ne fun e => hj (by rw [← e]; exact hl)]
theorem evS_par2 {pt pt2 : Pos} {kt k2 : Nat} (hc : X.calm = true) (hN : X.N.Nodup) (hi : X.N[i]? = some x) (hj : X.N[j]? = some y) (hij : i ≠ j) (hx : X.env.scope.names.lookup x = some .local) (hy : X.env.scope.names.lookup y = some .local)
    (hti : i < τ.length) (htj : j < τ.length) (hbi : i ∉ bor) (hbj : j ∉ bor) (ha : EvM X τ p (.ow t1) a fa) (hb : EvM X τ q (.ow t2) b fb)
    (h1 : starEach [a, b] X.env = (false, eval a X.env) :: starEach [b] X.env) (h2 : starEach [b] X.env = (false, eval b X.env) :: starEach [] X.env)
    (hw : swappedStores [.Tuple [.Name x px, .Name y py] kt pt] (.Tuple [a, b] k2 pt2) X.env = pure (some [x, y]))
    (hs : swapsWithSole [.Tuple [.Name x px, .Name y py] kt pt] (.Tuple [a, b] k2 pt2) pos.line X.env = pure false) :
    EvS X bor τ0 τ ((τ.set j t2).set i t1) τl tr (.Assign [.Tuple [.Name x px, .Name y py] kt pt] (.Tuple [a, b] k2 pt2) pos) (par2F i j fa fb) := by
  refine PS.imp (ps_par hc hN hi hj hij hx hy (pa_cons ha (pa_cons hb pa_nil h2) h1) hw hs) fun D σ H ⟨Wo, F, env, fl, S, hf, k⟩ => ?_
  unfold par2F at hf
  cases q1 : fa env with
  | none => rw [q1] at hf; cases hf
  | some r =>
  obtain ⟨d, e1⟩ := r
  rw [q1] at hf
  simp only [Option.bind_some] at hf
  cases q2 : fb e1 with
  | none => rw [q2] at hf; cases hf
  | some r =>
  obtain ⟨d', e2⟩ := r
  rw [q2] at hf
  cases hf
  refine ⟨Wo, F, env, d, e1, S, q1, fun v H1 G1 S1 k1 md1 g1 => ⟨Un2 Wo G1, F, e1, d', e2, S1, q2, fun w H2 G2 S2 k2 md2 g2 => ⟨v, w, rfl, ?_⟩⟩⟩
  have ow1 : Own X.K H2 (WF (Un2 (Un2 Wo G1) G2) F) t1 v d G1 := Own.stay md1 S1 k2 g2
  have n2 : Nw G2 H := S1.less.nwBack k1 g2
  have S3 := S2.setO (fun a w x => by
    obtain ⟨o, e⟩ := (S1.wo a w).1
    rw [g2 a x] at e; cases e) htj md2
  have hw : ∀ b, WF (Un2 Wo G1) (setF F j G2) b → WF (Un2 (Un2 Wo G1) G2) F b := fun b z => by
    rcases z with z | ⟨l, z⟩
    · exact .inl (.inl z)
    · exact (setF_sub z).elim (fun z => .inr ⟨l, z⟩) fun z => .inl (.inr z)
  have S4 := S3.setO (fun a w x => by
    obtain ⟨o, e⟩ := (S.wo a w).1
    rw [g1 a x] at e; cases e) (by rw [List.length_set]; exact hti) (ow1.keep (Kp.less fun b _ _ n z => n (hw b z)) fun _ _ _ e => e)
  have es : (σ.set i (some v)).set j (some w) = (σ.set j (some w)).set i (some v) := List.set_comm _ _ hij
  rw [es]
  exact k _ H2 _ S4 (kf_pair S2.less.less (k1.trans k2) g1 n2 hbi hbj)
def par3F (i j l : Nat) (fa fb fc : M PyData) : Env → Option Fl := fun env => (fa env).bind fun x => (fb x.2).bind fun y => (fc y.2).map fun z => .nx (((z.2.set l (some z.1)).set j (some y.1)).set i (some x.1))
theorem evS_par3 {pt pt2 : Pos} {kt k2 : Nat} (hc : X.calm = true) (hN : X.N.Nodup) (hi : X.N[i]? = some x) (hj : X.N[j]? = some y) (hl : X.N[l]? = some z) (hij : i ≠ j) (hil : i ≠ l) (hjl : j ≠ l) (hx : X.env.scope.names.lookup x = some .local) (hy : X.env.scope.names.lookup y = some .local) (hz : X.env.scope.names.lookup z = some .local)
    (hti : i < τ.length) (htj : j < τ.length) (htl : l < τ.length) (hbi : i ∉ bor) (hbj : j ∉ bor) (hbl : l ∉ bor) (ha : EvM X τ p (.ow t1) a fa) (hb : EvM X τ q (.ow t2) b fb) (hcc : EvM X τ r (.ow t3) c fc)
    (h1 : starEach [a, b, c] X.env = (false, eval a X.env) :: starEach [b, c] X.env) (h2 : starEach [b, c] X.env = (false, eval b X.env) :: starEach [c] X.env) (h3 : starEach [c] X.env = (false, eval c X.env) :: starEach [] X.env)
    (hw : swappedStores [.Tuple [.Name x px, .Name y py, .Name z pz] kt pt] (.Tuple [a, b, c] k2 pt2) X.env = pure (some [x, y, z]))
    (hs : swapsWithSole [.Tuple [.Name x px, .Name y py, .Name z pz] kt pt] (.Tuple [a, b, c] k2 pt2) pos.line X.env = pure false) :
    EvS X bor τ0 τ (((τ.set l t3).set j t2).set i t1) τl tr (.Assign [.Tuple [.Name x px, .Name y py, .Name z pz] kt pt] (.Tuple [a, b, c] k2 pt2) pos) (par3F i j l fa fb fc) := by
  refine PS.imp (ps_par3 hc hN hi hj hl hij hil hjl hx hy hz (pa_cons ha (pa_cons hb (pa_cons hcc pa_nil h3) h2) h1) hw hs) fun D σ H ⟨Wo, F, env, fl, S, hf, k⟩ => ?_
  unfold par3F at hf
  cases q1 : fa env with
  | none => rw [q1] at hf; cases hf
  | some r =>
  obtain ⟨d, e1⟩ := r
  rw [q1] at hf
  simp only [Option.bind_some] at hf
  cases q2 : fb e1 with
  | none => rw [q2] at hf; cases hf
  | some r =>
  obtain ⟨d', e2⟩ := r
  rw [q2] at hf
  simp only [Option.bind_some] at hf
  cases q3 : fc e2 with
  | none => rw [q3] at hf; cases hf
  | some r =>
  obtain ⟨d3, e3⟩ := r
  rw [q3] at hf
  cases hf
  refine ⟨Wo, F, env, d, e1, S, q1, fun v H1 G1 S1 k1 md1 g1 => ⟨Un2 Wo G1, F, e1, d', e2, S1, q2, fun w H2 G2 S2 k2 md2 g2 => ⟨Un2 (Un2 Wo G1) G2, F, e2, d3, e3, S2, q3, fun u H3 G3 S3 k3 md3 g3 => ⟨v, w, u, rfl, ?_⟩⟩⟩⟩
  have ow1 : Own X.K H2 (WF (Un2 (Un2 Wo G1) G2) F) t1 v d G1 := Own.stay md1 S1 k2 g2
  have ow2 : Own X.K H3 (WF (Un2 (Un2 (Un2 Wo G1) G2) G3) F) t2 w d' G2 := Own.stay md2 S2 k3 g3
  have ow1' : Own X.K H3 (WF (Un2 (Un2 (Un2 Wo G1) G2) G3) F) t1 v d G1 := ow1.keep (k3.kpG g3) fun a o x e => k3 a o e fun _ i y => (S2.wo a (.inl (.inr x))).2 i y
  have n2 : Nw G2 H := S1.less.nwBack k1 g2
  have n3 : Nw G3 H := S2.less.less.nwBack (k1.trans k2) g3
  have S4 := S3.setO (fun a w x => by
    obtain ⟨o, e⟩ := (S2.wo a w).1
    rw [g3 a x] at e; cases e) htl md3
  have hw1 : ∀ b, WF (Un2 (Un2 Wo G1) G2) (setF F l G3) b → WF (Un2 (Un2 (Un2 Wo G1) G2) G3) F b := fun b z => by
    rcases z with z | ⟨l, z⟩
    · exact .inl (.inl z)
    · exact (setF_sub z).elim (fun z => .inr ⟨l, z⟩) fun z => .inl (.inr z)
  have S5 := S4.setO (fun a w x => by
    obtain ⟨o, e⟩ := (S1.wo a w).1
    rw [g2 a x] at e; cases e) (by rw [List.length_set]; exact htj) (ow2.keep (Kp.less fun b _ _ n z => n (hw1 b z)) fun _ _ _ e => e)
  have hw2 : ∀ b, WF (Un2 Wo G1) (setF (setF F l G3) j G2) b → WF (Un2 (Un2 (Un2 Wo G1) G2) G3) F b := fun b z => by
    rcases z with z | ⟨l, z⟩
    · exact .inl (.inl (.inl z))
    · exact (setF_sub z).elim (fun z => (setF_sub z).elim (fun z => .inr ⟨l, z⟩) fun z => .inl (.inr z)) fun z => .inl (.inl (.inr z))
  have S6 := S5.setO (fun a w x => by
    obtain ⟨o, e⟩ := (S.wo a w).1
    rw [g1 a x] at e; cases e) (by rw [List.length_set, List.length_set]; exact hti) (ow1'.keep (Kp.less fun b _ _ n z => n (hw2 b z)) fun _ _ _ e => e)
  have es : ((σ.set i (some v)).set j (some w)).set l (some u) = ((σ.set l (some u)).set j (some w)).set i (some v) := by
    rw [List.set_comm _ _ hjl, List.set_comm (some v) (some u) hil, List.set_comm (some v) (some w) hij]
  rw [es]
  exact k _ H3 _ S6 (kf_sets (KF.of S3.less.less.less ((k1.trans k2).trans k3)) (fun l' b hl z => by
    by_cases e : l' = i
    · subst e; rw [setF_same] at z; exact .inl (g1 b z)
    · rw [setF_ne e] at z
      exact (setF_sub z).elim (fun z => (setF_sub z).elim (fun z => .inr ⟨l', hl, z⟩) fun z => .inl (n3 b z)) fun z => .inl (n2 b z)) fun l' hl' => by rw [setF_ne fun e => hbi (by rw [← e]; exact hl'), setF_ne fun e => hbj (by rw [← e]; exact hl'), setF_ne fun e => hbl (by rw [← e]; exact hl')])
end
end Ev

set_option Elab.async false
set_option linter.all false
set_option maxRecDepth 100000
set_option maxHeartbeats 4000000
namespace Ev
open PySem PySem.Spec PyProof.Rows L2

/-! ### PP. by scope -/
section
variable {X : Cx} {P : Program} {w : World} {K : PySem.W.Frag} {mg : Str → Option Value} {base : Heap} {k kk : Nat} {N : List Str} {sc : Scope} {fn : Str → Bool} {τ : List OT} {p q r : Bool} {m m2 : Md} {t t1 t2 t3 : OT} {x y z : Str} {i j l : Nat} {pos pos' pp px py pz apos cpos spos : Pos} {a b c e ix : Expr} {es : List Expr} {f fa fb fc fe fi fk : M PyData} {fr : M (List PyData)}
variable {bor : List Nat} {τ0 τ1 τ' τl : List OT} {tr : OT} {fs fb' : Env → Option Fl} {body : List Stmt}
theorem x_ownD (hX : XOk X P w K mg base k N sc fn) (hN : N[i]? = some x) (hv : visB sc x = true) (ht : τ.getD i .sh = .dc) (hn : nmB x = true) : EvM X τ true .sk (.Name x pos) (varF i) :=
  ev_own (hX.nm hN) (hX.vis hv) (.inr ht) (nmB_d hn) (nmB_c hn)
theorem x_ixO (hX : XOk X P w K mg base k N sc fn) (hN : N[i]? = some x) (hv : visB sc x = true) (hn : nmB x = true) (ht : τ.getD i .sh = .ls (.ls .sh)) (hk : EvM X τ true m ix fk) (hpl : PlainIx ix) : EvM X τ true .sk (.Subscript (.Name x px) ix spos) (bind2 (varF i) fk ixD) :=
  ev_ixO (hX.nm hN) (hX.vis hv) (nmB_d hn) (nmB_c hn) ht hk hpl
theorem x_sumO (hX : XOk X P w K mg base k N sc fn) (hg : glB sc "sum" = true) (hm : mg "sum" = none) (hN : N[i]? = some x) (hv : visB sc x = true) (hn : nmB x = true) (ht : τ.getD i .sh = .ls (.ls .sh)) (hb : EvM X τ true (.ow t) b fb)
    (he : starEach [.Name x px, b] X.env = (false, eval (.Name x px) X.env) :: starEach [b] X.env) (he2 : starEach [b] X.env = (false, eval b X.env) :: starEach [] X.env) (hpl : (backTo pos (starEach [b] X.env)).any (·.1) = false) :
    EvM X τ true (.ow .sh) (.Call (.Name "sum" pp) [.Name x px, b] [] pos) (sumOF i fb) := ev_sumO hX.calm (hX.gl hg) (hX.mg' hm) (hX.nm hN) (hX.vis hv) (nmB_d hn) (nmB_c hn) ht hb he he2 hpl
theorem xS_appMv (hX : XOk X P w K mg base k N sc fn) (hN : N[i]? = some x) (hv : visB sc x = true) (hn : nmB x = true) (hN2 : N[j]? = some y) (hv2 : visB sc y = true) (hn2 : nmB y = true) (ht : τ.getD i .sh = .ls t) (htj : τ.getD j .sh = t) (hi : i < τ.length) (hj : j < τ.length) (hij : decide (i = j) = false) (hb : notIn i bor = true) (hbj : notIn j bor = true)
    (hs : swapsWith (.Call (.Attribute (.Name x px) "append" apos) [.Name y py] [] cpos) none pos.line X.env = pure false) (hst : starEach [.Name y py] X.env = [(false, eval (.Name y py) X.env)])
    (hfew : ((backTo cpos (starEach [.Name y py] X.env)).all (fun x => !x.1) && (backToKw cpos (keywordEach [] X.env)).all (fun x => x.1.isSome) && decide ([Expr.Name y py].length + ([] : List Keyword).length + (if ([] : List Keyword).isEmpty then 0 else 1) < 30)) = true)
    (hline : (apos.endLine == cpos.line) = true) : EvS X bor τ0 τ τ τl tr (.Expr (.Call (.Attribute (.Name x px) "append" apos) [.Name y py] [] cpos) pos) (appMvS i j) :=
  evS_appMv (hX.nm hN) (hX.vis hv) (nmB_d hn) (nmB_c hn) (hX.nm hN2) (hX.vis hv2) (nmB_d hn2) (nmB_c hn2) ht htj hi hj (of_decide_eq_false hij) (notIn_ok hb) (notIn_ok hbj) hs hst hfew hline
theorem xS_appN (hX : XOk X P w K mg base k N sc fn) (hN : N[i]? = some x) (hv : visB sc x = true) (hn : nmB x = true) (ht : τ.getD i .sh = .ls (.ls .sh)) (hi : i < τ.length) (hb : notIn i bor = true) (hk : EvM X τ true m ix fk) (he : EvM X τ true (.ow .sh) e fe) (hpl : PlainIx ix)
    (hbase : attributeBase (.Subscript (.Name x px) ix spos) "append" X.env (eval (.Subscript (.Name x px) ix spos) X.env) = eval (.Subscript (.Name x px) ix spos) X.env)
    (hs : swapsWith (.Call (.Attribute (.Subscript (.Name x px) ix spos) "append" apos) [e] [] cpos) none pos.line X.env = pure false) (hst : starEach [e] X.env = [(false, eval e X.env)])
    (hfew : ((backTo cpos (starEach [e] X.env)).all (fun x => !x.1) && (backToKw cpos (keywordEach [] X.env)).all (fun x => x.1.isSome) && decide ([e].length + ([] : List Keyword).length + (if ([] : List Keyword).isEmpty then 0 else 1) < 30)) = true)
    (hline : (apos.endLine == cpos.line) = true) : EvS X bor τ0 τ τ τl tr (.Expr (.Call (.Attribute (.Subscript (.Name x px) ix spos) "append" apos) [e] [] cpos) pos) (appNS i fk fe) :=
  evS_appN (hX.nm hN) (hX.vis hv) (nmB_d hn) (nmB_c hn) ht hi (notIn_ok hb) hk he hpl hbase hs hst hfew hline
theorem xS_dput (hX : XOk X P w K mg base k N sc fn) (hN : N[i]? = some x) (hv : visB sc x = true) (hn : nmB x = true) (ht : τ.getD i .sh = .dc) (hi : i < τ.length) (hb : notIn i bor = true) (h : EvM X τ p (.ow t) e fe) (hk : EvM X τ true m ix fk)
    (hs : swapsWith e (some (.Subscript (.Name x px) ix spos)) pos.line X.env = pure false) : EvS X bor τ0 τ τ τl tr (.Assign [.Subscript (.Name x px) ix spos] e pos) (dputS i fe fk) :=
  evS_dput hX.r1 (hX.nm hN) (hX.vis hv) (nmB_d hn) (nmB_c hn) ht hi (notIn_ok hb) h hk hs
theorem xS_par2 {pt pt2 : Pos} {kt k2 : Nat} (hX : XOk X P w K mg base k N sc fn) (hi : N[i]? = some x) (hj : N[j]? = some y) (hij : decide (i = j) = false) (hx : pureB sc x = true) (hy : pureB sc y = true)
    (hti : i < τ.length) (htj : j < τ.length) (hbi : notIn i bor = true) (hbj : notIn j bor = true) (ha : EvM X τ p (.ow t1) a fa) (hb : EvM X τ q (.ow t2) b fb)
    (h1 : starEach [a, b] X.env = (false, eval a X.env) :: starEach [b] X.env) (h2 : starEach [b] X.env = (false, eval b X.env) :: starEach [] X.env)
    (hw : swappedStores [.Tuple [.Name x px, .Name y py] kt pt] (.Tuple [a, b] k2 pt2) (envOf sc) = pure (some [x, y]))
    (hs : swapsWithSole [.Tuple [.Name x px, .Name y py] kt pt] (.Tuple [a, b] k2 pt2) pos.line X.env = pure false) :
    EvS X bor τ0 τ ((τ.set j t2).set i t1) τl tr (.Assign [.Tuple [.Name x px, .Name y py] kt pt] (.Tuple [a, b] k2 pt2) pos) (par2F i j fa fb) :=
  evS_par2 hX.calm hX.ndup (hX.nm hi) (hX.nm hj) (of_decide_eq_false hij) (by rw [hX.scope]; exact pureB_ok hx) (by rw [hX.scope]; exact pureB_ok hy) hti htj (notIn_ok hbi) (notIn_ok hbj) ha hb h1 h2 ((sw_env hX (envOf sc) rfl).trans hw) hs
theorem xS_par3 {pt pt2 : Pos} {kt k2 : Nat} (hX : XOk X P w K mg base k N sc fn) (hi : N[i]? = some x) (hj : N[j]? = some y) (hl : N[l]? = some z) (hij : decide (i = j) = false) (hil : decide (i = l) = false) (hjl : decide (j = l) = false) (hx : pureB sc x = true) (hy : pureB sc y = true) (hz : pureB sc z = true)
    (hti : i < τ.length) (htj : j < τ.length) (htl : l < τ.length) (hbi : notIn i bor = true) (hbj : notIn j bor = true) (hbl : notIn l bor = true) (ha : EvM X τ p (.ow t1) a fa) (hb : EvM X τ q (.ow t2) b fb) (hcc : EvM X τ r (.ow t3) c fc)
    (h1 : starEach [a, b, c] X.env = (false, eval a X.env) :: starEach [b, c] X.env) (h2 : starEach [b, c] X.env = (false, eval b X.env) :: starEach [c] X.env) (h3 : starEach [c] X.env = (false, eval c X.env) :: starEach [] X.env)
    (hw : swappedStores [.Tuple [.Name x px, .Name y py, .Name z pz] kt pt] (.Tuple [a, b, c] k2 pt2) (envOf sc) = pure (some [x, y, z]))
    (hs : swapsWithSole [.Tuple [.Name x px, .Name y py, .Name z pz] kt pt] (.Tuple [a, b, c] k2 pt2) pos.line X.env = pure false) :
    EvS X bor τ0 τ (((τ.set l t3).set j t2).set i t1) τl tr (.Assign [.Tuple [.Name x px, .Name y py, .Name z pz] kt pt] (.Tuple [a, b, c] k2 pt2) pos) (par3F i j l fa fb fc) :=
  evS_par3 hX.calm hX.ndup (hX.nm hi) (hX.nm hj) (hX.nm hl) (of_decide_eq_false hij) (of_decide_eq_false hil) (of_decide_eq_false hjl) (by rw [hX.scope]; exact pureB_ok hx) (by rw [hX.scope]; exact pureB_ok hy) (by rw [hX.scope]; exact pureB_ok hz) hti htj htl (notIn_ok hbi) (notIn_ok hbj) (notIn_ok hbl) ha hb hcc h1 h2 h3 ((sw_env hX (envOf sc) rfl).trans hw) hs
theorem xS_while (hX : XOk X P w K mg base k N sc fn) (n : Nat) (hc : EvT X τ p c (asB fc)) (hb : EvSs X bor τ0 τ τ τ tr body fb') : EvS X bor τ0 τ τ τl tr (.While c body [] pos) (goW fc fb' n) := evS_while hX.pass hc hb
theorem evS_tup2 {pt pt2 : Pos} {kt k2 : Nat} (hc : X.calm = true) (hN : X.N.Nodup) (hi : X.N[i]? = some x) (hj : X.N[j]? = some y) (hij : i ≠ j) (hx : Loc X.env.scope x) (hy : Loc X.env.scope y) (hfx : X.fn x = true ∨ X.env.scope.names.lookup x = some .local) (hfy : X.fn y = true ∨ X.env.scope.names.lookup y = some .local)
    (hti : i < τ.length) (htj : j < τ.length) (hbi : i ∉ bor) (hbj : j ∉ bor) (ha : EvM X τ p (.ow t1) a fa) (hb : EvM X τ q (.ow t2) b fb)
    (h1 : starEach [a, b] X.env = (false, eval a X.env) :: starEach [b] X.env) (h2 : starEach [b] X.env = (false, eval b X.env) :: starEach [] X.env)
    (g1 : (assignEach [.Name x px, .Name y py] X.env).map (·.2) = assign (.Name x px) X.env :: (assignEach [.Name y py] X.env).map (·.2)) (g2 : (assignEach [.Name y py] X.env).map (·.2) = assign (.Name y py) X.env :: (assignEach [] X.env).map (·.2))
    (hn : (assignEach [.Name x px, .Name y py] X.env).length = 2) (hst : (assignEach [.Name x px, .Name y py] X.env).findIdx? (·.1) = none)
    (hs : swapsWithSole [.Tuple [.Name x px, .Name y py] kt pt] (.Tuple [a, b] k2 pt2) pos.line X.env = pure false) (hw : swappedStores [.Tuple [.Name x px, .Name y py] kt pt] (.Tuple [a, b] k2 pt2) X.env = pure none)
    (h1' : (assignEach [.Tuple [.Name x px, .Name y py] kt pt] X.env).map (·.2) = [assign (.Tuple [.Name x px, .Name y py] kt pt) X.env]) :
    EvS X bor τ0 τ ((τ.set j t2).set i t1) τl tr (.Assign [.Tuple [.Name x px, .Name y py] kt pt] (.Tuple [a, b] k2 pt2) pos) (par2F i j fa fb) := by
  refine PS.imp (ps_asg (pe_tup (pa_cons ha (pa_cons hb pa_nil h2) h1)) (pg_tup hc (pgs_cons (pg_name hN hi hx hfx) (pgs_cons (pg_name hN hj hy hfy) pgs_nil g2) g1) hn hst) hs hw h1') fun D σ H ⟨Wo, F, env, fl, S, hf, k⟩ => ?_
  unfold par2F at hf
  cases q1 : fa env with
  | none => rw [q1] at hf; cases hf
  | some r =>
  obtain ⟨d, e1⟩ := r
  rw [q1] at hf
  simp only [Option.bind_some] at hf
  cases q2 : fb e1 with
  | none => rw [q2] at hf; cases hf
  | some r =>
  obtain ⟨d', e2⟩ := r
  rw [q2] at hf
  cases hf
  refine ⟨Wo, F, env, d, e1, S, q1, fun v H1 G1 S1 k1 md1 g1 => ⟨Un2 Wo G1, F, e1, d', e2, S1, q2, fun w H2 G2 S2 k2 md2 g2 => ⟨by rw [sizeLine_eq]; show 2 ≤ 16777216; decide, fun qa nq => ⟨qa, [v, w], rfl, .inl (.inl upd_same), rfl, v, [w], rfl, w, [], rfl, rfl, ?_⟩⟩⟩⟩
  have ow1 : Own X.K H2 (WF (Un2 (Un2 Wo G1) G2) F) t1 v d G1 := Own.stay md1 S1 k2 g2
  have n2 : Nw G2 H := S1.less.nwBack k1 g2
  have S3 := S2.setO (fun a w x => by
    obtain ⟨o, e⟩ := (S1.wo a w).1
    rw [g2 a x] at e; cases e) htj md2
  have hw : ∀ b, WF (Un2 Wo G1) (setF F j G2) b → WF (Un2 (Un2 Wo G1) G2) F b := fun b z => by
    rcases z with z | ⟨l, z⟩
    · exact .inl (.inl z)
    · exact (setF_sub z).elim (fun z => .inr ⟨l, z⟩) fun z => .inl (.inr z)
  have S4 := S3.setO (fun a w x => by
    obtain ⟨o, e⟩ := (S.wo a w).1
    rw [g1 a x] at e; cases e) (by rw [List.length_set]; exact hti) (ow1.keep (Kp.less fun b _ _ n z => n (hw b z)) fun _ _ _ e => e)
  have es : (σ.set i (some v)).set j (some w) = (σ.set j (some w)).set i (some v) := List.set_comm _ _ hij
  rw [es]
  have sm := up_same (o := .tup [v, w]) nq
  have S5 := S4.same sm
  exact k _ _ _ S5 ((kf_pair S2.less.less (k1.trans k2) g1 n2 hbi hbj).trans (KF.of (p := true) S5 (Kq.sm sm)))
theorem xS_tup2 {pt pt2 : Pos} {kt k2 : Nat} (hX : XOk X P w K mg base k N sc fn) (hi : N[i]? = some x) (hj : N[j]? = some y) (hij : decide (i = j) = false) (hx : locB sc x = true) (hy : locB sc y = true) (hfx : (fn x || pureB sc x) = true) (hfy : (fn y || pureB sc y) = true)
    (hti : i < τ.length) (htj : j < τ.length) (hbi : notIn i bor = true) (hbj : notIn j bor = true) (ha : EvM X τ p (.ow t1) a fa) (hb : EvM X τ q (.ow t2) b fb)
    (h1 : starEach [a, b] X.env = (false, eval a X.env) :: starEach [b] X.env) (h2 : starEach [b] X.env = (false, eval b X.env) :: starEach [] X.env)
    (g1 : (assignEach [.Name x px, .Name y py] X.env).map (·.2) = assign (.Name x px) X.env :: (assignEach [.Name y py] X.env).map (·.2)) (g2 : (assignEach [.Name y py] X.env).map (·.2) = assign (.Name y py) X.env :: (assignEach [] X.env).map (·.2))
    (hn : (assignEach [.Name x px, .Name y py] X.env).length = 2) (hst : (assignEach [.Name x px, .Name y py] X.env).findIdx? (·.1) = none)
    (hw : swappedStores [.Tuple [.Name x px, .Name y py] kt pt] (.Tuple [a, b] k2 pt2) (envOf sc) = pure none)
    (hs : swapsWithSole [.Tuple [.Name x px, .Name y py] kt pt] (.Tuple [a, b] k2 pt2) pos.line X.env = pure false)
    (h1' : (assignEach [.Tuple [.Name x px, .Name y py] kt pt] X.env).map (·.2) = [assign (.Tuple [.Name x px, .Name y py] kt pt) X.env]) :
    EvS X bor τ0 τ ((τ.set j t2).set i t1) τl tr (.Assign [.Tuple [.Name x px, .Name y py] kt pt] (.Tuple [a, b] k2 pt2) pos) (par2F i j fa fb) :=
  evS_tup2 hX.calm hX.ndup (hX.nm hi) (hX.nm hj) (of_decide_eq_false hij) (hX.loc hx) (hX.loc hy) (hX.put hfx) (hX.put hfy) hti htj (notIn_ok hbi) (notIn_ok hbj) ha hb h1 h2 g1 g2 hn hst hs ((sw_env hX (envOf sc) rfl).trans hw) h1'
end
end Ev

set_option Elab.async false
set_option linter.all false
set_option maxRecDepth 100000
set_option maxHeartbeats 0
namespace Ev
open PySem PySem.Spec PyProof.Rows L2
/-! ### the text of k04: where it stands -/
def top (i : Nat) : Stmt := PySem.Challenge.pw_everheld_k04_whole_reached_rings_and_way.main.body.getD i (.Pass ⟨0, 0, 0, 0⟩)
abbrev s_is_whole : Stmt := top 11
abbrev s_is_below : Stmt := top 12
abbrev s_is_rising : Stmt := top 13
abbrev s_are_ascending : Stmt := top 14
abbrev s_is_word : Stmt := top 15
abbrev s_are_words : Stmt := top 16
abbrev s_is_step : Stmt := top 21
abbrev s_is_web_in : Stmt := top 22
abbrev s_check_web : Stmt := top 23
abbrev s_check_place : Stmt := top 24
abbrev s_check_lot : Stmt := top 25
abbrev s_check_web_place : Stmt := top 26
abbrev s_check_web_lot : Stmt := top 27
abbrev s_nears_in : Stmt := top 28
abbrev s_reached_in : Stmt := top 29
abbrev s_reached : Stmt := top 30
abbrev s_rings_of : Stmt := top 31
abbrev s_is_closed : Stmt := top 32
abbrev s_way_back : Stmt := top 34
abbrev s_way_to : Stmt := top 33
abbrev s__law_hash : Stmt := top 36
abbrev s__law_random : Stmt := top 37
abbrev s__law_cell : Stmt := top 38
abbrev s__law_generator : Stmt := top 39
abbrev s__law_pick : Stmt := top 40
abbrev s__law_exact : Stmt := top 41
abbrev s__law_copied : Stmt := top 42
abbrev s__law_drawn_web : Stmt := top 43
abbrev s__law_far : Stmt := top 44
abbrev s__law_long_web : Stmt := top 45
abbrev s__law_behind : Stmt := top 46
abbrev s__law_is_way : Stmt := top 47
abbrev s__law_web_right : Stmt := top 48
abbrev s_law : Stmt := top 49
structure Bk (K : PySem.W.Frag) (mg : Str → Option Value) : Prop where
  d_is_whole : DefAt K mg "is_whole" (defArgs s_is_whole) (defBody s_is_whole) (defScope s_is_whole)
  d_is_below : DefAt K mg "is_below" (defArgs s_is_below) (defBody s_is_below) (defScope s_is_below)
  d_is_rising : DefAt K mg "is_rising" (defArgs s_is_rising) (defBody s_is_rising) (defScope s_is_rising)
  d_are_ascending : DefAt K mg "are_ascending" (defArgs s_are_ascending) (defBody s_are_ascending) (defScope s_are_ascending)
  d_is_word : DefAt K mg "is_word" (defArgs s_is_word) (defBody s_is_word) (defScope s_is_word)
  d_are_words : DefAt K mg "are_words" (defArgs s_are_words) (defBody s_are_words) (defScope s_are_words)
  d_is_step : DefAt K mg "is_step" (defArgs s_is_step) (defBody s_is_step) (defScope s_is_step)
  d_is_web_in : DefAt K mg "is_web_in" (defArgs s_is_web_in) (defBody s_is_web_in) (defScope s_is_web_in)
  d_check_web : DefAt K mg "check_web" (defArgs s_check_web) (defBody s_check_web) (defScope s_check_web)
  d_check_place : DefAt K mg "check_place" (defArgs s_check_place) (defBody s_check_place) (defScope s_check_place)
  d_check_lot : DefAt K mg "check_lot" (defArgs s_check_lot) (defBody s_check_lot) (defScope s_check_lot)
  d_check_web_place : DefAt K mg "check_web_place" (defArgs s_check_web_place) (defBody s_check_web_place) (defScope s_check_web_place)
  d_check_web_lot : DefAt K mg "check_web_lot" (defArgs s_check_web_lot) (defBody s_check_web_lot) (defScope s_check_web_lot)
  d_nears_in : DefAt K mg "nears_in" (defArgs s_nears_in) (defBody s_nears_in) (defScope s_nears_in)
  d_reached_in : DefAt K mg "reached_in" (defArgs s_reached_in) (defBody s_reached_in) (defScope s_reached_in)
  d_reached : DefAt K mg "reached" (defArgs s_reached) (defBody s_reached) (defScope s_reached)
  d_rings_of : DefAt K mg "rings_of" (defArgs s_rings_of) (defBody s_rings_of) (defScope s_rings_of)
  d_is_closed : DefAt K mg "is_closed" (defArgs s_is_closed) (defBody s_is_closed) (defScope s_is_closed)
  d_way_back : DefAt K mg "way_back" (defArgs s_way_back) (defBody s_way_back) (defScope s_way_back)
  d_way_to : DefAt K mg "way_to" (defArgs s_way_to) (defBody s_way_to) (defScope s_way_to)
  d__law_hash : DefAt K mg "_law_hash" (defArgs s__law_hash) (defBody s__law_hash) (defScope s__law_hash)
  d__law_random : DefAt K mg "_law_random" (defArgs s__law_random) (defBody s__law_random) (defScope s__law_random)
  d__law_cell : DefAt K mg "_law_cell" (defArgs s__law_cell) (defBody s__law_cell) (defScope s__law_cell)
  d__law_generator : DefAt K mg "_law_generator" (defArgs s__law_generator) (defBody s__law_generator) (defScope s__law_generator)
  d__law_pick : DefAt K mg "_law_pick" (defArgs s__law_pick) (defBody s__law_pick) (defScope s__law_pick)
  d__law_exact : DefAt K mg "_law_exact" (defArgs s__law_exact) (defBody s__law_exact) (defScope s__law_exact)
  d__law_copied : DefAt K mg "_law_copied" (defArgs s__law_copied) (defBody s__law_copied) (defScope s__law_copied)
  d__law_drawn_web : DefAt K mg "_law_drawn_web" (defArgs s__law_drawn_web) (defBody s__law_drawn_web) (defScope s__law_drawn_web)
  d__law_far : DefAt K mg "_law_far" (defArgs s__law_far) (defBody s__law_far) (defScope s__law_far)
  d__law_long_web : DefAt K mg "_law_long_web" (defArgs s__law_long_web) (defBody s__law_long_web) (defScope s__law_long_web)
  d__law_behind : DefAt K mg "_law_behind" (defArgs s__law_behind) (defBody s__law_behind) (defScope s__law_behind)
  d__law_is_way : DefAt K mg "_law_is_way" (defArgs s__law_is_way) (defBody s__law_is_way) (defScope s__law_is_way)
  d__law_web_right : DefAt K mg "_law_web_right" (defArgs s__law_web_right) (defBody s__law_web_right) (defScope s__law_web_right)
  d_law : DefAt K mg "law" (defArgs s_law) (defBody s_law) (defScope s_law)
  f_all : mg "all" = none
  f_bool : mg "bool" = none
  f_dict : mg "dict" = none
  f_enumerate : mg "enumerate" = none
  f_int : mg "int" = none
  f_isinstance : mg "isinstance" = none
  f_len : mg "len" = none
  f_list : mg "list" = none
  f_max : mg "max" = none
  f_range : mg "range" = none
  f_set : mg "set" = none
  f_sorted : mg "sorted" = none
  f_str : mg "str" = none
  f_sum : mg "sum" = none
  f_tuple : mg "tuple" = none
  c_CLOSED : Con K mg "CLOSED" (.tuple [(.str "yes"), (.str "no"), (.str "not"), (.str "and"), (.str "or"), (.str "some"), (.str "all"), (.str "any"), (.str "least"), (.str "great")])
  c_CLOSED_TOO : Con K mg "CLOSED_TOO" (.tuple [(.str "next"), (.str "until"), (.str "unless"), (.str "always"), (.str "ever"), (.str "way"), (.str "place"), (.str "step"), (.str "state")])
  c_FIGURES : Con K mg "FIGURES" (.str "0123456789")
  c_LETTERS : Con K mg "LETTERS" (.str "abcdefghijklmnopqrstuvwxyz")
  c_MOST_MARKS : Con K mg "MOST_MARKS" (.int 20)
  c_MOST_PLACES : Con K mg "MOST_PLACES" (.int 60)
  c_MOST_SIGNS : Con K mg "MOST_SIGNS" (.int 8)
  c_MOST_STEPS : Con K mg "MOST_STEPS" (.int 400)
/-! ### is_whole -/
abbrev N_is_whole : List Str := ["value"]
abbrev ps_is_whole : List Str := ["value"]
abbrev own_is_whole : List OT := [.sh]
def fb_is_whole : Env → Option Fl := (seqS (retS (andF (mapF (varF 0) (isiD "int")) (notF (mapF (varF 0) (isiD "bool")))))
  skipS)
def c_is_whole : FnSem := runB own_is_whole .sh N_is_whole.length fb_is_whole
theorem l_is_whole : FnLen own_is_whole c_is_whole := fnLen_run
/-! ### is_below -/
abbrev N_is_below : List Str := ["value", "most"]
abbrev ps_is_below : List Str := ["value", "most"]
abbrev own_is_below : List OT := [.sh, .sh]
def fb_is_below : Env → Option Fl := (seqS (retS (andF (mapM (consF (varF 0) nilF) (callF c_is_whole)) (chainF (conF (.int 0)) (varF 0) (varF 1) leD ltD)))
  skipS)
def c_is_below : FnSem := runB own_is_below .sh N_is_below.length fb_is_below
theorem l_is_below : FnLen own_is_below c_is_below := fnLen_run
/-! ### is_rising -/
abbrev N_is_rising : List Str := ["values", "at"]
abbrev ps_is_rising : List Str := ["values"]
abbrev own_is_rising : List OT := [.sh]
def fb_is_rising : Env → Option Fl := (seqS (retS (bind2 (compF true (mapM (consF (conF (.int 1)) (consF (mapM (consF (varF 0) nilF) lenD) nilF)) rng2D) (nmG 1) (asB (notF (bind2 (bind2 (varF 0) (bind2 (varF 1) (conF (.int 1)) subD) ixD) (bind2 (varF 0) (varF 1) ixD) ltD))) (varF 1) [1]) (mapM nilF mkL) eqD))
  skipS)
def c_is_rising : FnSem := runB own_is_rising .sh N_is_rising.length fb_is_rising
theorem l_is_rising : FnLen own_is_rising c_is_rising := fnLen_run
/-! ### are_ascending -/
abbrev N_are_ascending : List Str := ["value", "most", "one"]
abbrev ps_are_ascending : List Str := ["value", "most"]
abbrev own_are_ascending : List OT := [.sh, .sh]
def fb_are_ascending : Env → Option Fl := (seqS (retS (andF (mapF (varF 0) (isiD "list")) (andF (bind2 (compF true (seqAF (varF 0)) (nmG 2) (asB (notF (mapM (consF (varF 2) (consF (varF 1) nilF)) (callF c_is_below)))) (varF 2) [2]) (mapM nilF mkL) eqD) (mapM (consF (varF 0) nilF) (callF c_is_rising)))))
  skipS)
def c_are_ascending : FnSem := runB own_are_ascending .sh N_are_ascending.length fb_are_ascending
theorem l_are_ascending : FnLen own_are_ascending c_are_ascending := fnLen_run
/-! ### is_word -/
abbrev N_is_word : List Str := ["value", "sign"]
abbrev ps_is_word : List Str := ["value"]
abbrev own_is_word : List OT := [.sh]
def fb_is_word : Env → Option Fl := (seqS (ifS (orF (notF (mapF (varF 0) (isiD "str"))) (orF (notF (chainF (conF (.int 1)) (mapM (consF (varF 0) nilF) lenD) (conF (.int 8)) leD leD)) (bind2 (bind2 (varF 0) (conF (.int 0)) ixD) (conF (.str "abcdefghijklmnopqrstuvwxyz")) (inD true)))) (seqS (retS (conF (.bool false)))
  skipS) skipS)
  (seqS (retS (andF (bind2 (compF true (seqAF (varF 0)) (nmG 1) (asB (bind2 (varF 1) (bind2 (conF (.str "abcdefghijklmnopqrstuvwxyz")) (conF (.str "0123456789")) addD) (inD true))) (varF 1) [1]) (mapM nilF mkL) eqD) (bind2 (varF 0) (bind2 (conF (.tuple [(.str "yes"), (.str "no"), (.str "not"), (.str "and"), (.str "or"), (.str "some"), (.str "all"), (.str "any"), (.str "least"), (.str "great")])) (conF (.tuple [(.str "next"), (.str "until"), (.str "unless"), (.str "always"), (.str "ever"), (.str "way"), (.str "place"), (.str "step"), (.str "state")])) addD) (inD true))))
  skipS))
def c_is_word : FnSem := runB own_is_word .sh N_is_word.length fb_is_word
theorem l_is_word : FnLen own_is_word c_is_word := fnLen_run
/-! ### are_words -/
abbrev N_are_words : List Str := ["value", "most", "one"]
abbrev ps_are_words : List Str := ["value", "most"]
abbrev own_are_words : List OT := [.sh, .sh]
def fb_are_words : Env → Option Fl := (seqS (ifS (orF (notF (mapF (varF 0) (isiD "list"))) (bind2 (mapM (consF (varF 0) nilF) lenD) (varF 1) gtD)) (seqS (retS (conF (.bool false)))
  skipS) skipS)
  (seqS (retS (andF (bind2 (compF true (seqAF (varF 0)) (nmG 2) (asB (notF (mapM (consF (varF 2) nilF) (callF c_is_word)))) (varF 2) [2]) (mapM nilF mkL) eqD) (mapM (consF (varF 0) nilF) (callF c_is_rising))))
  skipS))
def c_are_words : FnSem := runB own_are_words .sh N_are_words.length fb_are_words
theorem l_are_words : FnLen own_are_words c_are_words := fnLen_run
/-! ### is_step -/
abbrev N_is_step : List Str := ["value", "many"]
abbrev ps_is_step : List Str := ["value", "many"]
abbrev own_is_step : List OT := [.sh, .sh]
def fb_is_step : Env → Option Fl := (seqS (ifS (orF (notF (mapF (varF 0) (isiD "tuple"))) (bind2 (mapM (consF (varF 0) nilF) lenD) (conF (.int 3)) neD)) (seqS (retS (conF (.bool false)))
  skipS) skipS)
  (seqS (retS (andF (mapM (consF (bind2 (varF 0) (conF (.int 0)) ixD) (consF (varF 1) nilF)) (callF c_is_below)) (andF (mapM (consF (bind2 (varF 0) (conF (.int 1)) ixD) nilF) (callF c_is_word)) (mapM (consF (bind2 (varF 0) (conF (.int 2)) ixD) (consF (varF 1) nilF)) (callF c_is_below)))))
  skipS))
def c_is_step : FnSem := runB own_is_step .sh N_is_step.length fb_is_step
theorem l_is_step : FnLen own_is_step c_is_step := fnLen_run
/-! ### is_web_in -/
abbrev N_is_web_in : List Str := ["value", "marks", "steps", "row", "step"]
abbrev ps_is_web_in : List Str := ["value"]
abbrev own_is_web_in : List OT := [.sh]
def fb_is_web_in : Env → Option Fl := (seqS (ifS (orF (notF (mapF (varF 0) (isiD "tuple"))) (bind2 (mapM (consF (varF 0) nilF) lenD) (conF (.int 2)) neD)) (seqS (retS (conF (.bool false)))
  skipS) skipS)
  (seqS (asgG (varF 0) (tupG (consG (nmG 1) (consG (nmG 2) nilG)) 2))
  (seqS (ifS (orF (notF (mapF (varF 1) (isiD "list"))) (orF (notF (chainF (conF (.int 1)) (mapM (consF (varF 1) nilF) lenD) (conF (.int 60)) leD leD)) (notF (mapF (varF 2) (isiD "list"))))) (seqS (retS (conF (.bool false)))
  skipS) skipS)
  (seqS (ifS (orF (bind2 (compF true (seqAF (varF 1)) (nmG 3) (asB (notF (mapM (consF (varF 3) (consF (conF (.int 20)) nilF)) (callF c_are_words)))) (varF 3) [3]) (mapM nilF mkL) neD) (bind2 (mapM (consF (varF 2) nilF) lenD) (conF (.int 400)) gtD)) (seqS (retS (conF (.bool false)))
  skipS) skipS)
  (seqS (retS (andF (bind2 (compF true (seqAF (varF 2)) (nmG 4) (asB (notF (mapM (consF (varF 4) (consF (mapM (consF (varF 1) nilF) lenD) nilF)) (callF c_is_step)))) (varF 4) [4]) (mapM nilF mkL) eqD) (mapM (consF (varF 2) nilF) (callF c_is_rising))))
  skipS)))))
def c_is_web_in : FnSem := runB own_is_web_in .sh N_is_web_in.length fb_is_web_in
theorem l_is_web_in : FnLen own_is_web_in c_is_web_in := fnLen_run
/-! ### check_web -/
abbrev N_check_web : List Str := ["web"]
abbrev ps_check_web : List Str := ["web"]
abbrev own_check_web : List OT := [.sh]
def fb_check_web : Env → Option Fl := (seqS (ifS (notF (mapM (consF (varF 0) nilF) (callF c_is_web_in))) (seqS badS
  skipS) skipS)
  skipS)
def c_check_web : FnSem := runB own_check_web .sh N_check_web.length fb_check_web
theorem l_check_web : FnLen own_check_web c_check_web := fnLen_run
/-! ### check_place -/
abbrev N_check_place : List Str := ["web", "place"]
abbrev ps_check_place : List Str := ["web", "place"]
abbrev own_check_place : List OT := [.sh, .sh]
def fb_check_place : Env → Option Fl := (seqS (ifS (notF (mapM (consF (varF 1) (consF (mapM (consF (bind2 (varF 0) (conF (.int 0)) ixD) nilF) lenD) nilF)) (callF c_is_below))) (seqS badS
  skipS) skipS)
  skipS)
def c_check_place : FnSem := runB own_check_place .sh N_check_place.length fb_check_place
theorem l_check_place : FnLen own_check_place c_check_place := fnLen_run
/-! ### check_lot -/
abbrev N_check_lot : List Str := ["web", "lot"]
abbrev ps_check_lot : List Str := ["web", "lot"]
abbrev own_check_lot : List OT := [.sh, .sh]
def fb_check_lot : Env → Option Fl := (seqS (ifS (notF (mapM (consF (varF 1) (consF (mapM (consF (bind2 (varF 0) (conF (.int 0)) ixD) nilF) lenD) nilF)) (callF c_are_ascending))) (seqS badS
  skipS) skipS)
  skipS)
def c_check_lot : FnSem := runB own_check_lot .sh N_check_lot.length fb_check_lot
theorem l_check_lot : FnLen own_check_lot c_check_lot := fnLen_run
/-! ### check_web_place -/
abbrev N_check_web_place : List Str := ["web", "place"]
abbrev ps_check_web_place : List Str := ["web", "place"]
abbrev own_check_web_place : List OT := [.sh, .sh]
def fb_check_web_place : Env → Option Fl := (seqS (exprS (mapM (consF (varF 0) nilF) (callF c_check_web)))
  (seqS (exprS (mapM (consF (varF 0) (consF (varF 1) nilF)) (callF c_check_place)))
  skipS))
def c_check_web_place : FnSem := runB own_check_web_place .sh N_check_web_place.length fb_check_web_place
theorem l_check_web_place : FnLen own_check_web_place c_check_web_place := fnLen_run
/-! ### check_web_lot -/
abbrev N_check_web_lot : List Str := ["web", "lot"]
abbrev ps_check_web_lot : List Str := ["web", "lot"]
abbrev own_check_web_lot : List OT := [.sh, .sh]
def fb_check_web_lot : Env → Option Fl := (seqS (exprS (mapM (consF (varF 0) nilF) (callF c_check_web)))
  (seqS (exprS (mapM (consF (varF 0) (consF (varF 1) nilF)) (callF c_check_lot)))
  skipS))
def c_check_web_lot : FnSem := runB own_check_web_lot .sh N_check_web_lot.length fb_check_web_lot
theorem l_check_web_lot : FnLen own_check_web_lot c_check_web_lot := fnLen_run
/-! ### nears_in -/
abbrev N_nears_in : List Str := ["web", "told", "row", "near", "by", "far"]
abbrev ps_nears_in : List Str := ["web"]
abbrev own_nears_in : List OT := [.sh]
def fb_nears_in : Env → Option Fl := (seqS (asgS 1 (compF true (seqAF (bind2 (varF 0) (conF (.int 0)) ixD)) (nmG 2) yesF (mapM nilF mkL) [2]))
  (seqS (forS (seqAF (bind2 (varF 0) (conF (.int 1)) ixD)) (tupG (consG (nmG 3) (consG (nmG 4) (consG (nmG 5) nilG))) 3) (seqS (ifS (bind2 (varF 5) (bind2 (varF 1) (varF 3) ixD) (inD true)) (seqS (appNS 1 (varF 3) (varF 5))
  skipS) skipS)
  skipS))
  (seqS (retS (compF true (seqAF (varF 1)) (nmG 2) yesF (mapM (consF (varF 2) nilF) sortedD) [2]))
  skipS)))
def c_nears_in : FnSem := runB own_nears_in (.ls .sh) N_nears_in.length fb_nears_in
theorem l_nears_in : FnLen own_nears_in c_nears_in := fnLen_run
/-! ### reached_in -/
abbrev N_reached_in : List Str := ["nears", "place", "told", "waiting", "far"]
abbrev ps_reached_in : List Str := ["nears", "place"]
abbrev own_reached_in : List OT := [.sh, .sh]
def fb_reached_in : Env → Option Fl := (seqS (par2F 2 3 (mapM (consP (varF 1) (conF (.bool true)) nilP) mkD) (mapM (consF (varF 1) nilF) mkL))
  (seqS (goW (bind2 (varF 3) (mapM nilF mkL) neD) (seqS (forS (seqAF (bind2 (varF 0) (popF 3) ixD)) (nmG 4) (seqS (ifS (bind2 (varF 4) (varF 2) (inAD true)) (seqS (dputS 2 (conF (.bool true)) (varF 4))
  (seqS (appendS 3 (varF 4))
  skipS)) skipS)
  skipS))
  skipS) 1000)
  (seqS (retS (mapM (consF (varF 2) nilF) sortedAD))
  skipS)))
def c_reached_in : FnSem := runB own_reached_in (.ls .sh) N_reached_in.length fb_reached_in
theorem l_reached_in : FnLen own_reached_in c_reached_in := fnLen_run
/-! ### reached -/
abbrev N_reached : List Str := ["web", "place"]
abbrev ps_reached : List Str := ["web", "place"]
abbrev own_reached : List OT := [.sh, .sh]
def fb_reached : Env → Option Fl := (seqS (exprS (mapM (consF (varF 0) (consF (varF 1) nilF)) (callF c_check_web_place)))
  (seqS (retS (mapM (consF (mapM (consF (varF 0) nilF) (callF c_nears_in)) (consF (varF 1) nilF)) (callF c_reached_in)))
  skipS))
def c_reached : FnSem := runB own_reached (.ls .sh) N_reached.length fb_reached
theorem l_reached : FnLen own_reached c_reached := fnLen_run
/-! ### rings_of -/
abbrev N_rings_of : List Str := ["web", "nears", "told", "lots", "place", "lot", "ring", "other"]
abbrev ps_rings_of : List Str := ["web"]
abbrev own_rings_of : List OT := [.sh]
def fb_rings_of : Env → Option Fl := (seqS (exprS (mapM (consF (varF 0) nilF) (callF c_check_web)))
  (seqS (par2F 1 2 (mapM (consF (varF 0) nilF) (callF c_nears_in)) (mapM nilF mkL))
  (seqS (asgS 3 (compF true (mapM (consF (mapM (consF (bind2 (varF 0) (conF (.int 0)) ixD) nilF) lenD) nilF) rng1D) (nmG 4) yesF (mapM (consF (varF 1) (consF (varF 4) nilF)) (callF c_reached_in)) [4]))
  (seqS (forS (enumAF (consF (varF 3) nilF)) (tupG (consG (nmG 4) (consG (nmG 5) nilG)) 2) (seqS (asgS 6 (compF true (seqAF (varF 5)) (nmG 7) (asB (bind2 (varF 4) (bind2 (varF 3) (varF 7) ixD) (inD false))) (varF 7) [7]))
  (seqS (ifS (atomF (bind2 (varF 6) (varF 2) (inD true))) (seqS (appMvS 2 6)
  skipS) skipS)
  (voidS 6 skipS))))
  (seqS (retOF 2)
  skipS)))))
def c_rings_of : FnSem := runB own_rings_of (.ls (.ls .sh)) N_rings_of.length fb_rings_of
theorem l_rings_of : FnLen own_rings_of c_rings_of := fnLen_run
/-! ### is_closed -/
abbrev N_is_closed : List Str := ["web", "lot", "step"]
abbrev ps_is_closed : List Str := ["web", "lot"]
abbrev own_is_closed : List OT := [.sh, .sh]
def fb_is_closed : Env → Option Fl := (seqS (exprS (mapM (consF (varF 0) (consF (varF 1) nilF)) (callF c_check_web_lot)))
  (seqS (retS (bind2 (compF true (seqAF (bind2 (varF 0) (conF (.int 1)) ixD)) (nmG 2) (asB (andF (bind2 (bind2 (varF 2) (conF (.int 0)) ixD) (varF 1) (inD false)) (bind2 (bind2 (varF 2) (conF (.int 2)) ixD) (varF 1) (inD true)))) (varF 2) [2]) (mapM nilF mkL) eqD))
  skipS))
def c_is_closed : FnSem := runB own_is_closed .sh N_is_closed.length fb_is_closed
theorem l_is_closed : FnLen own_is_closed c_is_closed := fnLen_run
/-! ### way_back -/
abbrev N_way_back : List Str := ["ahead", "place", "told"]
abbrev ps_way_back : List Str := ["ahead", "place"]
abbrev own_way_back : List OT := [.sh, .sh]
def fb_way_back : Env → Option Fl := (seqS (asgS 2 (mapM (consF (varF 1) nilF) mkL))
  (seqS (goW (bind2 (bind2 (varF 0) (bind2 (varF 2) (mapF (conF (.int 1)) negD) ixD) dixD) (conF .none) notNoneD) (seqS (appendS 2 (bind2 (varF 0) (bind2 (varF 2) (mapF (conF (.int 1)) negD) ixD) dixD))
  skipS) 1000)
  (seqS (retS (mapF (varF 2) revD))
  skipS)))
def c_way_back : FnSem := runB own_way_back .sh N_way_back.length fb_way_back
theorem l_way_back : FnLen own_way_back c_way_back := fnLen_run
/-! ### way_to -/
abbrev N_way_to : List Str := ["web", "place", "lot", "nears", "ahead", "line", "at", "here", "far"]
abbrev ps_way_to : List Str := ["web", "place", "lot"]
abbrev own_way_to : List OT := [.sh, .sh, .sh]
def fb_way_to : Env → Option Fl := (seqS (exprS (mapM (consF (varF 0) (consF (varF 1) nilF)) (callF c_check_web_place)))
  (seqS (exprS (mapM (consF (varF 0) (consF (varF 2) nilF)) (callF c_check_lot)))
  (seqS (par3F 3 4 5 (mapM (consF (varF 0) nilF) (callF c_nears_in)) (mapM (consP (varF 1) (conF .none) nilP) mkD) (mapM (consF (varF 1) nilF) mkL))
  (seqS (asgS 6 (conF (.int 0)))
  (seqS (goW (bind2 (varF 6) (mapM (consF (varF 5) nilF) lenD) ltD) (seqS (parS 7 6 (consF (bind2 (varF 5) (varF 6) ixD) (consF (bind2 (varF 6) (conF (.int 1)) addD) nilF)))
  (seqS (ifS (bind2 (varF 7) (varF 2) (inD false)) (seqS (retS (mapM (consF (varF 4) (consF (varF 7) nilF)) (callF c_way_back)))
  skipS) skipS)
  (seqS (forS (seqAF (bind2 (varF 3) (varF 7) ixD)) (nmG 8) (seqS (ifS (bind2 (varF 8) (varF 4) (inAD true)) (seqS (dputS 4 (varF 7) (varF 8))
  (seqS (appendS 5 (varF 8))
  skipS)) skipS)
  skipS))
  skipS))) 1000)
  (seqS (retS (conF .none))
  skipS))))))
def c_way_to : FnSem := runB own_way_to .sh N_way_to.length fb_way_to
theorem l_way_to : FnLen own_way_to c_way_to := fnLen_run
/-! ### _law_hash -/
abbrev N__law_hash : List Str := ["seed", "index", "mixed"]
abbrev ps__law_hash : List Str := ["seed", "index"]
abbrev own__law_hash : List OT := [.sh, .sh]
def fb__law_hash : Env → Option Fl := (seqS (asgS 2 (bind2 (mapM (consF (bind2 (bind2 (bind2 (bind2 (varF 0) (conF (.int 1140671)) mulD) (bind2 (bind2 (conF (.int 27644437)) (varF 1) mulD) (varF 1) mulD) addD) (bind2 (conF (.int 131)) (varF 1) mulD) addD) (conF (.int 19)) addD) nilF) intCD) (conF (.int 2147483629)) modD))
  (seqS (asgS 2 (bind2 (mapM (consF (bind2 (bind2 (bind2 (varF 2) (varF 2) mulD) (bind2 (conF (.int 62089)) (varF 1) mulD) addD) (conF (.int 32416187)) addD) nilF) intCD) (conF (.int 2147483587)) modD))
  (seqS (retS (bind2 (mapM (consF (bind2 (varF 2) (conF (.int 48271)) mulD) nilF) intCD) (conF (.int 2147483647)) modD))
  skipS)))
def c__law_hash : FnSem := runB own__law_hash .sh N__law_hash.length fb__law_hash
theorem l__law_hash : FnLen own__law_hash c__law_hash := fnLen_run
/-! ### _law_random -/
abbrev N__law_random : List Str := ["generator", "bound", "drawn", "turn"]
abbrev ps__law_random : List Str := ["generator", "bound"]
abbrev own__law_random : List OT := [(.ls .sh), .sh]
def fb__law_random : Env → Option Fl := (seqS (ifS (bind2 (bind2 (varF 0) (conF (.int 0)) ixD) (conF (.int 0)) gtD) (seqS (asgS 2 (bind2 (mapM (consF (bind2 (varF 0) (conF (.int 0)) ixD) nilF) intCD) (varF 1) modD))
  (seqS (setIxS 0 (bind2 (bind2 (varF 0) (conF (.int 0)) ixD) (varF 1) divD) (conF (.int 0)))
  (seqS (retS (varF 2))
  skipS))) skipS)
  (seqS (asgS 2 (conF (.int 0)))
  (seqS (forS (mapM (consF (bind2 (conF (.int 1)) (bind2 (mapF (varF 1) bitsD) (conF (.int 30)) divD) addD) nilF) rng1D) (nmG 3) (seqS (setIxS 0 (bind2 (bind2 (varF 0) (conF (.int 2)) ixD) (conF (.int 1)) addD) (conF (.int 2)))
  (seqS (asgS 2 (bind2 (bind2 (varF 2) (conF (.int 2147483587)) mulD) (mapM (consF (bind2 (varF 0) (conF (.int 1)) ixD) (consF (bind2 (varF 0) (conF (.int 2)) ixD) nilF)) (callF c__law_hash)) addD))
  skipS)))
  (seqS (retS (bind2 (mapM (consF (varF 2) nilF) intCD) (varF 1) modD))
  skipS))))
def c__law_random : FnSem := runB own__law_random .sh N__law_random.length fb__law_random
theorem l__law_random : FnLen own__law_random c__law_random := fnLen_run
/-! ### _law_cell -/
abbrev N__law_cell : List Str := ["script", "index"]
abbrev ps__law_cell : List Str := ["script", "index"]
abbrev own__law_cell : List OT := [.sh, .sh]
def fb__law_cell : Env → Option Fl := (seqS (ifS (bind2 (varF 1) (mapM (consF (varF 0) nilF) lenD) ltD) (seqS (retS (bind2 (varF 0) (varF 1) ixD))
  skipS) skipS)
  (seqS (retS (bind2 (mapM (consF (sliceF (varF 0) noO (yesO (conF (.int 1)))) nilF) sumID) (conF (.int 1000003)) modD))
  skipS))
def c__law_cell : FnSem := runB own__law_cell .sh N__law_cell.length fb__law_cell
theorem l__law_cell : FnLen own__law_cell c__law_cell := fnLen_run
/-! ### _law_generator -/
abbrev N__law_generator : List Str := ["script", "index", "seed"]
abbrev ps__law_generator : List Str := ["script", "index"]
abbrev own__law_generator : List OT := [.sh, .sh]
def fb__law_generator : Env → Option Fl := (seqS (asgS 2 (mapM (consF (varF 0) (consF (varF 1) nilF)) (callF c__law_cell)))
  (seqS (retS (mapM (consF (bind2 (mapM (consF (mapM (consF (bind2 (varF 2) (bind2 (conF (.int 10)) (conF (.int 18)) powD) subD) (consF (conF (.int 0)) nilF)) max2D) nilF) intCD) (bind2 (bind2 (conF (.int 10)) (conF (.int 60)) powD) (conF (.int 10)) powD) modD) (consF (bind2 (mapM (consF (varF 2) nilF) intCD) (conF (.int 2147483647)) modD) (consF (bind2 (conF (.int 1000)) (varF 1) mulD) nilF))) mkL))
  skipS))
def c__law_generator : FnSem := runB own__law_generator (.ls .sh) N__law_generator.length fb__law_generator
theorem l__law_generator : FnLen own__law_generator c__law_generator := fnLen_run
/-! ### _law_pick -/
abbrev N__law_pick : List Str := ["generator", "things"]
abbrev ps__law_pick : List Str := ["generator", "things"]
abbrev own__law_pick : List OT := [(.ls .sh), .sh]
def fb__law_pick : Env → Option Fl := (seqS (retS (bind2 (varF 1) (lendF 0 (consF (mapM (consF (varF 1) nilF) lenD) nilF) c__law_random) ixD))
  skipS)
def c__law_pick : FnSem := runB own__law_pick .sh N__law_pick.length fb__law_pick
theorem l__law_pick : FnLen own__law_pick c__law_pick := fnLen_run
/-! ### _law_exact -/
abbrev N__law_exact : List Str := ["told", "due", "at", "part"]
abbrev ps__law_exact : List Str := ["told", "due"]
abbrev own__law_exact : List OT := [.sh, .sh]
def fb__law_exact (n : Nat) (c_self : FnSem) : Env → Option Fl := (seqS (ifS (mapF (varF 1) (isi2D "list" "tuple")) (seqS (ifS (orF (bind2 (mapF (varF 0) (isiD "list")) (mapF (varF 1) (isiD "list")) neD) (bind2 (mapF (varF 0) (isiD "tuple")) (mapF (varF 1) (isiD "tuple")) neD)) (seqS (retS (conF (.bool false)))
  skipS) skipS)
  (seqS (retS (andF (bind2 (mapM (consF (varF 0) nilF) lenD) (mapM (consF (varF 1) nilF) lenD) eqD) (mapM (consF (compF true (enumAF (consF (varF 1) nilF)) (tupG (consG (nmG 2) (consG (nmG 3) nilG)) 2) yesF (mapM (consF (bind2 (varF 0) (varF 2) ixD) (consF (varF 3) nilF)) (callF c_self)) [2, 3]) nilF) allD)))
  skipS)) skipS)
  (seqS (ifS (mapF (varF 1) (isiD "str")) (seqS (retS (andF (mapF (varF 0) (isiD "str")) (bind2 (varF 0) (varF 1) eqD)))
  skipS) skipS)
  (seqS (ifS (mapF (varF 1) (isiD "bool")) (seqS (retS (andF (mapF (varF 0) (isiD "bool")) (bind2 (varF 0) (varF 1) eqD)))
  skipS) skipS)
  (seqS (ifS (mapF (varF 1) (isiD "int")) (seqS (retS (andF (mapF (varF 0) (isiD "int")) (andF (notF (mapF (varF 0) (isiD "bool"))) (bind2 (varF 0) (varF 1) eqD))))
  skipS) skipS)
  (seqS (ifS (mapF (varF 1) (isiD "dict")) (seqS (retS (andF (mapF (varF 0) (isiD "dict")) (mapM (consF (mapF (varF 0) itemsLD) (consF (mapF (varF 1) itemsLD) nilF)) (callF c_self))))
  skipS) skipS)
  (seqS (retS (andF (bind2 (varF 0) (conF .none) isNoneD) (bind2 (varF 1) (conF .none) isNoneD)))
  skipS))))))
def c__law_exact : Nat → FnSem
  | 0 => fun _ => none
  | n + 1 => runB own__law_exact .sh N__law_exact.length (fb__law_exact n (c__law_exact n))
theorem l__law_exact : ∀ n, FnLen own__law_exact (c__law_exact n)
  | 0 => fnLen_bad
  | n + 1 => fnLen_run
/-! ### _law_copied -/
abbrev N__law_copied : List Str := ["thing", "part", "key"]
abbrev ps__law_copied : List Str := ["thing"]
abbrev own__law_copied : List OT := [.sh]
def fb__law_copied (n : Nat) (c_self : FnSem) : Env → Option Fl := (seqS (ifS (mapF (varF 0) (isiD "list")) (seqS (retS (compF true (seqAF (varF 0)) (nmG 1) yesF (mapM (consF (varF 1) nilF) (callF c_self)) [1]))
  skipS) skipS)
  (seqS (ifS (mapF (varF 0) (isiD "dict")) (seqS (retS (mapM (consF (compF true (keysF 0) (nmG 2) yesF (mapM (consF (varF 2) (consF (mapM (consF (bind2 (varF 0) (varF 2) dixD) nilF) (callF c_self)) nilF)) mkT) [2]) nilF) dictCD))
  skipS) skipS)
  (seqS (retS (iteF (mapF (varF 0) (isiD "tuple")) (mapM (consF (compF true (seqAF (varF 0)) (nmG 1) yesF (mapM (consF (varF 1) nilF) (callF c_self)) [1]) nilF) tupleD) (varF 0)))
  skipS)))
def c__law_copied : Nat → FnSem
  | 0 => fun _ => none
  | n + 1 => runB own__law_copied .sh N__law_copied.length (fb__law_copied n (c__law_copied n))
theorem l__law_copied : ∀ n, FnLen own__law_copied (c__law_copied n)
  | 0 => fnLen_bad
  | n + 1 => fnLen_run
/-! ### _law_drawn_web -/
abbrev N__law_drawn_web : List Str := ["generator", "most", "marks", "deeds", "many", "rows", "word", "spot", "row", "turn", "at", "one"]
abbrev ps__law_drawn_web : List Str := ["generator", "most", "marks", "deeds"]
abbrev own__law_drawn_web : List OT := [(.ls .sh), .sh, .sh, .sh]
def fb__law_drawn_web : Env → Option Fl := (seqS (asgS 4 (bind2 (conF (.int 1)) (lendF 0 (consF (varF 1) nilF) c__law_random) addD))
  (seqS (asgS 5 (compF false (mapM (consF (varF 4) nilF) rng1D) (nmG 7) yesF (mapM (consF (compF false (seqAF (varF 2)) (nmG 6) (asB (bind2 (lendF 0 (consF (conF (.int 3)) nilF) c__law_random) (conF (.int 0)) eqD)) (varF 6) [6]) nilF) sortedD) [7]))
  (seqS (asgS 8 (mapM nilF mkL))
  (seqS (forS (mapM (consF (lendF 0 (consF (bind2 (bind2 (conF (.int 3)) (varF 4) mulD) (conF (.int 1)) addD) nilF) c__law_random) nilF) rng1D) (nmG 9) (seqS (appendS 8 (mapM (consF (lendF 0 (consF (varF 4) nilF) c__law_random) (consF (lendF 0 (consF (varF 3) nilF) c__law_pick) (consF (lendF 0 (consF (varF 4) nilF) c__law_random) nilF))) mkT))
  skipS))
  (seqS (retS (mapM (consF (varF 5) (consF (mapM (consF (compF true (enumAF (consF (varF 8) nilF)) (tupG (consG (nmG 10) (consG (nmG 11) nilG)) 2) (asB (bind2 (varF 11) (sliceF (varF 8) noO (yesO (varF 10))) (inD true))) (varF 11) [10, 11]) nilF) sortedD) nilF)) mkT))
  skipS)))))
def c__law_drawn_web : FnSem := runB own__law_drawn_web .sh N__law_drawn_web.length fb__law_drawn_web
theorem l__law_drawn_web : FnLen own__law_drawn_web c__law_drawn_web := fnLen_run
/-! ### _law_far -/
abbrev N__law_far : List Str := ["web", "near", "deed", "row"]
abbrev ps__law_far : List Str := ["web", "near", "deed"]
abbrev own__law_far : List OT := [.sh, .sh, .sh]
def fb__law_far : Env → Option Fl := (seqS (retS (compF true (seqAF (bind2 (varF 0) (conF (.int 1)) ixD)) (nmG 3) (asB (andF (bind2 (bind2 (varF 3) (conF (.int 0)) ixD) (varF 1) eqD) (bind2 (varF 2) (mapM (consF (conF (.str "")) (consF (bind2 (varF 3) (conF (.int 1)) ixD) nilF)) mkT) (inD false)))) (bind2 (varF 3) (conF (.int 2)) ixD) [3]))
  skipS)
def c__law_far : FnSem := runB own__law_far (.ls .sh) N__law_far.length fb__law_far
theorem l__law_far : FnLen own__law_far c__law_far := fnLen_run
/-! ### _law_long_web -/
abbrev N__law_long_web : List Str := ["generator", "web", "many", "row", "spot", "kept", "one"]
abbrev ps__law_long_web : List Str := ["generator"]
abbrev own__law_long_web : List OT := [(.ls .sh)]
def fb__law_long_web : Env → Option Fl := (seqS (asgS 1 (lendF 0 (consF (conF (.int 9)) (consF (mapM (consF (conF (.str "p")) nilF) mkL) (consF (mapM (consF (conF (.str "go")) (consF (conF (.str "a")) nilF)) mkL) nilF))) c__law_drawn_web))
  (seqS (asgS 2 (mapM (consF (bind2 (varF 1) (conF (.int 0)) ixD) nilF) lenD))
  (seqS (asgS 3 (compF false (mapM (consF (bind2 (varF 2) (conF (.int 1)) subD) nilF) rng1D) (nmG 4) (asB (bind2 (lendF 0 (consF (conF (.int 4)) nilF) c__law_random) (conF (.int 0)) gtD)) (mapM (consF (varF 4) (consF (conF (.str "go")) (consF (bind2 (varF 4) (conF (.int 1)) addD) nilF))) mkT) [4]))
  (seqS (ifS (bind2 (lendF 0 (consF (conF (.int 2)) nilF) c__law_random) (conF (.int 0)) eqD) (seqS (appendS 3 (mapM (consF (bind2 (varF 2) (conF (.int 1)) subD) (consF (conF (.str "a")) (consF (lendF 0 (consF (varF 2) nilF) c__law_random) nilF))) mkT))
  skipS) skipS)
  (seqS (asgS 5 (compF false (seqAF (bind2 (varF 1) (conF (.int 1)) ixD)) (nmG 6) (asB (bind2 (lendF 0 (consF (conF (.int 3)) nilF) c__law_random) (conF (.int 0)) eqD)) (varF 6) [6]))
  (seqS (retS (mapM (consF (bind2 (varF 1) (conF (.int 0)) ixD) (consF (mapM (consF (bind2 (compF true (seqAF (varF 5)) (nmG 6) (asB (bind2 (varF 6) (varF 3) (inD true))) (varF 6) [6]) (varF 3) addD) nilF) sortedD) nilF)) mkT))
  skipS))))))
def c__law_long_web : FnSem := runB own__law_long_web .sh N__law_long_web.length fb__law_long_web
theorem l__law_long_web : FnLen own__law_long_web c__law_long_web := fnLen_run
/-! ### _law_behind -/
abbrev N__law_behind : List Str := ["web", "spot", "lots", "turn", "near"]
abbrev ps__law_behind : List Str := ["web", "spot"]
abbrev own__law_behind : List OT := [.sh, .sh]
def fb__law_behind : Env → Option Fl := (seqS (asgS 2 (mapM (consF (mapM (consF (varF 1) nilF) mkL) nilF) mkL))
  (seqS (forS (mapM (consF (mapM (consF (bind2 (varF 0) (conF (.int 0)) ixD) nilF) lenD) nilF) rng1D) (nmG 3) (seqS (appendS 2 (mapM (consF (bind2 (bind2 (varF 2) (mapF (conF (.int 1)) negD) ixD) (mapM (consF (compF true (seqAF (bind2 (varF 2) (mapF (conF (.int 1)) negD) ixD)) (nmG 4) yesF (mapM (consF (varF 0) (consF (varF 4) (consF (conF (.str "")) nilF))) (callF c__law_far)) [4]) (consF (mapM nilF mkL) nilF)) sumLD) addD) nilF) sortSetD))
  skipS))
  (seqS (retS (varF 2))
  skipS)))
def c__law_behind : FnSem := runB own__law_behind .sh N__law_behind.length fb__law_behind
theorem l__law_behind : FnLen own__law_behind c__law_behind := fnLen_run
/-! ### _law_is_way -/
abbrev N__law_is_way : List Str := ["web", "value", "spot", "lot", "one", "at"]
abbrev ps__law_is_way : List Str := ["web", "value", "spot", "lot"]
abbrev own__law_is_way : List OT := [.sh, .sh, .sh, .sh]
def fb__law_is_way : Env → Option Fl := (seqS (ifS (orF (notF (mapF (varF 1) (isiD "list"))) (orF (bind2 (varF 1) (mapM nilF mkL) eqD) (orF (bind2 (bind2 (varF 1) (conF (.int 0)) ixD) (varF 2) neD) (orF (bind2 (bind2 (varF 1) (mapF (conF (.int 1)) negD) ixD) (varF 3) (inD true)) (notF (mapM (consF (varF 1) (consF (compF true (seqAF (varF 1)) (nmG 4) yesF (mapM (consF (varF 4) nilF) intCD) [4]) nilF)) (callF (c__law_exact 12)))))))) (seqS (retS (conF (.bool false)))
  skipS) skipS)
  (seqS (retS (bind2 (compF true (mapM (consF (conF (.int 1)) (consF (mapM (consF (varF 1) nilF) lenD) nilF)) rng2D) (nmG 5) (asB (bind2 (bind2 (varF 1) (varF 5) ixD) (mapM (consF (varF 0) (consF (bind2 (varF 1) (bind2 (varF 5) (conF (.int 1)) subD) ixD) (consF (conF (.str "")) nilF))) (callF c__law_far)) (inD true))) (varF 5) [5]) (mapM nilF mkL) eqD))
  skipS))
def c__law_is_way : FnSem := runB own__law_is_way .sh N__law_is_way.length fb__law_is_way
theorem l__law_is_way : FnLen own__law_is_way c__law_is_way := fnLen_run
/-! ### _law_web_right -/
abbrev N__law_web_right : List Str := ["generator", "web", "noted", "every", "lots", "spot", "rings", "ring", "far", "told", "behind", "aim", "away", "closed", "step", "at", "lot", "one"]
abbrev ps__law_web_right : List Str := ["generator", "web"]
abbrev own__law_web_right : List OT := [(.ls .sh), .sh]
def fb__law_web_right : Env → Option Fl := (seqS (parS 2 3 (consF (mapM (consF (varF 1) nilF) (callF (c__law_copied 12))) (consF (mapF (mapM (consF (bind2 (varF 1) (conF (.int 0)) ixD) nilF) lenD) fun d => listRgD [d]) nilF)))
  (seqS (asgS 4 (compF true (seqAF (varF 3)) (nmG 5) yesF (mapM (consF (varF 1) (consF (varF 5) nilF)) (callF c__law_behind)) [5]))
  (seqS (asgS 6 (mapM nilF mkL))
  (seqS (forS (seqAF (varF 3)) (nmG 5) (seqS (asgS 7 (compF true (seqAF (varF 3)) (nmG 8) (asB (andF (bind2 (varF 8) (bind2 (bind2 (varF 4) (varF 5) ixD) (mapF (conF (.int 1)) negD) ixD) (inD false)) (bind2 (varF 5) (bind2 (bind2 (varF 4) (varF 8) ixD) (mapF (conF (.int 1)) negD) ixD) (inD false)))) (varF 8) [8]))
  (seqS (asgS 6 (bind2 (varF 6) (bind2 (mapM (consF (varF 7) nilF) mkL) (mapM (consF (bind2 (varF 7) (varF 6) (inD true)) nilF) intCD) mulD) addD))
  skipS)))
  (seqS (asgS 9 (mapM (consF (varF 1) nilF) (callF c_rings_of)))
  (seqS (ifS (orF (notF (mapM (consF (mapM (consF (varF 9) (consF (mapM (consF (varF 1) nilF) (kwF 1 [0] c_rings_of)) nilF)) mkL) (consF (mapM (consF (varF 6) (consF (varF 6) nilF)) mkL) nilF)) fun ds => (callF (c__law_exact 12) ds).bind atomD)) (bind2 (mapM (consF (sumOF 9 (mapM nilF mkL)) nilF) sortedD) (varF 3) neD)) (seqS (retS (conF (.bool false)))
  skipS) skipS)
  (seqS (appNS 9 (conF (.int 0)) (conF (.int 0)))
  (seqS (appendS 9 (conF (.int 0)))
  (seqS (ifS (notF (mapM (consF (mapM (consF (mapM (consF (varF 1) nilF) (callF c_rings_of)) (consF (varF 1) nilF)) mkL) (consF (mapM (consF (varF 6) (consF (varF 2) nilF)) mkL) nilF)) (callF (c__law_exact 12)))) (seqS (retS (conF (.bool false)))
  skipS) skipS)
  (seqS (forS (seqAF (varF 3)) (nmG 5) (seqS (asgS 10 (bind2 (bind2 (varF 4) (varF 5) ixD) (mapF (conF (.int 1)) negD) ixD))
  (seqS (ifS (notF (mapM (consF (mapM (consF (mapM (consF (varF 1) (consF (varF 5) nilF)) (callF c_reached)) (consF (mapM (consF (varF 5) (consF (varF 1) nilF)) (kwF 2 [1, 0] c_reached)) (consF (mapM (consF (varF 1) (consF (varF 10) nilF)) (callF c_is_closed)) (consF (mapM (consF (varF 10) (consF (varF 1) nilF)) (kwF 2 [1, 0] c_is_closed)) nilF)))) mkL) (consF (mapM (consF (varF 10) (consF (varF 10) (consF (conF (.bool true)) (consF (conF (.bool true)) nilF)))) mkL) nilF)) (callF (c__law_exact 12)))) (seqS (retS (conF (.bool false)))
  skipS) skipS)
  (seqS (asgS 11 (compF false (seqAF (varF 3)) (nmG 8) (asB (bind2 (lendF 0 (consF (conF (.int 4)) nilF) c__law_random) (conF (.int 0)) eqD)) (varF 8) [8]))
  (seqS (parS 12 13 (consF (mapM (consF (varF 1) (consF (varF 5) (consF (varF 11) nilF))) (callF c_way_to)) (consF (bind2 (compF true (seqAF (bind2 (varF 1) (conF (.int 1)) ixD)) (nmG 14) (asB (andF (bind2 (bind2 (varF 14) (conF (.int 0)) ixD) (varF 11) (inD false)) (bind2 (bind2 (varF 14) (conF (.int 2)) ixD) (varF 11) (inD true)))) (varF 14) [14]) (mapM nilF mkL) eqD) nilF)))
  (seqS (asgS 8 (compF true (enumAF (consF (bind2 (varF 4) (varF 5) ixD) nilF)) (tupG (consG (nmG 15) (consG (nmG 16) nilG)) 2) (asB (bind2 (compF true (seqAF (varF 16)) (nmG 17) (asB (bind2 (varF 17) (varF 11) (inD false))) (varF 17) [17]) (mapM nilF mkL) neD)) (varF 15) [15, 16]))
  (seqS (ifS (orF (notF (mapM (consF (mapM (consF (varF 1) (consF (varF 11) nilF)) (callF c_is_closed)) (consF (varF 13) nilF)) (callF (c__law_exact 12)))) (bind2 (bind2 (varF 12) (conF .none) isNoneD) (bind2 (varF 8) (mapM nilF mkL) eqD) neD)) (seqS (retS (conF (.bool false)))
  skipS) skipS)
  (seqS (ifS (andF (bind2 (varF 12) (conF .none) notNoneD) (orF (notF (mapM (consF (varF 1) (consF (varF 12) (consF (varF 5) (consF (varF 11) nilF)))) (callF c__law_is_way))) (orF (bind2 (mapM (consF (varF 12) nilF) lenD) (bind2 (bind2 (varF 8) (conF (.int 0)) ixD) (conF (.int 1)) addD) neD) (notF (mapM (consF (varF 1) (consF (mapM (consF (varF 11) (consF (varF 5) (consF (varF 1) nilF))) (kwF 3 [2, 1, 0] c_way_to)) (consF (varF 5) (consF (varF 11) nilF)))) (callF c__law_is_way)))))) (seqS (retS (conF (.bool false)))
  skipS) skipS)
  skipS))))))))
  (seqS (retS (mapM (consF (varF 1) (consF (varF 2) nilF)) (callF (c__law_exact 12))))
  skipS)))))))))))
def c__law_web_right : FnSem := runB own__law_web_right .sh N__law_web_right.length fb__law_web_right
theorem l__law_web_right : FnLen own__law_web_right c__law_web_right := fnLen_run
/-! ### law -/
abbrev N_law : List Str := ["script", "generator", "turn", "web", "told"]
abbrev ps_law : List Str := ["script"]
abbrev own_law : List OT := [.sh]
def fb_law : Env → Option Fl := (seqS (asgS 1 (mapM (consF (varF 0) (consF (conF (.int 0)) nilF)) (callF c__law_generator)))
  (seqS (forS (mapM (consF (conF (.int 5)) nilF) rng1D) (nmG 2) (seqS (forS (seqAF (mapM (consF (lendF 1 (consF (conF (.int 9)) (consF (mapM (consF (conF (.str "p")) nilF) mkL) (consF (mapM (consF (conF (.str "go")) (consF (conF (.str "a")) nilF)) mkL) nilF))) c__law_drawn_web) (consF (lendF 1 nilF c__law_long_web) nilF)) mkL)) (nmG 3) (seqS (ifS (notF (lendF 1 (consF (varF 3) nilF) c__law_web_right)) (seqS (retS (conF (.bool false)))
  skipS) skipS)
  skipS))
  skipS))
  (seqS (asgS 3 (mapM (consF (mapM (consF (mapM (consF (conF (.str "p")) nilF) mkL) (consF (mapM nilF mkL) (consF (mapM (consF (conF (.str "q")) nilF) mkL) (consF (mapM nilF mkL) nilF)))) mkL) (consF (mapM (consF (mapM (consF (conF (.int 0)) (consF (conF (.str "go")) (consF (conF (.int 1)) nilF))) mkT) (consF (mapM (consF (conF (.int 0)) (consF (conF (.str "stay")) (consF (conF (.int 0)) nilF))) mkT) (consF (mapM (consF (conF (.int 1)) (consF (conF (.str "go")) (consF (conF (.int 2)) nilF))) mkT) (consF (mapM (consF (conF (.int 2)) (consF (conF (.str "go")) (consF (conF (.int 1)) nilF))) mkT) (consF (mapM (consF (conF (.int 2)) (consF (conF (.str "halt")) (consF (conF (.int 3)) nilF))) mkT) nilF))))) mkL) nilF)) mkT))
  (seqS (asgS 4 (mapM (consF (mapM (consF (varF 3) (consF (conF (.int 1)) nilF)) (callF c_reached)) (consF (mapM (consF (varF 3) nilF) (callF c_rings_of)) (consF (mapM (consF (varF 3) (consF (mapM (consF (conF (.int 1)) (consF (conF (.int 2)) nilF)) mkL) nilF)) (callF c_is_closed)) (consF (mapM (consF (varF 3) (consF (mapM nilF mkL) nilF)) (callF c_is_closed)) (consF (mapM (consF (varF 3) (consF (conF (.int 0)) (consF (mapM (consF (conF (.int 3)) nilF) mkL) nilF))) (callF c_way_to)) (consF (mapM (consF (varF 3) (consF (conF (.int 3)) (consF (mapM (consF (conF (.int 0)) nilF) mkL) nilF))) (callF c_way_to)) (consF (mapM (consF (varF 3) (consF (conF (.int 2)) (consF (mapM (consF (conF (.int 2)) (consF (conF (.int 3)) nilF)) mkL) nilF))) (callF c_way_to)) nilF))))))) mkL))
  (seqS (retS (mapM (consF (varF 4) (consF (mapM (consF (mapM (consF (conF (.int 1)) (consF (conF (.int 2)) (consF (conF (.int 3)) nilF))) mkL) (consF (mapM (consF (mapM (consF (conF (.int 0)) nilF) mkL) (consF (mapM (consF (conF (.int 1)) (consF (conF (.int 2)) nilF)) mkL) (consF (mapM (consF (conF (.int 3)) nilF) mkL) nilF))) mkL) (consF (conF (.bool false)) (consF (conF (.bool true)) (consF (mapM (consF (conF (.int 0)) (consF (conF (.int 1)) (consF (conF (.int 2)) (consF (conF (.int 3)) nilF)))) mkL) (consF (conF .none) (consF (mapM (consF (conF (.int 2)) nilF) mkL) nilF))))))) mkL) nilF)) (callF (c__law_exact 12))))
  skipS)))))
def c_law : FnSem := runB own_law .sh N_law.length fb_law
theorem l_law : FnLen own_law c_law := fnLen_run
section
variable {P : Program} {w : World} {K : PySem.W.Frag} {mg : Str → Option Value} {base : Heap}
theorem sc_is_whole : FnScope N_is_whole ps_is_whole (defScope s_is_whole) := ⟨rfl, rfl, rfl, by decide +kernel, rfl, by decide +kernel, by decide +kernel⟩
theorem bp_is_whole : BindP "is_whole" (defArgs s_is_whole) (defBody s_is_whole) (defScope s_is_whole) ps_is_whole := (fun _ _ _ _ _ _ us hl => match us, hl with | [_], _ => rfl)
theorem h_is_whole (B : Bk K mg) : HasFull P w K mg base 1 "is_whole" (defArgs s_is_whole) (defBody s_is_whole) (defScope s_is_whole) ps_is_whole own_is_whole .sh c_is_whole := has_full (N := N_is_whole) (own := own_is_whole) (τ' := own_is_whole ++ List.replicate 0 .sh) (k := 0) (fb := fb_is_whole) B.d_is_whole sc_is_whole rfl (by decide) (by decide) bp_is_whole fun X hX => (evSs_cons (xS_ret (ev_and (x_isi (T := "int") hX (by decide +kernel) B.f_isinstance (by decide +kernel) B.f_int (by rfl) (by decide) (by decide +kernel) (x_var (i := 0) hX (by rfl) (by decide +kernel) (by rfl) (by decide +kernel)) (by rfl)) (ev_one (ev_not (x_isi (T := "bool") hX (by decide +kernel) B.f_isinstance (by decide +kernel) B.f_bool (by rfl) (by decide) (by decide +kernel) (x_var (i := 0) hX (by rfl) (by decide +kernel) (by rfl) (by decide +kernel)) (by rfl))))) (by decide))
  evSs_nil)
theorem sc_is_below : FnScope N_is_below ps_is_below (defScope s_is_below) := ⟨rfl, rfl, rfl, by decide +kernel, rfl, by decide +kernel, by decide +kernel⟩
theorem bp_is_below : BindP "is_below" (defArgs s_is_below) (defBody s_is_below) (defScope s_is_below) ps_is_below := (fun _ _ _ _ _ _ us hl => match us, hl with | [_, _], _ => rfl)
theorem h_is_below (B : Bk K mg) : HasFull P w K mg base 2 "is_below" (defArgs s_is_below) (defBody s_is_below) (defScope s_is_below) ps_is_below own_is_below .sh c_is_below := has_full (N := N_is_below) (own := own_is_below) (τ' := own_is_below ++ List.replicate 0 .sh) (k := 1) (fb := fb_is_below) B.d_is_below sc_is_below rfl (by decide) (by decide) bp_is_below fun X hX => (evSs_cons (xS_ret (ev_and (x_call hX ((h_is_whole B).fn) l_is_whole (by omega) rfl (by decide +kernel) (evL_cons (x_var (i := 0) hX (by rfl) (by decide +kernel) (by rfl) (by decide +kernel)) evL_nil (by rfl)) (by decide +kernel) (by rfl) (by rfl)) (ev_one (ev_chain (b_le hX.r64) (b_lt hX.r64) ev_int (x_var (i := 0) hX (by rfl) (by decide +kernel) (by rfl) (by decide +kernel)) (x_var (i := 1) hX (by rfl) (by decide +kernel) (by rfl) (by decide +kernel)) (by rfl) (by rfl)))) (by decide))
  evSs_nil)
theorem sc_is_rising : FnScope N_is_rising ps_is_rising (defScope s_is_rising) := ⟨rfl, rfl, rfl, by decide +kernel, rfl, by decide +kernel, by decide +kernel⟩
theorem bp_is_rising : BindP "is_rising" (defArgs s_is_rising) (defBody s_is_rising) (defScope s_is_rising) ps_is_rising := (fun _ _ _ _ _ _ us hl => match us, hl with | [_], _ => rfl)
theorem h_is_rising (B : Bk K mg) : HasFull P w K mg base 1 "is_rising" (defArgs s_is_rising) (defBody s_is_rising) (defScope s_is_rising) ps_is_rising own_is_rising .sh c_is_rising := has_full (N := N_is_rising) (own := own_is_rising) (τ' := own_is_rising ++ List.replicate 1 .sh) (k := 0) (fb := fb_is_rising) B.d_is_rising sc_is_rising rfl (by decide) (by decide) bp_is_rising fun X hX => (evSs_cons (xS_ret (ev_cmp (b_eq hX.r64) (x_lc (pc := true) (pe := true) (own := [("at", 1)]) hX (xI_rng2 hX (by decide +kernel) B.f_range (evQ_cons ev_int (evQ_cons (x_callB hX c_len (by decide +kernel) B.f_len (by rfl) (evQ_cons (x_var (i := 0) hX (by rfl) (by decide +kernel) (by rfl) (by decide +kernel)) evQ_nil (by rfl) (by rfl)) (by decide) (by decide +kernel) (by rfl) (by rfl)) evQ_nil (by rfl) (by rfl)) (by rfl) (by rfl)) (by rfl) (by rfl)) (by decide +kernel) (by decide) (by decide) (by decide) (fun Y hY1 => (xG_name (i := 1) hY1 (by rfl) (by decide +kernel) (by decide +kernel) (by rfl))) (fun Y hY1 => (evTs_one (evT_not (evT_cmp (b_lt hY1.r64) (ev_ix ix_data (x_var (i := 0) hY1 (by rfl) (by decide +kernel) (by rfl) (by decide +kernel)) (ev_bin b_sub (x_var (i := 1) hY1 (by rfl) (by decide +kernel) (by rfl) (by decide +kernel)) ev_int (by rfl)) (by rfl) (fun _ _ => rfl)) (ev_ix ix_data (x_var (i := 0) hY1 (by rfl) (by decide +kernel) (by rfl) (by decide +kernel)) (x_var (i := 1) hY1 (by rfl) (by decide +kernel) (by rfl) (by decide +kernel)) (by rfl) (fun _ _ => rfl)) (by rfl) (by rfl))))) (fun Y hY1 => (x_var (i := 1) hY1 (by rfl) (by decide +kernel) (by rfl) (by decide +kernel))) (by intro _; rfl)) (ev_lst (t := .sh) evL_nil) (by rfl) (by rfl)) (by decide))
  evSs_nil)
theorem sc_are_ascending : FnScope N_are_ascending ps_are_ascending (defScope s_are_ascending) := ⟨rfl, rfl, rfl, by decide +kernel, rfl, by decide +kernel, by decide +kernel⟩
theorem bp_are_ascending : BindP "are_ascending" (defArgs s_are_ascending) (defBody s_are_ascending) (defScope s_are_ascending) ps_are_ascending := (fun _ _ _ _ _ _ us hl => match us, hl with | [_, _], _ => rfl)
theorem h_are_ascending (B : Bk K mg) : HasFull P w K mg base 3 "are_ascending" (defArgs s_are_ascending) (defBody s_are_ascending) (defScope s_are_ascending) ps_are_ascending own_are_ascending .sh c_are_ascending := has_full (N := N_are_ascending) (own := own_are_ascending) (τ' := own_are_ascending ++ List.replicate 1 .sh) (k := 2) (fb := fb_are_ascending) B.d_are_ascending sc_are_ascending rfl (by decide) (by decide) bp_are_ascending fun X hX => (evSs_cons (xS_ret (ev_and (x_isi (T := "list") hX (by decide +kernel) B.f_isinstance (by decide +kernel) B.f_list (by rfl) (by decide) (by decide +kernel) (x_var (i := 0) hX (by rfl) (by decide +kernel) (by rfl) (by decide +kernel)) (by rfl)) (ev_and (ev_cmp (b_eq hX.r64) (x_lc (pc := true) (pe := true) (own := [("one", 2)]) hX (xI_any (x_var (i := 0) hX (by rfl) (by decide +kernel) (by rfl) (by decide +kernel))) (by decide +kernel) (by decide) (by decide) (by decide) (fun Y hY1 => (xG_name (i := 2) hY1 (by rfl) (by decide +kernel) (by decide +kernel) (by rfl))) (fun Y hY1 => (evTs_one (evT_not (evT_val (x_call hY1 ((h_is_below B).fn) l_is_below (by omega) rfl (by decide +kernel) (evL_cons (x_var (i := 2) hY1 (by rfl) (by decide +kernel) (by rfl) (by decide +kernel)) (evL_cons (x_var (i := 1) hY1 (by rfl) (by decide +kernel) (by rfl) (by decide +kernel)) evL_nil (by rfl)) (by rfl)) (by decide +kernel) (by rfl) (by rfl)) (by intro _; rfl))))) (fun Y hY1 => (x_var (i := 2) hY1 (by rfl) (by decide +kernel) (by rfl) (by decide +kernel))) (by intro _; rfl)) (ev_lst (t := .sh) evL_nil) (by rfl) (by rfl)) (ev_one (x_call hX ((h_is_rising B).fn) l_is_rising (by omega) rfl (by decide +kernel) (evL_cons (x_var (i := 0) hX (by rfl) (by decide +kernel) (by rfl) (by decide +kernel)) evL_nil (by rfl)) (by decide +kernel) (by rfl) (by rfl))))) (by decide))
  evSs_nil)
theorem sc_is_word : FnScope N_is_word ps_is_word (defScope s_is_word) := ⟨rfl, rfl, rfl, by decide +kernel, rfl, by decide +kernel, by decide +kernel⟩
theorem bp_is_word : BindP "is_word" (defArgs s_is_word) (defBody s_is_word) (defScope s_is_word) ps_is_word := (fun _ _ _ _ _ _ us hl => match us, hl with | [_], _ => rfl)
theorem h_is_word (B : Bk K mg) : HasFull P w K mg base 1 "is_word" (defArgs s_is_word) (defBody s_is_word) (defScope s_is_word) ps_is_word own_is_word .sh c_is_word := has_full (N := N_is_word) (own := own_is_word) (τ' := own_is_word ++ List.replicate 1 .sh) (k := 0) (fb := fb_is_word) B.d_is_word sc_is_word rfl (by decide) (by decide) bp_is_word fun X hX => (evSs_cons (evS_if (PW.pt (evT_or (evT_not (evT_val (x_isi (T := "str") hX (by decide +kernel) B.f_isinstance (by decide +kernel) B.f_str (by rfl) (by decide) (by decide +kernel) (x_var (i := 0) hX (by rfl) (by decide +kernel) (by rfl) (by decide +kernel)) (by rfl)) (by intro _; rfl))) (evT_or (evT_not (evT_chain (b_le hX.r64) (b_le hX.r64) ev_int (x_callB hX c_len (by decide +kernel) B.f_len (by rfl) (evQ_cons (x_var (i := 0) hX (by rfl) (by decide +kernel) (by rfl) (by decide +kernel)) evQ_nil (by rfl) (by rfl)) (by decide) (by decide +kernel) (by rfl) (by rfl)) (x_con hX (by decide +kernel) B.c_MOST_SIGNS (by decide +kernel)) (by rfl) (by rfl))) (evT_or1 (evT_cmp (b_notIn hX.r65) (ev_ix ix_data (x_var (i := 0) hX (by rfl) (by decide +kernel) (by rfl) (by decide +kernel)) ev_int (by rfl) (fun _ _ => rfl)) (x_con hX (by decide +kernel) B.c_LETTERS (by decide +kernel)) (by rfl) (by rfl)))))) (evSs_cons (xS_ret ev_bool (by decide))
  evSs_nil) evSs_nil)
  (evSs_cons (xS_ret (ev_and (ev_cmp (b_eq hX.r64) (x_lc (pc := true) (pe := true) (own := [("sign", 1)]) hX (xI_any (x_var (i := 0) hX (by rfl) (by decide +kernel) (by rfl) (by decide +kernel))) (by decide +kernel) (by decide) (by decide) (by decide) (fun Y hY1 => (xG_name (i := 1) hY1 (by rfl) (by decide +kernel) (by decide +kernel) (by rfl))) (fun Y hY1 => (evTs_one (evT_cmp (b_notIn hY1.r65) (x_var (i := 1) hY1 (by rfl) (by decide +kernel) (by rfl) (by decide +kernel)) (ev_bin b_add (x_con hY1 (by decide +kernel) B.c_LETTERS (by decide +kernel)) (x_con hY1 (by decide +kernel) B.c_FIGURES (by decide +kernel)) (by rfl)) (by rfl) (by rfl)))) (fun Y hY1 => (x_var (i := 1) hY1 (by rfl) (by decide +kernel) (by rfl) (by decide +kernel))) (by intro _; rfl)) (ev_lst (t := .sh) evL_nil) (by rfl) (by rfl)) (ev_one (ev_cmp (b_notIn hX.r65) (x_var (i := 0) hX (by rfl) (by decide +kernel) (by rfl) (by decide +kernel)) (ev_bin b_add (x_con hX (by decide +kernel) B.c_CLOSED (by decide +kernel)) (x_con hX (by decide +kernel) B.c_CLOSED_TOO (by decide +kernel)) (by rfl)) (by rfl) (by rfl)))) (by decide))
  evSs_nil))
theorem sc_are_words : FnScope N_are_words ps_are_words (defScope s_are_words) := ⟨rfl, rfl, rfl, by decide +kernel, rfl, by decide +kernel, by decide +kernel⟩
theorem bp_are_words : BindP "are_words" (defArgs s_are_words) (defBody s_are_words) (defScope s_are_words) ps_are_words := (fun _ _ _ _ _ _ us hl => match us, hl with | [_, _], _ => rfl)
theorem h_are_words (B : Bk K mg) : HasFull P w K mg base 2 "are_words" (defArgs s_are_words) (defBody s_are_words) (defScope s_are_words) ps_are_words own_are_words .sh c_are_words := has_full (N := N_are_words) (own := own_are_words) (τ' := own_are_words ++ List.replicate 1 .sh) (k := 1) (fb := fb_are_words) B.d_are_words sc_are_words rfl (by decide) (by decide) bp_are_words fun X hX => (evSs_cons (evS_if (PW.pt (evT_or (evT_not (evT_val (x_isi (T := "list") hX (by decide +kernel) B.f_isinstance (by decide +kernel) B.f_list (by rfl) (by decide) (by decide +kernel) (x_var (i := 0) hX (by rfl) (by decide +kernel) (by rfl) (by decide +kernel)) (by rfl)) (by intro _; rfl))) (evT_or1 (evT_cmp (b_gt hX.r64) (x_callB hX c_len (by decide +kernel) B.f_len (by rfl) (evQ_cons (x_var (i := 0) hX (by rfl) (by decide +kernel) (by rfl) (by decide +kernel)) evQ_nil (by rfl) (by rfl)) (by decide) (by decide +kernel) (by rfl) (by rfl)) (x_var (i := 1) hX (by rfl) (by decide +kernel) (by rfl) (by decide +kernel)) (by rfl) (by rfl))))) (evSs_cons (xS_ret ev_bool (by decide))
  evSs_nil) evSs_nil)
  (evSs_cons (xS_ret (ev_and (ev_cmp (b_eq hX.r64) (x_lc (pc := true) (pe := true) (own := [("one", 2)]) hX (xI_any (x_var (i := 0) hX (by rfl) (by decide +kernel) (by rfl) (by decide +kernel))) (by decide +kernel) (by decide) (by decide) (by decide) (fun Y hY1 => (xG_name (i := 2) hY1 (by rfl) (by decide +kernel) (by decide +kernel) (by rfl))) (fun Y hY1 => (evTs_one (evT_not (evT_val (x_call hY1 ((h_is_word B).fn) l_is_word (by omega) rfl (by decide +kernel) (evL_cons (x_var (i := 2) hY1 (by rfl) (by decide +kernel) (by rfl) (by decide +kernel)) evL_nil (by rfl)) (by decide +kernel) (by rfl) (by rfl)) (by intro _; rfl))))) (fun Y hY1 => (x_var (i := 2) hY1 (by rfl) (by decide +kernel) (by rfl) (by decide +kernel))) (by intro _; rfl)) (ev_lst (t := .sh) evL_nil) (by rfl) (by rfl)) (ev_one (x_call hX ((h_is_rising B).fn) l_is_rising (by omega) rfl (by decide +kernel) (evL_cons (x_var (i := 0) hX (by rfl) (by decide +kernel) (by rfl) (by decide +kernel)) evL_nil (by rfl)) (by decide +kernel) (by rfl) (by rfl)))) (by decide))
  evSs_nil))
theorem sc_is_step : FnScope N_is_step ps_is_step (defScope s_is_step) := ⟨rfl, rfl, rfl, by decide +kernel, rfl, by decide +kernel, by decide +kernel⟩
theorem bp_is_step : BindP "is_step" (defArgs s_is_step) (defBody s_is_step) (defScope s_is_step) ps_is_step := (fun _ _ _ _ _ _ us hl => match us, hl with | [_, _], _ => rfl)
theorem h_is_step (B : Bk K mg) : HasFull P w K mg base 3 "is_step" (defArgs s_is_step) (defBody s_is_step) (defScope s_is_step) ps_is_step own_is_step .sh c_is_step := has_full (N := N_is_step) (own := own_is_step) (τ' := own_is_step ++ List.replicate 0 .sh) (k := 2) (fb := fb_is_step) B.d_is_step sc_is_step rfl (by decide) (by decide) bp_is_step fun X hX => (evSs_cons (evS_if (PW.pt (evT_or (evT_not (evT_val (x_isi (T := "tuple") hX (by decide +kernel) B.f_isinstance (by decide +kernel) B.f_tuple (by rfl) (by decide) (by decide +kernel) (x_var (i := 0) hX (by rfl) (by decide +kernel) (by rfl) (by decide +kernel)) (by rfl)) (by intro _; rfl))) (evT_or1 (evT_cmp (b_ne hX.r64) (x_callB hX c_len (by decide +kernel) B.f_len (by rfl) (evQ_cons (x_var (i := 0) hX (by rfl) (by decide +kernel) (by rfl) (by decide +kernel)) evQ_nil (by rfl) (by rfl)) (by decide) (by decide +kernel) (by rfl) (by rfl)) ev_int (by rfl) (by rfl))))) (evSs_cons (xS_ret ev_bool (by decide))
  evSs_nil) evSs_nil)
  (evSs_cons (xS_ret (ev_and (x_call hX ((h_is_below B).fn) l_is_below (by omega) rfl (by decide +kernel) (evL_cons (ev_ix ix_data (x_var (i := 0) hX (by rfl) (by decide +kernel) (by rfl) (by decide +kernel)) ev_int (by rfl) (fun _ _ => rfl)) (evL_cons (x_var (i := 1) hX (by rfl) (by decide +kernel) (by rfl) (by decide +kernel)) evL_nil (by rfl)) (by rfl)) (by decide +kernel) (by rfl) (by rfl)) (ev_and (x_call hX ((h_is_word B).fn) l_is_word (by omega) rfl (by decide +kernel) (evL_cons (ev_ix ix_data (x_var (i := 0) hX (by rfl) (by decide +kernel) (by rfl) (by decide +kernel)) ev_int (by rfl) (fun _ _ => rfl)) evL_nil (by rfl)) (by decide +kernel) (by rfl) (by rfl)) (ev_one (x_call hX ((h_is_below B).fn) l_is_below (by omega) rfl (by decide +kernel) (evL_cons (ev_ix ix_data (x_var (i := 0) hX (by rfl) (by decide +kernel) (by rfl) (by decide +kernel)) ev_int (by rfl) (fun _ _ => rfl)) (evL_cons (x_var (i := 1) hX (by rfl) (by decide +kernel) (by rfl) (by decide +kernel)) evL_nil (by rfl)) (by rfl)) (by decide +kernel) (by rfl) (by rfl))))) (by decide))
  evSs_nil))
theorem sc_is_web_in : FnScope N_is_web_in ps_is_web_in (defScope s_is_web_in) := ⟨rfl, rfl, rfl, by decide +kernel, rfl, by decide +kernel, by decide +kernel⟩
theorem bp_is_web_in : BindP "is_web_in" (defArgs s_is_web_in) (defBody s_is_web_in) (defScope s_is_web_in) ps_is_web_in := (fun _ _ _ _ _ _ us hl => match us, hl with | [_], _ => rfl)
theorem h_is_web_in (B : Bk K mg) : HasFull P w K mg base 4 "is_web_in" (defArgs s_is_web_in) (defBody s_is_web_in) (defScope s_is_web_in) ps_is_web_in own_is_web_in .sh c_is_web_in := has_full (N := N_is_web_in) (own := own_is_web_in) (τ' := own_is_web_in ++ List.replicate 4 .sh) (k := 3) (fb := fb_is_web_in) B.d_is_web_in sc_is_web_in rfl (by decide) (by decide) bp_is_web_in fun X hX => (evSs_cons (evS_if (PW.pt (evT_or (evT_not (evT_val (x_isi (T := "tuple") hX (by decide +kernel) B.f_isinstance (by decide +kernel) B.f_tuple (by rfl) (by decide) (by decide +kernel) (x_var (i := 0) hX (by rfl) (by decide +kernel) (by rfl) (by decide +kernel)) (by rfl)) (by intro _; rfl))) (evT_or1 (evT_cmp (b_ne hX.r64) (x_callB hX c_len (by decide +kernel) B.f_len (by rfl) (evQ_cons (x_var (i := 0) hX (by rfl) (by decide +kernel) (by rfl) (by decide +kernel)) evQ_nil (by rfl) (by rfl)) (by decide) (by decide +kernel) (by rfl) (by rfl)) ev_int (by rfl) (by rfl))))) (evSs_cons (xS_ret ev_bool (by decide))
  evSs_nil) evSs_nil)
  (evSs_cons (xS_asgG hX (x_var (i := 0) hX (by rfl) (by decide +kernel) (by rfl) (by decide +kernel)) (xG_tup hX (evGs_cons (xG_name (i := 1) hX (by rfl) (by decide +kernel) (by decide +kernel) (by rfl)) (evGs_cons (xG_name (i := 2) hX (by rfl) (by decide +kernel) (by decide +kernel) (by rfl)) evGs_nil (by rfl)) (by rfl)) (by rfl) (by rfl)) (by rfl) (by rfl) (by rfl))
  (evSs_cons (evS_if (PW.pt (evT_or (evT_not (evT_val (x_isi (T := "list") hX (by decide +kernel) B.f_isinstance (by decide +kernel) B.f_list (by rfl) (by decide) (by decide +kernel) (x_var (i := 1) hX (by rfl) (by decide +kernel) (by rfl) (by decide +kernel)) (by rfl)) (by intro _; rfl))) (evT_or (evT_not (evT_chain (b_le hX.r64) (b_le hX.r64) ev_int (x_callB hX c_len (by decide +kernel) B.f_len (by rfl) (evQ_cons (x_var (i := 1) hX (by rfl) (by decide +kernel) (by rfl) (by decide +kernel)) evQ_nil (by rfl) (by rfl)) (by decide) (by decide +kernel) (by rfl) (by rfl)) (x_con hX (by decide +kernel) B.c_MOST_PLACES (by decide +kernel)) (by rfl) (by rfl))) (evT_or1 (evT_not (evT_val (x_isi (T := "list") hX (by decide +kernel) B.f_isinstance (by decide +kernel) B.f_list (by rfl) (by decide) (by decide +kernel) (x_var (i := 2) hX (by rfl) (by decide +kernel) (by rfl) (by decide +kernel)) (by rfl)) (by intro _; rfl))))))) (evSs_cons (xS_ret ev_bool (by decide))
  evSs_nil) evSs_nil)
  (evSs_cons (evS_if (PW.pt (evT_or (evT_cmp (b_ne hX.r64) (x_lc (pc := true) (pe := true) (own := [("row", 3)]) hX (xI_any (x_var (i := 1) hX (by rfl) (by decide +kernel) (by rfl) (by decide +kernel))) (by decide +kernel) (by decide) (by decide) (by decide) (fun Y hY1 => (xG_name (i := 3) hY1 (by rfl) (by decide +kernel) (by decide +kernel) (by rfl))) (fun Y hY1 => (evTs_one (evT_not (evT_val (x_call hY1 ((h_are_words B).fn) l_are_words (by omega) rfl (by decide +kernel) (evL_cons (x_var (i := 3) hY1 (by rfl) (by decide +kernel) (by rfl) (by decide +kernel)) (evL_cons (x_con hY1 (by decide +kernel) B.c_MOST_MARKS (by decide +kernel)) evL_nil (by rfl)) (by rfl)) (by decide +kernel) (by rfl) (by rfl)) (by intro _; rfl))))) (fun Y hY1 => (x_var (i := 3) hY1 (by rfl) (by decide +kernel) (by rfl) (by decide +kernel))) (by intro _; rfl)) (ev_lst (t := .sh) evL_nil) (by rfl) (by rfl)) (evT_or1 (evT_cmp (b_gt hX.r64) (x_callB hX c_len (by decide +kernel) B.f_len (by rfl) (evQ_cons (x_var (i := 2) hX (by rfl) (by decide +kernel) (by rfl) (by decide +kernel)) evQ_nil (by rfl) (by rfl)) (by decide) (by decide +kernel) (by rfl) (by rfl)) (x_con hX (by decide +kernel) B.c_MOST_STEPS (by decide +kernel)) (by rfl) (by rfl))))) (evSs_cons (xS_ret ev_bool (by decide))
  evSs_nil) evSs_nil)
  (evSs_cons (xS_ret (ev_and (ev_cmp (b_eq hX.r64) (x_lc (pc := true) (pe := true) (own := [("step", 4)]) hX (xI_any (x_var (i := 2) hX (by rfl) (by decide +kernel) (by rfl) (by decide +kernel))) (by decide +kernel) (by decide) (by decide) (by decide) (fun Y hY1 => (xG_name (i := 4) hY1 (by rfl) (by decide +kernel) (by decide +kernel) (by rfl))) (fun Y hY1 => (evTs_one (evT_not (evT_val (x_call hY1 ((h_is_step B).fn) l_is_step (by omega) rfl (by decide +kernel) (evL_cons (x_var (i := 4) hY1 (by rfl) (by decide +kernel) (by rfl) (by decide +kernel)) (evL_cons (x_callB hY1 c_len (by decide +kernel) B.f_len (by rfl) (evQ_cons (x_var (i := 1) hY1 (by rfl) (by decide +kernel) (by rfl) (by decide +kernel)) evQ_nil (by rfl) (by rfl)) (by decide) (by decide +kernel) (by rfl) (by rfl)) evL_nil (by rfl)) (by rfl)) (by decide +kernel) (by rfl) (by rfl)) (by intro _; rfl))))) (fun Y hY1 => (x_var (i := 4) hY1 (by rfl) (by decide +kernel) (by rfl) (by decide +kernel))) (by intro _; rfl)) (ev_lst (t := .sh) evL_nil) (by rfl) (by rfl)) (ev_one (x_call hX ((h_is_rising B).fn) l_is_rising (by omega) rfl (by decide +kernel) (evL_cons (x_var (i := 2) hX (by rfl) (by decide +kernel) (by rfl) (by decide +kernel)) evL_nil (by rfl)) (by decide +kernel) (by rfl) (by rfl)))) (by decide))
  evSs_nil)))))
theorem sc_check_web : FnScope N_check_web ps_check_web (defScope s_check_web) := ⟨rfl, rfl, rfl, by decide +kernel, rfl, by decide +kernel, by decide +kernel⟩
theorem bp_check_web : BindP "check_web" (defArgs s_check_web) (defBody s_check_web) (defScope s_check_web) ps_check_web := (fun _ _ _ _ _ _ us hl => match us, hl with | [_], _ => rfl)
theorem h_check_web (B : Bk K mg) : HasFull P w K mg base 5 "check_web" (defArgs s_check_web) (defBody s_check_web) (defScope s_check_web) ps_check_web own_check_web .sh c_check_web := has_full (N := N_check_web) (own := own_check_web) (τ' := own_check_web ++ List.replicate 0 .sh) (k := 4) (fb := fb_check_web) B.d_check_web sc_check_web rfl (by decide) (by decide) bp_check_web fun X hX => (evSs_cons (evS_if (evT_not (evT_val (x_call hX ((h_is_web_in B).fn) l_is_web_in (by omega) rfl (by decide +kernel) (evL_cons (x_var (i := 0) hX (by rfl) (by decide +kernel) (by rfl) (by decide +kernel)) evL_nil (by rfl)) (by decide +kernel) (by rfl) (by rfl)) (by intro _; rfl))) (evSs_cons evS_bad
  evSs_nil) evSs_nil)
  evSs_nil)
theorem sc_check_place : FnScope N_check_place ps_check_place (defScope s_check_place) := ⟨rfl, rfl, rfl, by decide +kernel, rfl, by decide +kernel, by decide +kernel⟩
theorem bp_check_place : BindP "check_place" (defArgs s_check_place) (defBody s_check_place) (defScope s_check_place) ps_check_place := (fun _ _ _ _ _ _ us hl => match us, hl with | [_, _], _ => rfl)
theorem h_check_place (B : Bk K mg) : HasFull P w K mg base 3 "check_place" (defArgs s_check_place) (defBody s_check_place) (defScope s_check_place) ps_check_place own_check_place .sh c_check_place := has_full (N := N_check_place) (own := own_check_place) (τ' := own_check_place ++ List.replicate 0 .sh) (k := 2) (fb := fb_check_place) B.d_check_place sc_check_place rfl (by decide) (by decide) bp_check_place fun X hX => (evSs_cons (evS_if (evT_not (evT_val (x_call hX ((h_is_below B).fn) l_is_below (by omega) rfl (by decide +kernel) (evL_cons (x_var (i := 1) hX (by rfl) (by decide +kernel) (by rfl) (by decide +kernel)) (evL_cons (x_callB hX c_len (by decide +kernel) B.f_len (by rfl) (evQ_cons (ev_ix ix_data (x_var (i := 0) hX (by rfl) (by decide +kernel) (by rfl) (by decide +kernel)) ev_int (by rfl) (fun _ _ => rfl)) evQ_nil (by rfl) (by rfl)) (by decide) (by decide +kernel) (by rfl) (by rfl)) evL_nil (by rfl)) (by rfl)) (by decide +kernel) (by rfl) (by rfl)) (by intro _; rfl))) (evSs_cons evS_bad
  evSs_nil) evSs_nil)
  evSs_nil)
theorem sc_check_lot : FnScope N_check_lot ps_check_lot (defScope s_check_lot) := ⟨rfl, rfl, rfl, by decide +kernel, rfl, by decide +kernel, by decide +kernel⟩
theorem bp_check_lot : BindP "check_lot" (defArgs s_check_lot) (defBody s_check_lot) (defScope s_check_lot) ps_check_lot := (fun _ _ _ _ _ _ us hl => match us, hl with | [_, _], _ => rfl)
theorem h_check_lot (B : Bk K mg) : HasFull P w K mg base 4 "check_lot" (defArgs s_check_lot) (defBody s_check_lot) (defScope s_check_lot) ps_check_lot own_check_lot .sh c_check_lot := has_full (N := N_check_lot) (own := own_check_lot) (τ' := own_check_lot ++ List.replicate 0 .sh) (k := 3) (fb := fb_check_lot) B.d_check_lot sc_check_lot rfl (by decide) (by decide) bp_check_lot fun X hX => (evSs_cons (evS_if (evT_not (evT_val (x_call hX ((h_are_ascending B).fn) l_are_ascending (by omega) rfl (by decide +kernel) (evL_cons (x_var (i := 1) hX (by rfl) (by decide +kernel) (by rfl) (by decide +kernel)) (evL_cons (x_callB hX c_len (by decide +kernel) B.f_len (by rfl) (evQ_cons (ev_ix ix_data (x_var (i := 0) hX (by rfl) (by decide +kernel) (by rfl) (by decide +kernel)) ev_int (by rfl) (fun _ _ => rfl)) evQ_nil (by rfl) (by rfl)) (by decide) (by decide +kernel) (by rfl) (by rfl)) evL_nil (by rfl)) (by rfl)) (by decide +kernel) (by rfl) (by rfl)) (by intro _; rfl))) (evSs_cons evS_bad
  evSs_nil) evSs_nil)
  evSs_nil)
theorem sc_check_web_place : FnScope N_check_web_place ps_check_web_place (defScope s_check_web_place) := ⟨rfl, rfl, rfl, by decide +kernel, rfl, by decide +kernel, by decide +kernel⟩
theorem bp_check_web_place : BindP "check_web_place" (defArgs s_check_web_place) (defBody s_check_web_place) (defScope s_check_web_place) ps_check_web_place := (fun _ _ _ _ _ _ us hl => match us, hl with | [_, _], _ => rfl)
theorem h_check_web_place (B : Bk K mg) : HasFull P w K mg base 6 "check_web_place" (defArgs s_check_web_place) (defBody s_check_web_place) (defScope s_check_web_place) ps_check_web_place own_check_web_place .sh c_check_web_place := has_full (N := N_check_web_place) (own := own_check_web_place) (τ' := own_check_web_place ++ List.replicate 0 .sh) (k := 5) (fb := fb_check_web_place) B.d_check_web_place sc_check_web_place rfl (by decide) (by decide) bp_check_web_place fun X hX => (evSs_cons (evS_expr (x_call hX ((h_check_web B).fn) l_check_web (by omega) rfl (by decide +kernel) (evL_cons (x_var (i := 0) hX (by rfl) (by decide +kernel) (by rfl) (by decide +kernel)) evL_nil (by rfl)) (by decide +kernel) (by rfl) (by rfl)) (by rfl))
  (evSs_cons (evS_expr (x_call hX ((h_check_place B).fn) l_check_place (by omega) rfl (by decide +kernel) (evL_cons (x_var (i := 0) hX (by rfl) (by decide +kernel) (by rfl) (by decide +kernel)) (evL_cons (x_var (i := 1) hX (by rfl) (by decide +kernel) (by rfl) (by decide +kernel)) evL_nil (by rfl)) (by rfl)) (by decide +kernel) (by rfl) (by rfl)) (by rfl))
  evSs_nil))
theorem sc_check_web_lot : FnScope N_check_web_lot ps_check_web_lot (defScope s_check_web_lot) := ⟨rfl, rfl, rfl, by decide +kernel, rfl, by decide +kernel, by decide +kernel⟩
theorem bp_check_web_lot : BindP "check_web_lot" (defArgs s_check_web_lot) (defBody s_check_web_lot) (defScope s_check_web_lot) ps_check_web_lot := (fun _ _ _ _ _ _ us hl => match us, hl with | [_, _], _ => rfl)
theorem h_check_web_lot (B : Bk K mg) : HasFull P w K mg base 6 "check_web_lot" (defArgs s_check_web_lot) (defBody s_check_web_lot) (defScope s_check_web_lot) ps_check_web_lot own_check_web_lot .sh c_check_web_lot := has_full (N := N_check_web_lot) (own := own_check_web_lot) (τ' := own_check_web_lot ++ List.replicate 0 .sh) (k := 5) (fb := fb_check_web_lot) B.d_check_web_lot sc_check_web_lot rfl (by decide) (by decide) bp_check_web_lot fun X hX => (evSs_cons (evS_expr (x_call hX ((h_check_web B).fn) l_check_web (by omega) rfl (by decide +kernel) (evL_cons (x_var (i := 0) hX (by rfl) (by decide +kernel) (by rfl) (by decide +kernel)) evL_nil (by rfl)) (by decide +kernel) (by rfl) (by rfl)) (by rfl))
  (evSs_cons (evS_expr (x_call hX ((h_check_lot B).fn) l_check_lot (by omega) rfl (by decide +kernel) (evL_cons (x_var (i := 0) hX (by rfl) (by decide +kernel) (by rfl) (by decide +kernel)) (evL_cons (x_var (i := 1) hX (by rfl) (by decide +kernel) (by rfl) (by decide +kernel)) evL_nil (by rfl)) (by rfl)) (by decide +kernel) (by rfl) (by rfl)) (by rfl))
  evSs_nil))
theorem sc_nears_in : FnScope N_nears_in ps_nears_in (defScope s_nears_in) := ⟨rfl, rfl, rfl, by decide +kernel, rfl, by decide +kernel, by decide +kernel⟩
theorem bp_nears_in : BindP "nears_in" (defArgs s_nears_in) (defBody s_nears_in) (defScope s_nears_in) ps_nears_in := (fun _ _ _ _ _ _ us hl => match us, hl with | [_], _ => rfl)
theorem h_nears_in (B : Bk K mg) : HasFull P w K mg base 1 "nears_in" (defArgs s_nears_in) (defBody s_nears_in) (defScope s_nears_in) ps_nears_in own_nears_in (.ls .sh) c_nears_in := has_full (N := N_nears_in) (own := own_nears_in) (τ' := own_nears_in ++ List.replicate 5 .sh) (k := 0) (fb := fb_nears_in) B.d_nears_in sc_nears_in rfl (by decide) (by decide) bp_nears_in fun X hX => (evSs_cons (xS_setLc (i := 1) (pc := true) (pe := true) (own := [("row", 2)]) hX (xI_any (ev_ix ix_data (x_var (i := 0) hX (by rfl) (by decide +kernel) (by rfl) (by decide +kernel)) ev_int (by rfl) (fun _ _ => rfl))) (by rfl) (by decide +kernel) (by decide +kernel) (by decide) (notIn_ok (by decide)) (by decide +kernel) (by decide) (by decide) (by decide) (fun Y hY1 => (xG_name (i := 2) hY1 (by rfl) (by decide +kernel) (by decide +kernel) (by rfl))) (fun Y hY1 => evTs_nil) (fun Y hY1 => (ev_lst (t := .sh) evL_nil)) (by intro _; rfl))
  (evSs_cons (xS_for hX (xI_any (ev_ix ix_data (x_var (i := 0) hX (by rfl) (by decide +kernel) (by rfl) (by decide +kernel)) ev_int (by rfl) (fun _ _ => rfl))) (xG_tup hX (evGs_cons (xG_name (i := 3) hX (by rfl) (by decide +kernel) (by decide +kernel) (by rfl)) (evGs_cons (xG_name (i := 4) hX (by rfl) (by decide +kernel) (by decide +kernel) (by rfl)) (evGs_cons (xG_name (i := 5) hX (by rfl) (by decide +kernel) (by decide +kernel) (by rfl)) evGs_nil (by rfl)) (by rfl)) (by rfl)) (by rfl) (by rfl)) (evSs_cons (evS_if (evT_cmp (b_notIn hX.r65) (x_var (i := 5) hX (by rfl) (by decide +kernel) (by rfl) (by decide +kernel)) (x_ixO (i := 1) hX (by rfl) (by decide +kernel) (by decide +kernel) (by rfl) (x_var (i := 3) hX (by rfl) (by decide +kernel) (by rfl) (by decide +kernel)) (fun _ _ => rfl)) (by rfl) (by rfl)) (evSs_cons (xS_appN (i := 1) hX (by rfl) (by decide +kernel) (by decide +kernel) (by rfl) (by decide) (by decide) (x_var (i := 3) hX (by rfl) (by decide +kernel) (by rfl) (by decide +kernel)) (x_var (i := 5) hX (by rfl) (by decide +kernel) (by rfl) (by decide +kernel)) (fun _ _ => rfl) (by rfl) (by rfl) (by rfl) (by rfl) (by rfl))
  evSs_nil) evSs_nil)
  evSs_nil) (by intro _; rfl))
  (evSs_frz (i := 1) (notIn_ok (by decide)) (by decide) (evSs_cons (xS_ret (x_lc (pc := true) (pe := true) (own := [("row", 2)]) hX (xI_any (x_var (i := 1) hX (by rfl) (by decide +kernel) (by rfl) (by decide +kernel))) (by decide +kernel) (by decide) (by decide) (by decide) (fun Y hY1 => (xG_name (i := 2) hY1 (by rfl) (by decide +kernel) (by decide +kernel) (by rfl))) (fun Y hY1 => evTs_nil) (fun Y hY1 => (EvM.toSh (x_callB hY1 (c_sorted hY1.r64) (by decide +kernel) B.f_sorted (by rfl) (evQ_cons (x_var (i := 2) hY1 (by rfl) (by decide +kernel) (by rfl) (by decide +kernel)) evQ_nil (by rfl) (by rfl)) (by decide) (by decide +kernel) (by rfl) (by rfl)))) (by intro _; rfl)) (by decide))
  evSs_nil))))
theorem sc_reached_in : FnScope N_reached_in ps_reached_in (defScope s_reached_in) := ⟨rfl, rfl, rfl, by decide +kernel, rfl, by decide +kernel, by decide +kernel⟩
theorem bp_reached_in : BindP "reached_in" (defArgs s_reached_in) (defBody s_reached_in) (defScope s_reached_in) ps_reached_in := (fun _ _ _ _ _ _ us hl => match us, hl with | [_, _], _ => rfl)
theorem h_reached_in (B : Bk K mg) : HasFull P w K mg base 1 "reached_in" (defArgs s_reached_in) (defBody s_reached_in) (defScope s_reached_in) ps_reached_in own_reached_in (.ls .sh) c_reached_in := has_full (N := N_reached_in) (own := own_reached_in) (τ' := own_reached_in ++ List.replicate 3 .sh) (k := 0) (fb := fb_reached_in) B.d_reached_in sc_reached_in rfl (by decide) (by decide) bp_reached_in fun X hX => (evSs_cons (xS_par2 (i := 2) (j := 3) (t1 := .dc) (t2 := (.ls .sh)) hX (by rfl) (by rfl) (by decide) (by decide +kernel) (by decide +kernel) (by decide) (by decide) (by decide) (by decide) (ev_dsp (evP_cons (x_var (i := 1) hX (by rfl) (by decide +kernel) (by rfl) (by decide +kernel)) ev_bool evP_nil) rfl rfl (by decide) (by decide)) (ev_lst (t := .sh) (evL_cons (x_var (i := 1) hX (by rfl) (by decide +kernel) (by rfl) (by decide +kernel)) evL_nil (by rfl))) (by rfl) (by rfl) (by rfl) (by rfl))
  (evSs_cons (xS_while hX 1000 (evT_cmp (b_ne hX.r64) (x_own (i := 3) hX (by rfl) (by decide +kernel) (by rfl) (by decide +kernel)) (ev_lst (t := .sh) evL_nil) (by rfl) (by rfl)) (evSs_cons (xS_for hX (xI_any (ev_ix ix_data (x_var (i := 0) hX (by rfl) (by decide +kernel) (by rfl) (by decide +kernel)) (ev_pop (i := 3) (hX.nm (by rfl)) (hX.vis (by decide +kernel)) (nmB_d (by decide +kernel)) (nmB_c (by decide +kernel)) (by rfl) (by rfl)) (by rfl) (fun _ _ => rfl))) (xG_name (i := 4) hX (by rfl) (by decide +kernel) (by decide +kernel) (by rfl)) (evSs_cons (evS_if (evT_cmp (b_notInA hX.r65) (x_var (i := 4) hX (by rfl) (by decide +kernel) (by rfl) (by decide +kernel)) (x_ownD (i := 2) hX (by rfl) (by decide +kernel) (by rfl) (by decide +kernel)) (by rfl) (by rfl)) (evSs_cons (xS_dput (i := 2) hX (by rfl) (by decide +kernel) (by decide +kernel) (by rfl) (by decide) (by decide) ev_bool (x_var (i := 4) hX (by rfl) (by decide +kernel) (by rfl) (by decide +kernel)) (by rfl))
  (evSs_cons (xS_append (i := 3) hX (by rfl) (by decide +kernel) (by decide +kernel) (by rfl) (by decide) (x_var (i := 4) hX (by rfl) (by decide +kernel) (by rfl) (by decide +kernel)) (by rfl) (by rfl) (by rfl) (by rfl))
  evSs_nil)) evSs_nil)
  evSs_nil) (by intro _; rfl))
  evSs_nil))
  (evSs_cons (xS_ret (x_callB hX (c_sortedA hX.r64 hX.calm) (by decide +kernel) B.f_sorted (by rfl) (evQ_cons (x_ownD (i := 2) hX (by rfl) (by decide +kernel) (by rfl) (by decide +kernel)) evQ_nil (by rfl) (by rfl)) (by decide) (by decide +kernel) (by rfl) (by rfl)) (by decide))
  evSs_nil)))
theorem sc_reached : FnScope N_reached ps_reached (defScope s_reached) := ⟨rfl, rfl, rfl, by decide +kernel, rfl, by decide +kernel, by decide +kernel⟩
theorem bp_reached : BindP "reached" (defArgs s_reached) (defBody s_reached) (defScope s_reached) ps_reached := (fun _ _ _ _ _ _ us hl => match us, hl with | [_, _], _ => rfl)
theorem k_reached_10 : BindK "reached" (defArgs s_reached) (defBody s_reached) (defScope s_reached) ps_reached ["place", "web"] [1, 0] := (fun _ _ _ _ _ _ us hl => match us, hl with | [_, _], _ => rfl)
theorem h_reached (B : Bk K mg) : HasFull P w K mg base 7 "reached" (defArgs s_reached) (defBody s_reached) (defScope s_reached) ps_reached own_reached (.ls .sh) c_reached := has_full (N := N_reached) (own := own_reached) (τ' := own_reached ++ List.replicate 0 .sh) (k := 6) (fb := fb_reached) B.d_reached sc_reached rfl (by decide) (by decide) bp_reached fun X hX => (evSs_cons (evS_expr (x_call hX ((h_check_web_place B).fn) l_check_web_place (by omega) rfl (by decide +kernel) (evL_cons (x_var (i := 0) hX (by rfl) (by decide +kernel) (by rfl) (by decide +kernel)) (evL_cons (x_var (i := 1) hX (by rfl) (by decide +kernel) (by rfl) (by decide +kernel)) evL_nil (by rfl)) (by rfl)) (by decide +kernel) (by rfl) (by rfl)) (by rfl))
  (evSs_cons (xS_ret (x_call hX ((h_reached_in B).fn) l_reached_in (by omega) rfl (by decide +kernel) (evL_cons (EvM.toSh (x_call hX ((h_nears_in B).fn) l_nears_in (by omega) rfl (by decide +kernel) (evL_cons (x_var (i := 0) hX (by rfl) (by decide +kernel) (by rfl) (by decide +kernel)) evL_nil (by rfl)) (by decide +kernel) (by rfl) (by rfl))) (evL_cons (x_var (i := 1) hX (by rfl) (by decide +kernel) (by rfl) (by decide +kernel)) evL_nil (by rfl)) (by rfl)) (by decide +kernel) (by rfl) (by rfl)) (by decide))
  evSs_nil))
theorem sc_rings_of : FnScope N_rings_of ps_rings_of (defScope s_rings_of) := ⟨rfl, rfl, rfl, by decide +kernel, rfl, by decide +kernel, by decide +kernel⟩
theorem bp_rings_of : BindP "rings_of" (defArgs s_rings_of) (defBody s_rings_of) (defScope s_rings_of) ps_rings_of := (fun _ _ _ _ _ _ us hl => match us, hl with | [_], _ => rfl)
theorem k_rings_of_0 : BindK "rings_of" (defArgs s_rings_of) (defBody s_rings_of) (defScope s_rings_of) ps_rings_of ["web"] [0] := (fun _ _ _ _ _ _ us hl => match us, hl with | [_], _ => rfl)
theorem h_rings_of (B : Bk K mg) : HasFull P w K mg base 6 "rings_of" (defArgs s_rings_of) (defBody s_rings_of) (defScope s_rings_of) ps_rings_of own_rings_of (.ls (.ls .sh)) c_rings_of := has_full (N := N_rings_of) (own := own_rings_of) (τ' := own_rings_of ++ List.replicate 7 .sh) (k := 5) (fb := fb_rings_of) B.d_rings_of sc_rings_of rfl (by decide) (by decide) bp_rings_of fun X hX => (evSs_cons (evS_expr (x_call hX ((h_check_web B).fn) l_check_web (by omega) rfl (by decide +kernel) (evL_cons (x_var (i := 0) hX (by rfl) (by decide +kernel) (by rfl) (by decide +kernel)) evL_nil (by rfl)) (by decide +kernel) (by rfl) (by rfl)) (by rfl))
  (evSs_cons (xS_tup2 (i := 1) (j := 2) (t1 := .sh) (t2 := (.ls (.ls .sh))) hX (by rfl) (by rfl) (by decide) (by decide +kernel) (by decide +kernel) (by decide +kernel) (by decide +kernel) (by decide) (by decide) (by decide) (by decide) (EvM.toSh (x_call hX ((h_nears_in B).fn) l_nears_in (by omega) rfl (by decide +kernel) (evL_cons (x_var (i := 0) hX (by rfl) (by decide +kernel) (by rfl) (by decide +kernel)) evL_nil (by rfl)) (by decide +kernel) (by rfl) (by rfl))) (ev_lst (t := .ls .sh) evL_nil) (by rfl) (by rfl) (by rfl) (by rfl) (by rfl) (by rfl) (by rfl) (by rfl) (by rfl))
  (evSs_cons (xS_set (i := 3) hX (by rfl) (by decide +kernel) (by decide +kernel) (by decide) (by decide) (EvM.toSh (x_lc (pc := true) (pe := true) (own := [("place", 4)]) hX (xI_rng1 hX (by decide +kernel) B.f_range (evQ_cons (x_callB hX c_len (by decide +kernel) B.f_len (by rfl) (evQ_cons (ev_ix ix_data (x_var (i := 0) hX (by rfl) (by decide +kernel) (by rfl) (by decide +kernel)) ev_int (by rfl) (fun _ _ => rfl)) evQ_nil (by rfl) (by rfl)) (by decide) (by decide +kernel) (by rfl) (by rfl)) evQ_nil (by rfl) (by rfl)) (by rfl)) (by decide +kernel) (by decide) (by decide) (by decide) (fun Y hY1 => (xG_name (i := 4) hY1 (by rfl) (by decide +kernel) (by decide +kernel) (by rfl))) (fun Y hY1 => evTs_nil) (fun Y hY1 => (EvM.toSh (x_call hY1 ((h_reached_in B).fn) l_reached_in (by omega) rfl (by decide +kernel) (evL_cons (x_var (i := 1) hY1 (by rfl) (by decide +kernel) (by rfl) (by decide +kernel)) (evL_cons (x_var (i := 4) hY1 (by rfl) (by decide +kernel) (by rfl) (by decide +kernel)) evL_nil (by rfl)) (by rfl)) (by decide +kernel) (by rfl) (by rfl)))) (by intro _; rfl))) (sw_cell hX (by decide +kernel)))
  (evSs_cons (xS_for hX (xI_enumB hX (by decide +kernel) B.f_enumerate (evL_cons (x_var (i := 3) hX (by rfl) (by decide +kernel) (by rfl) (by decide +kernel)) evL_nil (by rfl)) (by rfl)) (xG_tup hX (evGs_cons (xG_name (i := 4) hX (by rfl) (by decide +kernel) (by decide +kernel) (by rfl)) (evGs_cons (xG_name (i := 5) hX (by rfl) (by decide +kernel) (by decide +kernel) (by rfl)) evGs_nil (by rfl)) (by rfl)) (by rfl) (by rfl)) (evSs_cons (xS_setLc (i := 6) (pc := true) (pe := true) (own := [("other", 7)]) hX (xI_any (x_var (i := 5) hX (by rfl) (by decide +kernel) (by rfl) (by decide +kernel))) (by rfl) (by decide +kernel) (by decide +kernel) (by decide) (notIn_ok (by decide)) (by decide +kernel) (by decide) (by decide) (by decide) (fun Y hY1 => (xG_name (i := 7) hY1 (by rfl) (by decide +kernel) (by decide +kernel) (by rfl))) (fun Y hY1 => (evTs_one (evT_cmp (b_in hY1.r65) (x_var (i := 4) hY1 (by rfl) (by decide +kernel) (by rfl) (by decide +kernel)) (ev_ix ix_data (x_var (i := 3) hY1 (by rfl) (by decide +kernel) (by rfl) (by decide +kernel)) (x_var (i := 7) hY1 (by rfl) (by decide +kernel) (by rfl) (by decide +kernel)) (by rfl) (fun _ _ => rfl)) (by rfl) (by rfl)))) (fun Y hY1 => (x_var (i := 7) hY1 (by rfl) (by decide +kernel) (by rfl) (by decide +kernel))) (by intro _; rfl))
  (evSs_cons (evS_if (evT_cmpW (b_notIn hX.r65) (evW_of (x_own (i := 6) hX (by rfl) (by decide +kernel) (by rfl) (by decide +kernel))) (xW_var (i := 2) hX (by rfl) (by decide +kernel) (by decide +kernel)) (by rfl)) (evSs_cons (xS_appMv (i := 2) (j := 6) hX (by rfl) (by decide +kernel) (by decide +kernel) (by rfl) (by decide +kernel) (by decide +kernel) (by rfl) (by rfl) (by decide) (by decide) (by decide) (by decide) (by decide) (by rfl) (by rfl) (by rfl) (by rfl))
  evSs_nil) evSs_nil)
  (evSs_void (i := 6) (t := .sh) (notIn_ok (by decide)) (by decide) evSs_nil))) (by intro _; rfl))
  (evSs_cons (xS_retO (i := 2) hX (by rfl) (by decide +kernel) (by decide +kernel) (by rfl) (by decide) (by decide) (by decide))
  evSs_nil)))))
theorem sc_is_closed : FnScope N_is_closed ps_is_closed (defScope s_is_closed) := ⟨rfl, rfl, rfl, by decide +kernel, rfl, by decide +kernel, by decide +kernel⟩
theorem bp_is_closed : BindP "is_closed" (defArgs s_is_closed) (defBody s_is_closed) (defScope s_is_closed) ps_is_closed := (fun _ _ _ _ _ _ us hl => match us, hl with | [_, _], _ => rfl)
theorem k_is_closed_10 : BindK "is_closed" (defArgs s_is_closed) (defBody s_is_closed) (defScope s_is_closed) ps_is_closed ["lot", "web"] [1, 0] := (fun _ _ _ _ _ _ us hl => match us, hl with | [_, _], _ => rfl)
theorem h_is_closed (B : Bk K mg) : HasFull P w K mg base 7 "is_closed" (defArgs s_is_closed) (defBody s_is_closed) (defScope s_is_closed) ps_is_closed own_is_closed .sh c_is_closed := has_full (N := N_is_closed) (own := own_is_closed) (τ' := own_is_closed ++ List.replicate 1 .sh) (k := 6) (fb := fb_is_closed) B.d_is_closed sc_is_closed rfl (by decide) (by decide) bp_is_closed fun X hX => (evSs_cons (evS_expr (x_call hX ((h_check_web_lot B).fn) l_check_web_lot (by omega) rfl (by decide +kernel) (evL_cons (x_var (i := 0) hX (by rfl) (by decide +kernel) (by rfl) (by decide +kernel)) (evL_cons (x_var (i := 1) hX (by rfl) (by decide +kernel) (by rfl) (by decide +kernel)) evL_nil (by rfl)) (by rfl)) (by decide +kernel) (by rfl) (by rfl)) (by rfl))
  (evSs_cons (xS_ret (ev_cmp (b_eq hX.r64) (x_lc (pc := true) (pe := true) (own := [("step", 2)]) hX (xI_any (ev_ix ix_data (x_var (i := 0) hX (by rfl) (by decide +kernel) (by rfl) (by decide +kernel)) ev_int (by rfl) (fun _ _ => rfl))) (by decide +kernel) (by decide) (by decide) (by decide) (fun Y hY1 => (xG_name (i := 2) hY1 (by rfl) (by decide +kernel) (by decide +kernel) (by rfl))) (fun Y hY1 => (evTs_one (PW.pt (evT_and (evT_cmp (b_in hY1.r65) (ev_ix ix_data (x_var (i := 2) hY1 (by rfl) (by decide +kernel) (by rfl) (by decide +kernel)) ev_int (by rfl) (fun _ _ => rfl)) (x_var (i := 1) hY1 (by rfl) (by decide +kernel) (by rfl) (by decide +kernel)) (by rfl) (by rfl)) (evT_and1 (evT_cmp (b_notIn hY1.r65) (ev_ix ix_data (x_var (i := 2) hY1 (by rfl) (by decide +kernel) (by rfl) (by decide +kernel)) ev_int (by rfl) (fun _ _ => rfl)) (x_var (i := 1) hY1 (by rfl) (by decide +kernel) (by rfl) (by decide +kernel)) (by rfl) (by rfl))))))) (fun Y hY1 => (x_var (i := 2) hY1 (by rfl) (by decide +kernel) (by rfl) (by decide +kernel))) (by intro _; rfl)) (ev_lst (t := .sh) evL_nil) (by rfl) (by rfl)) (by decide))
  evSs_nil))
theorem sc_way_back : FnScope N_way_back ps_way_back (defScope s_way_back) := ⟨rfl, rfl, rfl, by decide +kernel, rfl, by decide +kernel, by decide +kernel⟩
theorem bp_way_back : BindP "way_back" (defArgs s_way_back) (defBody s_way_back) (defScope s_way_back) ps_way_back := (fun _ _ _ _ _ _ us hl => match us, hl with | [_, _], _ => rfl)
theorem h_way_back (B : Bk K mg) : HasFull P w K mg base 1 "way_back" (defArgs s_way_back) (defBody s_way_back) (defScope s_way_back) ps_way_back own_way_back .sh c_way_back := has_full (N := N_way_back) (own := own_way_back) (τ' := own_way_back ++ List.replicate 1 .sh) (k := 0) (fb := fb_way_back) B.d_way_back sc_way_back rfl (by decide) (by decide) bp_way_back fun X hX => (evSs_cons (xS_set (i := 2) hX (by rfl) (by decide +kernel) (by decide +kernel) (by decide) (by decide) (ev_lst (t := .sh) (evL_cons (x_var (i := 1) hX (by rfl) (by decide +kernel) (by rfl) (by decide +kernel)) evL_nil (by rfl))) (by rfl))
  (evSs_cons (xS_while hX 1000 (evT_cmp b_notN (ev_dix hX.r1 (x_var (i := 0) hX (by rfl) (by decide +kernel) (by rfl) (by decide +kernel)) (ev_ix ix_data (x_own (i := 2) hX (by rfl) (by decide +kernel) (by rfl) (by decide +kernel)) (ev_neg ev_int) (by rfl) (fun _ _ => rfl)) (by rfl) (fun _ _ => rfl)) ev_none (by rfl) (by rfl)) (evSs_cons (xS_append (i := 2) hX (by rfl) (by decide +kernel) (by decide +kernel) (by rfl) (by decide) (ev_dix hX.r1 (x_var (i := 0) hX (by rfl) (by decide +kernel) (by rfl) (by decide +kernel)) (ev_ix ix_data (x_own (i := 2) hX (by rfl) (by decide +kernel) (by rfl) (by decide +kernel)) (ev_neg ev_int) (by rfl) (fun _ _ => rfl)) (by rfl) (fun _ _ => rfl)) (by rfl) (by rfl) (by rfl) (by rfl))
  evSs_nil))
  (evSs_cons (xS_ret (ev_rev (x_own (i := 2) hX (by rfl) (by decide +kernel) (by rfl) (by decide +kernel))) (by decide))
  evSs_nil)))
theorem sc_way_to : FnScope N_way_to ps_way_to (defScope s_way_to) := ⟨rfl, rfl, rfl, by decide +kernel, rfl, by decide +kernel, by decide +kernel⟩
theorem bp_way_to : BindP "way_to" (defArgs s_way_to) (defBody s_way_to) (defScope s_way_to) ps_way_to := (fun _ _ _ _ _ _ us hl => match us, hl with | [_, _, _], _ => rfl)
theorem k_way_to_210 : BindK "way_to" (defArgs s_way_to) (defBody s_way_to) (defScope s_way_to) ps_way_to ["lot", "place", "web"] [2, 1, 0] := (fun _ _ _ _ _ _ us hl => match us, hl with | [_, _, _], _ => rfl)
theorem h_way_to (B : Bk K mg) : HasFull P w K mg base 7 "way_to" (defArgs s_way_to) (defBody s_way_to) (defScope s_way_to) ps_way_to own_way_to .sh c_way_to := has_full (N := N_way_to) (own := own_way_to) (τ' := own_way_to ++ List.replicate 6 .sh) (k := 6) (fb := fb_way_to) B.d_way_to sc_way_to rfl (by decide) (by decide) bp_way_to fun X hX => (evSs_cons (evS_expr (x_call hX ((h_check_web_place B).fn) l_check_web_place (by omega) rfl (by decide +kernel) (evL_cons (x_var (i := 0) hX (by rfl) (by decide +kernel) (by rfl) (by decide +kernel)) (evL_cons (x_var (i := 1) hX (by rfl) (by decide +kernel) (by rfl) (by decide +kernel)) evL_nil (by rfl)) (by rfl)) (by decide +kernel) (by rfl) (by rfl)) (by rfl))
  (evSs_cons (evS_expr (x_call hX ((h_check_lot B).fn) l_check_lot (by omega) rfl (by decide +kernel) (evL_cons (x_var (i := 0) hX (by rfl) (by decide +kernel) (by rfl) (by decide +kernel)) (evL_cons (x_var (i := 2) hX (by rfl) (by decide +kernel) (by rfl) (by decide +kernel)) evL_nil (by rfl)) (by rfl)) (by decide +kernel) (by rfl) (by rfl)) (by rfl))
  (evSs_cons (xS_par3 (i := 3) (j := 4) (l := 5) (t1 := .sh) (t2 := .dc) (t3 := (.ls .sh)) hX (by rfl) (by rfl) (by rfl) (by decide) (by decide) (by decide) (by decide +kernel) (by decide +kernel) (by decide +kernel) (by decide) (by decide) (by decide) (by decide) (by decide) (by decide) (EvM.toSh (x_call hX ((h_nears_in B).fn) l_nears_in (by omega) rfl (by decide +kernel) (evL_cons (x_var (i := 0) hX (by rfl) (by decide +kernel) (by rfl) (by decide +kernel)) evL_nil (by rfl)) (by decide +kernel) (by rfl) (by rfl))) (ev_dsp (evP_cons (x_var (i := 1) hX (by rfl) (by decide +kernel) (by rfl) (by decide +kernel)) ev_none evP_nil) rfl rfl (by decide) (by decide)) (ev_lst (t := .sh) (evL_cons (x_var (i := 1) hX (by rfl) (by decide +kernel) (by rfl) (by decide +kernel)) evL_nil (by rfl))) (by rfl) (by rfl) (by rfl) (by rfl) (by rfl))
  (evSs_cons (xS_set (i := 6) hX (by rfl) (by decide +kernel) (by decide +kernel) (by decide) (by decide) ev_int (by rfl))
  (evSs_cons (xS_while hX 1000 (evT_cmp (b_lt hX.r64) (x_var (i := 6) hX (by rfl) (by decide +kernel) (by rfl) (by decide +kernel)) (x_callB hX c_len (by decide +kernel) B.f_len (by rfl) (evQ_cons (x_own (i := 5) hX (by rfl) (by decide +kernel) (by rfl) (by decide +kernel)) evQ_nil (by rfl) (by rfl)) (by decide) (by decide +kernel) (by rfl) (by rfl)) (by rfl) (by rfl)) (evSs_cons (xS_par (i := 7) (j := 6) hX (by rfl) (by rfl) (by decide) (by decide +kernel) (by decide +kernel) (evL_cons (ev_ix ix_data (x_own (i := 5) hX (by rfl) (by decide +kernel) (by rfl) (by decide +kernel)) (x_var (i := 6) hX (by rfl) (by decide +kernel) (by rfl) (by decide +kernel)) (by rfl) (fun _ _ => rfl)) (evL_cons (ev_bin b_add (x_var (i := 6) hX (by rfl) (by decide +kernel) (by rfl) (by decide +kernel)) ev_int (by rfl)) evL_nil (by rfl)) (by rfl)) (by rfl) (by rfl) (by rfl) (by rfl))
  (evSs_cons (evS_if (evT_cmp (b_in hX.r65) (x_var (i := 7) hX (by rfl) (by decide +kernel) (by rfl) (by decide +kernel)) (x_var (i := 2) hX (by rfl) (by decide +kernel) (by rfl) (by decide +kernel)) (by rfl) (by rfl)) (evSs_frz (i := 4) (notIn_ok (by decide)) (by decide) (evSs_cons (xS_ret (x_call hX ((h_way_back B).fn) l_way_back (by omega) rfl (by decide +kernel) (evL_cons (x_var (i := 4) hX (by rfl) (by decide +kernel) (by rfl) (by decide +kernel)) (evL_cons (x_var (i := 7) hX (by rfl) (by decide +kernel) (by rfl) (by decide +kernel)) evL_nil (by rfl)) (by rfl)) (by decide +kernel) (by rfl) (by rfl)) (by decide))
  evSs_nil)) evSs_nil)
  (evSs_cons (xS_for hX (xI_any (ev_ix ix_data (x_var (i := 3) hX (by rfl) (by decide +kernel) (by rfl) (by decide +kernel)) (x_var (i := 7) hX (by rfl) (by decide +kernel) (by rfl) (by decide +kernel)) (by rfl) (fun _ _ => rfl))) (xG_name (i := 8) hX (by rfl) (by decide +kernel) (by decide +kernel) (by rfl)) (evSs_cons (evS_if (evT_cmp (b_notInA hX.r65) (x_var (i := 8) hX (by rfl) (by decide +kernel) (by rfl) (by decide +kernel)) (x_ownD (i := 4) hX (by rfl) (by decide +kernel) (by rfl) (by decide +kernel)) (by rfl) (by rfl)) (evSs_cons (xS_dput (i := 4) hX (by rfl) (by decide +kernel) (by decide +kernel) (by rfl) (by decide) (by decide) (x_var (i := 7) hX (by rfl) (by decide +kernel) (by rfl) (by decide +kernel)) (x_var (i := 8) hX (by rfl) (by decide +kernel) (by rfl) (by decide +kernel)) (by rfl))
  (evSs_cons (xS_append (i := 5) hX (by rfl) (by decide +kernel) (by decide +kernel) (by rfl) (by decide) (x_var (i := 8) hX (by rfl) (by decide +kernel) (by rfl) (by decide +kernel)) (by rfl) (by rfl) (by rfl) (by rfl))
  evSs_nil)) evSs_nil)
  evSs_nil) (by intro _; rfl))
  evSs_nil))))
  (evSs_cons (xS_ret ev_none (by decide))
  evSs_nil))))))
theorem sc__law_hash : FnScope N__law_hash ps__law_hash (defScope s__law_hash) := ⟨rfl, rfl, rfl, by decide +kernel, rfl, by decide +kernel, by decide +kernel⟩
theorem bp__law_hash : BindP "_law_hash" (defArgs s__law_hash) (defBody s__law_hash) (defScope s__law_hash) ps__law_hash := (fun _ _ _ _ _ _ us hl => match us, hl with | [_, _], _ => rfl)
theorem h__law_hash (B : Bk K mg) : HasFull P w K mg base 1 "_law_hash" (defArgs s__law_hash) (defBody s__law_hash) (defScope s__law_hash) ps__law_hash own__law_hash .sh c__law_hash := has_full (N := N__law_hash) (own := own__law_hash) (τ' := own__law_hash ++ List.replicate 1 .sh) (k := 0) (fb := fb__law_hash) B.d__law_hash sc__law_hash rfl (by decide) (by decide) bp__law_hash fun X hX => (evSs_cons (xS_set (i := 2) hX (by rfl) (by decide +kernel) (by decide +kernel) (by decide) (by decide) (ev_bin b_mod (x_callTy hX c_int (by decide +kernel) B.f_int (by rfl) (evQ_cons (ev_bin b_add (ev_bin b_add (ev_bin b_add (ev_bin b_mul (x_var (i := 0) hX (by rfl) (by decide +kernel) (by rfl) (by decide +kernel)) ev_int (by rfl)) (ev_bin b_mul (ev_bin b_mul ev_int (x_var (i := 1) hX (by rfl) (by decide +kernel) (by rfl) (by decide +kernel)) (by rfl)) (x_var (i := 1) hX (by rfl) (by decide +kernel) (by rfl) (by decide +kernel)) (by rfl)) (by rfl)) (ev_bin b_mul ev_int (x_var (i := 1) hX (by rfl) (by decide +kernel) (by rfl) (by decide +kernel)) (by rfl)) (by rfl)) ev_int (by rfl)) evQ_nil (by rfl) (by rfl)) (by decide) (by decide +kernel) (by rfl) (by rfl)) ev_int (by rfl)) (by rfl))
  (evSs_cons (xS_set (i := 2) hX (by rfl) (by decide +kernel) (by decide +kernel) (by decide) (by decide) (ev_bin b_mod (x_callTy hX c_int (by decide +kernel) B.f_int (by rfl) (evQ_cons (ev_bin b_add (ev_bin b_add (ev_bin b_mul (x_var (i := 2) hX (by rfl) (by decide +kernel) (by rfl) (by decide +kernel)) (x_var (i := 2) hX (by rfl) (by decide +kernel) (by rfl) (by decide +kernel)) (by rfl)) (ev_bin b_mul ev_int (x_var (i := 1) hX (by rfl) (by decide +kernel) (by rfl) (by decide +kernel)) (by rfl)) (by rfl)) ev_int (by rfl)) evQ_nil (by rfl) (by rfl)) (by decide) (by decide +kernel) (by rfl) (by rfl)) ev_int (by rfl)) (by rfl))
  (evSs_cons (xS_ret (ev_bin b_mod (x_callTy hX c_int (by decide +kernel) B.f_int (by rfl) (evQ_cons (ev_bin b_mul (x_var (i := 2) hX (by rfl) (by decide +kernel) (by rfl) (by decide +kernel)) ev_int (by rfl)) evQ_nil (by rfl) (by rfl)) (by decide) (by decide +kernel) (by rfl) (by rfl)) ev_int (by rfl)) (by decide))
  evSs_nil)))
theorem sc__law_random : FnScope N__law_random ps__law_random (defScope s__law_random) := ⟨rfl, rfl, rfl, by decide +kernel, rfl, by decide +kernel, by decide +kernel⟩
theorem bp__law_random : BindP "_law_random" (defArgs s__law_random) (defBody s__law_random) (defScope s__law_random) ps__law_random := (fun _ _ _ _ _ _ us hl => match us, hl with | [_, _], _ => rfl)
theorem h__law_random (B : Bk K mg) : HasFull P w K mg base 2 "_law_random" (defArgs s__law_random) (defBody s__law_random) (defScope s__law_random) ps__law_random own__law_random .sh c__law_random := has_full (N := N__law_random) (own := own__law_random) (τ' := own__law_random ++ List.replicate 2 .sh) (k := 1) (fb := fb__law_random) B.d__law_random sc__law_random rfl (by decide) (by decide) bp__law_random fun X hX => (evSs_cons (evS_if (evT_cmp (b_gt hX.r64) (ev_ix ix_data (x_own (i := 0) hX (by rfl) (by decide +kernel) (by rfl) (by decide +kernel)) ev_int (by rfl) (fun _ _ => rfl)) ev_int (by rfl) (by rfl)) (evSs_cons (xS_set (i := 2) hX (by rfl) (by decide +kernel) (by decide +kernel) (by decide) (by decide) (ev_bin b_mod (x_callTy hX c_int (by decide +kernel) B.f_int (by rfl) (evQ_cons (ev_ix ix_data (x_own (i := 0) hX (by rfl) (by decide +kernel) (by rfl) (by decide +kernel)) ev_int (by rfl) (fun _ _ => rfl)) evQ_nil (by rfl) (by rfl)) (by decide) (by decide +kernel) (by rfl) (by rfl)) (x_var (i := 1) hX (by rfl) (by decide +kernel) (by rfl) (by decide +kernel)) (by rfl)) (by rfl))
  (evSs_cons (xS_setIx (i := 0) hX (by rfl) (by decide +kernel) (by decide +kernel) (by rfl) (ev_bin b_div (ev_ix ix_data (x_own (i := 0) hX (by rfl) (by decide +kernel) (by rfl) (by decide +kernel)) ev_int (by rfl) (fun _ _ => rfl)) (x_var (i := 1) hX (by rfl) (by decide +kernel) (by rfl) (by decide +kernel)) (by rfl)) ev_int (by rfl) (by rfl) (by rfl) (by intro _; rfl))
  (evSs_cons (xS_ret (x_var (i := 2) hX (by rfl) (by decide +kernel) (by rfl) (by decide +kernel)) (by decide))
  evSs_nil))) evSs_nil)
  (evSs_cons (xS_set (i := 2) hX (by rfl) (by decide +kernel) (by decide +kernel) (by decide) (by decide) ev_int (by rfl))
  (evSs_cons (xS_for hX (xI_rng1 hX (by decide +kernel) B.f_range (evQ_cons (ev_bin b_add ev_int (ev_bin b_div (ev_bits (x_var (i := 1) hX (by rfl) (by decide +kernel) (by rfl) (by decide +kernel)) (by rfl) (by rfl)) ev_int (by rfl)) (by rfl)) evQ_nil (by rfl) (by rfl)) (by rfl)) (xG_name (i := 3) hX (by rfl) (by decide +kernel) (by decide +kernel) (by rfl)) (evSs_cons (xS_setIx (i := 0) hX (by rfl) (by decide +kernel) (by decide +kernel) (by rfl) (ev_bin b_add (ev_ix ix_data (x_own (i := 0) hX (by rfl) (by decide +kernel) (by rfl) (by decide +kernel)) ev_int (by rfl) (fun _ _ => rfl)) ev_int (by rfl)) ev_int (by rfl) (by rfl) (by rfl) (by intro _; rfl))
  (evSs_cons (xS_set (i := 2) hX (by rfl) (by decide +kernel) (by decide +kernel) (by decide) (by decide) (ev_bin b_add (ev_bin b_mul (x_var (i := 2) hX (by rfl) (by decide +kernel) (by rfl) (by decide +kernel)) ev_int (by rfl)) (x_call hX ((h__law_hash B).fn) l__law_hash (by omega) rfl (by decide +kernel) (evL_cons (ev_ix ix_data (x_own (i := 0) hX (by rfl) (by decide +kernel) (by rfl) (by decide +kernel)) ev_int (by rfl) (fun _ _ => rfl)) (evL_cons (ev_ix ix_data (x_own (i := 0) hX (by rfl) (by decide +kernel) (by rfl) (by decide +kernel)) ev_int (by rfl) (fun _ _ => rfl)) evL_nil (by rfl)) (by rfl)) (by decide +kernel) (by rfl) (by rfl)) (by rfl)) (by rfl))
  evSs_nil)) (by intro _; rfl))
  (evSs_cons (xS_ret (ev_bin b_mod (x_callTy hX c_int (by decide +kernel) B.f_int (by rfl) (evQ_cons (x_var (i := 2) hX (by rfl) (by decide +kernel) (by rfl) (by decide +kernel)) evQ_nil (by rfl) (by rfl)) (by decide) (by decide +kernel) (by rfl) (by rfl)) (x_var (i := 1) hX (by rfl) (by decide +kernel) (by rfl) (by decide +kernel)) (by rfl)) (by decide))
  evSs_nil))))
theorem sc__law_cell : FnScope N__law_cell ps__law_cell (defScope s__law_cell) := ⟨rfl, rfl, rfl, by decide +kernel, rfl, by decide +kernel, by decide +kernel⟩
theorem bp__law_cell : BindP "_law_cell" (defArgs s__law_cell) (defBody s__law_cell) (defScope s__law_cell) ps__law_cell := (fun _ _ _ _ _ _ us hl => match us, hl with | [_, _], _ => rfl)
theorem h__law_cell (B : Bk K mg) : HasFull P w K mg base 1 "_law_cell" (defArgs s__law_cell) (defBody s__law_cell) (defScope s__law_cell) ps__law_cell own__law_cell .sh c__law_cell := has_full (N := N__law_cell) (own := own__law_cell) (τ' := own__law_cell ++ List.replicate 0 .sh) (k := 0) (fb := fb__law_cell) B.d__law_cell sc__law_cell rfl (by decide) (by decide) bp__law_cell fun X hX => (evSs_cons (evS_if (evT_cmp (b_lt hX.r64) (x_var (i := 1) hX (by rfl) (by decide +kernel) (by rfl) (by decide +kernel)) (x_callB hX c_len (by decide +kernel) B.f_len (by rfl) (evQ_cons (x_var (i := 0) hX (by rfl) (by decide +kernel) (by rfl) (by decide +kernel)) evQ_nil (by rfl) (by rfl)) (by decide) (by decide +kernel) (by rfl) (by rfl)) (by rfl) (by rfl)) (evSs_cons (xS_ret (ev_ix ix_data (x_var (i := 0) hX (by rfl) (by decide +kernel) (by rfl) (by decide +kernel)) (x_var (i := 1) hX (by rfl) (by decide +kernel) (by rfl) (by decide +kernel)) (by rfl) (fun _ _ => rfl)) (by decide))
  evSs_nil) evSs_nil)
  (evSs_cons (xS_ret (ev_bin b_mod (x_callB hX (c_sumI hX.calm) (by decide +kernel) B.f_sum (by rfl) (evQ_cons (ev_slice (x_var (i := 0) hX (by rfl) (by decide +kernel) (by rfl) (by decide +kernel)) evO_none (evO_some ev_int)) evQ_nil (by rfl) (by rfl)) (by decide) (by decide +kernel) (by rfl) (by rfl)) ev_int (by rfl)) (by decide))
  evSs_nil))
theorem sc__law_generator : FnScope N__law_generator ps__law_generator (defScope s__law_generator) := ⟨rfl, rfl, rfl, by decide +kernel, rfl, by decide +kernel, by decide +kernel⟩
theorem bp__law_generator : BindP "_law_generator" (defArgs s__law_generator) (defBody s__law_generator) (defScope s__law_generator) ps__law_generator := (fun _ _ _ _ _ _ us hl => match us, hl with | [_, _], _ => rfl)
theorem h__law_generator (B : Bk K mg) : HasFull P w K mg base 2 "_law_generator" (defArgs s__law_generator) (defBody s__law_generator) (defScope s__law_generator) ps__law_generator own__law_generator (.ls .sh) c__law_generator := has_full (N := N__law_generator) (own := own__law_generator) (τ' := own__law_generator ++ List.replicate 1 .sh) (k := 1) (fb := fb__law_generator) B.d__law_generator sc__law_generator rfl (by decide) (by decide) bp__law_generator fun X hX => (evSs_cons (xS_set (i := 2) hX (by rfl) (by decide +kernel) (by decide +kernel) (by decide) (by decide) (x_call hX ((h__law_cell B).fn) l__law_cell (by omega) rfl (by decide +kernel) (evL_cons (x_var (i := 0) hX (by rfl) (by decide +kernel) (by rfl) (by decide +kernel)) (evL_cons (x_var (i := 1) hX (by rfl) (by decide +kernel) (by rfl) (by decide +kernel)) evL_nil (by rfl)) (by rfl)) (by decide +kernel) (by rfl) (by rfl)) (by rfl))
  (evSs_cons (xS_ret (ev_lst (t := .sh) (evL_cons (ev_bin b_mod (x_callTy hX c_int (by decide +kernel) B.f_int (by rfl) (evQ_cons (x_callB hX (c_max2 hX.calm) (by decide +kernel) B.f_max (by rfl) (evQ_cons (ev_bin b_sub (x_var (i := 2) hX (by rfl) (by decide +kernel) (by rfl) (by decide +kernel)) (ev_bin b_pow ev_int ev_int (by rfl)) (by rfl)) (evQ_cons ev_int evQ_nil (by rfl) (by rfl)) (by rfl) (by rfl)) (by decide) (by decide +kernel) (by rfl) (by rfl)) evQ_nil (by rfl) (by rfl)) (by decide) (by decide +kernel) (by rfl) (by rfl)) (ev_bin b_pow (ev_bin b_pow ev_int ev_int (by rfl)) ev_int (by rfl)) (by rfl)) (evL_cons (ev_bin b_mod (x_callTy hX c_int (by decide +kernel) B.f_int (by rfl) (evQ_cons (x_var (i := 2) hX (by rfl) (by decide +kernel) (by rfl) (by decide +kernel)) evQ_nil (by rfl) (by rfl)) (by decide) (by decide +kernel) (by rfl) (by rfl)) ev_int (by rfl)) (evL_cons (ev_bin b_mul ev_int (x_var (i := 1) hX (by rfl) (by decide +kernel) (by rfl) (by decide +kernel)) (by rfl)) evL_nil (by rfl)) (by rfl)) (by rfl))) (by decide))
  evSs_nil))
theorem sc__law_pick : FnScope N__law_pick ps__law_pick (defScope s__law_pick) := ⟨rfl, rfl, rfl, by decide +kernel, rfl, by decide +kernel, by decide +kernel⟩
theorem bp__law_pick : BindP "_law_pick" (defArgs s__law_pick) (defBody s__law_pick) (defScope s__law_pick) ps__law_pick := (fun _ _ _ _ _ _ us hl => match us, hl with | [_, _], _ => rfl)
theorem h__law_pick (B : Bk K mg) : HasFull P w K mg base 3 "_law_pick" (defArgs s__law_pick) (defBody s__law_pick) (defScope s__law_pick) ps__law_pick own__law_pick .sh c__law_pick := has_full (N := N__law_pick) (own := own__law_pick) (τ' := own__law_pick ++ List.replicate 0 .sh) (k := 2) (fb := fb__law_pick) B.d__law_pick sc__law_pick rfl (by decide) (by decide) bp__law_pick fun X hX => (evSs_cons (xS_ret (ev_ix ix_data (x_var (i := 1) hX (by rfl) (by decide +kernel) (by rfl) (by decide +kernel)) (x_lend (n := 1) (j := 0) hX ((h__law_random B).fn) l__law_random (by omega) (by decide +kernel) (by rfl) (by decide +kernel) (by decide +kernel) (by rfl) (evL_cons (x_callB hX c_len (by decide +kernel) B.f_len (by rfl) (evQ_cons (x_var (i := 1) hX (by rfl) (by decide +kernel) (by rfl) (by decide +kernel)) evQ_nil (by rfl) (by rfl)) (by decide) (by decide +kernel) (by rfl) (by rfl)) evL_nil (by rfl)) (by decide +kernel) (by rfl) (by rfl)) (by rfl) (fun _ _ => rfl)) (by decide))
  evSs_nil)
theorem sc__law_exact : FnScope N__law_exact ps__law_exact (defScope s__law_exact) := ⟨rfl, rfl, rfl, by decide +kernel, rfl, by decide +kernel, by decide +kernel⟩
theorem bp__law_exact : BindP "_law_exact" (defArgs s__law_exact) (defBody s__law_exact) (defScope s__law_exact) ps__law_exact := (fun _ _ _ _ _ _ us hl => match us, hl with | [_, _], _ => rfl)
theorem h__law_exact (B : Bk K mg) : ∀ n, HasFull P w K mg base (1 + n) "_law_exact" (defArgs s__law_exact) (defBody s__law_exact) (defScope s__law_exact) ps__law_exact own__law_exact .sh (c__law_exact n)
  | 0 => has_none (k := 0) B.d__law_exact sc__law_exact rfl (by decide) bp__law_exact
  | n + 1 => by
    have ih := h__law_exact B n
    exact has_full (N := N__law_exact) (own := own__law_exact) (τ' := own__law_exact ++ List.replicate 2 .sh) (k := 1 + n) (fb := fb__law_exact n (c__law_exact n)) B.d__law_exact sc__law_exact rfl (by decide) (by decide) bp__law_exact fun X hX => (evSs_cons (evS_if (evT_val (x_isi2 (T := "list") (U := "tuple") hX (by decide +kernel) B.f_isinstance (by decide +kernel) B.f_list (by rfl) (by decide) (by decide +kernel) (by decide +kernel) B.f_tuple (by rfl) (by decide) (by decide +kernel) (x_var (i := 1) hX (by rfl) (by decide +kernel) (by rfl) (by decide +kernel)) (by rfl)) (by intro _; rfl)) (evSs_cons (evS_if (PW.pt (evT_or (evT_cmp (b_ne hX.r64) (x_isi (T := "list") hX (by decide +kernel) B.f_isinstance (by decide +kernel) B.f_list (by rfl) (by decide) (by decide +kernel) (x_var (i := 0) hX (by rfl) (by decide +kernel) (by rfl) (by decide +kernel)) (by rfl)) (x_isi (T := "list") hX (by decide +kernel) B.f_isinstance (by decide +kernel) B.f_list (by rfl) (by decide) (by decide +kernel) (x_var (i := 1) hX (by rfl) (by decide +kernel) (by rfl) (by decide +kernel)) (by rfl)) (by rfl) (by rfl)) (evT_or1 (evT_cmp (b_ne hX.r64) (x_isi (T := "tuple") hX (by decide +kernel) B.f_isinstance (by decide +kernel) B.f_tuple (by rfl) (by decide) (by decide +kernel) (x_var (i := 0) hX (by rfl) (by decide +kernel) (by rfl) (by decide +kernel)) (by rfl)) (x_isi (T := "tuple") hX (by decide +kernel) B.f_isinstance (by decide +kernel) B.f_tuple (by rfl) (by decide) (by decide +kernel) (x_var (i := 1) hX (by rfl) (by decide +kernel) (by rfl) (by decide +kernel)) (by rfl)) (by rfl) (by rfl))))) (evSs_cons (xS_ret ev_bool (by decide))
  evSs_nil) evSs_nil)
  (evSs_cons (xS_ret (ev_and (ev_cmp (b_eq hX.r64) (x_callB hX c_len (by decide +kernel) B.f_len (by rfl) (evQ_cons (x_var (i := 0) hX (by rfl) (by decide +kernel) (by rfl) (by decide +kernel)) evQ_nil (by rfl) (by rfl)) (by decide) (by decide +kernel) (by rfl) (by rfl)) (x_callB hX c_len (by decide +kernel) B.f_len (by rfl) (evQ_cons (x_var (i := 1) hX (by rfl) (by decide +kernel) (by rfl) (by decide +kernel)) evQ_nil (by rfl) (by rfl)) (by decide) (by decide +kernel) (by rfl) (by rfl)) (by rfl) (by rfl)) (ev_one (x_callB hX (c_all hX.calm) (by decide +kernel) B.f_all (by rfl) (evQ_cons (x_lc (pc := true) (pe := true) (own := [("at", 2), ("part", 3)]) hX (xI_enumB hX (by decide +kernel) B.f_enumerate (evL_cons (x_var (i := 1) hX (by rfl) (by decide +kernel) (by rfl) (by decide +kernel)) evL_nil (by rfl)) (by rfl)) (by decide +kernel) (by decide) (by decide) (by decide) (fun Y hY1 => (xG_tup hY1 (evGs_cons (xG_name (i := 2) hY1 (by rfl) (by decide +kernel) (by decide +kernel) (by rfl)) (evGs_cons (xG_name (i := 3) hY1 (by rfl) (by decide +kernel) (by decide +kernel) (by rfl)) evGs_nil (by rfl)) (by rfl)) (by rfl) (by rfl))) (fun Y hY1 => evTs_nil) (fun Y hY1 => (x_call hY1 (ih.fn) (l__law_exact n) (by omega) rfl (by decide +kernel) (evL_cons (ev_ix ix_data (x_var (i := 0) hY1 (by rfl) (by decide +kernel) (by rfl) (by decide +kernel)) (x_var (i := 2) hY1 (by rfl) (by decide +kernel) (by rfl) (by decide +kernel)) (by rfl) (fun _ _ => rfl)) (evL_cons (x_var (i := 3) hY1 (by rfl) (by decide +kernel) (by rfl) (by decide +kernel)) evL_nil (by rfl)) (by rfl)) (by decide +kernel) (by rfl) (by rfl))) (by intro _; rfl)) evQ_nil (by rfl) (by rfl)) (by decide) (by decide +kernel) (by rfl) (by rfl)))) (by decide))
  evSs_nil)) evSs_nil)
  (evSs_cons (evS_if (evT_val (x_isi (T := "str") hX (by decide +kernel) B.f_isinstance (by decide +kernel) B.f_str (by rfl) (by decide) (by decide +kernel) (x_var (i := 1) hX (by rfl) (by decide +kernel) (by rfl) (by decide +kernel)) (by rfl)) (by intro _; rfl)) (evSs_cons (xS_ret (ev_and (x_isi (T := "str") hX (by decide +kernel) B.f_isinstance (by decide +kernel) B.f_str (by rfl) (by decide) (by decide +kernel) (x_var (i := 0) hX (by rfl) (by decide +kernel) (by rfl) (by decide +kernel)) (by rfl)) (ev_one (ev_cmp (b_eq hX.r64) (x_var (i := 0) hX (by rfl) (by decide +kernel) (by rfl) (by decide +kernel)) (x_var (i := 1) hX (by rfl) (by decide +kernel) (by rfl) (by decide +kernel)) (by rfl) (by rfl)))) (by decide))
  evSs_nil) evSs_nil)
  (evSs_cons (evS_if (evT_val (x_isi (T := "bool") hX (by decide +kernel) B.f_isinstance (by decide +kernel) B.f_bool (by rfl) (by decide) (by decide +kernel) (x_var (i := 1) hX (by rfl) (by decide +kernel) (by rfl) (by decide +kernel)) (by rfl)) (by intro _; rfl)) (evSs_cons (xS_ret (ev_and (x_isi (T := "bool") hX (by decide +kernel) B.f_isinstance (by decide +kernel) B.f_bool (by rfl) (by decide) (by decide +kernel) (x_var (i := 0) hX (by rfl) (by decide +kernel) (by rfl) (by decide +kernel)) (by rfl)) (ev_one (ev_cmp (b_eq hX.r64) (x_var (i := 0) hX (by rfl) (by decide +kernel) (by rfl) (by decide +kernel)) (x_var (i := 1) hX (by rfl) (by decide +kernel) (by rfl) (by decide +kernel)) (by rfl) (by rfl)))) (by decide))
  evSs_nil) evSs_nil)
  (evSs_cons (evS_if (evT_val (x_isi (T := "int") hX (by decide +kernel) B.f_isinstance (by decide +kernel) B.f_int (by rfl) (by decide) (by decide +kernel) (x_var (i := 1) hX (by rfl) (by decide +kernel) (by rfl) (by decide +kernel)) (by rfl)) (by intro _; rfl)) (evSs_cons (xS_ret (ev_and (x_isi (T := "int") hX (by decide +kernel) B.f_isinstance (by decide +kernel) B.f_int (by rfl) (by decide) (by decide +kernel) (x_var (i := 0) hX (by rfl) (by decide +kernel) (by rfl) (by decide +kernel)) (by rfl)) (ev_and (ev_not (x_isi (T := "bool") hX (by decide +kernel) B.f_isinstance (by decide +kernel) B.f_bool (by rfl) (by decide) (by decide +kernel) (x_var (i := 0) hX (by rfl) (by decide +kernel) (by rfl) (by decide +kernel)) (by rfl))) (ev_one (ev_cmp (b_eq hX.r64) (x_var (i := 0) hX (by rfl) (by decide +kernel) (by rfl) (by decide +kernel)) (x_var (i := 1) hX (by rfl) (by decide +kernel) (by rfl) (by decide +kernel)) (by rfl) (by rfl))))) (by decide))
  evSs_nil) evSs_nil)
  (evSs_cons (evS_if (evT_val (x_isi (T := "dict") hX (by decide +kernel) B.f_isinstance (by decide +kernel) B.f_dict (by rfl) (by decide) (by decide +kernel) (x_var (i := 1) hX (by rfl) (by decide +kernel) (by rfl) (by decide +kernel)) (by rfl)) (by intro _; rfl)) (evSs_cons (xS_ret (ev_and (x_isi (T := "dict") hX (by decide +kernel) B.f_isinstance (by decide +kernel) B.f_dict (by rfl) (by decide) (by decide +kernel) (x_var (i := 0) hX (by rfl) (by decide +kernel) (by rfl) (by decide +kernel)) (by rfl)) (ev_one (x_call hX (ih.fn) (l__law_exact n) (by omega) rfl (by decide +kernel) (evL_cons (EvM.toSh (ev_listItems hX.calm (x_var (i := 0) hX (by rfl) (by decide +kernel) (by rfl) (by decide +kernel)) (hX.gl (by decide +kernel)) (hX.mg' B.f_list) (by rfl) (by rfl) (by rfl))) (evL_cons (EvM.toSh (ev_listItems hX.calm (x_var (i := 1) hX (by rfl) (by decide +kernel) (by rfl) (by decide +kernel)) (hX.gl (by decide +kernel)) (hX.mg' B.f_list) (by rfl) (by rfl) (by rfl))) evL_nil (by rfl)) (by rfl)) (by decide +kernel) (by rfl) (by rfl)))) (by decide))
  evSs_nil) evSs_nil)
  (evSs_cons (xS_ret (ev_and (ev_cmp b_isN (x_var (i := 0) hX (by rfl) (by decide +kernel) (by rfl) (by decide +kernel)) ev_none (by rfl) (by rfl)) (ev_one (ev_cmp b_isN (x_var (i := 1) hX (by rfl) (by decide +kernel) (by rfl) (by decide +kernel)) ev_none (by rfl) (by rfl)))) (by decide))
  evSs_nil))))))
theorem sc__law_copied : FnScope N__law_copied ps__law_copied (defScope s__law_copied) := ⟨rfl, rfl, rfl, by decide +kernel, rfl, by decide +kernel, by decide +kernel⟩
theorem bp__law_copied : BindP "_law_copied" (defArgs s__law_copied) (defBody s__law_copied) (defScope s__law_copied) ps__law_copied := (fun _ _ _ _ _ _ us hl => match us, hl with | [_], _ => rfl)
theorem h__law_copied (B : Bk K mg) : ∀ n, HasFull P w K mg base (1 + n) "_law_copied" (defArgs s__law_copied) (defBody s__law_copied) (defScope s__law_copied) ps__law_copied own__law_copied .sh (c__law_copied n)
  | 0 => has_none (k := 0) B.d__law_copied sc__law_copied rfl (by decide) bp__law_copied
  | n + 1 => by
    have ih := h__law_copied B n
    exact has_full (N := N__law_copied) (own := own__law_copied) (τ' := own__law_copied ++ List.replicate 2 .sh) (k := 1 + n) (fb := fb__law_copied n (c__law_copied n)) B.d__law_copied sc__law_copied rfl (by decide) (by decide) bp__law_copied fun X hX => (evSs_cons (evS_if (evT_val (x_isi (T := "list") hX (by decide +kernel) B.f_isinstance (by decide +kernel) B.f_list (by rfl) (by decide) (by decide +kernel) (x_var (i := 0) hX (by rfl) (by decide +kernel) (by rfl) (by decide +kernel)) (by rfl)) (by intro _; rfl)) (evSs_cons (xS_ret (EvM.toSh (x_lc (pc := true) (pe := true) (own := [("part", 1)]) hX (xI_any (x_var (i := 0) hX (by rfl) (by decide +kernel) (by rfl) (by decide +kernel))) (by decide +kernel) (by decide) (by decide) (by decide) (fun Y hY1 => (xG_name (i := 1) hY1 (by rfl) (by decide +kernel) (by decide +kernel) (by rfl))) (fun Y hY1 => evTs_nil) (fun Y hY1 => (x_call hY1 (ih.fn) (l__law_copied n) (by omega) rfl (by decide +kernel) (evL_cons (x_var (i := 1) hY1 (by rfl) (by decide +kernel) (by rfl) (by decide +kernel)) evL_nil (by rfl)) (by decide +kernel) (by rfl) (by rfl))) (by intro _; rfl))) (by decide))
  evSs_nil) evSs_nil)
  (evSs_cons (evS_if (evT_val (x_isi (T := "dict") hX (by decide +kernel) B.f_isinstance (by decide +kernel) B.f_dict (by rfl) (by decide) (by decide +kernel) (x_var (i := 0) hX (by rfl) (by decide +kernel) (by rfl) (by decide +kernel)) (by rfl)) (by intro _; rfl)) (evSs_cons (xS_ret (EvM.toSh (x_callTy hX (c_dict hX.calm) (by decide +kernel) B.f_dict (by rfl) (evQ_cons (x_lcD (pc := true) (pe := true) (i := 0) (own := [("key", 2)]) hX (by rfl) (by decide +kernel) (by rfl) (by decide +kernel) (by decide +kernel) (by decide) (by decide) (fun Y hY1 => (xG_name (i := 2) hY1 (by rfl) (by decide +kernel) (by decide +kernel) (by rfl))) (fun Y hY1 => evTs_nil) (fun Y hY1 => (ev_tup (evL_cons (x_var (i := 2) hY1 (by rfl) (by decide +kernel) (by rfl) (by decide +kernel)) (evL_cons (x_call hY1 (ih.fn) (l__law_copied n) (by omega) rfl (by decide +kernel) (evL_cons (ev_dix hY1.r1 (x_var (i := 0) hY1 (by rfl) (by decide +kernel) (by rfl) (by decide +kernel)) (x_var (i := 2) hY1 (by rfl) (by decide +kernel) (by rfl) (by decide +kernel)) (by rfl) (fun _ _ => rfl)) evL_nil (by rfl)) (by decide +kernel) (by rfl) (by rfl)) evL_nil (by rfl)) (by rfl)))) (by intro _; rfl)) evQ_nil (by rfl) (by rfl)) (by decide) (by decide +kernel) (by rfl) (by rfl))) (by decide))
  evSs_nil) evSs_nil)
  (evSs_cons (xS_ret (ev_ite (evT_val (x_isi (T := "tuple") hX (by decide +kernel) B.f_isinstance (by decide +kernel) B.f_tuple (by rfl) (by decide) (by decide +kernel) (x_var (i := 0) hX (by rfl) (by decide +kernel) (by rfl) (by decide +kernel)) (by rfl)) (by intro _; rfl)) (x_callTy hX c_tuple (by decide +kernel) B.f_tuple (by rfl) (evQ_cons (x_lc (pc := true) (pe := true) (own := [("part", 1)]) hX (xI_any (x_var (i := 0) hX (by rfl) (by decide +kernel) (by rfl) (by decide +kernel))) (by decide +kernel) (by decide) (by decide) (by decide) (fun Y hY1 => (xG_name (i := 1) hY1 (by rfl) (by decide +kernel) (by decide +kernel) (by rfl))) (fun Y hY1 => evTs_nil) (fun Y hY1 => (x_call hY1 (ih.fn) (l__law_copied n) (by omega) rfl (by decide +kernel) (evL_cons (x_var (i := 1) hY1 (by rfl) (by decide +kernel) (by rfl) (by decide +kernel)) evL_nil (by rfl)) (by decide +kernel) (by rfl) (by rfl))) (by intro _; rfl)) evQ_nil (by rfl) (by rfl)) (by decide) (by decide +kernel) (by rfl) (by rfl)) (x_var (i := 0) hX (by rfl) (by decide +kernel) (by rfl) (by decide +kernel))) (by decide))
  evSs_nil)))
theorem sc__law_drawn_web : FnScope N__law_drawn_web ps__law_drawn_web (defScope s__law_drawn_web) := ⟨rfl, rfl, rfl, by decide +kernel, rfl, by decide +kernel, by decide +kernel⟩
theorem bp__law_drawn_web : BindP "_law_drawn_web" (defArgs s__law_drawn_web) (defBody s__law_drawn_web) (defScope s__law_drawn_web) ps__law_drawn_web := (fun _ _ _ _ _ _ us hl => match us, hl with | [_, _, _, _], _ => rfl)
theorem h__law_drawn_web (B : Bk K mg) : HasFull P w K mg base 4 "_law_drawn_web" (defArgs s__law_drawn_web) (defBody s__law_drawn_web) (defScope s__law_drawn_web) ps__law_drawn_web own__law_drawn_web .sh c__law_drawn_web := has_full (N := N__law_drawn_web) (own := own__law_drawn_web) (τ' := own__law_drawn_web ++ List.replicate 8 .sh) (k := 3) (fb := fb__law_drawn_web) B.d__law_drawn_web sc__law_drawn_web rfl (by decide) (by decide) bp__law_drawn_web fun X hX => (evSs_cons (xS_set (i := 4) hX (by rfl) (by decide +kernel) (by decide +kernel) (by decide) (by decide) (ev_bin b_add ev_int (x_lend (n := 1) (j := 0) hX ((h__law_random B).fn) l__law_random (by omega) (by decide +kernel) (by rfl) (by decide +kernel) (by decide +kernel) (by rfl) (evL_cons (x_var (i := 1) hX (by rfl) (by decide +kernel) (by rfl) (by decide +kernel)) evL_nil (by rfl)) (by decide +kernel) (by rfl) (by rfl)) (by rfl)) (by rfl))
  (evSs_cons (xS_setLc (i := 5) (pc := true) (pe := false) (own := [("spot", 7)]) hX (xI_rng1 hX (by decide +kernel) B.f_range (evQ_cons (x_var (i := 4) hX (by rfl) (by decide +kernel) (by rfl) (by decide +kernel)) evQ_nil (by rfl) (by rfl)) (by rfl)) (by rfl) (by decide +kernel) (by decide +kernel) (by decide) (notIn_ok (by decide)) (by decide +kernel) (by decide) (by decide) (by decide) (fun Y hY1 => (xG_name (i := 7) hY1 (by rfl) (by decide +kernel) (by decide +kernel) (by rfl))) (fun Y hY1 => evTs_nil) (fun Y hY1 => (EvM.toSh (x_callB hY1 (c_sorted hY1.r64) (by decide +kernel) B.f_sorted (by rfl) (evQ_cons (x_lc (pc := false) (pe := true) (own := [("word", 6)]) hY1 (xI_any (x_var (i := 2) hY1 (by rfl) (by decide +kernel) (by rfl) (by decide +kernel))) (by decide +kernel) (by decide) (by decide) (by decide) (fun Y hY2 => (xG_name (i := 6) hY2 (by rfl) (by decide +kernel) (by decide +kernel) (by rfl))) (fun Y hY2 => (evTs_one (evT_cmp (b_eq hY2.r64) (x_lend (n := 1) (j := 0) hY2 ((h__law_random B).fn) l__law_random (by omega) (by decide +kernel) (by rfl) (by decide +kernel) (by decide +kernel) (by rfl) (evL_cons ev_int evL_nil (by rfl)) (by decide +kernel) (by rfl) (by rfl)) ev_int (by rfl) (by rfl)))) (fun Y hY2 => (x_var (i := 6) hY2 (by rfl) (by decide +kernel) (by rfl) (by decide +kernel))) (by intro _; rfl)) evQ_nil (by rfl) (by rfl)) (by decide) (by decide +kernel) (by rfl) (by rfl)))) (by intro _; rfl))
  (evSs_frz (i := 5) (notIn_ok (by decide)) (by decide) (evSs_cons (xS_set (i := 8) hX (by rfl) (by decide +kernel) (by decide +kernel) (by decide) (by decide) (ev_lst (t := .sh) evL_nil) (by rfl))
  (evSs_cons (xS_for hX (xI_rng1 hX (by decide +kernel) B.f_range (evQ_cons (x_lend (n := 1) (j := 0) hX ((h__law_random B).fn) l__law_random (by omega) (by decide +kernel) (by rfl) (by decide +kernel) (by decide +kernel) (by rfl) (evL_cons (ev_bin b_add (ev_bin b_mul ev_int (x_var (i := 4) hX (by rfl) (by decide +kernel) (by rfl) (by decide +kernel)) (by rfl)) ev_int (by rfl)) evL_nil (by rfl)) (by decide +kernel) (by rfl) (by rfl)) evQ_nil (by rfl) (by rfl)) (by rfl)) (xG_name (i := 9) hX (by rfl) (by decide +kernel) (by decide +kernel) (by rfl)) (evSs_cons (xS_append (i := 8) hX (by rfl) (by decide +kernel) (by decide +kernel) (by rfl) (by decide) (ev_tup (evL_cons (x_lend (n := 1) (j := 0) hX ((h__law_random B).fn) l__law_random (by omega) (by decide +kernel) (by rfl) (by decide +kernel) (by decide +kernel) (by rfl) (evL_cons (x_var (i := 4) hX (by rfl) (by decide +kernel) (by rfl) (by decide +kernel)) evL_nil (by rfl)) (by decide +kernel) (by rfl) (by rfl)) (evL_cons (x_lend (n := 1) (j := 0) hX ((h__law_pick B).fn) l__law_pick (by omega) (by decide +kernel) (by rfl) (by decide +kernel) (by decide +kernel) (by rfl) (evL_cons (x_var (i := 3) hX (by rfl) (by decide +kernel) (by rfl) (by decide +kernel)) evL_nil (by rfl)) (by decide +kernel) (by rfl) (by rfl)) (evL_cons (x_lend (n := 1) (j := 0) hX ((h__law_random B).fn) l__law_random (by omega) (by decide +kernel) (by rfl) (by decide +kernel) (by decide +kernel) (by rfl) (evL_cons (x_var (i := 4) hX (by rfl) (by decide +kernel) (by rfl) (by decide +kernel)) evL_nil (by rfl)) (by decide +kernel) (by rfl) (by rfl)) evL_nil (by rfl)) (by rfl)) (by rfl))) (by rfl) (by rfl) (by rfl) (by rfl))
  evSs_nil) (by intro _; rfl))
  (evSs_cons (xS_ret (ev_tup (evL_cons (x_var (i := 5) hX (by rfl) (by decide +kernel) (by rfl) (by decide +kernel)) (evL_cons (EvM.toSh (x_callB hX (c_sorted hX.r64) (by decide +kernel) B.f_sorted (by rfl) (evQ_cons (x_lc (pc := true) (pe := true) (own := [("at", 10), ("one", 11)]) hX (xI_enum hX (by decide +kernel) B.f_enumerate (evQ_cons (x_own (i := 8) hX (by rfl) (by decide +kernel) (by rfl) (by decide +kernel)) evQ_nil (by rfl) (by rfl)) (by rfl)) (by decide +kernel) (by decide) (by decide) (by decide) (fun Y hY1 => (xG_tup hY1 (evGs_cons (xG_name (i := 10) hY1 (by rfl) (by decide +kernel) (by decide +kernel) (by rfl)) (evGs_cons (xG_name (i := 11) hY1 (by rfl) (by decide +kernel) (by decide +kernel) (by rfl)) evGs_nil (by rfl)) (by rfl)) (by rfl) (by rfl))) (fun Y hY1 => (evTs_one (evT_cmp (b_notIn hY1.r65) (x_var (i := 11) hY1 (by rfl) (by decide +kernel) (by rfl) (by decide +kernel)) (ev_slice (x_own (i := 8) hY1 (by rfl) (by decide +kernel) (by rfl) (by decide +kernel)) evO_none (evO_some (x_var (i := 10) hY1 (by rfl) (by decide +kernel) (by rfl) (by decide +kernel)))) (by rfl) (by rfl)))) (fun Y hY1 => (x_var (i := 11) hY1 (by rfl) (by decide +kernel) (by rfl) (by decide +kernel))) (by intro _; rfl)) evQ_nil (by rfl) (by rfl)) (by decide) (by decide +kernel) (by rfl) (by rfl))) evL_nil (by rfl)) (by rfl))) (by decide))
  evSs_nil))))))
theorem sc__law_far : FnScope N__law_far ps__law_far (defScope s__law_far) := ⟨rfl, rfl, rfl, by decide +kernel, rfl, by decide +kernel, by decide +kernel⟩
theorem bp__law_far : BindP "_law_far" (defArgs s__law_far) (defBody s__law_far) (defScope s__law_far) ps__law_far := (fun _ _ _ _ _ _ us hl => match us, hl with | [_, _, _], _ => rfl)
theorem h__law_far (B : Bk K mg) : HasFull P w K mg base 1 "_law_far" (defArgs s__law_far) (defBody s__law_far) (defScope s__law_far) ps__law_far own__law_far (.ls .sh) c__law_far := has_full (N := N__law_far) (own := own__law_far) (τ' := own__law_far ++ List.replicate 1 .sh) (k := 0) (fb := fb__law_far) B.d__law_far sc__law_far rfl (by decide) (by decide) bp__law_far fun X hX => (evSs_cons (xS_ret (x_lc (pc := true) (pe := true) (own := [("row", 3)]) hX (xI_any (ev_ix ix_data (x_var (i := 0) hX (by rfl) (by decide +kernel) (by rfl) (by decide +kernel)) ev_int (by rfl) (fun _ _ => rfl))) (by decide +kernel) (by decide) (by decide) (by decide) (fun Y hY1 => (xG_name (i := 3) hY1 (by rfl) (by decide +kernel) (by decide +kernel) (by rfl))) (fun Y hY1 => (evTs_one (PW.pt (evT_and (evT_cmp (b_eq hY1.r64) (ev_ix ix_data (x_var (i := 3) hY1 (by rfl) (by decide +kernel) (by rfl) (by decide +kernel)) ev_int (by rfl) (fun _ _ => rfl)) (x_var (i := 1) hY1 (by rfl) (by decide +kernel) (by rfl) (by decide +kernel)) (by rfl) (by rfl)) (evT_and1 (evT_cmp (b_in hY1.r65) (x_var (i := 2) hY1 (by rfl) (by decide +kernel) (by rfl) (by decide +kernel)) (ev_tup (evL_cons ev_str (evL_cons (ev_ix ix_data (x_var (i := 3) hY1 (by rfl) (by decide +kernel) (by rfl) (by decide +kernel)) ev_int (by rfl) (fun _ _ => rfl)) evL_nil (by rfl)) (by rfl))) (by rfl) (by rfl))))))) (fun Y hY1 => (ev_ix ix_data (x_var (i := 3) hY1 (by rfl) (by decide +kernel) (by rfl) (by decide +kernel)) ev_int (by rfl) (fun _ _ => rfl))) (by intro _; rfl)) (by decide))
  evSs_nil)
theorem sc__law_long_web : FnScope N__law_long_web ps__law_long_web (defScope s__law_long_web) := ⟨rfl, rfl, rfl, by decide +kernel, rfl, by decide +kernel, by decide +kernel⟩
theorem bp__law_long_web : BindP "_law_long_web" (defArgs s__law_long_web) (defBody s__law_long_web) (defScope s__law_long_web) ps__law_long_web := (fun _ _ _ _ _ _ us hl => match us, hl with | [_], _ => rfl)
theorem h__law_long_web (B : Bk K mg) : HasFull P w K mg base 5 "_law_long_web" (defArgs s__law_long_web) (defBody s__law_long_web) (defScope s__law_long_web) ps__law_long_web own__law_long_web .sh c__law_long_web := has_full (N := N__law_long_web) (own := own__law_long_web) (τ' := own__law_long_web ++ List.replicate 6 .sh) (k := 4) (fb := fb__law_long_web) B.d__law_long_web sc__law_long_web rfl (by decide) (by decide) bp__law_long_web fun X hX => (evSs_cons (xS_set (i := 1) hX (by rfl) (by decide +kernel) (by decide +kernel) (by decide) (by decide) (x_lend (n := 3) (j := 0) hX ((h__law_drawn_web B).fn) l__law_drawn_web (by omega) (by decide +kernel) (by rfl) (by decide +kernel) (by decide +kernel) (by rfl) (evL_cons ev_int (evL_cons (EvM.toSh (ev_lst (t := .sh) (evL_cons ev_str evL_nil (by rfl)))) (evL_cons (EvM.toSh (ev_lst (t := .sh) (evL_cons ev_str (evL_cons ev_str evL_nil (by rfl)) (by rfl)))) evL_nil (by rfl)) (by rfl)) (by rfl)) (by decide +kernel) (by rfl) (by rfl)) (by rfl))
  (evSs_cons (xS_set (i := 2) hX (by rfl) (by decide +kernel) (by decide +kernel) (by decide) (by decide) (x_callB hX c_len (by decide +kernel) B.f_len (by rfl) (evQ_cons (ev_ix ix_data (x_var (i := 1) hX (by rfl) (by decide +kernel) (by rfl) (by decide +kernel)) ev_int (by rfl) (fun _ _ => rfl)) evQ_nil (by rfl) (by rfl)) (by decide) (by decide +kernel) (by rfl) (by rfl)) (by rfl))
  (evSs_cons (xS_set (i := 3) hX (by rfl) (by decide +kernel) (by decide +kernel) (by decide) (by decide) (x_lc (pc := false) (pe := true) (own := [("spot", 4)]) hX (xI_rng1 hX (by decide +kernel) B.f_range (evQ_cons (ev_bin b_sub (x_var (i := 2) hX (by rfl) (by decide +kernel) (by rfl) (by decide +kernel)) ev_int (by rfl)) evQ_nil (by rfl) (by rfl)) (by rfl)) (by decide +kernel) (by decide) (by decide) (by decide) (fun Y hY1 => (xG_name (i := 4) hY1 (by rfl) (by decide +kernel) (by decide +kernel) (by rfl))) (fun Y hY1 => (evTs_one (evT_cmp (b_gt hY1.r64) (x_lend (n := 1) (j := 0) hY1 ((h__law_random B).fn) l__law_random (by omega) (by decide +kernel) (by rfl) (by decide +kernel) (by decide +kernel) (by rfl) (evL_cons ev_int evL_nil (by rfl)) (by decide +kernel) (by rfl) (by rfl)) ev_int (by rfl) (by rfl)))) (fun Y hY1 => (ev_tup (evL_cons (x_var (i := 4) hY1 (by rfl) (by decide +kernel) (by rfl) (by decide +kernel)) (evL_cons ev_str (evL_cons (ev_bin b_add (x_var (i := 4) hY1 (by rfl) (by decide +kernel) (by rfl) (by decide +kernel)) ev_int (by rfl)) evL_nil (by rfl)) (by rfl)) (by rfl)))) (by intro _; rfl)) (sw_cell hX (by decide +kernel)))
  (evSs_cons (evS_if (evT_cmp (b_eq hX.r64) (x_lend (n := 1) (j := 0) hX ((h__law_random B).fn) l__law_random (by omega) (by decide +kernel) (by rfl) (by decide +kernel) (by decide +kernel) (by rfl) (evL_cons ev_int evL_nil (by rfl)) (by decide +kernel) (by rfl) (by rfl)) ev_int (by rfl) (by rfl)) (evSs_cons (xS_append (i := 3) hX (by rfl) (by decide +kernel) (by decide +kernel) (by rfl) (by decide) (ev_tup (evL_cons (ev_bin b_sub (x_var (i := 2) hX (by rfl) (by decide +kernel) (by rfl) (by decide +kernel)) ev_int (by rfl)) (evL_cons ev_str (evL_cons (x_lend (n := 1) (j := 0) hX ((h__law_random B).fn) l__law_random (by omega) (by decide +kernel) (by rfl) (by decide +kernel) (by decide +kernel) (by rfl) (evL_cons (x_var (i := 2) hX (by rfl) (by decide +kernel) (by rfl) (by decide +kernel)) evL_nil (by rfl)) (by decide +kernel) (by rfl) (by rfl)) evL_nil (by rfl)) (by rfl)) (by rfl))) (by rfl) (by rfl) (by rfl) (by rfl))
  evSs_nil) evSs_nil)
  (evSs_cons (xS_setLc (i := 5) (pc := false) (pe := true) (own := [("one", 6)]) hX (xI_any (ev_ix ix_data (x_var (i := 1) hX (by rfl) (by decide +kernel) (by rfl) (by decide +kernel)) ev_int (by rfl) (fun _ _ => rfl))) (by rfl) (by decide +kernel) (by decide +kernel) (by decide) (notIn_ok (by decide)) (by decide +kernel) (by decide) (by decide) (by decide) (fun Y hY1 => (xG_name (i := 6) hY1 (by rfl) (by decide +kernel) (by decide +kernel) (by rfl))) (fun Y hY1 => (evTs_one (evT_cmp (b_eq hY1.r64) (x_lend (n := 1) (j := 0) hY1 ((h__law_random B).fn) l__law_random (by omega) (by decide +kernel) (by rfl) (by decide +kernel) (by decide +kernel) (by rfl) (evL_cons ev_int evL_nil (by rfl)) (by decide +kernel) (by rfl) (by rfl)) ev_int (by rfl) (by rfl)))) (fun Y hY1 => (x_var (i := 6) hY1 (by rfl) (by decide +kernel) (by rfl) (by decide +kernel))) (by intro _; rfl))
  (evSs_frz (i := 5) (notIn_ok (by decide)) (by decide) (evSs_cons (xS_ret (ev_tup (evL_cons (ev_ix ix_data (x_var (i := 1) hX (by rfl) (by decide +kernel) (by rfl) (by decide +kernel)) ev_int (by rfl) (fun _ _ => rfl)) (evL_cons (EvM.toSh (x_callB hX (c_sorted hX.r64) (by decide +kernel) B.f_sorted (by rfl) (evQ_cons (ev_bin b_add (x_lc (pc := true) (pe := true) (own := [("one", 6)]) hX (xI_any (x_var (i := 5) hX (by rfl) (by decide +kernel) (by rfl) (by decide +kernel))) (by decide +kernel) (by decide) (by decide) (by decide) (fun Y hY1 => (xG_name (i := 6) hY1 (by rfl) (by decide +kernel) (by decide +kernel) (by rfl))) (fun Y hY1 => (evTs_one (evT_cmp (b_notIn hY1.r65) (x_var (i := 6) hY1 (by rfl) (by decide +kernel) (by rfl) (by decide +kernel)) (x_own (i := 3) hY1 (by rfl) (by decide +kernel) (by rfl) (by decide +kernel)) (by rfl) (by rfl)))) (fun Y hY1 => (x_var (i := 6) hY1 (by rfl) (by decide +kernel) (by rfl) (by decide +kernel))) (by intro _; rfl)) (x_own (i := 3) hX (by rfl) (by decide +kernel) (by rfl) (by decide +kernel)) (by rfl)) evQ_nil (by rfl) (by rfl)) (by decide) (by decide +kernel) (by rfl) (by rfl))) evL_nil (by rfl)) (by rfl))) (by decide))
  evSs_nil)))))))
theorem sc__law_behind : FnScope N__law_behind ps__law_behind (defScope s__law_behind) := ⟨rfl, rfl, rfl, by decide +kernel, rfl, by decide +kernel, by decide +kernel⟩
theorem bp__law_behind : BindP "_law_behind" (defArgs s__law_behind) (defBody s__law_behind) (defScope s__law_behind) ps__law_behind := (fun _ _ _ _ _ _ us hl => match us, hl with | [_, _], _ => rfl)
theorem h__law_behind (B : Bk K mg) : HasFull P w K mg base 2 "_law_behind" (defArgs s__law_behind) (defBody s__law_behind) (defScope s__law_behind) ps__law_behind own__law_behind .sh c__law_behind := has_full (N := N__law_behind) (own := own__law_behind) (τ' := own__law_behind ++ List.replicate 3 .sh) (k := 1) (fb := fb__law_behind) B.d__law_behind sc__law_behind rfl (by decide) (by decide) bp__law_behind fun X hX => (evSs_cons (xS_set (i := 2) hX (by rfl) (by decide +kernel) (by decide +kernel) (by decide) (by decide) (ev_lst (t := .sh) (evL_cons (EvM.toSh (ev_lst (t := .sh) (evL_cons (x_var (i := 1) hX (by rfl) (by decide +kernel) (by rfl) (by decide +kernel)) evL_nil (by rfl)))) evL_nil (by rfl))) (by rfl))
  (evSs_cons (xS_for hX (xI_rng1 hX (by decide +kernel) B.f_range (evQ_cons (x_callB hX c_len (by decide +kernel) B.f_len (by rfl) (evQ_cons (ev_ix ix_data (x_var (i := 0) hX (by rfl) (by decide +kernel) (by rfl) (by decide +kernel)) ev_int (by rfl) (fun _ _ => rfl)) evQ_nil (by rfl) (by rfl)) (by decide) (by decide +kernel) (by rfl) (by rfl)) evQ_nil (by rfl) (by rfl)) (by rfl)) (xG_name (i := 3) hX (by rfl) (by decide +kernel) (by decide +kernel) (by rfl)) (evSs_cons (xS_append (i := 2) hX (by rfl) (by decide +kernel) (by decide +kernel) (by rfl) (by decide) (EvM.toSh (x_sortSet hX (by decide +kernel) B.f_sorted (by decide +kernel) B.f_set (evQ_cons (ev_bin b_add (ev_ix ix_data (x_own (i := 2) hX (by rfl) (by decide +kernel) (by rfl) (by decide +kernel)) (ev_neg ev_int) (by rfl) (fun _ _ => rfl)) (x_sumL hX (by decide +kernel) B.f_sum (evL_cons (EvM.toSh (x_lc (pc := true) (pe := true) (own := [("near", 4)]) hX (xI_any (ev_ix ix_data (x_own (i := 2) hX (by rfl) (by decide +kernel) (by rfl) (by decide +kernel)) (ev_neg ev_int) (by rfl) (fun _ _ => rfl))) (by decide +kernel) (by decide) (by decide) (by decide) (fun Y hY1 => (xG_name (i := 4) hY1 (by rfl) (by decide +kernel) (by decide +kernel) (by rfl))) (fun Y hY1 => evTs_nil) (fun Y hY1 => (EvM.toSh (x_call hY1 ((h__law_far B).fn) l__law_far (by omega) rfl (by decide +kernel) (evL_cons (x_var (i := 0) hY1 (by rfl) (by decide +kernel) (by rfl) (by decide +kernel)) (evL_cons (x_var (i := 4) hY1 (by rfl) (by decide +kernel) (by rfl) (by decide +kernel)) (evL_cons ev_str evL_nil (by rfl)) (by rfl)) (by rfl)) (by decide +kernel) (by rfl) (by rfl)))) (by intro _; rfl))) (evL_cons (EvM.toSh (ev_lst (t := .sh) evL_nil)) evL_nil (by rfl)) (by rfl)) (by rfl) (by rfl)) (by rfl)) evQ_nil (by rfl) (by rfl)) (by rfl))) (by rfl) (by rfl) (by rfl) (by rfl))
  evSs_nil) (by intro _; rfl))
  (evSs_frz (i := 2) (notIn_ok (by decide)) (by decide) (evSs_cons (xS_ret (x_var (i := 2) hX (by rfl) (by decide +kernel) (by rfl) (by decide +kernel)) (by decide))
  evSs_nil))))
theorem sc__law_is_way : FnScope N__law_is_way ps__law_is_way (defScope s__law_is_way) := ⟨rfl, rfl, rfl, by decide +kernel, rfl, by decide +kernel, by decide +kernel⟩
theorem bp__law_is_way : BindP "_law_is_way" (defArgs s__law_is_way) (defBody s__law_is_way) (defScope s__law_is_way) ps__law_is_way := (fun _ _ _ _ _ _ us hl => match us, hl with | [_, _, _, _], _ => rfl)
theorem h__law_is_way (B : Bk K mg) : HasFull P w K mg base 14 "_law_is_way" (defArgs s__law_is_way) (defBody s__law_is_way) (defScope s__law_is_way) ps__law_is_way own__law_is_way .sh c__law_is_way := has_full (N := N__law_is_way) (own := own__law_is_way) (τ' := own__law_is_way ++ List.replicate 2 .sh) (k := 13) (fb := fb__law_is_way) B.d__law_is_way sc__law_is_way rfl (by decide) (by decide) bp__law_is_way fun X hX => (evSs_cons (evS_if (PW.pt (evT_or (evT_not (evT_val (x_isi (T := "list") hX (by decide +kernel) B.f_isinstance (by decide +kernel) B.f_list (by rfl) (by decide) (by decide +kernel) (x_var (i := 1) hX (by rfl) (by decide +kernel) (by rfl) (by decide +kernel)) (by rfl)) (by intro _; rfl))) (evT_or (evT_cmp (b_eq hX.r64) (x_var (i := 1) hX (by rfl) (by decide +kernel) (by rfl) (by decide +kernel)) (ev_lst (t := .sh) evL_nil) (by rfl) (by rfl)) (evT_or (evT_cmp (b_ne hX.r64) (ev_ix ix_data (x_var (i := 1) hX (by rfl) (by decide +kernel) (by rfl) (by decide +kernel)) ev_int (by rfl) (fun _ _ => rfl)) (x_var (i := 2) hX (by rfl) (by decide +kernel) (by rfl) (by decide +kernel)) (by rfl) (by rfl)) (evT_or (evT_cmp (b_notIn hX.r65) (ev_ix ix_data (x_var (i := 1) hX (by rfl) (by decide +kernel) (by rfl) (by decide +kernel)) (ev_neg ev_int) (by rfl) (fun _ _ => rfl)) (x_var (i := 3) hX (by rfl) (by decide +kernel) (by rfl) (by decide +kernel)) (by rfl) (by rfl)) (evT_or1 (evT_not (evT_val (x_call hX ((h__law_exact B 12).fn) (l__law_exact 12) (by omega) rfl (by decide +kernel) (evL_cons (x_var (i := 1) hX (by rfl) (by decide +kernel) (by rfl) (by decide +kernel)) (evL_cons (EvM.toSh (x_lc (pc := true) (pe := true) (own := [("one", 4)]) hX (xI_any (x_var (i := 1) hX (by rfl) (by decide +kernel) (by rfl) (by decide +kernel))) (by decide +kernel) (by decide) (by decide) (by decide) (fun Y hY1 => (xG_name (i := 4) hY1 (by rfl) (by decide +kernel) (by decide +kernel) (by rfl))) (fun Y hY1 => evTs_nil) (fun Y hY1 => (x_callTy hY1 c_int (by decide +kernel) B.f_int (by rfl) (evQ_cons (x_var (i := 4) hY1 (by rfl) (by decide +kernel) (by rfl) (by decide +kernel)) evQ_nil (by rfl) (by rfl)) (by decide) (by decide +kernel) (by rfl) (by rfl))) (by intro _; rfl))) evL_nil (by rfl)) (by rfl)) (by decide +kernel) (by rfl) (by rfl)) (by intro _; rfl))))))))) (evSs_cons (xS_ret ev_bool (by decide))
  evSs_nil) evSs_nil)
  (evSs_cons (xS_ret (ev_cmp (b_eq hX.r64) (x_lc (pc := true) (pe := true) (own := [("at", 5)]) hX (xI_rng2 hX (by decide +kernel) B.f_range (evQ_cons ev_int (evQ_cons (x_callB hX c_len (by decide +kernel) B.f_len (by rfl) (evQ_cons (x_var (i := 1) hX (by rfl) (by decide +kernel) (by rfl) (by decide +kernel)) evQ_nil (by rfl) (by rfl)) (by decide) (by decide +kernel) (by rfl) (by rfl)) evQ_nil (by rfl) (by rfl)) (by rfl) (by rfl)) (by rfl) (by rfl)) (by decide +kernel) (by decide) (by decide) (by decide) (fun Y hY1 => (xG_name (i := 5) hY1 (by rfl) (by decide +kernel) (by decide +kernel) (by rfl))) (fun Y hY1 => (evTs_one (evT_cmp (b_notIn hY1.r65) (ev_ix ix_data (x_var (i := 1) hY1 (by rfl) (by decide +kernel) (by rfl) (by decide +kernel)) (x_var (i := 5) hY1 (by rfl) (by decide +kernel) (by rfl) (by decide +kernel)) (by rfl) (fun _ _ => rfl)) (x_call hY1 ((h__law_far B).fn) l__law_far (by omega) rfl (by decide +kernel) (evL_cons (x_var (i := 0) hY1 (by rfl) (by decide +kernel) (by rfl) (by decide +kernel)) (evL_cons (ev_ix ix_data (x_var (i := 1) hY1 (by rfl) (by decide +kernel) (by rfl) (by decide +kernel)) (ev_bin b_sub (x_var (i := 5) hY1 (by rfl) (by decide +kernel) (by rfl) (by decide +kernel)) ev_int (by rfl)) (by rfl) (fun _ _ => rfl)) (evL_cons ev_str evL_nil (by rfl)) (by rfl)) (by rfl)) (by decide +kernel) (by rfl) (by rfl)) (by rfl) (by rfl)))) (fun Y hY1 => (x_var (i := 5) hY1 (by rfl) (by decide +kernel) (by rfl) (by decide +kernel))) (by intro _; rfl)) (ev_lst (t := .sh) evL_nil) (by rfl) (by rfl)) (by decide))
  evSs_nil))
theorem sc__law_web_right : FnScope N__law_web_right ps__law_web_right (defScope s__law_web_right) := ⟨rfl, rfl, rfl, by decide +kernel, rfl, by decide +kernel, by decide +kernel⟩
theorem bp__law_web_right : BindP "_law_web_right" (defArgs s__law_web_right) (defBody s__law_web_right) (defScope s__law_web_right) ps__law_web_right := (fun _ _ _ _ _ _ us hl => match us, hl with | [_, _], _ => rfl)
theorem h__law_web_right (B : Bk K mg) : HasFull P w K mg base 15 "_law_web_right" (defArgs s__law_web_right) (defBody s__law_web_right) (defScope s__law_web_right) ps__law_web_right own__law_web_right .sh c__law_web_right := has_full (N := N__law_web_right) (own := own__law_web_right) (τ' := own__law_web_right ++ List.replicate 16 .sh) (k := 14) (fb := fb__law_web_right) B.d__law_web_right sc__law_web_right rfl (by decide) (by decide) bp__law_web_right fun X hX => (evSs_cons (xS_par (i := 2) (j := 3) hX (by rfl) (by rfl) (by decide) (by decide +kernel) (by decide +kernel) (evL_cons (x_call hX ((h__law_copied B 12).fn) (l__law_copied 12) (by omega) rfl (by decide +kernel) (evL_cons (x_var (i := 1) hX (by rfl) (by decide +kernel) (by rfl) (by decide +kernel)) evL_nil (by rfl)) (by decide +kernel) (by rfl) (by rfl)) (evL_cons (EvM.toSh (x_listRg hX (by decide +kernel) B.f_list (by decide +kernel) B.f_range (x_callB hX c_len (by decide +kernel) B.f_len (by rfl) (evQ_cons (ev_ix ix_data (x_var (i := 1) hX (by rfl) (by decide +kernel) (by rfl) (by decide +kernel)) ev_int (by rfl) (fun _ _ => rfl)) evQ_nil (by rfl) (by rfl)) (by decide) (by decide +kernel) (by rfl) (by rfl)) (by rfl))) evL_nil (by rfl)) (by rfl)) (by rfl) (by rfl) (by rfl) (by rfl))
  (evSs_cons (xS_set (i := 4) hX (by rfl) (by decide +kernel) (by decide +kernel) (by decide) (by decide) (EvM.toSh (x_lc (pc := true) (pe := true) (own := [("spot", 5)]) hX (xI_any (x_var (i := 3) hX (by rfl) (by decide +kernel) (by rfl) (by decide +kernel))) (by decide +kernel) (by decide) (by decide) (by decide) (fun Y hY1 => (xG_name (i := 5) hY1 (by rfl) (by decide +kernel) (by decide +kernel) (by rfl))) (fun Y hY1 => evTs_nil) (fun Y hY1 => (x_call hY1 ((h__law_behind B).fn) l__law_behind (by omega) rfl (by decide +kernel) (evL_cons (x_var (i := 1) hY1 (by rfl) (by decide +kernel) (by rfl) (by decide +kernel)) (evL_cons (x_var (i := 5) hY1 (by rfl) (by decide +kernel) (by rfl) (by decide +kernel)) evL_nil (by rfl)) (by rfl)) (by decide +kernel) (by rfl) (by rfl))) (by intro _; rfl))) (sw_cell hX (by decide +kernel)))
  (evSs_cons (xS_set (i := 6) hX (by rfl) (by decide +kernel) (by decide +kernel) (by decide) (by decide) (EvM.toSh (ev_lst (t := .sh) evL_nil)) (by rfl))
  (evSs_cons (xS_for hX (xI_any (x_var (i := 3) hX (by rfl) (by decide +kernel) (by rfl) (by decide +kernel))) (xG_name (i := 5) hX (by rfl) (by decide +kernel) (by decide +kernel) (by rfl)) (evSs_cons (xS_setLc (i := 7) (pc := true) (pe := true) (own := [("far", 8)]) hX (xI_any (x_var (i := 3) hX (by rfl) (by decide +kernel) (by rfl) (by decide +kernel))) (by rfl) (by decide +kernel) (by decide +kernel) (by decide) (notIn_ok (by decide)) (by decide +kernel) (by decide) (by decide) (by decide) (fun Y hY1 => (xG_name (i := 8) hY1 (by rfl) (by decide +kernel) (by decide +kernel) (by rfl))) (fun Y hY1 => (evTs_one (PW.pt (evT_and (evT_cmp (b_in hY1.r65) (x_var (i := 8) hY1 (by rfl) (by decide +kernel) (by rfl) (by decide +kernel)) (ev_ix ix_data (ev_ix ix_data (x_var (i := 4) hY1 (by rfl) (by decide +kernel) (by rfl) (by decide +kernel)) (x_var (i := 5) hY1 (by rfl) (by decide +kernel) (by rfl) (by decide +kernel)) (by rfl) (fun _ _ => rfl)) (ev_neg ev_int) (by rfl) (fun _ _ => rfl)) (by rfl) (by rfl)) (evT_and1 (evT_cmp (b_in hY1.r65) (x_var (i := 5) hY1 (by rfl) (by decide +kernel) (by rfl) (by decide +kernel)) (ev_ix ix_data (ev_ix ix_data (x_var (i := 4) hY1 (by rfl) (by decide +kernel) (by rfl) (by decide +kernel)) (x_var (i := 8) hY1 (by rfl) (by decide +kernel) (by rfl) (by decide +kernel)) (by rfl) (fun _ _ => rfl)) (ev_neg ev_int) (by rfl) (fun _ _ => rfl)) (by rfl) (by rfl))))))) (fun Y hY1 => (x_var (i := 8) hY1 (by rfl) (by decide +kernel) (by rfl) (by decide +kernel))) (by intro _; rfl))
  (evSs_frz (i := 7) (notIn_ok (by decide)) (by decide) (evSs_cons (xS_set (i := 6) hX (by rfl) (by decide +kernel) (by decide +kernel) (by decide) (by decide) (ev_bin b_add (x_var (i := 6) hX (by rfl) (by decide +kernel) (by rfl) (by decide +kernel)) (ev_bin b_mul (ev_lst (t := .sh) (evL_cons (x_var (i := 7) hX (by rfl) (by decide +kernel) (by rfl) (by decide +kernel)) evL_nil (by rfl))) (x_callTy hX c_int (by decide +kernel) B.f_int (by rfl) (evQ_cons (ev_cmp (b_notIn hX.r65) (x_var (i := 7) hX (by rfl) (by decide +kernel) (by rfl) (by decide +kernel)) (x_var (i := 6) hX (by rfl) (by decide +kernel) (by rfl) (by decide +kernel)) (by rfl) (by rfl)) evQ_nil (by rfl) (by rfl)) (by decide) (by decide +kernel) (by rfl) (by rfl)) (by rfl)) (by rfl)) (by rfl))
  evSs_nil))) (by intro _; rfl))
  (evSs_cons (xS_set (i := 9) hX (by rfl) (by decide +kernel) (by decide +kernel) (by decide) (by decide) (x_call hX ((h_rings_of B).fn) l_rings_of (by omega) rfl (by decide +kernel) (evL_cons (x_var (i := 1) hX (by rfl) (by decide +kernel) (by rfl) (by decide +kernel)) evL_nil (by rfl)) (by decide +kernel) (by rfl) (by rfl)) (by rfl))
  (evSs_cons (evS_if (PW.pt (evT_or (evT_not (evT_val (x_callW hX ((h__law_exact B 12).fn) (l__law_exact 12) (by omega) rfl (by decide +kernel) (evWL_cons (evW_lst (evWL_cons (xW_var (i := 9) hX (by rfl) (by decide +kernel) (by decide +kernel)) (evWL_cons (evW_of (x_callK (ks := ["web"]) (ix := [0]) hX ((h_rings_of B).kw k_rings_of_0) l_rings_of (by omega) rfl (by decide +kernel) (evKw_cons (x_var (i := 1) hX (by rfl) (by decide +kernel) (by rfl) (by decide +kernel)) evKw_nil) (by rfl) (by rfl) (by decide +kernel) (by rfl))) evWL_nil (by rfl)) (by rfl))) (evWL_cons (evW_of (ev_lst (t := .sh) (evL_cons (x_var (i := 6) hX (by rfl) (by decide +kernel) (by rfl) (by decide +kernel)) (evL_cons (x_var (i := 6) hX (by rfl) (by decide +kernel) (by rfl) (by decide +kernel)) evL_nil (by rfl)) (by rfl)))) evWL_nil (by rfl)) (by rfl)) (by decide +kernel) (by rfl) (by rfl)) (by intro _; rfl))) (evT_or1 (evT_cmp (b_ne hX.r64) (x_callB hX (c_sorted hX.r64) (by decide +kernel) B.f_sorted (by rfl) (evQ_cons (x_sumO (i := 9) hX (by decide +kernel) B.f_sum (by rfl) (by decide +kernel) (by decide +kernel) (by rfl) (ev_lst (t := .sh) evL_nil) (by rfl) (by rfl) (by rfl)) evQ_nil (by rfl) (by rfl)) (by decide) (by decide +kernel) (by rfl) (by rfl)) (x_var (i := 3) hX (by rfl) (by decide +kernel) (by rfl) (by decide +kernel)) (by rfl) (by rfl))))) (evSs_cons (xS_ret ev_bool (by decide))
  evSs_nil) evSs_nil)
  (evSs_cons (xS_appN (i := 9) hX (by rfl) (by decide +kernel) (by decide +kernel) (by rfl) (by decide) (by decide) ev_int ev_int (fun _ _ => rfl) (by rfl) (by rfl) (by rfl) (by rfl) (by rfl))
  (evSs_frzI (i := 9) (notIn_ok (by decide)) (by decide) (by rfl) (evSs_cons (xS_append (i := 9) hX (by rfl) (by decide +kernel) (by decide +kernel) (by rfl) (by decide) ev_int (by rfl) (by rfl) (by rfl) (by rfl))
  (evSs_cons (evS_if (evT_not (evT_val (x_call hX ((h__law_exact B 12).fn) (l__law_exact 12) (by omega) rfl (by decide +kernel) (evL_cons (EvM.toSh (ev_lst (t := .sh) (evL_cons (EvM.toSh (x_call hX ((h_rings_of B).fn) l_rings_of (by omega) rfl (by decide +kernel) (evL_cons (x_var (i := 1) hX (by rfl) (by decide +kernel) (by rfl) (by decide +kernel)) evL_nil (by rfl)) (by decide +kernel) (by rfl) (by rfl))) (evL_cons (x_var (i := 1) hX (by rfl) (by decide +kernel) (by rfl) (by decide +kernel)) evL_nil (by rfl)) (by rfl)))) (evL_cons (EvM.toSh (ev_lst (t := .sh) (evL_cons (x_var (i := 6) hX (by rfl) (by decide +kernel) (by rfl) (by decide +kernel)) (evL_cons (x_var (i := 2) hX (by rfl) (by decide +kernel) (by rfl) (by decide +kernel)) evL_nil (by rfl)) (by rfl)))) evL_nil (by rfl)) (by rfl)) (by decide +kernel) (by rfl) (by rfl)) (by intro _; rfl))) (evSs_cons (xS_ret ev_bool (by decide))
  evSs_nil) evSs_nil)
  (evSs_cons (xS_for hX (xI_any (x_var (i := 3) hX (by rfl) (by decide +kernel) (by rfl) (by decide +kernel))) (xG_name (i := 5) hX (by rfl) (by decide +kernel) (by decide +kernel) (by rfl)) (evSs_cons (xS_set (i := 10) hX (by rfl) (by decide +kernel) (by decide +kernel) (by decide) (by decide) (ev_ix ix_data (ev_ix ix_data (x_var (i := 4) hX (by rfl) (by decide +kernel) (by rfl) (by decide +kernel)) (x_var (i := 5) hX (by rfl) (by decide +kernel) (by rfl) (by decide +kernel)) (by rfl) (fun _ _ => rfl)) (ev_neg ev_int) (by rfl) (fun _ _ => rfl)) (by rfl))
  (evSs_cons (evS_if (evT_not (evT_val (x_call hX ((h__law_exact B 12).fn) (l__law_exact 12) (by omega) rfl (by decide +kernel) (evL_cons (EvM.toSh (ev_lst (t := .sh) (evL_cons (EvM.toSh (x_call hX ((h_reached B).fn) l_reached (by omega) rfl (by decide +kernel) (evL_cons (x_var (i := 1) hX (by rfl) (by decide +kernel) (by rfl) (by decide +kernel)) (evL_cons (x_var (i := 5) hX (by rfl) (by decide +kernel) (by rfl) (by decide +kernel)) evL_nil (by rfl)) (by rfl)) (by decide +kernel) (by rfl) (by rfl))) (evL_cons (EvM.toSh (x_callK (ks := ["place", "web"]) (ix := [1, 0]) hX ((h_reached B).kw k_reached_10) l_reached (by omega) rfl (by decide +kernel) (evKw_cons (x_var (i := 5) hX (by rfl) (by decide +kernel) (by rfl) (by decide +kernel)) (evKw_cons (x_var (i := 1) hX (by rfl) (by decide +kernel) (by rfl) (by decide +kernel)) evKw_nil)) (by rfl) (by rfl) (by decide +kernel) (by rfl))) (evL_cons (x_call hX ((h_is_closed B).fn) l_is_closed (by omega) rfl (by decide +kernel) (evL_cons (x_var (i := 1) hX (by rfl) (by decide +kernel) (by rfl) (by decide +kernel)) (evL_cons (x_var (i := 10) hX (by rfl) (by decide +kernel) (by rfl) (by decide +kernel)) evL_nil (by rfl)) (by rfl)) (by decide +kernel) (by rfl) (by rfl)) (evL_cons (x_callK (ks := ["lot", "web"]) (ix := [1, 0]) hX ((h_is_closed B).kw k_is_closed_10) l_is_closed (by omega) rfl (by decide +kernel) (evKw_cons (x_var (i := 10) hX (by rfl) (by decide +kernel) (by rfl) (by decide +kernel)) (evKw_cons (x_var (i := 1) hX (by rfl) (by decide +kernel) (by rfl) (by decide +kernel)) evKw_nil)) (by rfl) (by rfl) (by decide +kernel) (by rfl)) evL_nil (by rfl)) (by rfl)) (by rfl)) (by rfl)))) (evL_cons (EvM.toSh (ev_lst (t := .sh) (evL_cons (x_var (i := 10) hX (by rfl) (by decide +kernel) (by rfl) (by decide +kernel)) (evL_cons (x_var (i := 10) hX (by rfl) (by decide +kernel) (by rfl) (by decide +kernel)) (evL_cons ev_bool (evL_cons ev_bool evL_nil (by rfl)) (by rfl)) (by rfl)) (by rfl)))) evL_nil (by rfl)) (by rfl)) (by decide +kernel) (by rfl) (by rfl)) (by intro _; rfl))) (evSs_cons (xS_ret ev_bool (by decide))
  evSs_nil) evSs_nil)
  (evSs_cons (xS_set (i := 11) hX (by rfl) (by decide +kernel) (by decide +kernel) (by decide) (by decide) (EvM.toSh (x_lc (pc := false) (pe := true) (own := [("far", 8)]) hX (xI_any (x_var (i := 3) hX (by rfl) (by decide +kernel) (by rfl) (by decide +kernel))) (by decide +kernel) (by decide) (by decide) (by decide) (fun Y hY1 => (xG_name (i := 8) hY1 (by rfl) (by decide +kernel) (by decide +kernel) (by rfl))) (fun Y hY1 => (evTs_one (evT_cmp (b_eq hY1.r64) (x_lend (n := 1) (j := 0) hY1 ((h__law_random B).fn) l__law_random (by omega) (by decide +kernel) (by rfl) (by decide +kernel) (by decide +kernel) (by rfl) (evL_cons ev_int evL_nil (by rfl)) (by decide +kernel) (by rfl) (by rfl)) ev_int (by rfl) (by rfl)))) (fun Y hY1 => (x_var (i := 8) hY1 (by rfl) (by decide +kernel) (by rfl) (by decide +kernel))) (by intro _; rfl))) (sw_cell hX (by decide +kernel)))
  (evSs_cons (xS_par (i := 12) (j := 13) hX (by rfl) (by rfl) (by decide) (by decide +kernel) (by decide +kernel) (evL_cons (x_call hX ((h_way_to B).fn) l_way_to (by omega) rfl (by decide +kernel) (evL_cons (x_var (i := 1) hX (by rfl) (by decide +kernel) (by rfl) (by decide +kernel)) (evL_cons (x_var (i := 5) hX (by rfl) (by decide +kernel) (by rfl) (by decide +kernel)) (evL_cons (x_var (i := 11) hX (by rfl) (by decide +kernel) (by rfl) (by decide +kernel)) evL_nil (by rfl)) (by rfl)) (by rfl)) (by decide +kernel) (by rfl) (by rfl)) (evL_cons (ev_cmp (b_eq hX.r64) (x_lc (pc := true) (pe := true) (own := [("step", 14)]) hX (xI_any (ev_ix ix_data (x_var (i := 1) hX (by rfl) (by decide +kernel) (by rfl) (by decide +kernel)) ev_int (by rfl) (fun _ _ => rfl))) (by decide +kernel) (by decide) (by decide) (by decide) (fun Y hY1 => (xG_name (i := 14) hY1 (by rfl) (by decide +kernel) (by decide +kernel) (by rfl))) (fun Y hY1 => (evTs_one (PW.pt (evT_and (evT_cmp (b_in hY1.r65) (ev_ix ix_data (x_var (i := 14) hY1 (by rfl) (by decide +kernel) (by rfl) (by decide +kernel)) ev_int (by rfl) (fun _ _ => rfl)) (x_var (i := 11) hY1 (by rfl) (by decide +kernel) (by rfl) (by decide +kernel)) (by rfl) (by rfl)) (evT_and1 (evT_cmp (b_notIn hY1.r65) (ev_ix ix_data (x_var (i := 14) hY1 (by rfl) (by decide +kernel) (by rfl) (by decide +kernel)) ev_int (by rfl) (fun _ _ => rfl)) (x_var (i := 11) hY1 (by rfl) (by decide +kernel) (by rfl) (by decide +kernel)) (by rfl) (by rfl))))))) (fun Y hY1 => (x_var (i := 14) hY1 (by rfl) (by decide +kernel) (by rfl) (by decide +kernel))) (by intro _; rfl)) (ev_lst (t := .sh) evL_nil) (by rfl) (by rfl)) evL_nil (by rfl)) (by rfl)) (by rfl) (by rfl) (by rfl) (by rfl))
  (evSs_cons (xS_setLc (i := 8) (pc := true) (pe := true) (own := [("at", 15), ("lot", 16)]) hX (xI_enumB hX (by decide +kernel) B.f_enumerate (evL_cons (ev_ix ix_data (x_var (i := 4) hX (by rfl) (by decide +kernel) (by rfl) (by decide +kernel)) (x_var (i := 5) hX (by rfl) (by decide +kernel) (by rfl) (by decide +kernel)) (by rfl) (fun _ _ => rfl)) evL_nil (by rfl)) (by rfl)) (by rfl) (by decide +kernel) (by decide +kernel) (by decide) (notIn_ok (by decide)) (by decide +kernel) (by decide) (by decide) (by decide) (fun Y hY1 => (xG_tup hY1 (evGs_cons (xG_name (i := 15) hY1 (by rfl) (by decide +kernel) (by decide +kernel) (by rfl)) (evGs_cons (xG_name (i := 16) hY1 (by rfl) (by decide +kernel) (by decide +kernel) (by rfl)) evGs_nil (by rfl)) (by rfl)) (by rfl) (by rfl))) (fun Y hY1 => (evTs_one (evT_cmp (b_ne hY1.r64) (x_lc (pc := true) (pe := true) (own := [("one", 17)]) hY1 (xI_any (x_var (i := 16) hY1 (by rfl) (by decide +kernel) (by rfl) (by decide +kernel))) (by decide +kernel) (by decide) (by decide) (by decide) (fun Y hY2 => (xG_name (i := 17) hY2 (by rfl) (by decide +kernel) (by decide +kernel) (by rfl))) (fun Y hY2 => (evTs_one (evT_cmp (b_in hY2.r65) (x_var (i := 17) hY2 (by rfl) (by decide +kernel) (by rfl) (by decide +kernel)) (x_var (i := 11) hY2 (by rfl) (by decide +kernel) (by rfl) (by decide +kernel)) (by rfl) (by rfl)))) (fun Y hY2 => (x_var (i := 17) hY2 (by rfl) (by decide +kernel) (by rfl) (by decide +kernel))) (by intro _; rfl)) (ev_lst (t := .sh) evL_nil) (by rfl) (by rfl)))) (fun Y hY1 => (x_var (i := 15) hY1 (by rfl) (by decide +kernel) (by rfl) (by decide +kernel))) (by intro _; rfl))
  (evSs_frz (i := 8) (notIn_ok (by decide)) (by decide) (evSs_cons (evS_if (PW.pt (evT_or (evT_not (evT_val (x_call hX ((h__law_exact B 12).fn) (l__law_exact 12) (by omega) rfl (by decide +kernel) (evL_cons (x_call hX ((h_is_closed B).fn) l_is_closed (by omega) rfl (by decide +kernel) (evL_cons (x_var (i := 1) hX (by rfl) (by decide +kernel) (by rfl) (by decide +kernel)) (evL_cons (x_var (i := 11) hX (by rfl) (by decide +kernel) (by rfl) (by decide +kernel)) evL_nil (by rfl)) (by rfl)) (by decide +kernel) (by rfl) (by rfl)) (evL_cons (x_var (i := 13) hX (by rfl) (by decide +kernel) (by rfl) (by decide +kernel)) evL_nil (by rfl)) (by rfl)) (by decide +kernel) (by rfl) (by rfl)) (by intro _; rfl))) (evT_or1 (evT_cmp (b_ne hX.r64) (ev_cmp b_isN (x_var (i := 12) hX (by rfl) (by decide +kernel) (by rfl) (by decide +kernel)) ev_none (by rfl) (by rfl)) (ev_cmp (b_eq hX.r64) (x_var (i := 8) hX (by rfl) (by decide +kernel) (by rfl) (by decide +kernel)) (ev_lst (t := .sh) evL_nil) (by rfl) (by rfl)) (by rfl) (by rfl))))) (evSs_cons (xS_ret ev_bool (by decide))
  evSs_nil) evSs_nil)
  (evSs_cons (evS_if (PW.pt (evT_and (evT_cmp b_notN (x_var (i := 12) hX (by rfl) (by decide +kernel) (by rfl) (by decide +kernel)) ev_none (by rfl) (by rfl)) (evT_and1 (PW.pt (evT_or (evT_not (evT_val (x_call hX ((h__law_is_way B).fn) l__law_is_way (by omega) rfl (by decide +kernel) (evL_cons (x_var (i := 1) hX (by rfl) (by decide +kernel) (by rfl) (by decide +kernel)) (evL_cons (x_var (i := 12) hX (by rfl) (by decide +kernel) (by rfl) (by decide +kernel)) (evL_cons (x_var (i := 5) hX (by rfl) (by decide +kernel) (by rfl) (by decide +kernel)) (evL_cons (x_var (i := 11) hX (by rfl) (by decide +kernel) (by rfl) (by decide +kernel)) evL_nil (by rfl)) (by rfl)) (by rfl)) (by rfl)) (by decide +kernel) (by rfl) (by rfl)) (by intro _; rfl))) (evT_or (evT_cmp (b_ne hX.r64) (x_callB hX c_len (by decide +kernel) B.f_len (by rfl) (evQ_cons (x_var (i := 12) hX (by rfl) (by decide +kernel) (by rfl) (by decide +kernel)) evQ_nil (by rfl) (by rfl)) (by decide) (by decide +kernel) (by rfl) (by rfl)) (ev_bin b_add (ev_ix ix_data (x_var (i := 8) hX (by rfl) (by decide +kernel) (by rfl) (by decide +kernel)) ev_int (by rfl) (fun _ _ => rfl)) ev_int (by rfl)) (by rfl) (by rfl)) (evT_or1 (evT_not (evT_val (x_call hX ((h__law_is_way B).fn) l__law_is_way (by omega) rfl (by decide +kernel) (evL_cons (x_var (i := 1) hX (by rfl) (by decide +kernel) (by rfl) (by decide +kernel)) (evL_cons (x_callK (ks := ["lot", "place", "web"]) (ix := [2, 1, 0]) hX ((h_way_to B).kw k_way_to_210) l_way_to (by omega) rfl (by decide +kernel) (evKw_cons (x_var (i := 11) hX (by rfl) (by decide +kernel) (by rfl) (by decide +kernel)) (evKw_cons (x_var (i := 5) hX (by rfl) (by decide +kernel) (by rfl) (by decide +kernel)) (evKw_cons (x_var (i := 1) hX (by rfl) (by decide +kernel) (by rfl) (by decide +kernel)) evKw_nil))) (by rfl) (by rfl) (by decide +kernel) (by rfl)) (evL_cons (x_var (i := 5) hX (by rfl) (by decide +kernel) (by rfl) (by decide +kernel)) (evL_cons (x_var (i := 11) hX (by rfl) (by decide +kernel) (by rfl) (by decide +kernel)) evL_nil (by rfl)) (by rfl)) (by rfl)) (by rfl)) (by decide +kernel) (by rfl) (by rfl)) (by intro _; rfl)))))))))) (evSs_cons (xS_ret ev_bool (by decide))
  evSs_nil) evSs_nil)
  evSs_nil)))))))) (by intro _; rfl))
  (evSs_cons (xS_ret (x_call hX ((h__law_exact B 12).fn) (l__law_exact 12) (by omega) rfl (by decide +kernel) (evL_cons (x_var (i := 1) hX (by rfl) (by decide +kernel) (by rfl) (by decide +kernel)) (evL_cons (x_var (i := 2) hX (by rfl) (by decide +kernel) (by rfl) (by decide +kernel)) evL_nil (by rfl)) (by rfl)) (by decide +kernel) (by rfl) (by rfl)) (by decide))
  evSs_nil))))))))))))
theorem sc_law : FnScope N_law ps_law (defScope s_law) := ⟨rfl, rfl, rfl, by decide +kernel, rfl, by decide +kernel, by decide +kernel⟩
theorem bp_law : BindP "law" (defArgs s_law) (defBody s_law) (defScope s_law) ps_law := (fun _ _ _ _ _ _ us hl => match us, hl with | [_], _ => rfl)
theorem h_law (B : Bk K mg) : HasFull P w K mg base 16 "law" (defArgs s_law) (defBody s_law) (defScope s_law) ps_law own_law .sh c_law := has_full (N := N_law) (own := own_law) (τ' := own_law ++ List.replicate 4 .sh) (k := 15) (fb := fb_law) B.d_law sc_law rfl (by decide) (by decide) bp_law fun X hX => (evSs_cons (xS_set (i := 1) hX (by rfl) (by decide +kernel) (by decide +kernel) (by decide) (by decide) (x_call hX ((h__law_generator B).fn) l__law_generator (by omega) rfl (by decide +kernel) (evL_cons (x_var (i := 0) hX (by rfl) (by decide +kernel) (by rfl) (by decide +kernel)) (evL_cons ev_int evL_nil (by rfl)) (by rfl)) (by decide +kernel) (by rfl) (by rfl)) (by rfl))
  (evSs_cons (xS_for hX (xI_rng1 hX (by decide +kernel) B.f_range (evQ_cons ev_int evQ_nil (by rfl) (by rfl)) (by rfl)) (xG_name (i := 2) hX (by rfl) (by decide +kernel) (by decide +kernel) (by rfl)) (evSs_cons (xS_for hX (xI_any (ev_lst (t := .sh) (evL_cons (x_lend (n := 3) (j := 1) hX ((h__law_drawn_web B).fn) l__law_drawn_web (by omega) (by decide +kernel) (by rfl) (by decide +kernel) (by decide +kernel) (by rfl) (evL_cons ev_int (evL_cons (EvM.toSh (ev_lst (t := .sh) (evL_cons ev_str evL_nil (by rfl)))) (evL_cons (EvM.toSh (ev_lst (t := .sh) (evL_cons ev_str (evL_cons ev_str evL_nil (by rfl)) (by rfl)))) evL_nil (by rfl)) (by rfl)) (by rfl)) (by decide +kernel) (by rfl) (by rfl)) (evL_cons (x_lend (n := 0) (j := 1) hX ((h__law_long_web B).fn) l__law_long_web (by omega) (by decide +kernel) (by rfl) (by decide +kernel) (by decide +kernel) (by rfl) evL_nil (by decide +kernel) (by rfl) (by rfl)) evL_nil (by rfl)) (by rfl)))) (xG_name (i := 3) hX (by rfl) (by decide +kernel) (by decide +kernel) (by rfl)) (evSs_cons (evS_if (evT_not (evT_val (x_lend (n := 1) (j := 1) hX ((h__law_web_right B).fn) l__law_web_right (by omega) (by decide +kernel) (by rfl) (by decide +kernel) (by decide +kernel) (by rfl) (evL_cons (x_var (i := 3) hX (by rfl) (by decide +kernel) (by rfl) (by decide +kernel)) evL_nil (by rfl)) (by decide +kernel) (by rfl) (by rfl)) (by intro _; rfl))) (evSs_cons (xS_ret ev_bool (by decide))
  evSs_nil) evSs_nil)
  evSs_nil) (by intro _; rfl))
  evSs_nil) (by intro _; rfl))
  (evSs_cons (xS_set (i := 3) hX (by rfl) (by decide +kernel) (by decide +kernel) (by decide) (by decide) (ev_tup (evL_cons (EvM.toSh (ev_lst (t := .sh) (evL_cons (EvM.toSh (ev_lst (t := .sh) (evL_cons ev_str evL_nil (by rfl)))) (evL_cons (EvM.toSh (ev_lst (t := .sh) evL_nil)) (evL_cons (EvM.toSh (ev_lst (t := .sh) (evL_cons ev_str evL_nil (by rfl)))) (evL_cons (EvM.toSh (ev_lst (t := .sh) evL_nil)) evL_nil (by rfl)) (by rfl)) (by rfl)) (by rfl)))) (evL_cons (EvM.toSh (ev_lst (t := .sh) (evL_cons (ev_tup (evL_cons ev_int (evL_cons ev_str (evL_cons ev_int evL_nil (by rfl)) (by rfl)) (by rfl))) (evL_cons (ev_tup (evL_cons ev_int (evL_cons ev_str (evL_cons ev_int evL_nil (by rfl)) (by rfl)) (by rfl))) (evL_cons (ev_tup (evL_cons ev_int (evL_cons ev_str (evL_cons ev_int evL_nil (by rfl)) (by rfl)) (by rfl))) (evL_cons (ev_tup (evL_cons ev_int (evL_cons ev_str (evL_cons ev_int evL_nil (by rfl)) (by rfl)) (by rfl))) (evL_cons (ev_tup (evL_cons ev_int (evL_cons ev_str (evL_cons ev_int evL_nil (by rfl)) (by rfl)) (by rfl))) evL_nil (by rfl)) (by rfl)) (by rfl)) (by rfl)) (by rfl)))) evL_nil (by rfl)) (by rfl))) (by rfl))
  (evSs_cons (xS_set (i := 4) hX (by rfl) (by decide +kernel) (by decide +kernel) (by decide) (by decide) (EvM.toSh (ev_lst (t := .sh) (evL_cons (EvM.toSh (x_call hX ((h_reached B).fn) l_reached (by omega) rfl (by decide +kernel) (evL_cons (x_var (i := 3) hX (by rfl) (by decide +kernel) (by rfl) (by decide +kernel)) (evL_cons ev_int evL_nil (by rfl)) (by rfl)) (by decide +kernel) (by rfl) (by rfl))) (evL_cons (EvM.toSh (x_call hX ((h_rings_of B).fn) l_rings_of (by omega) rfl (by decide +kernel) (evL_cons (x_var (i := 3) hX (by rfl) (by decide +kernel) (by rfl) (by decide +kernel)) evL_nil (by rfl)) (by decide +kernel) (by rfl) (by rfl))) (evL_cons (x_call hX ((h_is_closed B).fn) l_is_closed (by omega) rfl (by decide +kernel) (evL_cons (x_var (i := 3) hX (by rfl) (by decide +kernel) (by rfl) (by decide +kernel)) (evL_cons (EvM.toSh (ev_lst (t := .sh) (evL_cons ev_int (evL_cons ev_int evL_nil (by rfl)) (by rfl)))) evL_nil (by rfl)) (by rfl)) (by decide +kernel) (by rfl) (by rfl)) (evL_cons (x_call hX ((h_is_closed B).fn) l_is_closed (by omega) rfl (by decide +kernel) (evL_cons (x_var (i := 3) hX (by rfl) (by decide +kernel) (by rfl) (by decide +kernel)) (evL_cons (EvM.toSh (ev_lst (t := .sh) evL_nil)) evL_nil (by rfl)) (by rfl)) (by decide +kernel) (by rfl) (by rfl)) (evL_cons (x_call hX ((h_way_to B).fn) l_way_to (by omega) rfl (by decide +kernel) (evL_cons (x_var (i := 3) hX (by rfl) (by decide +kernel) (by rfl) (by decide +kernel)) (evL_cons ev_int (evL_cons (EvM.toSh (ev_lst (t := .sh) (evL_cons ev_int evL_nil (by rfl)))) evL_nil (by rfl)) (by rfl)) (by rfl)) (by decide +kernel) (by rfl) (by rfl)) (evL_cons (x_call hX ((h_way_to B).fn) l_way_to (by omega) rfl (by decide +kernel) (evL_cons (x_var (i := 3) hX (by rfl) (by decide +kernel) (by rfl) (by decide +kernel)) (evL_cons ev_int (evL_cons (EvM.toSh (ev_lst (t := .sh) (evL_cons ev_int evL_nil (by rfl)))) evL_nil (by rfl)) (by rfl)) (by rfl)) (by decide +kernel) (by rfl) (by rfl)) (evL_cons (x_call hX ((h_way_to B).fn) l_way_to (by omega) rfl (by decide +kernel) (evL_cons (x_var (i := 3) hX (by rfl) (by decide +kernel) (by rfl) (by decide +kernel)) (evL_cons ev_int (evL_cons (EvM.toSh (ev_lst (t := .sh) (evL_cons ev_int (evL_cons ev_int evL_nil (by rfl)) (by rfl)))) evL_nil (by rfl)) (by rfl)) (by rfl)) (by decide +kernel) (by rfl) (by rfl)) evL_nil (by rfl)) (by rfl)) (by rfl)) (by rfl)) (by rfl)) (by rfl)) (by rfl)))) (by rfl))
  (evSs_cons (xS_ret (x_call hX ((h__law_exact B 12).fn) (l__law_exact 12) (by omega) rfl (by decide +kernel) (evL_cons (x_var (i := 4) hX (by rfl) (by decide +kernel) (by rfl) (by decide +kernel)) (evL_cons (EvM.toSh (ev_lst (t := .sh) (evL_cons (EvM.toSh (ev_lst (t := .sh) (evL_cons ev_int (evL_cons ev_int (evL_cons ev_int evL_nil (by rfl)) (by rfl)) (by rfl)))) (evL_cons (EvM.toSh (ev_lst (t := .sh) (evL_cons (EvM.toSh (ev_lst (t := .sh) (evL_cons ev_int evL_nil (by rfl)))) (evL_cons (EvM.toSh (ev_lst (t := .sh) (evL_cons ev_int (evL_cons ev_int evL_nil (by rfl)) (by rfl)))) (evL_cons (EvM.toSh (ev_lst (t := .sh) (evL_cons ev_int evL_nil (by rfl)))) evL_nil (by rfl)) (by rfl)) (by rfl)))) (evL_cons ev_bool (evL_cons ev_bool (evL_cons (EvM.toSh (ev_lst (t := .sh) (evL_cons ev_int (evL_cons ev_int (evL_cons ev_int (evL_cons ev_int evL_nil (by rfl)) (by rfl)) (by rfl)) (by rfl)))) (evL_cons ev_none (evL_cons (EvM.toSh (ev_lst (t := .sh) (evL_cons ev_int evL_nil (by rfl)))) evL_nil (by rfl)) (by rfl)) (by rfl)) (by rfl)) (by rfl)) (by rfl)) (by rfl)))) evL_nil (by rfl)) (by rfl)) (by decide +kernel) (by rfl) (by rfl)) (by decide))
  evSs_nil)))))
end
end Ev

set_option Elab.async false
set_option linter.all false
set_option maxRecDepth 100000
set_option maxHeartbeats 4000000
namespace Ev
open PySem PySem.Spec PyProof.Rows L2

/-! ### NN. more single steps -/
section
variable {α : Type} {fa fb fc f : M PyData} {g g' : PyData → PyData → Option PyData} {env e1 e2 e3 : Env} {x y z d : PyData} {fr : M (List PyData)} {b b' : Bool}
theorem andF_b (h1 : fa env = some (.bool b, env)) (h2 : b = true → fb env = some (.bool b', env)) : andF fa fb env = some (.bool (b && b'), env) := by
  cases b with
  | true => rw [andF_t h1 (h2 rfl)]; rfl
  | false => rw [andF_f h1]; rfl
theorem orF_b (h1 : fa env = some (.bool b, env)) (h2 : b = false → fb env = some (.bool b', env)) : orF fa fb env = some (.bool (b || b'), env) := by
  cases b with
  | true => rw [orF_t h1]; rfl
  | false => rw [orF_f h1 (h2 rfl)]; rfl
theorem chainF_b {c c' : Bool} (h1 : fa env = some (x, env)) (h2 : fb env = some (y, env)) (h3 : g x y = some (.bool c)) (h4 : fc env = some (z, env)) (h5 : g' y z = some (.bool c')) : chainF fa fb fc g g' env = some (.bool (c && c'), env) := by
  cases c with
  | true => rw [chainF_t h1 h2 h3 h4 h5]; rfl
  | false => rw [chainF_f h1 h2 h3]; rfl
theorem ifS_b {fs ft : Env → Option Fl} {fl : Fl} (h1 : fc env = some (.bool b, e1)) (h2 : b = true → fs e1 = some fl) (h3 : b = false → ft e1 = some fl) : ifS fc fs ft env = some fl := by
  cases b with
  | true => exact ifS_t h1 (h2 rfl)
  | false => exact ifS_f h1 (h3 rfl)
theorem iteF_b (h1 : fc env = some (.bool b, e1)) (h2 : b = true → fa e1 = some (y, e2)) (h3 : b = false → fb e1 = some (y, e2)) : iteF fc fa fb env = some (y, e2) := by
  cases b with
  | true => exact iteF_t h1 (h2 rfl)
  | false => exact iteF_f h1 (h3 rfl)
theorem lenD_l' (l : List PyData) : lenD [.list l] = some (.int (l.length : Nat)) := rfl
theorem lenD_t (l : List PyData) : lenD [.tuple l] = some (.int (l.length : Nat)) := rfl
theorem lenD_s (x : Str) (h : x.length ≤ sizeLine) : lenD [.str x] = some (.int (x.length : Nat)) := by
  simp [lenD, h]
theorem addD_ii (i j : Int) : addD (.int i) (.int j) = some (.int (i + j)) := rfl
theorem subD_ii (i j : Int) : subD (.int i) (.int j) = some (.int (i - j)) := rfl
theorem addD_ll {a b : List PyData} (h : a.length + b.length ≤ sizeLine) : addD (.list a) (.list b) = some (.list (a ++ b)) := by
  simp [addD, addID, intD, addSD, addTD, addLD, h]
theorem addD_tt {a b : List PyData} (h : a.length + b.length ≤ sizeLine) : addD (.tuple a) (.tuple b) = some (.tuple (a ++ b)) := by
  simp [addD, addID, intD, addSD, addTD, addLD, h]
theorem addD_ss {a b : Str} (h : a.length + b.length ≤ sizeLine) : addD (.str a) (.str b) = some (.str (a ++ b)) := by
  simp [addD, addID, intD, addSD, addTD, addLD, h]
theorem small : (16777216 : Nat) = sizeLine := sizeLine_eq.symm
end
end Ev

set_option Elab.async false
set_option linter.all false
set_option maxRecDepth 100000
set_option maxHeartbeats 4000000
namespace Ev
open PySem PySem.Spec PyProof.Rows L2

/-! ### OO. what is so behind a run -/
def wp {α : Type} (f : M α) (env : Env) (Q : α → Env → Prop) : Prop := ∃ a e, f env = some (a, e) ∧ Q a e
def wpS (f : Env → Option Fl) (env : Env) (Q : Fl → Prop) : Prop := ∃ fl, f env = some fl ∧ Q fl
section
variable {α β : Type} {fa fb fc f : M PyData} {g g' : PyData → PyData → Option PyData} {env e1 e2 e3 : Env} {x y z d : PyData} {fr : M (List PyData)} {b b' : Bool} {Q : PyData → Env → Prop} {QL : List PyData → Env → Prop} {QB : Bool → Env → Prop} {QO : Option Int → Env → Prop} {QS : Fl → Prop} {i j : Nat} {fs ft gs : Env → Option Fl}
theorem wp_of {m : M α} {a : α} {Q : α → Env → Prop} (h : m env = some (a, e1)) (q : Q a e1) : wp m env Q := ⟨a, e1, h, q⟩
theorem wp_mono {m : M α} {Q Q' : α → Env → Prop} (h : wp m env Q) (q : ∀ a e, Q a e → Q' a e) : wp m env Q' := by
  obtain ⟨a, e, h1, h2⟩ := h
  exact ⟨a, e, h1, q a e h2⟩
theorem wp_con (q : Q d env) : wp (conF d) env Q := wp_of conF_e q
theorem wp_var (h : env[i]? = some (some d)) (q : Q d env) : wp (varF i) env Q := wp_of (varF_e h) q
theorem wp_nil (q : QL [] env) : wp nilF env QL := wp_of nilF_e q
theorem wp_no (q : QO none env) : wp noO env QO := wp_of noO_e q
theorem wp_yes (q : QB true env) : wp yesF env QB := wp_of yesF_e q
theorem wp_bind2 (h : wp fa env fun x e1 => wp fb e1 fun y e2 => ∃ d, g x y = some d ∧ Q d e2) : wp (bind2 fa fb g) env Q := by
  obtain ⟨x, e1, h1, y, e2, h2, d, h3, q⟩ := h
  exact wp_of (bind2_e h1 h2 h3) q
theorem wp_mapM {m : M α} {h : α → Option β} {Q : β → Env → Prop} (hh : wp m env fun a e1 => ∃ r, h a = some r ∧ Q r e1) : wp (mapM m h) env Q := by
  obtain ⟨a, e1, h1, r, h2, q⟩ := hh
  exact wp_of (mapM_e h1 h2) q
theorem wp_mapF {h : PyData → Option PyData} (hh : wp f env fun a e1 => ∃ r, h a = some r ∧ Q r e1) : wp (mapF f h) env Q := wp_mapM hh
theorem wp_cons (hh : wp f env fun x e1 => wp fr e1 fun l e2 => QL (x :: l) e2) : wp (consF f fr) env QL := by
  obtain ⟨x, e1, h1, l, e2, h2, q⟩ := hh
  exact wp_of (consF_e h1 h2) q
theorem wp_asB (hh : wp f env fun d e1 => ∃ b, d = .bool b ∧ QB b e1) : wp (asB f) env QB := by
  obtain ⟨x, e1, h1, b, rfl, q⟩ := hh
  exact wp_of (asB_e h1) q
theorem wp_not (hh : wp f env fun d e1 => ∃ b, d = .bool b ∧ Q (.bool (!b)) e1) : wp (notF f) env Q := by
  obtain ⟨x, e1, h1, b, rfl, q⟩ := hh
  exact wp_of (notF_e h1) q
theorem wp_and (hh : wp fa env fun d e1 => ∃ b, d = .bool b ∧ (b = true → wp fb e1 Q) ∧ (b = false → Q (.bool false) e1)) : wp (andF fa fb) env Q := by
  obtain ⟨x, e1, h1, b, rfl, q1, q2⟩ := hh
  cases b with
  | true =>
    obtain ⟨y, e2, h2, q⟩ := q1 rfl
    exact wp_of (andF_t h1 h2) q
  | false => exact wp_of (andF_f h1) (q2 rfl)
theorem wp_or (hh : wp fa env fun d e1 => ∃ b, d = .bool b ∧ (b = false → wp fb e1 Q) ∧ (b = true → Q (.bool true) e1)) : wp (orF fa fb) env Q := by
  obtain ⟨x, e1, h1, b, rfl, q1, q2⟩ := hh
  cases b with
  | false =>
    obtain ⟨y, e2, h2, q⟩ := q1 rfl
    exact wp_of (orF_f h1 h2) q
  | true => exact wp_of (orF_t h1) (q2 rfl)
theorem wp_ite (hh : wp fc env fun d e1 => ∃ b, d = .bool b ∧ (b = true → wp fa e1 Q) ∧ (b = false → wp fb e1 Q)) : wp (iteF fc fa fb) env Q := by
  obtain ⟨x, e1, h1, b, rfl, q1, q2⟩ := hh
  cases b with
  | true =>
    obtain ⟨y, e2, h2, q⟩ := q1 rfl
    exact wp_of (iteF_t h1 h2) q
  | false =>
    obtain ⟨y, e2, h2, q⟩ := q2 rfl
    exact wp_of (iteF_f h1 h2) q
theorem wp_chain (hh : wp fa env fun x e1 => wp fb e1 fun y e2 => ∃ b, g x y = some (.bool b) ∧ (b = true → wp fc e2 fun z e3 => ∃ d, g' y z = some d ∧ Q d e3) ∧ (b = false → Q (.bool false) e2)) : wp (chainF fa fb fc g g') env Q := by
  obtain ⟨x, e1, h1, y, e2, h2, b, h3, q1, q2⟩ := hh
  cases b with
  | true =>
    obtain ⟨z, e3, h4, d, h5, q⟩ := q1 rfl
    exact wp_of (chainF_t h1 h2 h3 h4 h5) q
  | false => exact wp_of (chainF_f h1 h2 h3) (q2 rfl)
theorem wp_yesO (hh : wp f env fun d e1 => ∃ k, d = .int k ∧ QO (some k) e1) : wp (yesO f) env QO := by
  obtain ⟨x, e1, h1, k, rfl, q⟩ := hh
  exact wp_of (yesO_e h1) q
theorem wp_slice {fl fh : M (Option Int)} (hh : wp f env fun x e1 => wp fl e1 fun l e2 => wp fh e2 fun u e3 => ∃ d, cutD l u x = some d ∧ Q d e3) : wp (sliceF f fl fh) env Q := by
  obtain ⟨x, e1, h1, l, e2, h2, u, e3, h3, d, h4, q⟩ := hh
  exact wp_of (sliceF_e h1 h2 h3 h4) q
theorem wp_lend {c : FnSem} {l : List PyData} (h0 : listAt env j = some l) (hh : wp fr env fun ds e1 => listAt e1 j = some l ∧ ∃ d l' rest, c (.list l :: ds) = some (d, .list l' :: rest) ∧ Q d (e1.set j (some (.list l')))) : wp (lendF j fr c) env Q := by
  obtain ⟨ds, e1, h1, h2, d, l', rest, h3, q⟩ := hh
  exact wp_of (lendF_e h0 h1 h2 h3) q
theorem wp_seqA {QL : List PyData → Env → Prop} (hh : wp f env fun d e1 => ∃ l, (d = .list l ∨ d = .tuple l) ∧ QL l e1) : wp (seqAF f) env QL := by
  obtain ⟨x, e1, h1, l, rfl | rfl, q⟩ := hh
  · exact wp_of (seqAF_l h1) q
  · exact wp_of (seqAF_t h1) q
/-! statements -/
theorem wpS_of {fl : Fl} (h : fs env = some fl) (q : QS fl) : wpS fs env QS := ⟨fl, h, q⟩
theorem wpS_skip (q : QS (.nx env)) : wpS skipS env QS := ⟨_, rfl, q⟩
theorem wpS_skipq (h : wpS gs env QS) : wpS (seqS skipS gs) env QS := by
  obtain ⟨fl, h, q⟩ := h
  exact ⟨fl, seqS_n skipS_e h, q⟩
theorem wpS_asg (h : wp f env fun d e => wpS gs (e.set i (some d)) QS) : wpS (seqS (asgS i f) gs) env QS := by
  obtain ⟨d, e, h1, fl, h2, q⟩ := h
  exact ⟨fl, seqS_n (asgS_e h1) h2, q⟩
theorem wpS_expr (h : wp f env fun d e => wpS gs e QS) : wpS (seqS (exprS f) gs) env QS := by
  obtain ⟨d, e, h1, fl, h2, q⟩ := h
  exact ⟨fl, seqS_n (exprS_e h1) h2, q⟩
theorem wpS_asgG {fg : PyData → Env → Option Env} (h : wp f env fun d e => ∃ e', fg d e = some e' ∧ wpS gs e' QS) : wpS (seqS (asgG f fg) gs) env QS := by
  obtain ⟨d, e, h1, e', h2, fl, h3, q⟩ := h
  exact ⟨fl, seqS_n (asgG_e h1 h2) h3, q⟩
theorem wpS_par (h : wp fr env fun l e => ∃ x y, l = [x, y] ∧ wpS gs ((e.set i (some x)).set j (some y)) QS) : wpS (seqS (parS i j fr) gs) env QS := by
  obtain ⟨l, e, h1, x, y, rfl, fl, h3, q⟩ := h
  exact ⟨fl, seqS_n (parS_e h1) h3, q⟩
theorem wpS_ret (h : wp f env fun d e => QS (.rt d e)) : wpS (seqS (retS f) gs) env QS := by
  obtain ⟨d, e, h1, q⟩ := h
  exact ⟨_, seqS_r (retS_e h1), q⟩
theorem seqS_assoc {f g h : Env → Option Fl} {env : Env} : seqS (seqS f g) h env = seqS f (seqS g h) env := by
  unfold seqS
  cases f env with
  | none => rfl
  | some fl => cases fl <;> rfl
theorem wpS_assoc (h : wpS (seqS fs (seqS ft gs)) env QS) : wpS (seqS (seqS fs ft) gs) env QS := by
  obtain ⟨fl, h1, q⟩ := h
  exact ⟨fl, by rw [seqS_assoc]; exact h1, q⟩
theorem wpS_if (hh : wp fc env fun d e1 => ∃ b, d = .bool b ∧ (b = true → wpS (seqS fs gs) e1 QS) ∧ (b = false → wpS (seqS ft gs) e1 QS)) : wpS (seqS (ifS fc fs ft) gs) env QS := by
  obtain ⟨x, e1, h1, b, rfl, q1, q2⟩ := hh
  have e : ∀ b, asB fc env = some (b, e1) → seqS (ifS fc fs ft) gs env = if b then seqS fs gs e1 else seqS ft gs e1 := by
    intro b hb
    unfold seqS ifS
    rw [hb]
    cases b <;> rfl
  cases b with
  | true =>
    obtain ⟨fl, h2, q⟩ := q1 rfl
    exact ⟨fl, by rw [e true (asB_e h1)]; exact h2, q⟩
  | false =>
    obtain ⟨fl, h2, q⟩ := q2 rfl
    exact ⟨fl, by rw [e false (asB_e h1)]; exact h2, q⟩
theorem wpS_append {l0 : List PyData} (h0 : listAt env i = some l0) (h : wp f env fun d e => ∃ ds, listAt e i = some ds ∧ ds.length < sizeLine ∧ wpS gs (e.set i (some (.list (ds ++ [d])))) QS) : wpS (seqS (appendS i f) gs) env QS := by
  obtain ⟨d, e, h1, ds, h2, h3, fl, h4, q⟩ := h
  refine ⟨fl, seqS_n (e1 := e.set i (some (.list (ds ++ [d])))) ?_ h4, q⟩
  unfold appendS
  rw [h0]
  simp only [Option.bind_some]
  rw [h1]
  simp only [Option.bind_some]
  rw [h2]
  simp only [Option.bind_some]
  rw [if_pos h3]
/-- a loop, by what holds ahead of each turn -/
theorem wpS_for {src : M (List PyData)} {asg : PyData → Env → Option Env} {body : Env → Option Fl} (I : Nat → Env → Prop) (hs : wp src env fun ds e => I 0 e ∧ (∀ k d e, ds[k]? = some d → I k e → ∃ e', asg d e = some e' ∧ wpS body e' fun fl => (∃ e2, (fl = .nx e2 ∨ fl = .ct e2) ∧ I (k + 1) e2) ∨ (∃ v e2, fl = .rt v e2 ∧ QS (.rt v e2)) ∨ (∃ e2, fl = .bk e2 ∧ wpS gs e2 QS)) ∧ ∀ e, I ds.length e → wpS gs e QS) :
    wpS (seqS (forS src asg body) gs) env QS := by
  obtain ⟨ds, e, h1, i0, step, fin⟩ := hs
  have go : ∀ (r : List PyData) (k : Nat) (e : Env), k ≤ ds.length → ds.drop k = r → I k e → ∃ fl, goF asg body r e = some fl ∧ ((∃ e2, fl = .nx e2 ∧ wpS gs e2 QS) ∨ (∃ v e2, fl = .rt v e2 ∧ QS (.rt v e2))) := by
    intro r
    induction r with
    | nil =>
      intro k e hk hr ik
      have hk2 : ds.length ≤ k := List.drop_eq_nil_iff.mp hr
      have : k = ds.length := by omega
      subst this
      exact ⟨.nx e, rfl, .inl ⟨e, rfl, fin e ik⟩⟩
    | cons d r ih =>
      intro k e hk hr ik
      have hd : ds[k]? = some d := by
        have : (ds.drop k)[0]? = some d := by rw [hr]; rfl
        simpa using this
      have hlt : k < ds.length := (List.getElem?_eq_some_iff.mp hd).1
      have hr2 : ds.drop (k + 1) = r := by
        have : (ds.drop k).tail = r := by rw [hr]; rfl
        rw [List.tail_drop] at this
        exact this
      obtain ⟨e', a1, fl, a2, a3⟩ := step k d e hd ik
      unfold goF
      rw [a1]
      simp only [Option.bind_some]
      rw [a2]
      rcases a3 with ⟨e2, rfl | rfl, q⟩ | ⟨v, e2, rfl, q⟩ | ⟨e2, rfl, q⟩
      · exact ih (k + 1) e2 (by omega) hr2 q
      · exact ih (k + 1) e2 (by omega) hr2 q
      · exact ⟨_, rfl, .inr ⟨v, e2, rfl, q⟩⟩
      · exact ⟨_, rfl, .inl ⟨e2, rfl, q⟩⟩
  obtain ⟨fl, g1, g2⟩ := go ds 0 e (Nat.zero_le _) rfl i0
  have hf : forS src asg body env = some fl := forS_e h1 g1
  rcases g2 with ⟨e2, rfl, fl2, g3, q⟩ | ⟨v, e2, rfl, q⟩
  · exact ⟨fl2, seqS_n hf g3, q⟩
  · exact ⟨_, seqS_r hf, q⟩
/-- a comprehension, by what holds between its items, and what its items are -/
theorem wp_comp {pb : Bool} {src : M (List PyData)} {asg : PyData → Env → Option Env} {cond : M Bool} {elt : M PyData} {vs : List Nat} (T : PyData → Prop) (I : Nat → Env → Prop)
    (hs : wp src env fun ds e => ds.length ≤ sizeLine ∧ I 0 (wipeE e vs) ∧ (∀ k d e, ds[k]? = some d → I k e → ∃ e1, asg d e = some e1 ∧ wp cond e1 fun c e2 => (c = false → I (k + 1) (wipeE e2 vs)) ∧ (c = true → wp elt e2 fun y e3 => T y ∧ I (k + 1) (wipeE e3 vs))) ∧
      ∀ ys e', ys.length ≤ ds.length → (∀ y ∈ ys, T y) → I ds.length e' → Q (.list ys) (if pb then e else restE e e' vs)) : wp (compF pb src asg cond elt vs) env Q := by
  obtain ⟨ds, e, h1, hz, i0, step, fin⟩ := hs
  have go : ∀ (r : List PyData) (k : Nat) (e : Env), k ≤ ds.length → ds.drop k = r → I k e → ∃ ys e', goC asg cond elt vs r e = some (ys, e') ∧ ys.length ≤ r.length ∧ (∀ y ∈ ys, T y) ∧ I ds.length e' := by
    intro r
    induction r with
    | nil =>
      intro k e hk hr ik
      have hk2 : ds.length ≤ k := List.drop_eq_nil_iff.mp hr
      have : k = ds.length := by omega
      subst this
      exact ⟨[], e, rfl, Nat.le_refl _, (fun _ h => nomatch h), ik⟩
    | cons d r ih =>
      intro k e hk hr ik
      have hd : ds[k]? = some d := by
        have : (ds.drop k)[0]? = some d := by rw [hr]; rfl
        simpa using this
      have hlt : k < ds.length := (List.getElem?_eq_some_iff.mp hd).1
      have hr2 : ds.drop (k + 1) = r := by
        have : (ds.drop k).tail = r := by rw [hr]; rfl
        rw [List.tail_drop] at this
        exact this
      obtain ⟨e1, a1, c, e2, a2, a3, a4⟩ := step k d e hd ik
      unfold goC
      rw [a1]
      simp only [Option.bind_some]
      rw [a2]
      simp only [Option.bind_some]
      cases c with
      | false =>
        obtain ⟨ys, e', b1, b2, b3, b4⟩ := ih (k + 1) _ (by omega) hr2 (a3 rfl)
        exact ⟨ys, e', b1, by rw [List.length_cons]; omega, b3, b4⟩
      | true =>
        obtain ⟨y, e3, c1, c2, c3⟩ := a4 rfl
        obtain ⟨ys, e', b1, b2, b3, b4⟩ := ih (k + 1) _ (by omega) hr2 c3
        refine ⟨y :: ys, e', ?_, by rw [List.length_cons, List.length_cons]; omega, fun z hz => ?_, b4⟩
        · simp only
          rw [c1]
          simp only [Option.bind_some]
          rw [b1]
          rfl
        · rcases List.mem_cons.mp hz with rfl | hz
          · exact c2
          · exact b3 z hz
  obtain ⟨ys, e', b1, b2, b3, b4⟩ := go ds 0 _ (Nat.zero_le _) rfl i0
  refine ⟨.list ys, _, ?_, fin ys e' b2 b3 b4⟩
  unfold compF
  rw [h1]
  simp only [Option.bind_some]
  rw [b1]
  simp only [Option.bind_some]
  rw [if_pos (show szOk ds = true from decide_eq_true hz)]
/-! defs -/
theorem run_wp {own : List OT} {ret : OT} {n : Nat} {ds : List PyData} {R : PyData → Prop} (h : allSh own = true) (hl : ds.length = own.length) (hf : wpS fs (ds.map some ++ List.replicate (n - ds.length) none) fun fl => ∃ d e, fl = .rt d e ∧ R d) : ∃ d, runB own ret n fs ds = some (d, ds) ∧ R d := by
  obtain ⟨fl, h1, d, e, rfl, r⟩ := hf
  exact ⟨d, run_rt h hl h1, r⟩
theorem run_lent_wp {ret : OT} {n : Nat} {l : List PyData} {ds : List PyData} {k : Nat} {R : PyData → List PyData → Prop} (hk : ds.length = k) (hf : wpS fs ((PyData.list l :: ds).map some ++ List.replicate (n - (k + 1)) none) fun fl => ∃ d e l', fl = .rt d e ∧ e[0]? = some (some (.list l')) ∧ R d l') :
    ∃ d l', runB (.ls .sh :: List.replicate k .sh) ret n fs (.list l :: ds) = some (d, .list l' :: ds) ∧ R d l' := by
  obtain ⟨fl, h1, d, e, l', rfl, h2, r⟩ := hf
  exact ⟨d, l', run_lent hk h1 h2, r⟩
theorem ex_of {α : Type} {o : Option α} {r : α} {R : α → Prop} (h : o = some r) (q : R r) : ∃ d, o = some d ∧ R d := ⟨r, h, q⟩
theorem ex_eq {α : Type} {r : α} {R : α → Prop} (q : R r) : ∃ d, r = d ∧ R d := ⟨r, rfl, q⟩
end
end Ev

set_option Elab.async false
set_option linter.all false
set_option maxRecDepth 100000
set_option maxHeartbeats 4000000
namespace Ev
open PySem PySem.Spec PyProof.Rows L2
local macro_rules | `(tactic| walk_at "ev") => `(tactic| repeat' first
  | with_reducible exact conF_e
  | with_reducible exact nilF_e
  | with_reducible exact noO_e
  | with_reducible exact yesF_e
  | with_reducible exact skipS_e
  | with_reducible assumption
  | ((with_reducible apply varF_e); exact rfl)
  | with_reducible apply bind2_e
  | with_reducible apply mapM_e
  | with_reducible apply mapF_e
  | with_reducible apply consF_e
  | with_reducible apply callF_e
  | with_reducible apply retS_e
  | with_reducible apply asgS_e
  | with_reducible apply exprS_e
  | with_reducible apply yesO_e
  | with_reducible apply sliceF_e
  | with_reducible apply notF_e
  | with_reducible apply asB_e
  | with_reducible exact isi_l _
  | ((with_reducible refine (isi_l _).trans ?_); exact rfl)
  | with_reducible exact isi_t _
  | ((with_reducible refine (isi_t _).trans ?_); exact rfl)
  | with_reducible exact isi_s _
  | ((with_reducible refine (isi_s _).trans ?_); exact rfl)
  | with_reducible exact isi_b _
  | ((with_reducible refine (isi_b _).trans ?_); exact rfl)
  | with_reducible exact isi_i _
  | ((with_reducible refine (isi_i _).trans ?_); exact rfl)
  | with_reducible exact isi_d _
  | ((with_reducible refine (isi_d _).trans ?_); exact rfl)
  | with_reducible exact isi_lt _
  | ((with_reducible refine (isi_lt _).trans ?_); exact rfl)
  | with_reducible exact lenD_l' _
  | with_reducible exact lenD_t _
  | with_reducible exact addD_ii _ _
  | with_reducible exact subD_ii _ _
  | with_reducible exact eqD_i _ _
  | with_reducible exact neD_i _ _
  | with_reducible exact ltD_i _ _
  | with_reducible exact gtD_i _ _
  | with_reducible exact leD_i _ _
  | with_reducible exact eqD_s _ _
  | with_reducible exact eqD_b _ _
  | with_reducible exact neD_b _ _)

local macro_rules | `(tactic| walk_at "wp") => `(tactic| repeat' first
  | with_reducible apply wp_con
  | ((with_reducible apply wp_var); exact rfl)
  | with_reducible apply wp_nil
  | with_reducible apply wp_no
  | with_reducible apply wp_yes
  | with_reducible apply wp_bind2
  | with_reducible apply wp_mapM
  | with_reducible apply wp_mapF
  | with_reducible apply wp_cons
  | with_reducible apply wp_asB
  | with_reducible apply wp_not
  | with_reducible apply wp_and
  | with_reducible apply wp_or
  | with_reducible apply wp_ite
  | with_reducible apply wp_chain
  | with_reducible apply wp_yesO
  | with_reducible apply wp_slice
  | with_reducible apply wp_seqA
  | with_reducible apply wpS_skipq
  | with_reducible apply wpS_asg
  | with_reducible apply wpS_expr
  | with_reducible apply wpS_asgG
  | with_reducible apply wpS_par
  | with_reducible apply wpS_ret
  | with_reducible apply wpS_assoc
  | with_reducible apply wpS_if
  | with_reducible refine ⟨_, rfl, ?_⟩
  | with_reducible refine ⟨_, Or.inl rfl, ?_⟩
  | with_reducible refine ⟨_, Or.inr rfl, ?_⟩
  | with_reducible apply ex_of (isi_l _)
  | with_reducible apply ex_of (isi_t _)
  | with_reducible apply ex_of (isi_s _)
  | with_reducible apply ex_of (isi_b _)
  | with_reducible apply ex_of (isi_i _)
  | with_reducible apply ex_of (isi_d _)
  | with_reducible apply ex_of (isi_lt _)
  | with_reducible apply ex_of (lenD_l' _)
  | with_reducible apply ex_of (lenD_t _)
  | with_reducible apply ex_of (addD_ii _ _)
  | with_reducible apply ex_of (subD_ii _ _)
  | with_reducible apply ex_of (eqD_i _ _)
  | with_reducible apply ex_of (neD_i _ _)
  | with_reducible apply ex_of (ltD_i _ _)
  | with_reducible apply ex_of (gtD_i _ _)
  | with_reducible apply ex_of (leD_i _ _)
  | with_reducible apply ex_of (eqD_s _ _)
  | with_reducible apply ex_of (eqD_b _ _)
  | with_reducible apply ex_of (neD_b _ _)
  | with_reducible (apply ex_of (by assumption)))

/-! ### words -/
abbrev lettersS : Str := "abcdefghijklmnopqrstuvwxyz"
abbrev figuresS : Str := "0123456789"
abbrev alnumS : Str := "abcdefghijklmnopqrstuvwxyz0123456789"
abbrev closedL : List Str := ["yes", "no", "not", "and", "or", "some", "all", "any", "least", "great", "next", "until", "unless", "always", "ever", "way", "place", "step", "state"]
def headB (x : Str) : Bool := match x.cps.toList with
  | [] => false
  | c :: _ => decide (c ∈ lettersS.cps.toList)
def bodyB (x : Str) : Bool := x.cps.toList.all fun c => decide (c ∈ alnumS.cps.toList)
def wordB (x : Str) : Bool := (decide (1 ≤ (x.length : Int)) && decide ((x.length : Int) ≤ 8) && headB x) && (bodyB x && !decide (x ∈ closedL))
theorem seqAF_s {f : M PyData} {env e1 : Env} {x : Str} (h : f env = some (.str x, e1)) : seqAF f env = some (signsD x, e1) := by
  unfold seqAF
  have e : mapM f itemsD env = none := by unfold mapM; rw [h]; rfl
  rw [e, mapM_e h (show strItems (.str x) = some (signsD x) from rfl)]; rfl
abbrev signP (c : Nat) : PyData := .str ⟨#[c]⟩
theorem in_sign (neg : Bool) (c : Nat) (y : Str) : inD neg (signP c) (.str y) = some (.bool (if neg then !decide (c ∈ y.cps.toList) else decide (c ∈ y.cps.toList))) := rfl
theorem plain_signs (l : List Nat) : PyData.plainAll (l.map signP) = true := plainAll_map (fun _ => by simp [PyData.plain]) l
theorem depth_signs (l : List Nat) : (PyData.list (l.map signP)).depth ≤ 64 := by
  have := depthAll_map (enc := signP) (k := 0) (fun _ => by simp [PyData.depth]) l
  simp [PyData.depth]
  omega
theorem eq_signs (l : List Nat) : eqD (.list (l.map signP)) (.list []) = some (.bool (l.map signP).isEmpty) := eqD_nil (plain_signs l) (depth_signs l)
theorem filter_body (x : Str) : ((x.cps.toList.filter fun c => !decide (c ∈ alnumS.cps.toList)).map signP).isEmpty = bodyB x := by
  rw [List.isEmpty_map]
  unfold bodyB
  generalize x.cps.toList = l
  induction l with
  | nil => rfl
  | cons c l ih =>
    rw [List.filter_cons, List.all_cons]
    by_cases h : c ∈ alnumS.cps.toList
    · rw [if_neg (by simp [h]), ih]; simp [h]
    · rw [if_pos (by simp [h])]; simp [h]
theorem head_ix {x : Str} (hz : x.length ≤ sizeLine) {c : Nat} {r : List Nat} (h : x.cps.toList = c :: r) : ixD (.str x) (.int 0) = some (signP c) := by
  show (if x.length ≤ sizeLine then (atI x.cps.toList 0).map signP else none) = _
  rw [if_pos hz, h, show atI (c :: r) 0 = some c from atI_nat (j := 0) rfl]
  rfl
theorem len_list (x : Str) : x.length = x.cps.toList.length := by rw [Array.length_toList]; rfl
theorem head_in {x : Str} (hz : x.length ≤ sizeLine) (h : 1 ≤ x.length) {i : Nat} {env : Env} (he : env[i]? = some (some (.str x))) : (bind2 (bind2 (varF i) (conF (.int 0)) ixD) (conF (.str lettersS)) (inD true)) env = some (.bool (!headB x), env) := by
  rw [len_list] at h
  cases q : x.cps.toList with
  | nil => rw [q] at h; simp at h
  | cons c r =>
    refine bind2_e (bind2_e (varF_e he) conF_e (head_ix hz q)) conF_e ?_
    rw [in_sign]
    unfold headB
    rw [q]
    try rfl
theorem in_words (neg : Bool) (x : Str) (l : List Str) : inD neg (.str x) (.tuple (l.map .str)) = some (.bool (if neg then !decide (x ∈ l) else decide (x ∈ l))) := by
  cases neg with
  | false => exact encS.inT x l
  | true =>
    have : inD true (.str x) (.tuple (l.map .str)) = inSeq true (.str x) (l.map .str) := by unfold inD; rfl
    rw [this]
    unfold inSeq
    rw [if_pos (by rw [encS.plain, plainAll_map encS.plain]; simp [PyData.depth]), any_eqv encS]
    try rfl
theorem wordB_false {x : Str} (h : (decide (1 ≤ (x.length : Int)) && decide ((x.length : Int) ≤ 8) && headB x) = false) : wordB x = false := by unfold wordB; rw [h]; rfl
theorem signs_comp {x : Str} (hz : x.length ≤ sizeLine) {i j : Nat} {env : Env} {fa : M PyData} (hij : i ≠ j) (he : env[i]? = some (some (.str x))) (hj : env[j]? = some none) (hc : ∀ c, fa (env.set j (some (signP c))) = some (.str alnumS, env.set j (some (signP c)))) :
    compF true (seqAF (varF i)) (nmG j) (asB (bind2 (varF j) fa (inD true))) (varF j) [j] env = some (.list ((x.cps.toList.filter fun c => !decide (c ∈ alnumS.cps.toList)).map signP), env) := by
  have hw : wipeE env [j] = env := by
    show env.set j none = env
    refine List.ext_getElem? fun k => ?_
    rw [List.getElem?_set]
    by_cases c : j = k
    · subst c
      rw [if_pos rfl, hj]
      have := (List.getElem?_eq_some_iff.mp hj).1
      rw [if_pos this]
    · rw [if_neg c]
  have hlt : j < env.length := (List.getElem?_eq_some_iff.mp hj).1
  have hg : ∀ c, (env.set j (some (signP c)))[j]? = some (some (signP c)) := fun c => by rw [List.getElem?_set, if_pos rfl, if_pos hlt]
  have hw2 : ∀ c, wipeE (env.set j (some (signP c))) [j] = env := fun c => by
    show (env.set j (some (signP c))).set j none = env
    rw [List.set_set]
    exact hw
  refine compF_pure (enc := signP) (e1 := env) (l := x.cps.toList) (p := fun c => !decide (c ∈ alnumS.cps.toList)) (h := signP) (seqAF_s (varF_e he)) (by rw [← len_list]; exact hz) fun c hc' => ?_
  rw [hw]
  refine ⟨env.set j (some (signP c)), env.set j (some (signP c)), rfl, asB_e (bind2_e (varF_e (hg c)) (hc c) (in_sign true c alnumS)), fun _ => hw2 c, fun _ => ⟨_, varF_e (hg c), hw2 c⟩⟩
theorem add_alnum : addD (.str lettersS) (.str figuresS) = some (.str alnumS) := by
  have e : (lettersS ++ figuresS : Str) = alnumS := by decide +kernel
  rw [← e]
  exact addD_ss (by rw [sizeLine_eq]; decide +kernel)
theorem add_closed : addD (.tuple [.str "yes", .str "no", .str "not", .str "and", .str "or", .str "some", .str "all", .str "any", .str "least", .str "great"]) (.tuple [.str "next", .str "until", .str "unless", .str "always", .str "ever", .str "way", .str "place", .str "step", .str "state"]) = some (.tuple (closedL.map .str)) :=
  addD_tt (by rw [sizeLine_eq]; decide)
theorem is_word_s {x : Str} (hz : x.length ≤ sizeLine) : c_is_word [.str x] = some (.bool (wordB x), [.str x]) := by
  refine run_rt (e1 := [some (.str x), none]) (fs := fb_is_word) (by decide) rfl ?_
  show fb_is_word [some (.str x), none] = _
  unfold fb_is_word
  have hL := lenD_s x hz
  have hl : (chainF (conF (.int 1)) (mapM (consF (varF 0) nilF) lenD) (conF (.int 8)) leD leD) [some (.str x), none] = some (.bool (decide (1 ≤ (x.length : Int)) && decide ((x.length : Int) ≤ 8)), [some (.str x), none]) := by
    refine chainF_b (y := .int (x.length : Nat)) conF_e ?_ (leD_i _ _) conF_e (leD_i _ _)
    walk_at "ev"
  have ho : ∀ b, (decide (1 ≤ (x.length : Int)) && decide ((x.length : Int) ≤ 8) && headB x) = b → (orF (notF (mapF (varF 0) (isiD "str"))) (orF (notF (chainF (conF (.int 1)) (mapM (consF (varF 0) nilF) lenD) (conF (.int 8)) leD leD)) (bind2 (bind2 (varF 0) (conF (.int 0)) ixD) (conF (.str lettersS)) (inD true)))) [some (.str x), none] = some (.bool (!b), [some (.str x), none]) := by
    rintro b rfl
    refine orF_f (notF_e (b := true) (by walk_at "ev")) ?_
    cases q : (decide (1 ≤ (x.length : Int)) && decide ((x.length : Int) ≤ 8)) with
    | false =>
      rw [q] at hl
      exact orF_t (notF_e hl)
    | true =>
      rw [q] at hl
      refine orF_f (notF_e hl) ?_
      simp only [Bool.and_eq_true, decide_eq_true_eq] at q
      exact head_in hz (by omega) rfl
  cases q : (decide (1 ≤ (x.length : Int)) && decide ((x.length : Int) ≤ 8) && headB x) with
  | false =>
    rw [wordB_false q]
    exact seqS_r (ifS_t (ho _ q) (seqS_r (retS_e conF_e)))
  | true =>
    refine seqS_n (ifS_f (ho _ q) skipS_e) (seqS_r (retS_e ?_))
    unfold wordB
    rw [q, Bool.true_and]
    refine andF_b (bind2_e (signs_comp hz (i := 0) (j := 1) (by decide) rfl rfl fun c => ?_) (mapM_e nilF_e (mkL_e (by simp))) ?_) fun _ => ?_
    · exact bind2_e conF_e conF_e add_alnum
    · rw [eq_signs, filter_body]
    · exact bind2_e (varF_e rfl) (bind2_e conF_e conF_e add_closed) (in_words true x closedL)
theorem is_word_n {d : PyData} (h : isS d = false) : c_is_word [d] = some (.bool false, [d]) := by
  refine run_rt (e1 := [some d, none]) (fs := fb_is_word) (by decide) rfl ?_
  show fb_is_word [some d, none] = _
  unfold fb_is_word
  exact seqS_r (ifS_t (orF_t (notF_e (b := false) (by rw [← h]; walk_at "ev"))) (seqS_r (retS_e conF_e)))
def wordD : PyData → Bool
  | .str x => wordB x
  | _ => false
def ShortS (d : PyData) : Prop := ∀ x, d = .str x → x.length ≤ sizeLine
theorem is_word_d {d : PyData} (h : ShortS d) : c_is_word [d] = some (.bool (wordD d), [d]) := by
  cases d with
  | str x => exact is_word_s (h x rfl)
  | _ => exact is_word_n rfl
/-! the law's own judge of words -/
end Ev

set_option Elab.async false
set_option linter.all false
set_option maxRecDepth 100000
set_option maxHeartbeats 4000000
namespace Ev
open PySem PySem.Spec PyProof.Rows L2
local macro_rules | `(tactic| walk_at "ev") => `(tactic| repeat' first
  | with_reducible exact conF_e
  | with_reducible exact nilF_e
  | with_reducible exact noO_e
  | with_reducible exact yesF_e
  | with_reducible exact skipS_e
  | with_reducible assumption
  | ((with_reducible apply varF_e); exact rfl)
  | with_reducible apply bind2_e
  | with_reducible apply mapM_e
  | with_reducible apply mapF_e
  | with_reducible apply consF_e
  | with_reducible apply callF_e
  | with_reducible apply retS_e
  | with_reducible apply asgS_e
  | with_reducible apply exprS_e
  | with_reducible apply yesO_e
  | with_reducible apply sliceF_e
  | with_reducible apply notF_e
  | with_reducible apply asB_e
  | with_reducible exact isi_l _
  | ((with_reducible refine (isi_l _).trans ?_); exact rfl)
  | with_reducible exact isi_t _
  | ((with_reducible refine (isi_t _).trans ?_); exact rfl)
  | with_reducible exact isi_s _
  | ((with_reducible refine (isi_s _).trans ?_); exact rfl)
  | with_reducible exact isi_b _
  | ((with_reducible refine (isi_b _).trans ?_); exact rfl)
  | with_reducible exact isi_i _
  | ((with_reducible refine (isi_i _).trans ?_); exact rfl)
  | with_reducible exact isi_d _
  | ((with_reducible refine (isi_d _).trans ?_); exact rfl)
  | with_reducible exact isi_lt _
  | ((with_reducible refine (isi_lt _).trans ?_); exact rfl)
  | with_reducible exact lenD_l' _
  | with_reducible exact lenD_t _
  | with_reducible exact addD_ii _ _
  | with_reducible exact subD_ii _ _
  | with_reducible exact eqD_i _ _
  | with_reducible exact neD_i _ _
  | with_reducible exact ltD_i _ _
  | with_reducible exact gtD_i _ _
  | with_reducible exact leD_i _ _
  | with_reducible exact eqD_s _ _
  | with_reducible exact eqD_b _ _
  | with_reducible exact neD_b _ _)

local macro_rules | `(tactic| walk_at "wp") => `(tactic| repeat' first
  | with_reducible apply wp_con
  | ((with_reducible apply wp_var); exact rfl)
  | with_reducible apply wp_nil
  | with_reducible apply wp_no
  | with_reducible apply wp_yes
  | with_reducible apply wp_bind2
  | with_reducible apply wp_mapM
  | with_reducible apply wp_mapF
  | with_reducible apply wp_cons
  | with_reducible apply wp_asB
  | with_reducible apply wp_not
  | with_reducible apply wp_and
  | with_reducible apply wp_or
  | with_reducible apply wp_ite
  | with_reducible apply wp_chain
  | with_reducible apply wp_yesO
  | with_reducible apply wp_slice
  | with_reducible apply wp_seqA
  | with_reducible apply wpS_skipq
  | with_reducible apply wpS_asg
  | with_reducible apply wpS_expr
  | with_reducible apply wpS_asgG
  | with_reducible apply wpS_par
  | with_reducible apply wpS_ret
  | with_reducible apply wpS_assoc
  | with_reducible apply wpS_if
  | with_reducible refine ⟨_, rfl, ?_⟩
  | with_reducible refine ⟨_, Or.inl rfl, ?_⟩
  | with_reducible refine ⟨_, Or.inr rfl, ?_⟩
  | with_reducible apply ex_of (isi_l _)
  | with_reducible apply ex_of (isi_t _)
  | with_reducible apply ex_of (isi_s _)
  | with_reducible apply ex_of (isi_b _)
  | with_reducible apply ex_of (isi_i _)
  | with_reducible apply ex_of (isi_d _)
  | with_reducible apply ex_of (isi_lt _)
  | with_reducible apply ex_of (lenD_l' _)
  | with_reducible apply ex_of (lenD_t _)
  | with_reducible apply ex_of (addD_ii _ _)
  | with_reducible apply ex_of (subD_ii _ _)
  | with_reducible apply ex_of (eqD_i _ _)
  | with_reducible apply ex_of (neD_i _ _)
  | with_reducible apply ex_of (ltD_i _ _)
  | with_reducible apply ex_of (gtD_i _ _)
  | with_reducible apply ex_of (leD_i _ _)
  | with_reducible apply ex_of (eqD_s _ _)
  | with_reducible apply ex_of (eqD_b _ _)
  | with_reducible apply ex_of (neD_b _ _)
  | with_reducible (apply ex_of (by assumption)))

/-! ### data that are small -/
/-- p: no dict within -/
inductive Ex : Bool → Nat → PyData → Prop
  | non {p : Bool} {n : Nat} : Ex p n .none
  | bl {p : Bool} {n : Nat} (b : Bool) : Ex p n (.bool b)
  | int {p : Bool} {n : Nat} (i : Int) : Ex p n (.int i)
  | str {p : Bool} {n : Nat} {x : Str} : x.length ≤ 1000 → Ex p n (.str x)
  | lst {p : Bool} {n : Nat} {ds : List PyData} : (∀ d ∈ ds, Ex p n d) → ds.length ≤ 10000 → Ex p (n + 1) (.list ds)
  | tup {p : Bool} {n : Nat} {ds : List PyData} : (∀ d ∈ ds, Ex p n d) → ds.length ≤ 10000 → Ex p (n + 1) (.tuple ds)
  | dct {n : Nat} {kvs : DKV} : (∀ kv ∈ kvs, ∃ k, kv.1 = keyD k) → (∀ kv ∈ kvs, Ex false n kv.1) → (∀ kv ∈ kvs, Ex false n kv.2) → (kvs.map Prod.fst).Nodup → kvs.length ≤ 10 → Ex false (n + 3) (.dict kvs)
theorem Ex.mono {p : Bool} {n : Nat} {d : PyData} (h : Ex p n d) : ∀ m, n ≤ m → Ex p m d := by
  induction h with
  | non => intro m _; exact .non
  | bl b => intro m _; exact .bl b
  | int i => intro m _; exact .int i
  | str h => intro m _; exact .str h
  | lst h hz ih =>
    intro m hm
    obtain ⟨m, rfl⟩ : ∃ k, m = k + 1 := ⟨m - 1, by omega⟩
    exact .lst (fun d hd => ih d hd m (by omega)) hz
  | tup h hz ih =>
    intro m hm
    obtain ⟨m, rfl⟩ : ∃ k, m = k + 1 := ⟨m - 1, by omega⟩
    exact .tup (fun d hd => ih d hd m (by omega)) hz
  | dct h h1 h2 hn hz ih1 ih2 =>
    intro m hm
    obtain ⟨m, rfl⟩ : ∃ k, m = k + 3 := ⟨m - 3, by omega⟩
    exact .dct h (fun kv hk => ih1 kv hk m (by omega)) (fun kv hk => ih2 kv hk m (by omega)) hn hz
theorem Ex.any {p : Bool} {n : Nat} {d : PyData} (h : Ex p n d) : Ex false n d := by
  induction h with
  | non => exact .non
  | bl b => exact .bl b
  | int i => exact .int i
  | str h => exact .str h
  | lst h hz ih => exact .lst ih hz
  | tup h hz ih => exact .tup ih hz
  | dct h h1 h2 hn hz ih1 ih2 => exact .dct h ih1 ih2 hn hz
theorem plainAll_of {l : List PyData} (h : ∀ d ∈ l, d.plain = true) : PyData.plainAll l = true := by
  induction l with
  | nil => simp [PyData.plainAll]
  | cons d l ih =>
    simp only [PyData.plainAll, Bool.and_eq_true]
    exact ⟨h d List.mem_cons_self, ih fun e he => h e (List.mem_cons_of_mem _ he)⟩
theorem depthAll_of {n : Nat} {l : List PyData} (h : ∀ d ∈ l, d.depth ≤ n) : PyData.depthAll l ≤ n + 1 := by
  induction l with
  | nil => simp [PyData.depthAll]
  | cons d l ih =>
    have h1 := h d List.mem_cons_self
    have h2 := ih fun e he => h e (List.mem_cons_of_mem _ he)
    simp only [PyData.depthAll]
    omega
theorem Ex.plain' {p : Bool} {n : Nat} {d : PyData} (h : Ex p n d) (hp : p = true) : d.plain = true ∧ d.depth ≤ 2 * n := by
  induction h with
  | non => simp [PyData.plain, PyData.depth]
  | bl b => simp [PyData.plain, PyData.depth]
  | int i => simp [PyData.plain, PyData.depth]
  | str h => simp [PyData.plain, PyData.depth]
  | lst h hz ih =>
    have h1 := plainAll_of fun d hd => (ih d hd hp).1
    have h2 := depthAll_of fun d hd => (ih d hd hp).2
    simp only [PyData.plain, PyData.depth, h1, true_and]
    omega
  | tup h hz ih =>
    have h1 := plainAll_of fun d hd => (ih d hd hp).1
    have h2 := depthAll_of fun d hd => (ih d hd hp).2
    simp only [PyData.plain, PyData.depth, h1, true_and]
    omega
  | dct h h1 h2 hn hz ih1 ih2 => cases hp
theorem Ex.plain {n : Nat} {d : PyData} (h : Ex true n d) : d.plain = true ∧ d.depth ≤ 2 * n := h.plain' rfl
theorem Ex.short {p : Bool} {n : Nat} {d : PyData} (h : Ex p n d) : ShortS d := by
  intro x e
  subst e
  cases h with
  | str h => rw [sizeLine_eq]; omega
/-! [x for x in l if bad x] == [] -/
section
variable {i j : Nat} {env : Env} {l : List PyData} {cond : M Bool} {p : PyData → Bool}
theorem set_back {j : Nat} {env : Env} (hj : env[j]? = some none) (o : Option PyData) : (env.set j o).set j none = env := by
  rw [List.set_set]
  refine List.ext_getElem? fun k => ?_
  rw [List.getElem?_set]
  by_cases c : j = k
  · subst c
    rw [if_pos rfl, hj]
    have := (List.getElem?_eq_some_iff.mp hj).1
    rw [if_pos this]
  · rw [if_neg c]
theorem set_none {j : Nat} {env : Env} (hj : env[j]? = some none) : env.set j none = env := by
  have := set_back hj none
  rwa [List.set_set] at this
theorem set_get {j : Nat} {env : Env} (hj : env[j]? = some none) (o : Option PyData) : (env.set j o)[j]? = some o := by
  rw [List.getElem?_set, if_pos rfl, if_pos (List.getElem?_eq_some_iff.mp hj).1]
theorem filt_comp {src : M (List PyData)} (hs : src env = some (l, env)) (hj : env[j]? = some none) (hz : l.length ≤ sizeLine) (hc : ∀ d ∈ l, cond (env.set j (some d)) = some (p d, env.set j (some d))) : compF true src (nmG j) cond (varF j) [j] env = some (.list (l.filter p), env) := by
  have h := compF_pure (enc := id) (e1 := env) (l := l) (p := p) (h := id) (src := src) (asg := nmG j) (cond := cond) (elt := varF j) (vs := [j]) (by rw [List.map_id]; exact hs) hz fun d hd => by
    have hw : wipeE env [j] = env := set_none hj
    rw [hw]
    exact ⟨env.set j (some d), env.set j (some d), rfl, hc d hd, fun _ => set_back hj _, fun _ => ⟨_, varF_e (set_get hj _), set_back hj _⟩⟩
  rwa [List.map_id] at h
theorem isE_filter : (l.filter p).isEmpty = l.all fun d => !p d := by
  induction l with
  | nil => rfl
  | cons d l ih =>
    rw [List.filter_cons, List.all_cons]
    cases p d <;> simp [ih]
variable {n : Nat}
theorem filt_eq {src : M (List PyData)} (hx : ∀ d ∈ l, Ex true n d) (hn : n ≤ 20) (hs : src env = some (l, env)) (hj : env[j]? = some none) (hz : l.length ≤ sizeLine) (hc : ∀ d ∈ l, cond (env.set j (some d)) = some (p d, env.set j (some d))) : bind2 (compF true src (nmG j) cond (varF j) [j]) (mapM nilF mkL) eqD env = some (.bool (l.all fun d => !p d), env) := by
  refine bind2_e (filt_comp hs hj hz hc) (mapM_e nilF_e (mkL_e (by simp))) ?_
  rw [← isE_filter]
  refine eqD_nil (plainAll_of fun d hd => ((hx d (List.mem_filter.mp hd).1).plain).1) ?_
  have := depthAll_of (n := 2 * n) (l := l.filter p) fun d hd => ((hx d (List.mem_filter.mp hd).1).plain).2
  simp only [PyData.depth]
  omega
theorem filt_ne {src : M (List PyData)} (hx : ∀ d ∈ l, Ex true n d) (hn : n ≤ 20) (hs : src env = some (l, env)) (hj : env[j]? = some none) (hz : l.length ≤ sizeLine) (hc : ∀ d ∈ l, cond (env.set j (some d)) = some (p d, env.set j (some d))) : bind2 (compF true src (nmG j) cond (varF j) [j]) (mapM nilF mkL) neD env = some (.bool (!l.all fun d => !p d), env) := by
  refine bind2_e (filt_comp hs hj hz hc) (mapM_e nilF_e (mkL_e (by simp))) ?_
  rw [← isE_filter]
  refine neD_nil (plainAll_of fun d hd => ((hx d (List.mem_filter.mp hd).1).plain).1) ?_
  have := depthAll_of (n := 2 * n) (l := l.filter p) fun d hd => ((hx d (List.mem_filter.mp hd).1).plain).2
  simp only [PyData.depth]
  omega
end
/-! ### rising lists -/
def adjB (l : List PyData) (i : Nat) : Bool := PySem.W.dataLt (l.getD i .none) (l.getD (i + 1) .none)
def risesB (l : List PyData) : Bool := (List.range (l.length - 1)).all fun i => adjB l i
def AdjOk (l : List PyData) : Prop := ∀ (i : Nat) (a b : PyData), l[i]? = some a → l[i + 1]? = some b → ordOk a b = true
theorem rises_expr {l : List PyData} (hz : l.length ≤ 10000) (ha : AdjOk l) : (bind2 (compF true (mapM (consF (conF (.int 1)) (consF (mapM (consF (varF 0) nilF) lenD) nilF)) rng2D) (nmG 1) (asB (notF (bind2 (bind2 (varF 0) (bind2 (varF 1) (conF (.int 1)) subD) ixD) (bind2 (varF 0) (varF 1) ixD) ltD))) (varF 1) [1]) (mapM nilF mkL) eqD) [some (.list l), none] = some (.bool (risesB l), [some (.list l), none]) := by
  have hsrc : mapM (consF (conF (.int 1)) (consF (mapM (consF (varF 0) nilF) lenD) nilF)) rng2D [some (.list l), none] = some ((List.range (l.length - 1)).map (fun i : Nat => PyData.int (1 + (i : Nat))), [some (.list l), none]) := by
    refine mapM_e (consF_e conF_e (consF_e (mapM_e (consF_e (varF_e rfl) nilF_e) (lenD_l' _)) nilF_e)) ?_
    show (if (rngOk 1 && rngOk (l.length : Nat)) = true then some (rngD 1 ((l.length : Nat) - 1 : Int).toNat) else none) = _
    rw [if_pos]
    · unfold rngD
      have : (((l.length : Nat) : Int) - 1).toNat = l.length - 1 := by omega
      rw [this]
    · unfold rngOk
      simp only [Bool.and_eq_true, decide_eq_true_eq]
      omega
  have h := compF_pure (asg := nmG 1) (cond := asB (notF (bind2 (bind2 (varF 0) (bind2 (varF 1) (conF (.int 1)) subD) ixD) (bind2 (varF 0) (varF 1) ixD) ltD))) (elt := varF 1) (vs := [1]) (p := fun i => !adjB l i) (h := fun i : Nat => PyData.int (1 + (i : Nat))) hsrc (by rw [List.length_range, sizeLine_eq]; omega) fun i hi => by
    have hi := List.mem_range.mp hi
    have g1 : l[i]? = some l[i] := List.getElem?_eq_getElem (by omega)
    have g2 : l[i + 1]? = some l[i + 1] := List.getElem?_eq_getElem (by omega)
    refine ⟨[some (.list l), some (.int (1 + (i : Nat)))], [some (.list l), some (.int (1 + (i : Nat)))], rfl, asB_e (notF_e (bind2_e (x := l[i]) (y := l[i + 1]) (bind2_e (varF_e rfl) (bind2_e (varF_e rfl) conF_e (subD_ii _ _)) ?_) (bind2_e (varF_e rfl) (varF_e rfl) ?_) ?_)), fun _ => rfl, fun _ => ⟨_, varF_e rfl, rfl⟩⟩
    · rw [show (1 + (i : Int) - 1) = (i : Nat) by omega]
      exact ixL g1
    · rw [show (1 + (i : Int)) = ((i + 1 : Nat) : Int) by omega]
      exact ixL g2
    · unfold ltD ordD adjB
      rw [if_pos (ha i _ _ g1 g2), List.getD_eq_getElem?_getD, List.getD_eq_getElem?_getD, g1, g2]
      rfl
  refine bind2_e h (mapM_e nilF_e (mkL_e (by simp))) ?_
  have hm : ∀ d ∈ ((List.range (l.length - 1)).filter fun i => !adjB l i).map fun i : Nat => PyData.int (1 + (i : Nat)), d.plain = true ∧ d.depth ≤ 0 := fun d hd => by
    obtain ⟨i, _, rfl⟩ := List.mem_map.mp hd
    simp [PyData.plain, PyData.depth]
  have hdp : (PyData.list (((List.range (l.length - 1)).filter fun i => !adjB l i).map fun i : Nat => PyData.int (1 + (i : Nat)))).depth ≤ 64 := by
    have := depthAll_of fun d hd => (hm d hd).2
    simp only [PyData.depth]
    omega
  refine (eqD_nil (plainAll_of fun d hd => (hm d hd).1) hdp).trans ?_
  unfold risesB
  rw [List.isEmpty_map]
  generalize List.range (l.length - 1) = r
  induction r with
  | nil => rfl
  | cons i r ih =>
    rw [List.filter_cons, List.all_cons]
    cases adjB l i
    · simp
    · simpa using ih
theorem is_rising_d {l : List PyData} (hz : l.length ≤ 10000) (ha : AdjOk l) : c_is_rising [.list l] = some (.bool (risesB l), [.list l]) := by
  refine run_rt (e1 := [some (.list l), none]) (fs := fb_is_rising) (by decide) rfl ?_
  exact seqS_r (retS_e (rises_expr hz ha))
end Ev

set_option Elab.async false
set_option linter.all false
set_option maxRecDepth 100000
set_option maxHeartbeats 4000000
namespace Ev
open PySem PySem.Spec PyProof.Rows L2
local macro_rules | `(tactic| walk_at "ev") => `(tactic| repeat' first
  | with_reducible exact conF_e
  | with_reducible exact nilF_e
  | with_reducible exact noO_e
  | with_reducible exact yesF_e
  | with_reducible exact skipS_e
  | with_reducible assumption
  | ((with_reducible apply varF_e); exact rfl)
  | with_reducible apply bind2_e
  | with_reducible apply mapM_e
  | with_reducible apply mapF_e
  | with_reducible apply consF_e
  | with_reducible apply callF_e
  | with_reducible apply retS_e
  | with_reducible apply asgS_e
  | with_reducible apply exprS_e
  | with_reducible apply yesO_e
  | with_reducible apply sliceF_e
  | with_reducible apply notF_e
  | with_reducible apply asB_e
  | with_reducible exact isi_l _
  | ((with_reducible refine (isi_l _).trans ?_); exact rfl)
  | with_reducible exact isi_t _
  | ((with_reducible refine (isi_t _).trans ?_); exact rfl)
  | with_reducible exact isi_s _
  | ((with_reducible refine (isi_s _).trans ?_); exact rfl)
  | with_reducible exact isi_b _
  | ((with_reducible refine (isi_b _).trans ?_); exact rfl)
  | with_reducible exact isi_i _
  | ((with_reducible refine (isi_i _).trans ?_); exact rfl)
  | with_reducible exact isi_d _
  | ((with_reducible refine (isi_d _).trans ?_); exact rfl)
  | with_reducible exact isi_lt _
  | ((with_reducible refine (isi_lt _).trans ?_); exact rfl)
  | with_reducible exact lenD_l' _
  | with_reducible exact lenD_t _
  | with_reducible exact addD_ii _ _
  | with_reducible exact subD_ii _ _
  | with_reducible exact eqD_i _ _
  | with_reducible exact neD_i _ _
  | with_reducible exact ltD_i _ _
  | with_reducible exact gtD_i _ _
  | with_reducible exact leD_i _ _
  | with_reducible exact eqD_s _ _
  | with_reducible exact eqD_b _ _
  | with_reducible exact neD_b _ _)

local macro_rules | `(tactic| walk_at "wp") => `(tactic| repeat' first
  | with_reducible apply wp_con
  | ((with_reducible apply wp_var); exact rfl)
  | with_reducible apply wp_nil
  | with_reducible apply wp_no
  | with_reducible apply wp_yes
  | with_reducible apply wp_bind2
  | with_reducible apply wp_mapM
  | with_reducible apply wp_mapF
  | with_reducible apply wp_cons
  | with_reducible apply wp_asB
  | with_reducible apply wp_not
  | with_reducible apply wp_and
  | with_reducible apply wp_or
  | with_reducible apply wp_ite
  | with_reducible apply wp_chain
  | with_reducible apply wp_yesO
  | with_reducible apply wp_slice
  | with_reducible apply wp_seqA
  | with_reducible apply wpS_skipq
  | with_reducible apply wpS_asg
  | with_reducible apply wpS_expr
  | with_reducible apply wpS_asgG
  | with_reducible apply wpS_par
  | with_reducible apply wpS_ret
  | with_reducible apply wpS_assoc
  | with_reducible apply wpS_if
  | with_reducible refine ⟨_, rfl, ?_⟩
  | with_reducible refine ⟨_, Or.inl rfl, ?_⟩
  | with_reducible refine ⟨_, Or.inr rfl, ?_⟩
  | with_reducible apply ex_of (isi_l _)
  | with_reducible apply ex_of (isi_t _)
  | with_reducible apply ex_of (isi_s _)
  | with_reducible apply ex_of (isi_b _)
  | with_reducible apply ex_of (isi_i _)
  | with_reducible apply ex_of (isi_d _)
  | with_reducible apply ex_of (isi_lt _)
  | with_reducible apply ex_of (lenD_l' _)
  | with_reducible apply ex_of (lenD_t _)
  | with_reducible apply ex_of (addD_ii _ _)
  | with_reducible apply ex_of (subD_ii _ _)
  | with_reducible apply ex_of (eqD_i _ _)
  | with_reducible apply ex_of (neD_i _ _)
  | with_reducible apply ex_of (ltD_i _ _)
  | with_reducible apply ex_of (gtD_i _ _)
  | with_reducible apply ex_of (leD_i _ _)
  | with_reducible apply ex_of (eqD_s _ _)
  | with_reducible apply ex_of (eqD_b _ _)
  | with_reducible apply ex_of (neD_b _ _)
  | with_reducible (apply ex_of (by assumption)))

/-! ### webs judged -/
theorem ordOk_s (a b : Str) : ordOk (.str a) (.str b) = true := by simp [ordOk, PySem.W.alike, PyData.plain, PyData.depth]
theorem wordD_str {d : PyData} (h : wordD d = true) : ∃ x, d = .str x := by
  cases d <;> simp [wordD] at h
  exact ⟨_, rfl⟩
theorem adj_words {r : List PyData} (h : r.all wordD = true) : AdjOk r := fun i a b ha hb => by
  rw [List.all_eq_true] at h
  obtain ⟨x, rfl⟩ := wordD_str (h _ (List.mem_of_getElem? ha))
  obtain ⟨y, rfl⟩ := wordD_str (h _ (List.mem_of_getElem? hb))
  exact ordOk_s x y
def wordsB (r : List PyData) (m : Int) : Bool := !decide (m < (r.length : Int)) && (r.all wordD && risesB r)
theorem not_not_all {l : List PyData} {p : PyData → Bool} : (l.all fun d => !!p d) = l.all p := by simp
theorem are_words_l {r : List PyData} {m : Int} {n : Nat} (hx : ∀ d ∈ r, Ex true n d) (hn : n ≤ 20) (hz : r.length ≤ 10000) : c_are_words [.list r, .int m] = some (.bool (wordsB r m), [.list r, .int m]) := by
  refine run_rt (e1 := [some (.list r), some (.int m), none]) (fs := fb_are_words) (by decide) rfl ?_
  show fb_are_words [some (.list r), some (.int m), none] = _
  unfold fb_are_words
  have hc : (orF (notF (mapF (varF 0) (isiD "list"))) (bind2 (mapM (consF (varF 0) nilF) lenD) (varF 1) gtD)) [some (.list r), some (.int m), none] = some (.bool (decide (m < (r.length : Int))), [some (.list r), some (.int m), none]) := orF_f (notF_e (b := true) (by walk_at "ev")) (by walk_at "ev")
  unfold wordsB
  cases q : decide (m < (r.length : Int)) with
  | true =>
    rw [q] at hc
    exact seqS_r (ifS_t hc (seqS_r (retS_e conF_e)))
  | false =>
    rw [q] at hc
    refine seqS_n (ifS_f hc skipS_e) (seqS_r (retS_e ?_))
    rw [Bool.not_false, Bool.true_and]
    have hf := filt_eq (j := 2) (n := n) (env := [some (.list r), some (.int m), none]) (p := fun d => !wordD d) (cond := asB (notF (mapM (consF (varF 2) nilF) (callF c_is_word)))) hx hn (seqAF_l (varF_e (i := 0) rfl)) rfl (by rw [sizeLine_eq]; omega) fun d hd => by
      have := is_word_d (hx d hd).short
      exact asB_e (notF_e (mapM_e (consF_e (varF_e rfl) nilF_e) (callF_e this)))
    rw [not_not_all] at hf
    refine andF_b hf fun ha => ?_
    exact mapM_e (consF_e (varF_e rfl) nilF_e) (callF_e (is_rising_d hz (adj_words ha)))
theorem are_words_n {d : PyData} {m : Int} (h : isL d = false) : c_are_words [d, .int m] = some (.bool false, [d, .int m]) := by
  refine run_rt (e1 := [some d, some (.int m), none]) (fs := fb_are_words) (by decide) rfl ?_
  show fb_are_words [some d, some (.int m), none] = _
  unfold fb_are_words
  exact seqS_r (ifS_t (orF_t (notF_e (b := false) (by rw [← h]; exact mapF_e (varF_e rfl) (isi_l _)))) (seqS_r (retS_e conF_e)))
def rowB : PyData → Bool
  | .list r => wordsB r 20
  | _ => false
theorem are_words_d {d : PyData} {n : Nat} (hx : Ex true (n + 1) d) (hn : n ≤ 20) : c_are_words [d, .int 20] = some (.bool (rowB d), [d, .int 20]) := by
  cases hx with
  | lst h hz => exact are_words_l h hn hz
  | _ => exact are_words_n rfl
/-! places -/
def belowB (d : PyData) (n : Int) : Bool := match d with
  | .int i => decide (0 ≤ i) && decide (i < n)
  | _ => false
def wholeB : PyData → Bool
  | .int _ => true
  | _ => false
theorem whole_eq (d : PyData) : (isI d && !isBl d) = wholeB d := by cases d <;> rfl
theorem whole_expr {i : Nat} {env : Env} {d : PyData} (he : env[i]? = some (some d)) : (andF (mapF (varF i) (isiD "int")) (notF (mapF (varF i) (isiD "bool")))) env = some (.bool (wholeB d), env) := by
  rw [← whole_eq]
  exact andF_b (mapF_e (varF_e he) (isi_i _)) fun _ => notF_e (mapF_e (varF_e he) (isi_b _))
theorem is_whole_d (d : PyData) : c_is_whole [d] = some (.bool (wholeB d), [d]) := by
  refine run_rt (e1 := [some d]) (fs := fb_is_whole) (by decide) rfl ?_
  exact seqS_r (retS_e (whole_expr rfl))
theorem below_chain {i : Nat} {env : Env} {f : M PyData} {d : PyData} {n : Int} (he : env[i]? = some (some d)) (hf : f env = some (.int n, env)) (hw : wholeB d = true) : chainF (conF (.int 0)) (varF i) f leD ltD env = some (.bool (belowB d n), env) := by
  cases d <;> simp [wholeB] at hw
  exact chainF_b conF_e (varF_e he) (leD_i _ _) hf (ltD_i _ _)
theorem below_n {d : PyData} {n : Int} (h : wholeB d = false) : belowB d n = false := by cases d <;> simp [wholeB] at h <;> rfl
theorem below_and (d : PyData) (n : Int) : (wholeB d && belowB d n) = belowB d n := by
  cases h : wholeB d with
  | true => rfl
  | false => rw [below_n h]; rfl
theorem is_below_d (d : PyData) (n : Int) : c_is_below [d, .int n] = some (.bool (belowB d n), [d, .int n]) := by
  refine run_rt (e1 := [some d, some (.int n)]) (fs := fb_is_below) (by decide) rfl ?_
  refine seqS_r (retS_e ?_)
  rw [← below_and]
  exact andF_b (mapM_e (consF_e (varF_e rfl) nilF_e) (callF_e (is_whole_d d))) fun hw => below_chain rfl (varF_e rfl) hw
/-! steps -/
def stepB (n : Int) : PyData → Bool
  | .tuple [a, b, c] => belowB a n && (wordD b && belowB c n)
  | _ => false
theorem is_step_n {d : PyData} {n : Int} (h : isT d = false) : c_is_step [d, .int n] = some (.bool false, [d, .int n]) := by
  refine run_rt (e1 := [some d, some (.int n)]) (fs := fb_is_step) (by decide) rfl ?_
  show fb_is_step [some d, some (.int n)] = _
  unfold fb_is_step
  exact seqS_r (ifS_t (orF_t (notF_e (b := false) (by rw [← h]; exact mapF_e (varF_e rfl) (isi_t _)))) (seqS_r (retS_e conF_e)))
theorem is_step_t {ds : List PyData} {n : Int} (hx : ∀ d ∈ ds, ShortS d) : c_is_step [.tuple ds, .int n] = some (.bool (stepB n (.tuple ds)), [.tuple ds, .int n]) := by
  refine run_rt (e1 := [some (.tuple ds), some (.int n)]) (fs := fb_is_step) (by decide) rfl ?_
  show fb_is_step [some (.tuple ds), some (.int n)] = _
  unfold fb_is_step
  have hc : (orF (notF (mapF (varF 0) (isiD "tuple"))) (bind2 (mapM (consF (varF 0) nilF) lenD) (conF (.int 3)) neD)) [some (.tuple ds), some (.int n)] = some (.bool (!decide ((ds.length : Int) = 3)), [some (.tuple ds), some (.int n)]) := orF_f (notF_e (b := true) (by walk_at "ev")) (by walk_at "ev")
  by_cases c : ds.length = 3
  · obtain ⟨a, b, c', rfl⟩ : ∃ a b c, ds = [a, b, c] := by
      match ds, c with
      | [a, b, c'], _ => exact ⟨a, b, c', rfl⟩
    rw [show decide ((([a, b, c'] : List PyData).length : Int) = 3) = true from rfl] at hc
    refine seqS_n (ifS_f hc skipS_e) (seqS_r (retS_e ?_))
    refine andF_b (mapM_e (consF_e (bind2_e (varF_e rfl) conF_e rfl) (consF_e (varF_e rfl) nilF_e)) (callF_e (is_below_d a n))) fun _ => ?_
    refine andF_b (mapM_e (consF_e (bind2_e (varF_e rfl) conF_e rfl) nilF_e) (callF_e (is_word_d (hx b (by simp))))) fun _ => ?_
    exact mapM_e (consF_e (bind2_e (varF_e rfl) conF_e rfl) (consF_e (varF_e rfl) nilF_e)) (callF_e (is_below_d c' n))
  · have e : stepB n (.tuple ds) = false := by
      match ds, c with
      | [], _ => rfl
      | [_], _ => rfl
      | [_, _], _ => rfl
      | _ :: _ :: _ :: _ :: _, _ => rfl
    rw [decide_eq_false (by omega)] at hc
    rw [e]
    exact seqS_r (ifS_t hc (seqS_r (retS_e conF_e)))
theorem is_step_d {d : PyData} {m : Nat} {n : Int} (hx : Ex true (m + 1) d) : c_is_step [d, .int n] = some (.bool (stepB n d), [d, .int n]) := by
  cases hx with
  | tup h hz => exact is_step_t fun d hd => (h d hd).short
  | _ => exact is_step_n rfl
theorem stepB_tup {n : Int} {d : PyData} (h : stepB n d = true) : ∃ i x j, d = .tuple [.int i, .str x, .int j] := by
  unfold stepB at h
  split at h
  · rename_i a b c
    simp only [Bool.and_eq_true] at h
    obtain ⟨h1, h2, h3⟩ := h
    obtain ⟨x, rfl⟩ := wordD_str h2
    cases a <;> simp [belowB] at h1
    cases c <;> simp [belowB] at h3
    exact ⟨_, x, _, rfl⟩
  · cases h
theorem adj_steps {n : Int} {l : List PyData} (h : l.all (stepB n) = true) : AdjOk l := fun i a b ha hb => by
  rw [List.all_eq_true] at h
  obtain ⟨i, x, j, rfl⟩ := stepB_tup (h _ (List.mem_of_getElem? ha))
  obtain ⟨i', y, j', rfl⟩ := stepB_tup (h _ (List.mem_of_getElem? hb))
  simp [ordOk, PySem.W.alike, PySem.W.alikeAll, PyData.plain, PyData.plainAll, PyData.depth, PyData.depthAll]
end Ev

set_option Elab.async false
set_option linter.all false
set_option maxRecDepth 100000
set_option maxHeartbeats 4000000
namespace Ev
open PySem PySem.Spec PyProof.Rows L2
local macro_rules | `(tactic| walk_at "ev") => `(tactic| repeat' first
  | with_reducible exact conF_e
  | with_reducible exact nilF_e
  | with_reducible exact noO_e
  | with_reducible exact yesF_e
  | with_reducible exact skipS_e
  | with_reducible assumption
  | ((with_reducible apply varF_e); exact rfl)
  | with_reducible apply bind2_e
  | with_reducible apply mapM_e
  | with_reducible apply mapF_e
  | with_reducible apply consF_e
  | with_reducible apply callF_e
  | with_reducible apply retS_e
  | with_reducible apply asgS_e
  | with_reducible apply exprS_e
  | with_reducible apply yesO_e
  | with_reducible apply sliceF_e
  | with_reducible apply notF_e
  | with_reducible apply asB_e
  | with_reducible exact isi_l _
  | ((with_reducible refine (isi_l _).trans ?_); exact rfl)
  | with_reducible exact isi_t _
  | ((with_reducible refine (isi_t _).trans ?_); exact rfl)
  | with_reducible exact isi_s _
  | ((with_reducible refine (isi_s _).trans ?_); exact rfl)
  | with_reducible exact isi_b _
  | ((with_reducible refine (isi_b _).trans ?_); exact rfl)
  | with_reducible exact isi_i _
  | ((with_reducible refine (isi_i _).trans ?_); exact rfl)
  | with_reducible exact isi_d _
  | ((with_reducible refine (isi_d _).trans ?_); exact rfl)
  | with_reducible exact isi_lt _
  | ((with_reducible refine (isi_lt _).trans ?_); exact rfl)
  | with_reducible exact lenD_l' _
  | with_reducible exact lenD_t _
  | with_reducible exact addD_ii _ _
  | with_reducible exact subD_ii _ _
  | with_reducible exact eqD_i _ _
  | with_reducible exact neD_i _ _
  | with_reducible exact ltD_i _ _
  | with_reducible exact gtD_i _ _
  | with_reducible exact leD_i _ _
  | with_reducible exact eqD_s _ _
  | with_reducible exact eqD_b _ _
  | with_reducible exact neD_b _ _)

local macro_rules | `(tactic| walk_at "wp") => `(tactic| repeat' first
  | with_reducible apply wp_con
  | ((with_reducible apply wp_var); exact rfl)
  | with_reducible apply wp_nil
  | with_reducible apply wp_no
  | with_reducible apply wp_yes
  | with_reducible apply wp_bind2
  | with_reducible apply wp_mapM
  | with_reducible apply wp_mapF
  | with_reducible apply wp_cons
  | with_reducible apply wp_asB
  | with_reducible apply wp_not
  | with_reducible apply wp_and
  | with_reducible apply wp_or
  | with_reducible apply wp_ite
  | with_reducible apply wp_chain
  | with_reducible apply wp_yesO
  | with_reducible apply wp_slice
  | with_reducible apply wp_seqA
  | with_reducible apply wpS_skipq
  | with_reducible apply wpS_asg
  | with_reducible apply wpS_expr
  | with_reducible apply wpS_asgG
  | with_reducible apply wpS_par
  | with_reducible apply wpS_ret
  | with_reducible apply wpS_assoc
  | with_reducible apply wpS_if
  | with_reducible refine ⟨_, rfl, ?_⟩
  | with_reducible refine ⟨_, Or.inl rfl, ?_⟩
  | with_reducible refine ⟨_, Or.inr rfl, ?_⟩
  | with_reducible apply ex_of (isi_l _)
  | with_reducible apply ex_of (isi_t _)
  | with_reducible apply ex_of (isi_s _)
  | with_reducible apply ex_of (isi_b _)
  | with_reducible apply ex_of (isi_i _)
  | with_reducible apply ex_of (isi_d _)
  | with_reducible apply ex_of (isi_lt _)
  | with_reducible apply ex_of (lenD_l' _)
  | with_reducible apply ex_of (lenD_t _)
  | with_reducible apply ex_of (addD_ii _ _)
  | with_reducible apply ex_of (subD_ii _ _)
  | with_reducible apply ex_of (eqD_i _ _)
  | with_reducible apply ex_of (neD_i _ _)
  | with_reducible apply ex_of (ltD_i _ _)
  | with_reducible apply ex_of (gtD_i _ _)
  | with_reducible apply ex_of (leD_i _ _)
  | with_reducible apply ex_of (eqD_s _ _)
  | with_reducible apply ex_of (eqD_b _ _)
  | with_reducible apply ex_of (neD_b _ _)
  | with_reducible (apply ex_of (by assumption)))

def webB : PyData → Bool
  | .tuple [.list rows, .list steps] => (decide (1 ≤ (rows.length : Int)) && decide ((rows.length : Int) ≤ 60)) && (rows.all rowB && (!decide (400 < (steps.length : Int)) && (steps.all (stepB (rows.length : Nat)) && risesB steps)))
  | _ => false
theorem webB_ll (rows steps : List PyData) : webB (.tuple [.list rows, .list steps]) = ((decide (1 ≤ (rows.length : Int)) && decide ((rows.length : Int) ≤ 60)) && (rows.all rowB && (!decide (400 < (steps.length : Int)) && (steps.all (stepB (rows.length : Nat)) && risesB steps)))) := rfl
/-- what is asked of a datum so that it may be judged -/
def Fit (d : PyData) : Prop := ∀ rows steps, d = .tuple [.list rows, .list steps] → (∀ r ∈ rows, Ex true 4 r) ∧ (∀ s ∈ steps, Ex true 4 s) ∧ rows.length ≤ 10000 ∧ steps.length ≤ 10000
theorem Ex.fit {d : PyData} (h : Ex true 6 d) : Fit d := by
  intro rows steps e
  subst e
  cases h with
  | tup h hz =>
    have h1 := h (.list rows) (by simp)
    have h2 := h (.list steps) (by simp)
    cases h1 with
    | lst a az => cases h2 with
      | lst b bz => exact ⟨a, b, az, bz⟩
/-- two parts, or not a tuple of two -/
theorem web_in_n {d : PyData} (h : isT d = false) : c_is_web_in [d] = some (.bool false, [d]) := by
  refine run_rt (e1 := [some d, none, none, none, none]) (fs := fb_is_web_in) (by decide) rfl ?_
  show fb_is_web_in [some d, none, none, none, none] = _
  unfold fb_is_web_in
  exact seqS_r (ifS_t (orF_t (notF_e (b := false) (by rw [← h]; exact mapF_e (varF_e rfl) (isi_t _)))) (seqS_r (retS_e conF_e)))
theorem web_in_t {ds : List PyData} (h : ds.length ≠ 2) : c_is_web_in [.tuple ds] = some (.bool false, [.tuple ds]) := by
  refine run_rt (e1 := [some (.tuple ds), none, none, none, none]) (fs := fb_is_web_in) (by decide) rfl ?_
  show fb_is_web_in [some (.tuple ds), none, none, none, none] = _
  unfold fb_is_web_in
  refine seqS_r (ifS_t (orF_f (notF_e (b := true) (by walk_at "ev")) (y := .bool true) (bind2_e (x := .int (ds.length : Nat)) (y := .int 2) (by walk_at "ev") conF_e ?_)) (seqS_r (retS_e conF_e)))
  rw [neD_i, decide_eq_false (by omega)]
  rfl
theorem web_in_2 {a b : PyData} (hf : Fit (.tuple [a, b])) : c_is_web_in [.tuple [a, b]] = some (.bool (webB (.tuple [a, b])), [.tuple [a, b]]) := by
  refine run_rt (e1 := [some (.tuple [a, b]), some a, some b, none, none]) (fs := fb_is_web_in) (by decide) rfl ?_
  show fb_is_web_in [some (.tuple [a, b]), none, none, none, none] = _
  unfold fb_is_web_in
  refine seqS_n (ifS_f (orF_f (notF_e (b := true) (by walk_at "ev")) (bind2_e (x := .int 2) (y := .int 2) (mapM_e (consF_e (varF_e rfl) nilF_e) rfl) conF_e (neD_i _ _))) skipS_e) ?_
  refine seqS_n (asgG_e (varF_e rfl) rfl) ?_
  show seqS _ _ [some (.tuple [a, b]), some a, some b, none, none] = _
  cases a with
  | list rows =>
    have hL : (mapM (consF (varF 1) nilF) lenD) [some (.tuple [.list rows, b]), some (.list rows), some b, none, none] = some (.int (rows.length : Nat), [some (.tuple [.list rows, b]), some (.list rows), some b, none, none]) := by walk_at "ev"
    have hch := chainF_b (env := [some (.tuple [.list rows, b]), some (.list rows), some b, none, none]) (fa := conF (.int 1)) (fc := conF (.int 60)) conF_e hL (leD_i _ _) conF_e (leD_i _ _)
    cases b with
    | list steps =>
      obtain ⟨f1, f2, f3, f4⟩ := hf rows steps rfl
      have hc : ∀ q, (decide (1 ≤ (rows.length : Int)) && decide ((rows.length : Int) ≤ 60)) = q → (orF (notF (mapF (varF 1) (isiD "list"))) (orF (notF (chainF (conF (.int 1)) (mapM (consF (varF 1) nilF) lenD) (conF (.int 60)) leD leD)) (notF (mapF (varF 2) (isiD "list"))))) [some (.tuple [.list rows, .list steps]), some (.list rows), some (.list steps), none, none] = some (.bool (!q), [some (.tuple [.list rows, .list steps]), some (.list rows), some (.list steps), none, none]) := by
        rintro q rfl
        refine orF_f (notF_e (b := true) (by walk_at "ev")) ?_
        cases q : (decide (1 ≤ (rows.length : Int)) && decide ((rows.length : Int) ≤ 60)) with
        | false => rw [q] at hch; exact orF_t (notF_e hch)
        | true => rw [q] at hch; exact orF_f (notF_e hch) (notF_e (b := true) (by walk_at "ev"))
      rw [webB_ll]
      cases q : (decide (1 ≤ (rows.length : Int)) && decide ((rows.length : Int) ≤ 60)) with
      | false => exact seqS_r (ifS_t (hc _ q) (seqS_r (retS_e conF_e)))
      | true =>
        refine seqS_n (ifS_f (hc _ q) skipS_e) ?_
        have h1 := filt_ne (j := 3) (n := 4) (env := [some (.tuple [.list rows, .list steps]), some (.list rows), some (.list steps), none, none]) (p := fun d => !rowB d) (cond := asB (notF (mapM (consF (varF 3) (consF (conF (.int 20)) nilF)) (callF c_are_words)))) f1 (by decide) (seqAF_l (varF_e (i := 1) rfl)) rfl (by rw [sizeLine_eq]; omega) fun d hd => asB_e (notF_e (mapM_e (consF_e (varF_e rfl) (consF_e conF_e nilF_e)) (callF_e (are_words_d (f1 d hd) (by decide)))))
        rw [not_not_all] at h1
        have h2 : (bind2 (mapM (consF (varF 2) nilF) lenD) (conF (.int 400)) gtD) [some (.tuple [.list rows, .list steps]), some (.list rows), some (.list steps), none, none] = some (.bool (decide (400 < (steps.length : Int))), [some (.tuple [.list rows, .list steps]), some (.list rows), some (.list steps), none, none]) := by walk_at "ev"
        rw [Bool.true_and]
        cases q1 : rows.all rowB with
        | false =>
          rw [q1] at h1
          exact seqS_r (ifS_t (orF_t h1) (seqS_r (retS_e conF_e)))
        | true =>
          rw [q1] at h1
          cases q2 : decide (400 < (steps.length : Int)) with
          | true =>
            rw [q2] at h2
            exact seqS_r (ifS_t (orF_f h1 h2) (seqS_r (retS_e conF_e)))
          | false =>
            rw [q2] at h2
            refine seqS_n (ifS_f (orF_f h1 h2) skipS_e) (seqS_r (retS_e ?_))
            rw [Bool.not_false, Bool.true_and, Bool.true_and]
            have h3 := filt_eq (j := 4) (n := 4) (env := [some (.tuple [.list rows, .list steps]), some (.list rows), some (.list steps), none, none]) (p := fun d => !stepB (rows.length : Nat) d) (cond := asB (notF (mapM (consF (varF 4) (consF (mapM (consF (varF 1) nilF) lenD) nilF)) (callF c_is_step)))) f2 (by decide) (seqAF_l (varF_e (i := 2) rfl)) rfl (by rw [sizeLine_eq]; omega) fun d hd => asB_e (notF_e (mapM_e (consF_e (varF_e rfl) (consF_e (mapM_e (consF_e (varF_e rfl) nilF_e) (lenD_l' _)) nilF_e)) (callF_e (is_step_d (m := 3) (f2 d hd)))))
            rw [not_not_all] at h3
            exact andF_b h3 fun ha => mapM_e (consF_e (varF_e rfl) nilF_e) (callF_e (is_rising_d f4 (adj_steps ha)))
    | _ =>
      have hc : (notF (chainF (conF (.int 1)) (mapM (consF (varF 1) nilF) lenD) (conF (.int 60)) leD leD)) _ = _ := notF_e hch
      refine seqS_r (ifS_t (orF_f (notF_e (b := true) (by walk_at "ev")) ?_) (seqS_r (retS_e conF_e)))
      cases q : (decide (1 ≤ (rows.length : Int)) && decide ((rows.length : Int) ≤ 60)) with
      | false => rw [q] at hc; exact orF_t hc
      | true => rw [q] at hc; exact orF_f hc (notF_e (b := false) (by walk_at "ev"))
  | _ => exact seqS_r (ifS_t (orF_t (notF_e (b := false) (by walk_at "ev"))) (seqS_r (retS_e conF_e)))
theorem webB_len {ds : List PyData} (h : ds.length ≠ 2) : webB (.tuple ds) = false := by
  unfold webB
  split
  · rename_i he
    cases he
    simp at h
  · rfl
theorem web_in_d {d : PyData} (hf : Fit d) : c_is_web_in [d] = some (.bool (webB d), [d]) := by
  cases d with
  | tuple ds =>
    by_cases c : ds.length = 2
    · obtain ⟨a, b, rfl⟩ : ∃ a b, ds = [a, b] := by
        match ds, c with
        | [a, b], _ => exact ⟨a, b, rfl⟩
      exact web_in_2 hf
    · rw [webB_len c]; exact web_in_t c
  | _ => exact web_in_n rfl
end Ev

set_option Elab.async false
set_option linter.all false
set_option maxRecDepth 100000
set_option maxHeartbeats 4000000
namespace Ev
open PySem PySem.Spec PyProof.Rows L2
local macro_rules | `(tactic| walk_at "ev") => `(tactic| repeat' first
  | with_reducible exact conF_e
  | with_reducible exact nilF_e
  | with_reducible exact noO_e
  | with_reducible exact yesF_e
  | with_reducible exact skipS_e
  | with_reducible assumption
  | ((with_reducible apply varF_e); exact rfl)
  | with_reducible apply bind2_e
  | with_reducible apply mapM_e
  | with_reducible apply mapF_e
  | with_reducible apply consF_e
  | with_reducible apply callF_e
  | with_reducible apply retS_e
  | with_reducible apply asgS_e
  | with_reducible apply exprS_e
  | with_reducible apply yesO_e
  | with_reducible apply sliceF_e
  | with_reducible apply notF_e
  | with_reducible apply asB_e
  | with_reducible exact isi_l _
  | ((with_reducible refine (isi_l _).trans ?_); exact rfl)
  | with_reducible exact isi_t _
  | ((with_reducible refine (isi_t _).trans ?_); exact rfl)
  | with_reducible exact isi_s _
  | ((with_reducible refine (isi_s _).trans ?_); exact rfl)
  | with_reducible exact isi_b _
  | ((with_reducible refine (isi_b _).trans ?_); exact rfl)
  | with_reducible exact isi_i _
  | ((with_reducible refine (isi_i _).trans ?_); exact rfl)
  | with_reducible exact isi_d _
  | ((with_reducible refine (isi_d _).trans ?_); exact rfl)
  | with_reducible exact isi_lt _
  | ((with_reducible refine (isi_lt _).trans ?_); exact rfl)
  | with_reducible exact lenD_l' _
  | with_reducible exact lenD_t _
  | with_reducible exact addD_ii _ _
  | with_reducible exact subD_ii _ _
  | with_reducible exact eqD_i _ _
  | with_reducible exact neD_i _ _
  | with_reducible exact ltD_i _ _
  | with_reducible exact gtD_i _ _
  | with_reducible exact leD_i _ _
  | with_reducible exact eqD_s _ _
  | with_reducible exact eqD_b _ _
  | with_reducible exact neD_b _ _)

local macro_rules | `(tactic| walk_at "wp") => `(tactic| repeat' first
  | with_reducible apply wp_con
  | ((with_reducible apply wp_var); exact rfl)
  | with_reducible apply wp_nil
  | with_reducible apply wp_no
  | with_reducible apply wp_yes
  | with_reducible apply wp_bind2
  | with_reducible apply wp_mapM
  | with_reducible apply wp_mapF
  | with_reducible apply wp_cons
  | with_reducible apply wp_asB
  | with_reducible apply wp_not
  | with_reducible apply wp_and
  | with_reducible apply wp_or
  | with_reducible apply wp_ite
  | with_reducible apply wp_chain
  | with_reducible apply wp_yesO
  | with_reducible apply wp_slice
  | with_reducible apply wp_seqA
  | with_reducible apply wpS_skipq
  | with_reducible apply wpS_asg
  | with_reducible apply wpS_expr
  | with_reducible apply wpS_asgG
  | with_reducible apply wpS_par
  | with_reducible apply wpS_ret
  | with_reducible apply wpS_assoc
  | with_reducible apply wpS_if
  | with_reducible refine ⟨_, rfl, ?_⟩
  | with_reducible refine ⟨_, Or.inl rfl, ?_⟩
  | with_reducible refine ⟨_, Or.inr rfl, ?_⟩
  | with_reducible apply ex_of (isi_l _)
  | with_reducible apply ex_of (isi_t _)
  | with_reducible apply ex_of (isi_s _)
  | with_reducible apply ex_of (isi_b _)
  | with_reducible apply ex_of (isi_i _)
  | with_reducible apply ex_of (isi_d _)
  | with_reducible apply ex_of (isi_lt _)
  | with_reducible apply ex_of (lenD_l' _)
  | with_reducible apply ex_of (lenD_t _)
  | with_reducible apply ex_of (addD_ii _ _)
  | with_reducible apply ex_of (subD_ii _ _)
  | with_reducible apply ex_of (eqD_i _ _)
  | with_reducible apply ex_of (neD_i _ _)
  | with_reducible apply ex_of (ltD_i _ _)
  | with_reducible apply ex_of (gtD_i _ _)
  | with_reducible apply ex_of (leD_i _ _)
  | with_reducible apply ex_of (eqD_s _ _)
  | with_reducible apply ex_of (eqD_b _ _)
  | with_reducible apply ex_of (neD_b _ _)
  | with_reducible (apply ex_of (by assumption)))

/-! ### a datum is just itself; a copy is the same -/
theorem exact_parts {c : FnSem} {ds : List PyData} {told : PyData} (hix : ∀ (i : Nat) (d : PyData), ds[i]? = some d → ixD told (.int (i : Nat)) = some d) (hc : ∀ d ∈ ds, c [d, d] = some (.bool true, [d, d])) (hz : ds.length ≤ sizeLine) {due : PyData} (hsrc : due = .list ds ∨ due = .tuple ds) :
    (mapM (consF (compF true (enumAF (consF (varF 1) nilF)) (tupG (consG (nmG 2) (consG (nmG 3) nilG)) 2) yesF (mapM (consF (bind2 (varF 0) (varF 2) ixD) (consF (varF 3) nilF)) (callF c)) [2, 3]) nilF) allD) [some told, some due, none, none] = some (.bool true, [some told, some due, none, none]) := by
  have hsrc2 : enumAF (consF (varF 1) nilF) [some told, some due, none, none] = some (ds.zipIdx.map encP, [some told, some due, none, none]) := by
    rw [← enumFrom_map]
    rcases hsrc with rfl | rfl
    · exact enumAF_l (consF_e (varF_e rfl) nilF_e)
    · exact enumAF_t (consF_e (varF_e rfl) nilF_e)
  have h := compF_pure (asg := tupG (consG (nmG 2) (consG (nmG 3) nilG)) 2) (cond := yesF) (elt := mapM (consF (bind2 (varF 0) (varF 2) ixD) (consF (varF 3) nilF)) (callF c)) (vs := [2, 3]) (p := fun _ => true) (h := fun _ => PyData.bool true) hsrc2 (by rw [List.length_zipIdx]; exact hz) fun p hp => by
    have ho := hc p.1 (List.mem_of_getElem? (zip_at hp))
    exact ⟨[some told, some due, some (.int (p.2 : Nat)), some p.1], _, rfl, yesF_e, (fun z => nomatch z), fun _ => ⟨_, mapM_e (consF_e (bind2_e (varF_e rfl) (varF_e rfl) (hix _ _ (zip_at hp))) (consF_e (varF_e rfl) nilF_e)) (callF_e ho), rfl⟩⟩
  have ef : ds.zipIdx.filter (fun _ => true) = ds.zipIdx := List.filter_eq_self.mpr (by simp)
  rw [ef] at h
  exact mapM_e (consF_e h nilF_e) (allD_true _)
theorem pair_ex {n : Nat} {kvs : DKV} (h1 : ∀ kv ∈ kvs, Ex false n kv.1) (h2 : ∀ kv ∈ kvs, Ex false n kv.2) (hz : kvs.length ≤ 10) : Ex false (n + 2) (.list (kvs.map fun kv => .tuple [kv.1, kv.2])) := by
  refine .lst (fun d hd => ?_) (by rw [List.length_map]; omega)
  obtain ⟨kv, hk, rfl⟩ := List.mem_map.mp hd
  refine .tup (fun d hd => ?_) (by simp)
  rcases List.mem_cons.mp hd with rfl | hd
  · exact h1 kv hk
  · rw [List.mem_singleton.mp hd]; exact h2 kv hk
theorem exact_refl : ∀ {n : Nat} {d : PyData}, Ex false n d → ∀ m, n < m → c__law_exact m [d, d] = some (.bool true, [d, d]) := by
  intro n
  induction n using Nat.strongRecOn with
  | ind n ihs =>
  intro d h m hm
  obtain ⟨m, rfl⟩ : ∃ k, m = k + 1 := ⟨m - 1, by omega⟩
  refine run_rt (e1 := [some d, some d, none, none]) (fs := fb__law_exact m (c__law_exact m)) (by decide) rfl ?_
  show fb__law_exact m (c__law_exact m) [some d, some d, none, none] = _
  unfold fb__law_exact
  cases h with
  | lst h hz =>
    rename_i n ds
    have ih : ∀ e ∈ ds, c__law_exact m [e, e] = some (.bool true, [e, e]) := fun e he => ihs n (by omega) (h e he) m (by omega)
    refine seqS_r (ifS_t (mapF_e (varF_e rfl) (isi_lt _)) (seqS_n (ifS_f (orF_f (bind2_e (mapF_e (varF_e rfl) (isi_l _)) (mapF_e (varF_e rfl) (isi_l _)) (neD_b _ _)) (bind2_e (mapF_e (varF_e rfl) (isi_t _)) (mapF_e (varF_e rfl) (isi_t _)) (neD_b _ _))) skipS_e) (seqS_r (retS_e (andF_t (bind2_e (mapM_e (consF_e (varF_e rfl) nilF_e) rfl) (mapM_e (consF_e (varF_e rfl) nilF_e) rfl) ?_) ?_)))))
    · rw [eqD_i, decide_eq_true rfl]
    · exact exact_parts (fun i d h => ixL h) ih (by rw [sizeLine_eq]; omega) (.inl rfl)
  | tup h hz =>
    rename_i n ds
    have ih : ∀ e ∈ ds, c__law_exact m [e, e] = some (.bool true, [e, e]) := fun e he => ihs n (by omega) (h e he) m (by omega)
    refine seqS_r (ifS_t (mapF_e (varF_e rfl) (isi_lt _)) (seqS_n (ifS_f (orF_f (bind2_e (mapF_e (varF_e rfl) (isi_l _)) (mapF_e (varF_e rfl) (isi_l _)) (neD_b _ _)) (bind2_e (mapF_e (varF_e rfl) (isi_t _)) (mapF_e (varF_e rfl) (isi_t _)) (neD_b _ _))) skipS_e) (seqS_r (retS_e (andF_t (bind2_e (mapM_e (consF_e (varF_e rfl) nilF_e) rfl) (mapM_e (consF_e (varF_e rfl) nilF_e) rfl) ?_) ?_)))))
    · rw [eqD_i, decide_eq_true rfl]
    · exact exact_parts (fun i d h => ixT h) ih (by rw [sizeLine_eq]; omega) (.inr rfl)
  | str x =>
    refine seqS_n (ifS_f (mapF_e (varF_e rfl) (isi_lt _)) skipS_e) (seqS_r (ifS_t (mapF_e (varF_e rfl) (isi_s _)) (seqS_r (retS_e (andF_t (mapF_e (varF_e rfl) (isi_s _)) (bind2_e (varF_e rfl) (varF_e rfl) ?_))))))
    rw [eqD_s, decide_eq_true rfl]
  | bl b =>
    refine seqS_n (ifS_f (mapF_e (varF_e rfl) (isi_lt _)) skipS_e) (seqS_n (ifS_f (mapF_e (varF_e rfl) (isi_s _)) skipS_e) (seqS_r (ifS_t (mapF_e (varF_e rfl) (isi_b _)) (seqS_r (retS_e (andF_t (mapF_e (varF_e rfl) (isi_b _)) (bind2_e (varF_e rfl) (varF_e rfl) ?_)))))))
    rw [eqD_b]
    cases b <;> rfl
  | int i =>
    refine seqS_n (ifS_f (mapF_e (varF_e rfl) (isi_lt _)) skipS_e) (seqS_n (ifS_f (mapF_e (varF_e rfl) (isi_s _)) skipS_e) (seqS_n (ifS_f (mapF_e (varF_e rfl) (isi_b _)) skipS_e) (seqS_r (ifS_t (mapF_e (varF_e rfl) (isi_i _)) (seqS_r (retS_e (andF_t (mapF_e (varF_e rfl) (isi_i _)) (andF_t (notF_e (b := false) (mapF_e (varF_e rfl) (isi_b _))) (bind2_e (varF_e rfl) (varF_e rfl) ?_)))))))))
    rw [eqD_i, decide_eq_true rfl]
  | non =>
    exact seqS_n (ifS_f (mapF_e (varF_e rfl) (isi_lt _)) skipS_e) (seqS_n (ifS_f (mapF_e (varF_e rfl) (isi_s _)) skipS_e) (seqS_n (ifS_f (mapF_e (varF_e rfl) (isi_b _)) skipS_e) (seqS_n (ifS_f (mapF_e (varF_e rfl) (isi_i _)) skipS_e) (seqS_n (ifS_f (mapF_e (varF_e rfl) (isi_d _)) skipS_e) (seqS_r (retS_e (andF_t (bind2_e (varF_e rfl) conF_e rfl) (bind2_e (varF_e rfl) conF_e rfl))))))))
  | dct h h1 h2 hn hz =>
    rename_i n kvs
    have ih := ihs (n + 2) (by omega) (pair_ex h1 h2 hz) m (by omega)
    exact seqS_n (ifS_f (mapF_e (varF_e rfl) (isi_lt _)) skipS_e) (seqS_n (ifS_f (mapF_e (varF_e rfl) (isi_s _)) skipS_e) (seqS_n (ifS_f (mapF_e (varF_e rfl) (isi_b _)) skipS_e) (seqS_n (ifS_f (mapF_e (varF_e rfl) (isi_i _)) skipS_e) (seqS_r (ifS_t (mapF_e (varF_e rfl) (isi_d _)) (seqS_r (retS_e (andF_t (mapF_e (varF_e rfl) (isi_d _)) (mapM_e (consF_e (mapF_e (varF_e rfl) rfl) (consF_e (mapF_e (varF_e rfl) rfl) nilF_e)) (callF_e ih))))))))))
/-! dicts copied -/
theorem keys_split {kvs : DKV} (h : ∀ kv ∈ kvs, ∃ k, kv.1 = keyD k) : ∃ ms : List (Key × PyData), kvs = ms.map fun p => (keyD p.1, p.2) := by
  induction kvs with
  | nil => exact ⟨[], rfl⟩
  | cons kv kvs ih =>
    obtain ⟨ms, rfl⟩ := ih fun x hx => h x (List.mem_cons_of_mem _ hx)
    obtain ⟨k, hk⟩ := h kv List.mem_cons_self
    exact ⟨(k, kv.2) :: ms, by rw [List.map_cons, ← hk]⟩
theorem pairsM_map (ms : List (Key × PyData)) : pairsM (ms.map fun p => .tuple [keyD p.1, p.2]) = some ms := by
  induction ms with
  | nil => rfl
  | cons p ms ih =>
    rw [List.map_cons]
    unfold pairsM
    rw [keyOf_keyD, ih]
    rfl
theorem keyD_inj {a b : Key} (h : keyD a = keyD b) : a = b := by
  have := keyOf_keyD a
  rw [h, keyOf_keyD] at this
  exact (Option.some.inj this).symm
theorem mergeD_new (ms : List (Key × PyData)) : ∀ (acc : List (Key × PyData)), ((acc ++ ms).map Prod.fst).Nodup → mergeD (acc.map fun p => (keyD p.1, p.2)) ms = (acc ++ ms).map fun p => (keyD p.1, p.2) := by
  induction ms with
  | nil => intro acc _; rw [List.append_nil]; rfl
  | cons p ms ih =>
    intro acc hn
    have e : putD (acc.map fun p => (keyD p.1, p.2)) p.1 p.2 = (acc ++ [p]).map fun p => (keyD p.1, p.2) := by
      unfold putD
      rw [if_neg]
      · rw [List.map_append]; rfl
      · intro z
        rw [List.any_map, List.any_eq_true] at z
        obtain ⟨q, hq, e⟩ := z
        have e : keyOf (keyD q.1) = some p.1 := of_decide_eq_true e
        rw [keyOf_keyD] at e
        have e := Option.some.inj e
        rw [List.map_append, List.nodup_append] at hn
        exact hn.2.2 q.1 (List.mem_map.mpr ⟨q, hq, rfl⟩) p.1 (by simp) e
    show mergeD (putD (acc.map fun p => (keyD p.1, p.2)) p.1 p.2) ms = _
    rw [e, ih (acc ++ [p]) (by simpa using hn)]
    simp
theorem dict_back {kvs : DKV} (h : ∀ kv ∈ kvs, ∃ k, kv.1 = keyD k) (hn : (kvs.map Prod.fst).Nodup) : dictCD [.list (kvs.map fun kv => .tuple [kv.1, kv.2])] = some (.dict kvs) := by
  obtain ⟨ms, rfl⟩ := keys_split h
  rw [List.map_map]
  show (pairsM (ms.map fun p => .tuple [keyD p.1, p.2])).map (fun ms => PyData.dict (mergeD [] ms)) = _
  rw [pairsM_map]
  have hn2 : (([] ++ ms).map Prod.fst).Nodup := by
    rw [List.map_map] at hn
    have hn3 : ((ms.map Prod.fst).map keyD).Nodup := by rw [List.map_map]; exact hn
    exact List.Pairwise.of_map keyD (fun a b hne e => hne (by rw [e])) hn3
  have := mergeD_new ms [] hn2
  show some (PyData.dict (mergeD [] ms)) = _
  rw [show mergeD [] ms = mergeD (([] : List (Key × PyData)).map fun p => (keyD p.1, p.2)) ms from rfl, this]
  rfl
theorem valD_mem {kvs : DKV} (h : ∀ kv ∈ kvs, ∃ k, kv.1 = keyD k) (hn : (kvs.map Prod.fst).Nodup) {kv : PyData × PyData} (hk : kv ∈ kvs) : dixD (.dict kvs) kv.1 = some kv.2 := by
  obtain ⟨k, hk1⟩ := h kv hk
  show (keyOf kv.1).bind (valD kvs) = _
  rw [hk1, keyOf_keyD]
  show valD kvs k = _
  clear h
  induction kvs with
  | nil => cases hk
  | cons x kvs ih =>
    rw [List.map_cons, List.nodup_cons] at hn
    unfold valD
    rcases List.mem_cons.mp hk with rfl | hk
    · rw [List.find?_cons_of_pos (by rw [hk1, keyOf_keyD]; simp)]
      rfl
    · rw [List.find?_cons_of_neg]
      · exact ih hn.2 hk
      · intro z
        have z := keyOf_some (of_decide_eq_true z)
        exact hn.1 (List.mem_map.mpr ⟨kv, hk, by rw [hk1, z]⟩)
theorem copied_same : ∀ {n : Nat} {d : PyData}, Ex false n d → ∀ m, n < m → c__law_copied m [d] = some (d, [d]) := by
  intro n
  induction n using Nat.strongRecOn with
  | ind n ihs =>
  intro d h m hm
  obtain ⟨m, rfl⟩ : ∃ k, m = k + 1 := ⟨m - 1, by omega⟩
  have parts : ∀ {ds : List PyData} {d : PyData}, (∀ d ∈ ds, c__law_copied m [d] = some (d, [d])) → ds.length ≤ sizeLine → (d = .list ds ∨ d = .tuple ds) → compF true (seqAF (varF 0)) (nmG 1) yesF (mapM (consF (varF 1) nilF) (callF (c__law_copied m))) [1] [some d, none, none] = some (.list ds, [some d, none, none]) := by
    intro ds d h hz hd
    have hsrc : seqAF (varF 0) [some d, none, none] = some (ds.map id, [some d, none, none]) := by
      rw [List.map_id]
      rcases hd with rfl | rfl
      · exact seqAF_l (varF_e rfl)
      · exact seqAF_t (varF_e rfl)
    have h := compF_pure (asg := nmG 1) (cond := yesF) (elt := mapM (consF (varF 1) nilF) (callF (c__law_copied m))) (vs := [1]) (p := fun _ => true) (h := id) hsrc hz fun p hp =>
      ⟨[some d, some p, none], _, rfl, yesF_e, (fun z => nomatch z), fun _ => ⟨_, mapM_e (consF_e (varF_e rfl) nilF_e) (callF_e (h p hp)), rfl⟩⟩
    rw [List.filter_eq_self.mpr (by simp), List.map_id] at h
    exact h
  refine run_rt (e1 := [some d, none, none]) (fs := fb__law_copied m (c__law_copied m)) (by decide) rfl ?_
  show fb__law_copied m (c__law_copied m) [some d, none, none] = _
  unfold fb__law_copied
  cases h with
  | lst h hz =>
    rename_i n ds
    exact seqS_r (ifS_t (mapF_e (varF_e rfl) (isi_l _)) (seqS_r (retS_e (parts (fun e he => ihs n (by omega) (h e he) m (by omega)) (by rw [sizeLine_eq]; omega) (.inl rfl)))))
  | tup h hz =>
    rename_i n ds
    exact seqS_n (ifS_f (mapF_e (varF_e rfl) (isi_l _)) skipS_e) (seqS_n (ifS_f (mapF_e (varF_e rfl) (isi_d _)) skipS_e) (seqS_r (retS_e (iteF_t (mapF_e (varF_e rfl) (isi_t _)) (mapM_e (consF_e (parts (fun e he => ihs n (by omega) (h e he) m (by omega)) (by rw [sizeLine_eq]; omega) (.inr rfl)) nilF_e) rfl)))))
  | str x => exact seqS_n (ifS_f (mapF_e (varF_e rfl) (isi_l _)) skipS_e) (seqS_n (ifS_f (mapF_e (varF_e rfl) (isi_d _)) skipS_e) (seqS_r (retS_e (iteF_f (mapF_e (varF_e rfl) (isi_t _)) (varF_e rfl)))))
  | bl x => exact seqS_n (ifS_f (mapF_e (varF_e rfl) (isi_l _)) skipS_e) (seqS_n (ifS_f (mapF_e (varF_e rfl) (isi_d _)) skipS_e) (seqS_r (retS_e (iteF_f (mapF_e (varF_e rfl) (isi_t _)) (varF_e rfl)))))
  | int x => exact seqS_n (ifS_f (mapF_e (varF_e rfl) (isi_l _)) skipS_e) (seqS_n (ifS_f (mapF_e (varF_e rfl) (isi_d _)) skipS_e) (seqS_r (retS_e (iteF_f (mapF_e (varF_e rfl) (isi_t _)) (varF_e rfl)))))
  | non => exact seqS_n (ifS_f (mapF_e (varF_e rfl) (isi_l _)) skipS_e) (seqS_n (ifS_f (mapF_e (varF_e rfl) (isi_d _)) skipS_e) (seqS_r (retS_e (iteF_f (mapF_e (varF_e rfl) (isi_t _)) (varF_e rfl)))))
  | dct h h1 h2 hn hz =>
    rename_i n kvs
    have hc := compF_pure (env := [some (.dict kvs), none, none]) (e1 := [some (.dict kvs), none, none]) (src := keysF 0) (asg := nmG 2) (cond := yesF) (elt := mapM (consF (varF 2) (consF (mapM (consF (bind2 (varF 0) (varF 2) dixD) nilF) (callF (c__law_copied m))) nilF)) mkT) (vs := [2]) (enc := Prod.fst) (l := kvs) (p := fun _ => true) (h := fun kv => PyData.tuple [kv.1, kv.2]) (mapM_e (varF_e rfl) rfl) (by rw [sizeLine_eq]; omega) fun kv hk =>
      ⟨[some (.dict kvs), none, some kv.1], _, rfl, yesF_e, (fun z => nomatch z), fun _ => ⟨_, mapM_e (consF_e (varF_e rfl) (consF_e (mapM_e (consF_e (bind2_e (varF_e rfl) (varF_e rfl) (valD_mem h hn hk)) nilF_e) (callF_e (ihs n (by omega) (h2 kv hk) m (by omega)))) nilF_e)) (mkT_e (by rw [sizeLine_eq]; show 2 ≤ 16777216; decide)), rfl⟩⟩
    rw [List.filter_eq_self.mpr (by simp)] at hc
    exact seqS_n (ifS_f (mapF_e (varF_e rfl) (isi_l _)) skipS_e) (seqS_r (ifS_t (mapF_e (varF_e rfl) (isi_d _)) (seqS_r (retS_e (mapM_e (consF_e hc nilF_e) (dict_back h hn))))))
end Ev

set_option Elab.async false
set_option linter.all false
set_option maxRecDepth 100000
set_option maxHeartbeats 4000000
namespace Ev
open PySem PySem.Spec PyProof.Rows L2
local macro_rules | `(tactic| walk_at "ev") => `(tactic| repeat' first
  | with_reducible exact conF_e
  | with_reducible exact nilF_e
  | with_reducible exact noO_e
  | with_reducible exact yesF_e
  | with_reducible exact skipS_e
  | with_reducible assumption
  | ((with_reducible apply varF_e); exact rfl)
  | with_reducible apply bind2_e
  | with_reducible apply mapM_e
  | with_reducible apply mapF_e
  | with_reducible apply consF_e
  | with_reducible apply callF_e
  | with_reducible apply retS_e
  | with_reducible apply asgS_e
  | with_reducible apply exprS_e
  | with_reducible apply yesO_e
  | with_reducible apply sliceF_e
  | with_reducible apply notF_e
  | with_reducible apply asB_e
  | with_reducible exact isi_l _
  | ((with_reducible refine (isi_l _).trans ?_); exact rfl)
  | with_reducible exact isi_t _
  | ((with_reducible refine (isi_t _).trans ?_); exact rfl)
  | with_reducible exact isi_s _
  | ((with_reducible refine (isi_s _).trans ?_); exact rfl)
  | with_reducible exact isi_b _
  | ((with_reducible refine (isi_b _).trans ?_); exact rfl)
  | with_reducible exact isi_i _
  | ((with_reducible refine (isi_i _).trans ?_); exact rfl)
  | with_reducible exact isi_d _
  | ((with_reducible refine (isi_d _).trans ?_); exact rfl)
  | with_reducible exact isi_lt _
  | ((with_reducible refine (isi_lt _).trans ?_); exact rfl)
  | with_reducible exact lenD_l' _
  | with_reducible exact lenD_t _
  | with_reducible exact addD_ii _ _
  | with_reducible exact subD_ii _ _
  | with_reducible exact eqD_i _ _
  | with_reducible exact neD_i _ _
  | with_reducible exact ltD_i _ _
  | with_reducible exact gtD_i _ _
  | with_reducible exact leD_i _ _
  | with_reducible exact eqD_s _ _
  | with_reducible exact eqD_b _ _
  | with_reducible exact neD_b _ _)

local macro_rules | `(tactic| walk_at "wp") => `(tactic| repeat' first
  | with_reducible apply wp_con
  | ((with_reducible apply wp_var); exact rfl)
  | with_reducible apply wp_nil
  | with_reducible apply wp_no
  | with_reducible apply wp_yes
  | with_reducible apply wp_bind2
  | with_reducible apply wp_mapM
  | with_reducible apply wp_mapF
  | with_reducible apply wp_cons
  | with_reducible apply wp_asB
  | with_reducible apply wp_not
  | with_reducible apply wp_and
  | with_reducible apply wp_or
  | with_reducible apply wp_ite
  | with_reducible apply wp_chain
  | with_reducible apply wp_yesO
  | with_reducible apply wp_slice
  | with_reducible apply wp_seqA
  | with_reducible apply wpS_skipq
  | with_reducible apply wpS_asg
  | with_reducible apply wpS_expr
  | with_reducible apply wpS_asgG
  | with_reducible apply wpS_par
  | with_reducible apply wpS_ret
  | with_reducible apply wpS_assoc
  | with_reducible apply wpS_if
  | with_reducible refine ⟨_, rfl, ?_⟩
  | with_reducible refine ⟨_, Or.inl rfl, ?_⟩
  | with_reducible refine ⟨_, Or.inr rfl, ?_⟩
  | with_reducible apply ex_of (isi_l _)
  | with_reducible apply ex_of (isi_t _)
  | with_reducible apply ex_of (isi_s _)
  | with_reducible apply ex_of (isi_b _)
  | with_reducible apply ex_of (isi_i _)
  | with_reducible apply ex_of (isi_d _)
  | with_reducible apply ex_of (isi_lt _)
  | with_reducible apply ex_of (lenD_l' _)
  | with_reducible apply ex_of (lenD_t _)
  | with_reducible apply ex_of (addD_ii _ _)
  | with_reducible apply ex_of (subD_ii _ _)
  | with_reducible apply ex_of (eqD_i _ _)
  | with_reducible apply ex_of (neD_i _ _)
  | with_reducible apply ex_of (ltD_i _ _)
  | with_reducible apply ex_of (gtD_i _ _)
  | with_reducible apply ex_of (leD_i _ _)
  | with_reducible apply ex_of (eqD_s _ _)
  | with_reducible apply ex_of (eqD_b _ _)
  | with_reducible apply ex_of (neD_b _ _)
  | with_reducible (apply ex_of (by assumption)))

/-! ### numbers -/
theorem addD_i (i j : Int) : addD (.int i) (.int j) = some (.int (i + j)) := rfl
theorem subD_i (i j : Int) : subD (.int i) (.int j) = some (.int (i - j)) := rfl
theorem mulD_e {i j : Int} (hi : i.natAbs < 2 ^ 200) (hj : j.natAbs < 2 ^ 200) : mulD (.int i) (.int j) = some (.int (i * j)) := by
  have h1 := PyProof.Rows.intBits_le hi
  have h2 := PyProof.Rows.intBits_le hj
  have e : mulID (.int i) (.int j) = some (.int (i * j)) := by
    show (if mulC i j = true then some (PyData.int (i * j)) else none) = _
    rw [if_pos]
    exact decide_eq_true (by omega)
  unfold mulD
  rw [e]
  rfl
theorem modD_e {i j : Int} (hj : 0 < j) : modD (.int i) (.int j) = some (.int (i % j)) := by
  show (if decide (0 < j) = true then some (PyData.int (i % j)) else none) = _
  rw [if_pos (decide_eq_true hj)]
theorem divD_e {i j : Int} (hj : 0 < j) (hb : j.natAbs.log2 < 9000) : divD (.int i) (.int j) = some (.int (i / j)) := by
  show (if divC i j = true then some (PyData.int (i / j)) else none) = _
  rw [if_pos]
  unfold divC
  rw [decide_eq_true hj, decide_eq_true hb]
  rfl
theorem setIxS_e {env e1 e2 : Env} {i n : Nat} {fe fi : M PyData} {d : PyData} {j : Int} {l ds : List PyData} (h1 : fe env = some (d, e1)) (h2 : listAt e1 i = some l) (h3 : fi e1 = some (.int j, e2)) (h4 : listAt e2 i = some ds) (h5 : ixN ds.length j = some n) : setIxS i fe fi env = some (.nx (e2.set i (some (.list (ds.set n d))))) := by
  unfold setIxS
  rw [h1]
  simp only [Option.bind_some]
  rw [h2]
  simp only [Option.bind_some]
  rw [h3]
  simp only [Option.bind_some]
  rw [h4]
  simp only [Option.bind_some]
  rw [h5]
  rfl
theorem goF_one {asg : PyData → Env → Option Env} {body : Env → Option Fl} {d : PyData} {env e1 e2 : Env} (h1 : asg d env = some e1) (h2 : body e1 = some (.nx e2)) : goF asg body [d] env = some (.nx e2) := by
  unfold goF
  rw [h1]
  simp only [Option.bind_some]
  rw [h2]
  rfl
/-! ### the law's own drawing -/
theorem hash_ok {s x : Int} (h1 : 0 ≤ s ∧ s < 2 ^ 31) (h2 : 0 ≤ x ∧ x < 2 ^ 40) : ∃ m o, c__law_hash [.int s, .int x] = some (.int m, o) ∧ 0 ≤ m ∧ m < 2147483647 := by
  let m1 : Int := (s * 1140671 + 27644437 * x * x + 131 * x + 19) % 2147483629
  have hm1 : 0 ≤ m1 ∧ m1 < 2147483629 := ⟨Int.emod_nonneg _ (by decide), Int.emod_lt_of_pos _ (by decide)⟩
  let m2 : Int := (m1 * m1 + 62089 * x + 32416187) % 2147483587
  have hm2 : 0 ≤ m2 ∧ m2 < 2147483587 := ⟨Int.emod_nonneg _ (by decide), Int.emod_lt_of_pos _ (by decide)⟩
  refine ⟨(m2 * 48271) % 2147483647, [.int s, .int x], run_rt (e1 := [some (.int s), some (.int x), some (.int m2)]) (fs := fb__law_hash) (by decide) rfl ?_, Int.emod_nonneg _ (by decide), Int.emod_lt_of_pos _ (by decide)⟩
  show fb__law_hash [some (.int s), some (.int x), none] = _
  unfold fb__law_hash
  have b : ∀ {i : Int}, 0 ≤ i → i < 2 ^ 100 → i.natAbs < 2 ^ 200 := fun {i} a c => by
    have : i.natAbs < 2 ^ 100 := by omega
    exact Nat.lt_of_lt_of_le this (Nat.pow_le_pow_right (by decide) (by decide))
  refine seqS_n (asgS_e (d := .int m1) (bind2_e (mapM_e (consF_e (bind2_e (bind2_e (bind2_e (bind2_e (varF_e rfl) conF_e (mulD_e (b (by omega) (by omega)) (b (by omega) (by omega)))) (bind2_e (bind2_e conF_e (varF_e rfl) (mulD_e (b (by omega) (by omega)) (b (by omega) (by omega)))) (varF_e rfl) (mulD_e (b (by omega) (by omega)) (b (by omega) (by omega)))) (addD_i _ _)) (bind2_e conF_e (varF_e rfl) (mulD_e (b (by omega) (by omega)) (b (by omega) (by omega)))) (addD_i _ _)) conF_e (addD_i _ _)) nilF_e) rfl) conF_e (modD_e (by decide)))) ?_
  refine seqS_n (asgS_e (d := .int m2) (bind2_e (mapM_e (consF_e (bind2_e (bind2_e (bind2_e (varF_e rfl) (varF_e rfl) (mulD_e (b (by omega) (by omega)) (b (by omega) (by omega)))) (bind2_e conF_e (varF_e rfl) (mulD_e (b (by omega) (by omega)) (b (by omega) (by omega)))) (addD_i _ _)) conF_e (addD_i _ _)) nilF_e) rfl) conF_e (modD_e (by decide)))) ?_
  exact seqS_r (retS_e (bind2_e (mapM_e (consF_e (bind2_e (varF_e rfl) conF_e (mulD_e (b (by omega) (by omega)) (b (by omega) (by omega)))) nilF_e) rfl) conF_e (modD_e (by decide))))
/-- the generator, after at most t draws -/
def Gen (t : Nat) (l : List PyData) : Prop := ∃ g0 g1 g2 : Int, l = [.int g0, .int g1, .int g2] ∧ 0 ≤ g1 ∧ g1 < 2 ^ 31 ∧ 0 ≤ g2 ∧ g2 ≤ t
theorem log2_small {n : Nat} (h : n < 2 ^ 20) : n.log2 < 9000 := by
  rcases Nat.eq_zero_or_pos n with z | z
  · subst z; decide
  · have := (Nat.log2_lt (by omega)).mpr h
    omega
theorem random_ok {t : Nat} {l : List PyData} {b : Int} (G : Gen t l) (ht : t < 2 ^ 30) (h1 : 1 ≤ b) (h2 : b ≤ 1000) : ∃ (k : Nat) (l' : List PyData), c__law_random [.list l, .int b] = some (.int (k : Nat), [.list l', .int b]) ∧ (k : Int) < b ∧ Gen (t + 1) l' := by
  obtain ⟨g0, g1, g2, rfl, a1, a2, a3, a4⟩ := G
  have hlog : b.natAbs.log2 < 9000 := log2_small (by omega)
  by_cases h0 : 0 < g0
  · have hr := Int.emod_nonneg g0 (show b ≠ 0 by omega)
    have hr2 := Int.emod_lt_of_pos g0 (show 0 < b by omega)
    obtain ⟨k, hk⟩ := Int.eq_ofNat_of_zero_le hr
    refine ⟨k, [.int (g0 / b), .int g1, .int g2], ?_, by omega, _, _, _, rfl, a1, a2, a3, by omega⟩
    refine run_lent (k := 1) (e1 := [some (.list [.int (g0 / b), .int g1, .int g2]), some (.int b), some (.int k), none]) (fs := fb__law_random) rfl ?_ rfl
    show fb__law_random [some (.list [.int g0, .int g1, .int g2]), some (.int b), none, none] = _
    unfold fb__law_random
    refine seqS_r (ifS_t (bind2_e (bind2_e (varF_e rfl) conF_e rfl) conF_e ?_) (seqS_n (asgS_e (d := .int k) (bind2_e (mapM_e (consF_e (bind2_e (varF_e rfl) conF_e rfl) nilF_e) rfl) (varF_e rfl) ?_)) (seqS_n (setIxS_e (n := 0) (d := .int (g0 / b)) (bind2_e (bind2_e (varF_e rfl) conF_e rfl) (varF_e rfl) (divD_e (by omega) hlog)) rfl conF_e rfl rfl) (seqS_r (retS_e (varF_e rfl))))))
    · rw [gtD_i, decide_eq_true h0]
    · rw [modD_e (by omega), hk]
  · obtain ⟨m, o, hm, m1, m2⟩ := hash_ok (s := g1) (x := g2 + 1) ⟨a1, a2⟩ ⟨by omega, by omega⟩
    have hr := Int.emod_nonneg m (show b ≠ 0 by omega)
    have hr2 := Int.emod_lt_of_pos m (show 0 < b by omega)
    obtain ⟨k, hk⟩ := Int.eq_ofNat_of_zero_le hr
    refine ⟨k, [.int g0, .int g1, .int (g2 + 1)], ?_, by omega, _, _, _, rfl, a1, a2, by omega, by omega⟩
    refine run_lent (k := 1) (e1 := [some (.list [.int g0, .int g1, .int (g2 + 1)]), some (.int b), some (.int m), some (.int 0)]) (fs := fb__law_random) rfl ?_ rfl
    show fb__law_random [some (.list [.int g0, .int g1, .int g2]), some (.int b), none, none] = _
    unfold fb__law_random
    have hb : bitsD (.int b) = some (.int (Builtin.Int.intBits b : Nat)) := rfl
    have hbits : Builtin.Int.intBits b ≤ 10 := PyProof.Rows.intBits_le (by omega)
    have hdiv : ((Builtin.Int.intBits b : Nat) : Int) / 30 = 0 := by omega
    refine seqS_n (ifS_f (bind2_e (bind2_e (varF_e rfl) conF_e rfl) conF_e ?_) skipS_e) (seqS_n (asgS_e conF_e) (seqS_n (forS_e (ds := [.int 0]) (mapM_e (consF_e (bind2_e conF_e (bind2_e (mapF_e (varF_e rfl) hb) conF_e (divD_e (by decide) (by decide))) (addD_i _ _)) nilF_e) ?_) (goF_one (e2 := [some (.list [.int g0, .int g1, .int (g2 + 1)]), some (.int b), some (.int m), some (.int 0)]) rfl (seqS_n (setIxS_e (n := 2) (bind2_e (bind2_e (varF_e rfl) conF_e rfl) conF_e (addD_i _ _)) rfl conF_e rfl rfl) (seqS_n (asgS_e (d := .int m) (bind2_e (bind2_e (varF_e rfl) conF_e (mulD_e (by decide) (by decide +kernel))) (mapM_e (consF_e (bind2_e (varF_e rfl) conF_e rfl) (consF_e (bind2_e (varF_e rfl) conF_e rfl) nilF_e)) (callF_e hm)) ?_)) skipS_e)))) (seqS_r (retS_e (bind2_e (mapM_e (consF_e (varF_e rfl) nilF_e) rfl) (varF_e rfl) ?_)))))
    · rw [gtD_i, decide_eq_false h0]
    · rw [hdiv]; rfl
    · rw [addD_i]; simp
    · rw [modD_e (by omega), hk]
theorem lenD_l (l : List PyData) : lenD [.list l] = some (.int (l.length : Nat)) := rfl
theorem pick_ok {t : Nat} {l things : List PyData} (G : Gen t l) (ht : t < 2 ^ 30) (h1 : 1 ≤ things.length) (h2 : things.length ≤ 1000) : ∃ (i : Nat) (d : PyData) (l' : List PyData), c__law_pick [.list l, .list things] = some (d, [.list l', .list things]) ∧ things[i]? = some d ∧ Gen (t + 1) l' := by
  obtain ⟨k, l', hr, hk, G'⟩ := random_ok (b := (things.length : Nat)) G ht (by omega) (by omega)
  have hlt : k < things.length := by omega
  refine ⟨k, things[k], l', ?_, List.getElem?_eq_getElem hlt, G'⟩
  refine run_lent (k := 1) (e1 := [some (.list l'), some (.list things)]) (fs := fb__law_pick) rfl ?_ rfl
  show fb__law_pick [some (.list l), some (.list things)] = _
  unfold fb__law_pick
  exact seqS_r (retS_e (bind2_e (varF_e rfl) (lendF_e rfl (consF_e (mapM_e (consF_e (varF_e rfl) nilF_e) (lenD_l _)) nilF_e) rfl hr) (ixL (List.getElem?_eq_getElem hlt))))
theorem powD_e {i j : Int} (h : powC i j = true) : powD (.int i) (.int j) = some (.int (i ^ j.toNat)) := by
  show (if powC i j = true then some (PyData.int (i ^ j.toNat)) else none) = _
  rw [if_pos h]
theorem cell_ok (ns : List Int) : ∃ s o, c__law_cell [.list (ns.map .int), .int 0] = some (.int s, o) := by
  cases ns with
  | nil =>
    refine ⟨0, _, run_rt (e1 := [some (.list []), some (.int 0)]) (fs := fb__law_cell) (by decide) rfl ?_⟩
    show fb__law_cell [some (.list []), some (.int 0)] = _
    unfold fb__law_cell
    refine seqS_n (ifS_f (bind2_e (varF_e rfl) (mapM_e (consF_e (varF_e rfl) nilF_e) (lenD_l _)) ?_) skipS_e) (seqS_r (retS_e (bind2_e (mapM_e (consF_e (sliceF_e (varF_e rfl) noO_e (yesO_e conF_e) (y := .list []) (by rfl)) nilF_e) (show sumID [.list []] = some (.int 0) from rfl)) conF_e (modD_e (by decide)))))
    rw [ltD_i]; rfl
  | cons n ns =>
    refine ⟨n, _, run_rt (e1 := [some (.list ((n :: ns).map .int)), some (.int 0)]) (fs := fb__law_cell) (by decide) rfl ?_⟩
    show fb__law_cell [some (.list ((n :: ns).map .int)), some (.int 0)] = _
    unfold fb__law_cell
    refine seqS_r (ifS_t (bind2_e (varF_e rfl) (mapM_e (consF_e (varF_e rfl) nilF_e) (lenD_l _)) ?_) (seqS_r (retS_e (bind2_e (varF_e rfl) (varF_e rfl) (ixL (i := 0) rfl)))))
    rw [ltD_i, decide_eq_true (by simp)]
theorem generator_ok (ns : List Int) : ∃ l o, c__law_generator [.list (ns.map .int), .int 0] = some (.list l, o) ∧ Gen 0 l := by
  obtain ⟨s, o, hs⟩ := cell_ok ns
  have hr := Int.emod_nonneg s (show (2147483647 : Int) ≠ 0 by decide)
  have hr2 := Int.emod_lt_of_pos s (show (0 : Int) < 2147483647 by decide)
  refine ⟨[.int ((if 0 > s - 10 ^ 18 then 0 else s - 10 ^ 18) % (10 ^ 60) ^ 10), .int (s % 2147483647), .int (1000 * 0)], _, run_rt (e1 := [some (.list (ns.map .int)), some (.int 0), some (.int s)]) (fs := fb__law_generator) (by decide) rfl ?_, _, _, _, rfl, hr, by omega, by decide, by decide⟩
  show fb__law_generator [some (.list (ns.map .int)), some (.int 0), none] = _
  unfold fb__law_generator
  refine seqS_n (asgS_e (mapM_e (consF_e (varF_e rfl) (consF_e (varF_e rfl) nilF_e)) (callF_e hs))) (seqS_r (retS_e (mapM_e (consF_e (bind2_e (mapM_e (consF_e (mapM_e (consF_e (bind2_e (varF_e rfl) (bind2_e conF_e conF_e (powD_e (by decide +kernel))) (subD_i _ _)) (consF_e conF_e nilF_e)) (show max2D [.int (s - 10 ^ 18), .int 0] = some (.int (if 0 > s - 10 ^ 18 then 0 else s - 10 ^ 18)) from rfl)) nilF_e) rfl) (bind2_e (bind2_e conF_e conF_e (powD_e (by decide +kernel))) conF_e (powD_e (by decide +kernel))) (modD_e ?_)) (consF_e (bind2_e (mapM_e (consF_e (varF_e rfl) nilF_e) rfl) conF_e (modD_e (by decide))) (consF_e (bind2_e conF_e (varF_e rfl) (mulD_e (by decide) (by decide))) nilF_e))) (mkL_e ?_))))
  · decide +kernel
  · rw [sizeLine_eq]
    show 3 ≤ 16777216
    decide
end Ev

set_option Elab.async false
set_option linter.all false
set_option maxRecDepth 100000
set_option maxHeartbeats 4000000
namespace Ev
open PySem PySem.Spec PyProof.Rows L2

/-! ### PP. things that the laws' drawings use -/
theorem cutL_to {α : Type} (xs : List α) (i : Nat) (h : i ≤ xs.length) : cutL xs none (some (i : Int)) = xs.take i := by
  unfold cutL
  have e1 : HT.sIx xs.length 0 none = 0 := rfl
  have e2 : HT.sIx xs.length xs.length (some (i : Int)) = i := by
    rw [HT.sIx_nat]
    omega
  rw [e1, e2]
  simp
section
variable {β : Type} [DecidableEq β] {enc : β → PyData}
def encAt (enc : β → PyData) (p : β × Nat) : PyData := .tuple [.int (p.2 : Nat), enc p.1]
theorem enumFrom_enc : ∀ (xs : List β) (k : Nat), enumFrom k (xs.map enc) = (xs.zipIdx k).map (encAt enc)
  | [], _ => rfl
  | x :: xs, k => by
    rw [List.zipIdx_cons, List.map_cons, List.map_cons]
    show _ :: enumFrom (k + 1) (xs.map enc) = _
    rw [enumFrom_enc xs (k + 1)]
    rfl
theorem zipI_at {xs : List β} {p : β × Nat} (h : p ∈ xs.zipIdx) : xs[p.2]? = some p.1 := List.mem_zipIdx_iff_getElem?.mp h
theorem setI_ok {xs : List Int} (h : xs.length + 1 < 4096) : sortSetD [.list (xs.map .int)] = some (.list ((srt PyData.int (nubT [] xs)).map .int)) := by
  have hs : setOk (xs.map .int) = true := by
    unfold setOk
    rw [List.length_map, decide_eq_true h, Bool.and_true, Bool.or_eq_true]
    exact .inl (by rw [List.all_map]; simp)
  show (if setOk (xs.map .int) = true then some (PyData.list (sortD (nub (xs.map .int)))) else none) = _
  rw [if_pos hs]
  have := encI.nub xs []
  unfold nub
  rw [show ([] : List PyData) = ([] : List Int).map .int from rfl, this, sort_enc]
theorem setS_ok {xs : List Str} (h : xs.length + 1 < 4096) : sortSetD [.list (xs.map .str)] = some (.list ((srt PyData.str (nubT [] xs)).map .str)) := by
  have hs : setOk (xs.map .str) = true := by
    unfold setOk
    rw [List.length_map, decide_eq_true h, Bool.and_true, Bool.or_eq_true]
    exact .inr (by rw [List.all_map]; simp)
  show (if setOk (xs.map .str) = true then some (PyData.list (sortD (nub (xs.map .str)))) else none) = _
  rw [if_pos hs]
  have := encS.nub xs []
  unfold nub
  rw [show ([] : List PyData) = ([] : List Str).map .str from rfl, this, sort_enc]
theorem Enc.ne (E : Enc enc) (a : β) : enc a ≠ .none := fun e => by
  rcases E.kind with h | h
  · have := h a
    rw [e] at this
    cases this
  · have := h a
    rw [e] at this
    cases this
theorem ordOk_of {x y : PyData} (h1 : PySem.W.alike x y = true) (h2 : x.plain = true) (h3 : y.plain = true) (h4 : x.depth ≤ 64) (h5 : x ≠ .none) : ordOk x y = true := by
  unfold ordOk
  rw [h1, h2, h3, decide_eq_true h4]
  cases x with
  | none => exact (h5 rfl).elim
  | _ => rfl
theorem Enc.lt (E : Enc enc) (a b : β) : ltD (enc a) (enc b) = some (.bool (PySem.W.dataLt (enc a) (enc b))) := by
  unfold ltD ordD
  have hd := E.depth a
  rw [if_pos (ordOk_of (E.alike a b) (E.plain a) (E.plain b) (by omega) (E.ne a))]
end
abbrev Step := Nat × Str × Nat
def encStep (s : Step) : PyData := .tuple [.int (s.1 : Nat), .str s.2.1, .int (s.2.2 : Nat)]
theorem encSt : Enc encStep where
  toks := fun a b h => by
    obtain ⟨a1, a2, a3⟩ := a
    obtain ⟨b1, b2, b3⟩ := b
    simp [encStep, PySem.W.keyToks, PySem.W.keyToksAll] at h
    obtain ⟨h1, h2, h3⟩ := h
    have e2 : a2 = b2 := by first | exact h2 | exact PySem.W.str_of_cps h2 | exact PySem.W.str_of_cps (by simpa using h2)
    rw [e2]
    have : a1 = b1 := by omega
    have : a3 = b3 := by omega
    simp [*]
  eqv := fun a b => by
    obtain ⟨a1, a2, a3⟩ := a
    obtain ⟨b1, b2, b3⟩ := b
    simp only [encStep, PyData.eqv, PyData.eqvAll, beq_eq_decide, Bool.and_true]
    rw [Bool.eq_iff_iff]
    simp
    constructor
    · rintro ⟨h1, h2, h3⟩
      exact ⟨by omega, h2, by omega⟩
    · rintro ⟨h1, h2, h3⟩
      exact ⟨by omega, h2, by omega⟩
  alike := fun a b => by simp [encStep, PySem.W.alike, PySem.W.alikeAll]
  plain := fun a => by simp [encStep, PyData.plain, PyData.plainAll]
  depth := fun a => by simp [encStep, PyData.depth, PyData.depthAll]
  kind := .inl fun a => rfl
def encRow (r : List Str) : PyData := .list (r.map .str)
def encWeb (rows : List (List Str)) (steps : List Step) : PyData := .tuple [.list (rows.map encRow), .list (steps.map encStep)]
/-- a place as range tells it -/
def rgI (i : Nat) : PyData := .int (0 + (i : Nat))
theorem rgI_eq (i : Nat) : rgI i = .int (i : Nat) := by unfold rgI; rw [Int.zero_add]
theorem rng1_ok {n : Nat} (h : n ≤ 10000) : rng1D [.int (n : Nat)] = some ((List.range n).map rgI) := by
  show (if rngOk (n : Nat) = true then some (rngD 0 ((n : Nat) : Int).toNat) else none) = _
  rw [if_pos]
  · rw [Int.toNat_natCast]; rfl
  · unfold rngOk
    simp only [Bool.and_eq_true, decide_eq_true_eq]
    omega
theorem mk2 (a b : PyData) : mkT [a, b] = some (.tuple [a, b]) := mkT_e (by rw [sizeLine_eq]; show 2 ≤ 16777216; decide)
section
variable {asg : PyData → Env → Option Env} {cond : M Bool} {elt : M PyData} {vs : List Nat} {src : M (List PyData)} {d y : PyData} {ds r l0 : List PyData} {env e1 e2 e3 e4 : Env} {body : Env → Option Fl} {fl : Fl} {fe : M PyData} {i : Nat}
theorem goC_t (h1 : asg d env = some e1) (h2 : cond e1 = some (true, e2)) (h3 : elt e2 = some (y, e3)) (h4 : goC asg cond elt vs ds (wipeE e3 vs) = some (r, e4)) : goC asg cond elt vs (d :: ds) env = some (y :: r, e4) := by
  unfold goC
  rw [h1]
  simp only [Option.bind_some]
  rw [h2]
  simp only [Option.bind_some]
  rw [h3]
  simp only [Option.bind_some]
  rw [h4]
  rfl
theorem goC_f (h1 : asg d env = some e1) (h2 : cond e1 = some (false, e2)) (h4 : goC asg cond elt vs ds (wipeE e2 vs) = some (r, e4)) : goC asg cond elt vs (d :: ds) env = some (r, e4) := by
  unfold goC
  rw [h1]
  simp only [Option.bind_some]
  rw [h2]
  simp only [Option.bind_some]
  rw [h4]
theorem compF_f (hs : src env = some (ds, e1)) (hz : ds.length ≤ sizeLine) (hg : goC asg cond elt vs ds (wipeE e1 vs) = some (r, e2)) : compF false src asg cond elt vs env = some (.list r, restE e1 e2 vs) := by
  unfold compF
  rw [hs]
  simp only [Option.bind_some]
  rw [hg]
  simp only [Option.bind_some]
  rw [if_pos (show szOk ds = true from decide_eq_true hz)]
  rfl
theorem goF_n (h1 : asg d env = some e1) (h2 : body e1 = some (.nx e2)) (h3 : goF asg body ds e2 = some fl) : goF asg body (d :: ds) env = some fl := by
  unfold goF
  rw [h1]
  simp only [Option.bind_some]
  rw [h2]
  exact h3
theorem appendS_e (h0 : listAt env i = some l0) (h1 : fe env = some (d, e1)) (h2 : listAt e1 i = some ds) (h3 : ds.length < sizeLine) : appendS i fe env = some (.nx (e1.set i (some (.list (ds ++ [d]))))) := by
  unfold appendS
  rw [h0]
  simp only [Option.bind_some]
  rw [h1]
  simp only [Option.bind_some]
  rw [h2]
  simp only [Option.bind_some]
  rw [if_pos h3]
end
section
variable {β : Type} [DecidableEq β] {enc : β → PyData}
def fresh (xs : List β) (p : β × Nat) : Bool := decide (p.1 ∉ xs.take p.2)
theorem fresh_nub (xs : List β) : (xs.zipIdx.filter (fresh xs)).map (fun p => enc p.1) = (nubT [] xs).map enc := by
  rw [← nub_idx0 xs, List.map_map]
  rfl
theorem fresh_in (E : Enc enc) (xs : List β) (p : β × Nat) : inD true (enc p.1) (.list ((xs.take p.2).map enc)) = some (.bool (fresh xs p)) := E.notInL _ _
end
theorem mk3 (a b c : PyData) : mkT [a, b, c] = some (.tuple [a, b, c]) := mkT_e (by rw [sizeLine_eq]; show 3 ≤ 16777216; decide)
/-- what is listed is what was meant -/
theorem unmap {α : Type} {enc : α → PyData} {P : α → Prop} : ∀ {ys : List PyData}, (∀ y ∈ ys, ∃ a, P a ∧ y = enc a) → ∃ xs : List α, ys = xs.map enc ∧ ∀ x ∈ xs, P x
  | [], _ => ⟨[], rfl, (fun _ h => nomatch h)⟩
  | y :: ys, h => by
    obtain ⟨xs, rfl, h2⟩ := unmap (ys := ys) fun z hz => h z (List.mem_cons_of_mem _ hz)
    obtain ⟨a, pa, rfl⟩ := h y List.mem_cons_self
    refine ⟨a :: xs, rfl, fun x hx => ?_⟩
    rcases List.mem_cons.mp hx with rfl | hx
    · exact pa
    · exact h2 x hx
end Ev

set_option Elab.async false
set_option linter.all false
set_option maxRecDepth 100000
set_option maxHeartbeats 4000000
namespace Ev
open PySem PySem.Spec PyProof.Rows L2
local macro_rules | `(tactic| walk_at "ev") => `(tactic| repeat' first
  | with_reducible exact conF_e
  | with_reducible exact nilF_e
  | with_reducible exact noO_e
  | with_reducible exact yesF_e
  | with_reducible exact skipS_e
  | with_reducible assumption
  | ((with_reducible apply varF_e); exact rfl)
  | with_reducible apply bind2_e
  | with_reducible apply mapM_e
  | with_reducible apply mapF_e
  | with_reducible apply consF_e
  | with_reducible apply callF_e
  | with_reducible apply retS_e
  | with_reducible apply asgS_e
  | with_reducible apply exprS_e
  | with_reducible apply yesO_e
  | with_reducible apply sliceF_e
  | with_reducible apply notF_e
  | with_reducible apply asB_e
  | with_reducible exact isi_l _
  | ((with_reducible refine (isi_l _).trans ?_); exact rfl)
  | with_reducible exact isi_t _
  | ((with_reducible refine (isi_t _).trans ?_); exact rfl)
  | with_reducible exact isi_s _
  | ((with_reducible refine (isi_s _).trans ?_); exact rfl)
  | with_reducible exact isi_b _
  | ((with_reducible refine (isi_b _).trans ?_); exact rfl)
  | with_reducible exact isi_i _
  | ((with_reducible refine (isi_i _).trans ?_); exact rfl)
  | with_reducible exact isi_d _
  | ((with_reducible refine (isi_d _).trans ?_); exact rfl)
  | with_reducible exact isi_lt _
  | ((with_reducible refine (isi_lt _).trans ?_); exact rfl)
  | with_reducible exact lenD_l' _
  | with_reducible exact lenD_t _
  | with_reducible exact addD_ii _ _
  | with_reducible exact subD_ii _ _
  | with_reducible exact eqD_i _ _
  | with_reducible exact neD_i _ _
  | with_reducible exact ltD_i _ _
  | with_reducible exact gtD_i _ _
  | with_reducible exact leD_i _ _
  | with_reducible exact eqD_s _ _
  | with_reducible exact eqD_b _ _
  | with_reducible exact neD_b _ _)

local macro_rules | `(tactic| walk_at "wp") => `(tactic| repeat' first
  | with_reducible apply wp_con
  | ((with_reducible apply wp_var); exact rfl)
  | with_reducible apply wp_nil
  | with_reducible apply wp_no
  | with_reducible apply wp_yes
  | with_reducible apply wp_bind2
  | with_reducible apply wp_mapM
  | with_reducible apply wp_mapF
  | with_reducible apply wp_cons
  | with_reducible apply wp_asB
  | with_reducible apply wp_not
  | with_reducible apply wp_and
  | with_reducible apply wp_or
  | with_reducible apply wp_ite
  | with_reducible apply wp_chain
  | with_reducible apply wp_yesO
  | with_reducible apply wp_slice
  | with_reducible apply wp_seqA
  | with_reducible apply wpS_skipq
  | with_reducible apply wpS_asg
  | with_reducible apply wpS_expr
  | with_reducible apply wpS_asgG
  | with_reducible apply wpS_par
  | with_reducible apply wpS_ret
  | with_reducible apply wpS_assoc
  | with_reducible apply wpS_if
  | with_reducible refine ⟨_, rfl, ?_⟩
  | with_reducible refine ⟨_, Or.inl rfl, ?_⟩
  | with_reducible refine ⟨_, Or.inr rfl, ?_⟩
  | with_reducible apply ex_of (isi_l _)
  | with_reducible apply ex_of (isi_t _)
  | with_reducible apply ex_of (isi_s _)
  | with_reducible apply ex_of (isi_b _)
  | with_reducible apply ex_of (isi_i _)
  | with_reducible apply ex_of (isi_d _)
  | with_reducible apply ex_of (isi_lt _)
  | with_reducible apply ex_of (lenD_l' _)
  | with_reducible apply ex_of (lenD_t _)
  | with_reducible apply ex_of (addD_ii _ _)
  | with_reducible apply ex_of (subD_ii _ _)
  | with_reducible apply ex_of (eqD_i _ _)
  | with_reducible apply ex_of (neD_i _ _)
  | with_reducible apply ex_of (ltD_i _ _)
  | with_reducible apply ex_of (gtD_i _ _)
  | with_reducible apply ex_of (leD_i _ _)
  | with_reducible apply ex_of (eqD_s _ _)
  | with_reducible apply ex_of (eqD_b _ _)
  | with_reducible apply ex_of (neD_b _ _)
  | with_reducible (apply ex_of (by assumption)))

/-! ### drawing, by what is so behind it -/
theorem Gen.mono {t t' : Nat} {l : List PyData} (G : Gen t l) (h : t ≤ t') : Gen t' l := by
  obtain ⟨g0, g1, g2, e, a, b, c, d⟩ := G
  exact ⟨g0, g1, g2, e, a, b, c, by omega⟩
section
variable {env e1 : Env} {l : List PyData} {t j : Nat} {fb : M PyData} {Q : PyData → Env → Prop}
theorem wp_rand {b : Int} (h0 : listAt env j = some l) (G : Gen t l) (ht : t < 2 ^ 30) (hb : fb env = some (.int b, env)) (h1 : 1 ≤ b) (h2 : b ≤ 1000) (q : ∀ (k : Nat) l', (k : Int) < b → Gen (t + 1) l' → Q (.int (k : Nat)) (env.set j (some (.list l')))) : wp (lendF j (consF fb nilF) c__law_random) env Q := by
  obtain ⟨k, l', hr, hk, G'⟩ := random_ok (b := b) G ht h1 h2
  exact wp_of (lendF_e h0 (consF_e hb nilF_e) h0 hr) (q k l' hk G')
theorem wp_pick {things : List PyData} (h0 : listAt env j = some l) (G : Gen t l) (ht : t < 2 ^ 30) (hb : fb env = some (.list things, env)) (h1 : 1 ≤ things.length) (h2 : things.length ≤ 1000) (q : ∀ d l', d ∈ things → Gen (t + 1) l' → Q d (env.set j (some (.list l')))) : wp (lendF j (consF fb nilF) c__law_pick) env Q := by
  obtain ⟨i, d, l', hr, hk, G'⟩ := pick_ok (things := things) G ht h1 h2
  exact wp_of (lendF_e h0 (consF_e hb nilF_e) h0 hr) (q d l' (List.mem_of_getElem? hk) G')
end
/-! ### a drawn web -/
section
variable {most : Int} {ML DL : List Str}
abbrev EnvD (most : Int) (ML DL : List Str) (l : List PyData) (m r w s acc t : Option PyData) : Env := [some (.list l), some (.int most), some (.list (ML.map .str)), some (.list (DL.map .str)), m, r, w, s, acc, t, none, none]
def StepOk (DL : List Str) (n : Nat) (s : Step) : Prop := s.1 < n ∧ s.2.1 ∈ DL ∧ s.2.2 < n
def RowOk (ML : List Str) (r : List Str) : Prop := ∃ sel : List Str, sel.Sublist ML ∧ r = srt PyData.str sel
abbrev condW : M Bool := asB (bind2 (lendF 0 (consF (conF (.int 3)) nilF) c__law_random) (conF (.int 0)) eqD)
theorem words_drawn {m s : Option PyData} : ∀ (ws : List Str) (t : Nat) (l : List PyData), Gen t l → t + ws.length < 2 ^ 30 → ∃ (sel : List Str) (l' : List PyData), goC (nmG 6) condW (varF 6) [6] (ws.map .str) (EnvD most ML DL l m none none s none none) = some (sel.map .str, EnvD most ML DL l' m none none s none none) ∧ sel.Sublist ws ∧ Gen (t + ws.length) l'
  | [], t, l, G, _ => ⟨[], l, rfl, .slnil, G⟩
  | w :: ws, t, l, G, ht => by
    rw [List.length_cons] at ht
    obtain ⟨k, l1, hr, hk, G1⟩ := random_ok (b := 3) G (by omega) (by decide) (by decide)
    obtain ⟨sel, l', h1, h2, h3⟩ := words_drawn ws (t + 1) l1 G1 (by omega)
    have hc : condW (EnvD most ML DL l m none (some (.str w)) s none none) = some (decide ((k : Int) = 0), EnvD most ML DL l1 m none (some (.str w)) s none none) :=
      asB_e (bind2_e (lendF_e rfl (consF_e conF_e nilF_e) rfl hr) conF_e (eqD_i _ _))
    have G2 : Gen (t + (w :: ws).length) l' := by
      rw [List.length_cons, show t + (ws.length + 1) = t + 1 + ws.length by omega]; exact h3
    by_cases c : (k : Int) = 0
    · rw [decide_eq_true c] at hc
      exact ⟨w :: sel, l', goC_t rfl hc (varF_e rfl) h1, h2.cons_cons w, G2⟩
    · rw [decide_eq_false c] at hc
      exact ⟨sel, l', goC_f rfl hc h1, h2.cons w, G2⟩
abbrev eltR : M PyData := mapM (consF (compF false (seqAF (varF 2)) (nmG 6) condW (varF 6) [6]) nilF) sortedD
theorem rows_drawn {m : Option PyData} (hM : ML.length ≤ 100) : ∀ (is : List Nat) (t : Nat) (l : List PyData), Gen t l → t + 100 * is.length < 2 ^ 30 → ∃ (rows : List (List Str)) (l' : List PyData), goC (nmG 7) yesF eltR [7] (is.map rgI) (EnvD most ML DL l m none none none none none) = some (rows.map encRow, EnvD most ML DL l' m none none none none none) ∧ rows.length = is.length ∧ (∀ r ∈ rows, RowOk ML r) ∧ Gen (t + 100 * is.length) l'
  | [], t, l, G, _ => ⟨[], l, rfl, rfl, (fun r h => nomatch h), G⟩
  | i :: is, t, l, G, ht => by
    rw [List.length_cons] at ht
    obtain ⟨sel, l1, h1, h2, G1⟩ := words_drawn (most := most) (ML := ML) (DL := DL) (m := m) (s := some (rgI i)) ML t l G (by omega)
    obtain ⟨rows, l', h3, h4, h5, h6⟩ := rows_drawn hM is (t + 100) l1 (G1.mono (by omega)) (by omega)
    have hlen : sel.length ≤ 100 := Nat.le_trans h2.length_le hM
    have he : eltR (EnvD most ML DL l m none none (some (rgI i)) none none) = some (encRow (srt PyData.str sel), EnvD most ML DL l1 m none none (some (rgI i)) none none) :=
      mapM_e (consF_e (compF_f (seqAF_l (varF_e rfl)) (by rw [List.length_map, sizeLine_eq]; omega) h1) nilF_e) (encS.sorted (by rw [sizeLine_eq]; omega))
    refine ⟨srt PyData.str sel :: rows, l', goC_t rfl yesF_e he h3, by rw [List.length_cons, List.length_cons, h4], fun r hr => ?_, ?_⟩
    · rcases List.mem_cons.mp hr with rfl | hr
      · exact ⟨sel, h2, rfl⟩
      · exact h5 r hr
    · rw [List.length_cons, show t + 100 * (is.length + 1) = t + 100 + 100 * is.length by omega]; exact h6
abbrev feS : M PyData := mapM (consF (lendF 0 (consF (varF 4) nilF) c__law_random) (consF (lendF 0 (consF (varF 3) nilF) c__law_pick) (consF (lendF 0 (consF (varF 4) nilF) c__law_random) nilF))) mkT
abbrev bodyS : Env → Option Fl := seqS (appendS 8 feS) skipS
theorem steps_drawn {n : Nat} {r : Option PyData} (h1 : 1 ≤ n) (h2 : n ≤ 1000) (hD : 1 ≤ DL.length) (hD2 : DL.length ≤ 1000) : ∀ (is : List Nat) (t : Nat) (l : List PyData) (acc : List Step) (tr : Option PyData), Gen t l → t + 3 * is.length < 2 ^ 30 → acc.length + is.length ≤ 10000 → (∀ s ∈ acc, StepOk DL n s) →
    ∃ (acc' : List Step) (l' : List PyData) (tr' : Option PyData), goF (nmG 9) bodyS (is.map rgI) (EnvD most ML DL l (some (.int (n : Nat))) r none none (some (.list (acc.map encStep))) tr) = some (.nx (EnvD most ML DL l' (some (.int (n : Nat))) r none none (some (.list (acc'.map encStep))) tr')) ∧ acc'.length = acc.length + is.length ∧ (∀ s ∈ acc', StepOk DL n s) ∧ Gen (t + 3 * is.length) l'
  | [], t, l, acc, tr, G, _, _, ha => ⟨acc, l, tr, rfl, rfl, ha, G⟩
  | i :: is, t, l, acc, tr, G, ht, hz, ha => by
    rw [List.length_cons] at ht hz
    obtain ⟨a, l1, hr1, ha1, G1⟩ := random_ok (b := (n : Nat)) G (by omega) (by omega) (by omega)
    obtain ⟨j, d, l2, hp, hd, G2⟩ := pick_ok (things := DL.map .str) G1 (by omega) (by rw [List.length_map]; exact hD) (by rw [List.length_map]; exact hD2)
    obtain ⟨b, l3, hr3, hb3, G3⟩ := random_ok (b := (n : Nat)) G2 (by omega) (by omega) (by omega)
    obtain ⟨w, hw, rfl⟩ : ∃ w, w ∈ DL ∧ d = .str w := by
      have := List.mem_of_getElem? hd
      obtain ⟨w, hw, e⟩ := List.mem_map.mp this
      exact ⟨w, hw, e.symm⟩
    obtain ⟨acc', l', tr', g1, g2, g3, g4⟩ := steps_drawn h1 h2 hD hD2 is (t + 1 + 1 + 1) l3 (acc ++ [(a, w, b)]) (some (rgI i)) G3 (by omega) (by rw [List.length_append, List.length_singleton]; omega) fun s hs => by
      rcases List.mem_append.mp hs with hs | hs
      · exact ha s hs
      · obtain rfl := List.mem_singleton.mp hs
        exact ⟨by show a < n; omega, hw, by show b < n; omega⟩
    refine ⟨acc', l', tr', goF_n (e2 := EnvD most ML DL l3 (some (.int (n : Nat))) r none none (some (.list ((acc ++ [(a, w, b)]).map encStep))) (some (rgI i))) rfl (seqS_n ?_ skipS_e) g1, by rw [g2, List.length_append, List.length_singleton, List.length_cons]; omega, g3, ?_⟩
    · have := appendS_e (i := 8) (fe := feS) (l0 := acc.map encStep) (ds := acc.map encStep) (d := encStep (a, w, b)) (env := EnvD most ML DL l (some (.int (n : Nat))) r none none (some (.list (acc.map encStep))) (some (rgI i))) (e1 := EnvD most ML DL l3 (some (.int (n : Nat))) r none none (some (.list (acc.map encStep))) (some (rgI i))) rfl
        (mapM_e (consF_e (lendF_e rfl (consF_e (varF_e rfl) nilF_e) rfl hr1) (consF_e (lendF_e rfl (consF_e (varF_e rfl) nilF_e) rfl hp) (consF_e (lendF_e rfl (consF_e (varF_e rfl) nilF_e) rfl hr3) nilF_e))) (mk3 _ _ _)) rfl (by rw [List.length_map, sizeLine_eq]; omega)
      rw [List.map_append]
      exact this
    · rw [List.length_cons, show t + 3 * (is.length + 1) = t + 1 + 1 + 1 + 3 * is.length by omega]; exact g4
/-- what a drawn web is -/
structure DrawnWeb (ML DL : List Str) (m : Nat) (rows : List (List Str)) (steps : List Step) : Prop where
  r1 : 1 ≤ rows.length
  r2 : rows.length ≤ m
  ro : ∀ r ∈ rows, RowOk ML r
  so : ∀ s ∈ steps, StepOk DL rows.length s
  sz : steps.length ≤ 3 * rows.length
  ss : steps.Pairwise fun a b => PySem.W.dataLt (encStep a) (encStep b) = true
theorem drawn_ok {m t : Nat} {l : List PyData} (h1 : 1 ≤ m) (h2 : m ≤ 60) (hM : ML.length ≤ 100) (hD : 1 ≤ DL.length) (hD2 : DL.length ≤ 1000) (G : Gen t l) (ht : t + 10000 < 2 ^ 30) : ∃ (rows : List (List Str)) (steps : List Step) (l' : List PyData), c__law_drawn_web [.list l, .int (m : Nat), .list (ML.map .str), .list (DL.map .str)] = some (encWeb rows steps, [.list l', .int (m : Nat), .list (ML.map .str), .list (DL.map .str)]) ∧ DrawnWeb ML DL m rows steps ∧ Gen (t + 10000) l' := by
  obtain ⟨k, l1, hr, hk, G1⟩ := random_ok (b := (m : Nat)) G (by omega) (by omega) (by omega)
  obtain ⟨rows, l2, hrows, hlen, hro, G2⟩ := rows_drawn (most := (m : Nat)) (ML := ML) (DL := DL) (m := some (.int ((k + 1 : Nat) : Int))) hM (List.range (k + 1)) (t + 1) l1 G1 (by rw [List.length_range]; omega)
  rw [List.length_range] at hlen G2
  obtain ⟨k2, l3, hr2, hk2, G3⟩ := random_ok (b := ((3 * (k + 1) + 1 : Nat) : Int)) G2 (by omega) (by omega) (by omega)
  obtain ⟨acc, l4, tr, hgo, hal, has, G4⟩ := steps_drawn (most := (m : Nat)) (ML := ML) (DL := DL) (n := k + 1) (r := some (.list (rows.map encRow))) (by omega) (by omega) hD hD2 (List.range k2) (t + 1 + 100 * (k + 1) + 1) l3 [] none G3 (by rw [List.length_range]; omega) (by rw [List.length_range]; simp; omega) (fun s h => nomatch h)
  rw [List.length_range] at hal G4
  have hacc : acc.length ≤ 3 * (k + 1) := by rw [hal]; simp; omega
  let steps := srt encStep (nubT [] acc)
  have hsl : steps.length ≤ acc.length := by
    show (srt encStep (nubT [] acc)).length ≤ _
    rw [srt_len]
    exact nubT_len _ _
  have hsm : ∀ s ∈ steps, StepOk DL (k + 1) s := fun s hs => has s ((nubT_mem _ _ _).mp ((srt_perm _ _).mem_iff.mp hs)).1
  refine ⟨rows, steps, l4, ?_, ?_, G4.mono (by omega)⟩
  · refine run_lent (k := 3) (e1 := EnvD (m : Nat) ML DL l4 (some (.int ((k + 1 : Nat) : Int))) (some (.list (rows.map encRow))) none none (some (.list (acc.map encStep))) tr) (fs := fb__law_drawn_web) rfl ?_ rfl
    show fb__law_drawn_web (EnvD (m : Nat) ML DL l none none none none none none) = _
    unfold fb__law_drawn_web
    have hsrc : enumAF (consF (varF 8) nilF) (EnvD (m : Nat) ML DL l4 (some (.int ((k + 1 : Nat) : Int))) (some (.list (rows.map encRow))) none none (some (.list (acc.map encStep))) tr) = some (acc.zipIdx.map (encAt encStep), EnvD (m : Nat) ML DL l4 (some (.int ((k + 1 : Nat) : Int))) (some (.list (rows.map encRow))) none none (some (.list (acc.map encStep))) tr) := by
      rw [← enumFrom_enc]
      exact enumAF_l (consF_e (varF_e rfl) nilF_e)
    have h := compF_pure (asg := tupG (consG (nmG 10) (consG (nmG 11) nilG)) 2) (cond := asB (bind2 (varF 11) (sliceF (varF 8) noO (yesO (varF 10))) (inD true))) (elt := varF 11) (vs := [10, 11]) (p := fresh acc) (h := fun p => encStep p.1) hsrc (by rw [List.length_zipIdx, sizeLine_eq]; omega) fun p hp => by
      have hlt : p.2 < acc.length := (List.getElem?_eq_some_iff.mp (zipI_at hp)).1
      refine ⟨[some (.list l4), some (.int (m : Nat)), some (.list (ML.map .str)), some (.list (DL.map .str)), some (.int ((k + 1 : Nat) : Int)), some (.list (rows.map encRow)), none, none, some (.list (acc.map encStep)), tr, some (.int (p.2 : Nat)), some (encStep p.1)], _, rfl, asB_e (bind2_e (varF_e rfl) (sliceF_e (y := .list ((acc.take p.2).map encStep)) (varF_e rfl) noO_e (yesO_e (varF_e rfl)) ?_) (fresh_in encSt acc p)), fun _ => rfl, fun _ => ⟨_, varF_e rfl, rfl⟩⟩
      show some (PyData.list (cutL (acc.map encStep) none (some (p.2 : Int)))) = _
      rw [cutL_to _ _ (by rw [List.length_map]; omega), List.map_take]
    rw [fresh_nub] at h
    refine seqS_n (asgS_e (d := .int ((k + 1 : Nat) : Int)) (bind2_e conF_e (lendF_e rfl (consF_e (varF_e rfl) nilF_e) rfl hr) ?_)) (seqS_n (asgS_e (compF_f (mapM_e (consF_e (varF_e rfl) nilF_e) (rng1_ok (by omega))) (by rw [List.length_map, List.length_range, sizeLine_eq]; omega) hrows)) (seqS_n (asgS_e (mapM_e nilF_e (mkL_e (by simp)))) (seqS_n (forS_e (mapM_e (consF_e (lendF_e rfl (consF_e (x := .int ((3 * (k + 1) + 1 : Nat) : Int)) (bind2_e (bind2_e conF_e (varF_e rfl) (mulD_e (by decide) ?_)) conF_e ?_) nilF_e) rfl hr2) nilF_e) (rng1_ok (by omega))) hgo) (seqS_r (retS_e (mapM_e (consF_e (varF_e rfl) (consF_e (mapM_e (consF_e h nilF_e) (encSt.sorted (Nat.le_trans (nubT_len _ _) (by rw [sizeLine_eq]; omega)))) nilF_e)) (mk2 _ _)))))))
    · rw [addD_i]; congr 2; omega
    · have : ((k + 1 : Nat) : Int).natAbs < 2 ^ 10 := by omega
      exact Nat.lt_of_lt_of_le this (Nat.pow_le_pow_right (by decide) (by decide))
    · rw [addD_i]; congr 2 <;> omega
  · refine ⟨by omega, by omega, hro, fun s hs => by rw [hlen]; exact hsm s hs, by omega, encSt.strict (srt_sorted _ _) ((srt_perm _ _).nodup_iff.mpr (nubT_nodup _ _))⟩
end
end Ev

set_option Elab.async false
set_option linter.all false
set_option maxRecDepth 100000
set_option maxHeartbeats 4000000
namespace Ev
open PySem PySem.Spec PyProof.Rows L2
theorem all_nil {α : Type} {P : α → Prop} : ∀ d ∈ ([] : List α), P d := fun _ h => nomatch h
theorem all_cons {α : Type} {P : α → Prop} {a : α} {l : List α} (h : P a) (hl : ∀ d ∈ l, P d) : ∀ d ∈ a :: l, P d := fun d hd => by
  rcases List.mem_cons.mp hd with rfl | hd
  · exact h
  · exact hl d hd
theorem all_app {α : Type} {P : α → Prop} {a l : List α} (h : ∀ d ∈ a, P d) (hl : ∀ d ∈ l, P d) : ∀ d ∈ a ++ l, P d := fun d hd => by
  rcases List.mem_append.mp hd with hd | hd
  · exact h d hd
  · exact hl d hd
theorem all_map {α β : Type} {P : β → Prop} {f : α → β} {l : List α} (h : ∀ a ∈ l, P (f a)) : ∀ d ∈ l.map f, P d := fun d hd => by
  obtain ⟨a, ha, rfl⟩ := List.mem_map.mp hd
  exact h a ha
theorem Ex.unlst {p : Bool} {n : Nat} {ds : List PyData} (h : Ex p (n + 1) (.list ds)) : ∀ d ∈ ds, Ex p n d := by
  cases h with
  | lst h hz => exact h
theorem Ex.untup {p : Bool} {n : Nat} {ds : List PyData} (h : Ex p (n + 1) (.tuple ds)) : ∀ d ∈ ds, Ex p n d := by
  cases h with
  | tup h hz => exact h
end Ev

set_option Elab.async false
set_option linter.all false
set_option maxRecDepth 100000
set_option maxHeartbeats 4000000
namespace Ev
open PySem PySem.Spec PyProof.Rows L2

/-! ### places and lists of places, as data -/
def nI (i : Nat) : PyData := .int (i : Nat)
theorem nI_inj {i j : Nat} (h : nI i = nI j) : i = j := by
  unfold nI at h
  injection h with h
  omega
theorem encN : Enc nI where
  toks := fun a b h => by
    have h : (a : Int) = (b : Int) := by simpa [nI, PySem.W.keyToks] using h
    omega
  eqv := fun a b => by
    simp only [nI, PyData.eqv, beq_eq_decide]
    rw [Bool.eq_iff_iff]; simp; omega
  alike := fun a b => by simp [nI, PySem.W.alike]
  plain := fun a => by simp [nI, PyData.plain]
  depth := fun a => by simp [nI, PyData.depth]
  kind := .inr fun a => rfl
def nL (xs : List Nat) : PyData := .list (xs.map nI)
theorem eqvAll_nI : ∀ a b : List Nat, PyData.eqvAll (a.map nI) (b.map nI) = decide (a = b)
  | [], [] => by simp [PyData.eqvAll]
  | [], _ :: _ => by simp [PyData.eqvAll]
  | _ :: _, [] => by simp [PyData.eqvAll]
  | x :: a, y :: b => by
    rw [List.map_cons, List.map_cons, PyData.eqvAll, encN.eqv, eqvAll_nI a b, Bool.eq_iff_iff]
    simp
theorem nL_eqv (a b : List Nat) : PyData.eqv (nL a) (nL b) = decide (a = b) := by
  unfold nL
  rw [PyData.eqv]
  exact eqvAll_nI a b
theorem nL_plain (a : List Nat) : (nL a).plain = true := by
  unfold nL
  rw [PyData.plain]
  exact plainAll_map encN.plain a
theorem nL_depth (a : List Nat) : (nL a).depth ≤ 12 := by
  unfold nL
  rw [PyData.depth]
  have := depthAll_map (enc := nI) encN.depth a
  omega
theorem nLs_eqvAll : ∀ a b : List (List Nat), PyData.eqvAll (a.map nL) (b.map nL) = decide (a = b)
  | [], [] => by simp [PyData.eqvAll]
  | [], _ :: _ => by simp [PyData.eqvAll]
  | _ :: _, [] => by simp [PyData.eqvAll]
  | x :: a, y :: b => by
    rw [List.map_cons, List.map_cons, PyData.eqvAll, nL_eqv, nLs_eqvAll a b, Bool.eq_iff_iff]
    simp
theorem any_nL (x : List Nat) (xs : List (List Nat)) : ((xs.map nL).any fun y => PyData.eqv y (nL x)) = decide (x ∈ xs) := by
  rw [List.any_map, Bool.eq_iff_iff, List.any_eq_true, decide_eq_true_eq]
  constructor
  · rintro ⟨y, hy, h⟩
    have : decide (y = x) = true := by rw [← nL_eqv]; exact h
    exact of_decide_eq_true this ▸ hy
  · intro h
    exact ⟨x, h, by show PyData.eqv (nL x) (nL x) = true; rw [nL_eqv]; exact decide_eq_true rfl⟩
theorem nL_notIn (x : List Nat) (xs : List (List Nat)) : inD true (nL x) (.list (xs.map nL)) = some (.bool (decide (x ∉ xs))) := by
  have hd := nL_depth x
  have : inD true (nL x) (.list (xs.map nL)) = inSeq true (nL x) (xs.map nL) := by unfold inD nL; rfl
  rw [this]
  unfold inSeq
  rw [if_pos (by rw [nL_plain, plainAll_map nL_plain, decide_eq_true (by omega)]; rfl), any_nL]
  simp
theorem n_in (x : Nat) (xs : List Nat) : inD false (nI x) (nL xs) = some (.bool (decide (x ∈ xs))) := encN.inL x xs
theorem n_notIn (x : Nat) (xs : List Nat) : inD true (nI x) (nL xs) = some (.bool (decide (x ∉ xs))) := encN.notInL x xs
theorem nL_eq (a b : List Nat) : eqD (nL a) (nL b) = some (.bool (decide (a = b))) := by
  unfold eqD
  have h1 := nL_depth a
  have h2 := nL_depth b
  rw [if_pos (by unfold eqOk; rw [nL_plain, nL_plain, decide_eq_true (by omega)]; rfl), nL_eqv]
theorem nL_ne (a b : List Nat) : neD (nL a) (nL b) = some (.bool (!decide (a = b))) := by
  unfold neD
  have h1 := nL_depth a
  rw [if_pos (by unfold eqOk; rw [nL_plain, nL_plain, decide_eq_true (by omega)]; rfl), nL_eqv]
theorem nL_ix {xs : List Nat} {i x : Nat} (h : xs[i]? = some x) : ixD (nL xs) (.int (i : Nat)) = some (nI x) := ixL (by rw [List.getElem?_map, h]; rfl)
/-! rising lists of places -/
abbrev Inc (xs : List Nat) : Prop := xs.Pairwise (· < ·)
theorem inc_ext : ∀ {xs ys : List Nat}, Inc xs → Inc ys → (∀ a, a ∈ xs ↔ a ∈ ys) → xs = ys := fun {xs ys} hx hy h => by
  have p : xs.Perm ys := (List.perm_ext_iff_of_nodup (hx.imp fun h => Nat.ne_of_lt h) (hy.imp fun h => Nat.ne_of_lt h)).mpr h
  exact List.Perm.eq_of_pairwise (le := fun a b : Nat => a < b) (fun a b _ _ h1 h2 => by omega) hx hy p
theorem inc_srt {xs : List Nat} (h : xs.Nodup) : Inc (srt nI xs) := by
  have h2 := encN.strict (srt_sorted nI xs) ((srt_perm nI xs).nodup_iff.mpr h)
  refine h2.imp fun {a b} q => ?_
  unfold nI at q
  rw [PySem.W.dataLt_int] at q
  have := of_decide_eq_true q
  omega
theorem srt_mem (xs : List Nat) (a : Nat) : a ∈ srt nI xs ↔ a ∈ xs := (srt_perm nI xs).mem_iff
theorem nL_sorted {xs : List Nat} (h : xs.length ≤ sizeLine) : sortedD [nL xs] = some (nL (srt nI xs)) := encN.sorted h
theorem nL_sorted_inc {xs ys : List Nat} (h : xs.length ≤ sizeLine) (hn : xs.Nodup) (hy : Inc ys) (hm : ∀ a, a ∈ xs ↔ a ∈ ys) : sortedD [nL xs] = some (nL ys) := by
  rw [nL_sorted h, inc_ext (inc_srt hn) hy fun a => (srt_mem xs a).trans (hm a)]
theorem inc_filter (n : Nat) (p : Nat → Bool) : Inc ((List.range n).filter p) := List.Pairwise.sublist List.filter_sublist List.pairwise_lt_range
theorem nL_setSort {xs ys : List Nat} (h : xs.length + 1 < 4096) (hy : Inc ys) (hm : ∀ a, a ∈ xs ↔ a ∈ ys) : sortSetD [nL xs] = some (nL ys) := by
  have e : xs.map nI = (xs.map fun i : Nat => (i : Int)).map PyData.int := by rw [List.map_map]; rfl
  have hs : setOk (xs.map nI) = true := by
    unfold setOk
    rw [List.length_map, decide_eq_true h, Bool.and_true, Bool.or_eq_true]
    exact .inl (by rw [List.all_map]; simp [nI])
  show (if setOk (xs.map nI) = true then some (PyData.list (sortD (nub (xs.map nI)))) else none) = _
  rw [if_pos hs]
  have := encN.nub xs []
  unfold nub
  rw [show ([] : List PyData) = ([] : List Nat).map nI from rfl, this, sort_enc]
  congr 1
  show nL (srt nI (nubT [] xs)) = nL ys
  rw [inc_ext (inc_srt (nubT_nodup xs [])) hy fun a => ((srt_mem _ a).trans (by rw [nubT_mem]; simp)).trans (hm a)]
/-! dicts by places -/
def dN (v : Nat → PyData) (xs : List Nat) : DKV := xs.map fun x => (nI x, v x)
theorem keyN (i : Nat) : keyOf (nI i) = some (.inl (i : Int)) := rfl
theorem valD_dN (v : Nat → PyData) (i : Nat) : ∀ xs : List Nat, valD (dN v xs) (.inl (i : Int)) = if i ∈ xs then some (v i) else none
  | [] => rfl
  | x :: xs => by
    have ih := valD_dN v i xs
    unfold valD dN at ih ⊢
    rw [List.map_cons]
    by_cases c : x = i
    · subst c
      rw [List.find?_cons_of_pos (by simp [keyN])]
      simp
    · rw [List.find?_cons_of_neg (by simp [keyN]; omega), ih]
      by_cases c2 : i ∈ xs
      · rw [if_pos c2, if_pos (List.mem_cons_of_mem _ c2)]
      · rw [if_neg c2, if_neg (by simp [c2]; omega)]
theorem n_in_dict (v : Nat → PyData) (i : Nat) (xs : List Nat) : inAD true (nI i) (.dict (dN v xs)) = some (.bool (decide (i ∉ xs))) := by
  have h1 : inD true (nI i) (.dict (dN v xs)) = none := by unfold inD nI; rfl
  unfold inAD
  rw [h1]
  show (inDD true (nI i) (.dict (dN v xs))) = _
  unfold inDD
  simp only [keyN, Option.map_some, valD_dN]
  by_cases c : i ∈ xs
  · simp [c]
  · simp [c]
theorem any_dN (v : Nat → PyData) (i : Nat) (xs : List Nat) : ((dN v xs).any fun p => decide (keyOf p.1 = some (.inl (i : Int)))) = decide (i ∈ xs) := by
  unfold dN
  rw [List.any_map, Bool.eq_iff_iff, List.any_eq_true, decide_eq_true_eq]
  constructor
  · rintro ⟨x, hx, h⟩
    have : (x : Int) = (i : Int) := by simpa [keyN] using h
    have : x = i := by omega
    exact this ▸ hx
  · intro h
    exact ⟨i, h, by simp [keyN]⟩
theorem putD_dN {v : Nat → PyData} {i : Nat} {xs : List Nat} (h : i ∉ xs) (d : PyData) : putD (dN v xs) (.inl (i : Int)) d = dN (fun x => if x = i then d else v x) (xs ++ [i]) := by
  unfold putD
  rw [any_dN, if_neg (by simp [h])]
  unfold dN
  rw [List.map_append]
  congr 1
  · refine List.map_congr_left fun x hx => ?_
    have hne : x ≠ i := fun e => h (e ▸ hx)
    simp only [if_neg hne]
  · simp [keyD, nI]
theorem intKeys_dN (v : Nat → PyData) : ∀ xs : List Nat, intKeys (dN v xs) = some (xs.map fun i : Nat => (i : Int))
  | [] => rfl
  | x :: xs => by
    have ih := intKeys_dN v xs
    unfold dN at ih ⊢
    rw [List.map_cons]
    show (intKeys (xs.map fun x => (nI x, v x))).map ((x : Int) :: ·) = _
    rw [ih]; rfl
theorem sorted_dN {v : Nat → PyData} {xs ys : List Nat} (hz : xs.length < 64) (hn : xs.Nodup) (hy : Inc ys) (hm : ∀ a, a ∈ xs ↔ a ∈ ys) : sortedAD [.dict (dN v xs)] = some (nL ys) := by
  have h1 : sortedD [.dict (dN v xs)] = none := rfl
  unfold sortedAD
  rw [h1]
  show ((intKeys (dN v xs)).bind fun ks => if ks.length < 64 then some (PyData.list ((sortI ks).map .int)) else none) = _
  rw [intKeys_dN]
  simp only [Option.bind_some]
  rw [if_pos (by rw [List.length_map]; exact hz)]
  have e : sortI (xs.map fun i : Nat => (i : Int)) = ys.map fun i : Nat => (i : Int) := by
    refine (sortI_of ?_ ?_).symm
    · exact ((List.perm_ext_iff_of_nodup (hy.imp fun h => Nat.ne_of_lt h) hn).mpr fun a => (hm a).symm).map _
    · rw [List.pairwise_map]
      exact hy.imp fun {a b} h => by omega
  rw [e]
  unfold nL
  rw [List.map_map]; rfl
end Ev

set_option Elab.async false
set_option linter.all false
set_option maxRecDepth 100000
set_option maxHeartbeats 4000000
namespace Ev
open PySem PySem.Spec PyProof.Rows L2

/-! ### ways in a web, no program in sight -/
def Edge (st : List Step) (i j : Nat) : Prop := ∃ b, (i, b, j) ∈ st
inductive Rch (st : List Step) (i : Nat) : Nat → Prop
  | refl : Rch st i i
  | step {j k : Nat} : Rch st i j → Edge st j k → Rch st i k
def Wt (st : List Step) (i : Nat) : Nat → Nat → Prop
  | 0, j => j = i
  | k + 1, j => Wt st i k j ∨ ∃ u, Wt st i k u ∧ Edge st u j
def InW (st : List Step) (n : Nat) : Prop := ∀ s ∈ st, s.1 < n ∧ s.2.2 < n
section
variable {st : List Step} {n i j k : Nat}
theorem InW.edge (h : InW st n) (e : Edge st i j) : i < n ∧ j < n := by
  obtain ⟨b, hb⟩ := e
  exact h _ hb
theorem Wt.mono (h : Wt st i k j) : ∀ {m : Nat}, k ≤ m → Wt st i m j
  | m, hm => by
    induction m with
    | zero => have : k = 0 := by omega
              subst this; exact h
    | succ m ih =>
      by_cases e : k = m + 1
      · subst e; exact h
      · exact .inl (ih (by omega))
theorem Wt.rch : ∀ {k j : Nat}, Wt st i k j → Rch st i j
  | 0, _, h => by cases h; exact .refl
  | _ + 1, _, .inl h => Wt.rch h
  | _ + 1, _, .inr ⟨_, h, e⟩ => .step (Wt.rch h) e
theorem Rch.wt (h : Rch st i j) : ∃ k, Wt st i k j := by
  induction h with
  | refl => exact ⟨0, rfl⟩
  | step _ e ih =>
    obtain ⟨k, hk⟩ := ih
    exact ⟨k + 1, .inr ⟨_, hk, e⟩⟩
theorem Rch.lt (hw : InW st n) (hi : i < n) (h : Rch st i j) : j < n := by
  cases h with
  | refl => exact hi
  | step _ e => exact (hw.edge e).2
theorem Rch.trans (h : Rch st i j) (h2 : Rch st j k) : Rch st i k := by
  induction h2 with
  | refl => exact h
  | step _ e ih => exact .step ih e
noncomputable instance rchDec : Decidable (Rch st i j) := Classical.propDecidable _
noncomputable instance wtDec : Decidable (Wt st i k j) := Classical.propDecidable _
noncomputable def rc (st : List Step) (n i : Nat) : List Nat := (List.range n).filter fun j => decide (Rch st i j)
noncomputable def lv (st : List Step) (n i k : Nat) : List Nat := (List.range n).filter fun j => decide (Wt st i k j)
theorem rc_inc : Inc (rc st n i) := inc_filter n _
theorem lv_inc : Inc (lv st n i k) := inc_filter n _
theorem rc_mem (hw : InW st n) (hi : i < n) : j ∈ rc st n i ↔ Rch st i j := by
  unfold rc
  rw [List.mem_filter, List.mem_range, decide_eq_true_eq]
  exact ⟨fun h => h.2, fun h => ⟨h.lt hw hi, h⟩⟩
theorem lv_mem (hw : InW st n) (hi : i < n) : j ∈ lv st n i k ↔ Wt st i k j := by
  unfold lv
  rw [List.mem_filter, List.mem_range, decide_eq_true_eq]
  exact ⟨fun h => h.2, fun h => ⟨h.rch.lt hw hi, h⟩⟩
theorem filter_le {l : List Nat} {p q : Nat → Bool} (h : ∀ x, p x = true → q x = true) : (l.filter p).length ≤ (l.filter q).length := by
  induction l with
  | nil => exact Nat.le_refl _
  | cons x l ih =>
    rw [List.filter_cons, List.filter_cons]
    by_cases c : p x = true
    · rw [if_pos c, if_pos (h x c), List.length_cons, List.length_cons]; omega
    · rw [if_neg c]
      by_cases c2 : q x = true
      · rw [if_pos c2, List.length_cons]; omega
      · rw [if_neg c2]; exact ih
theorem filter_lt {l : List Nat} {p q : Nat → Bool} {a : Nat} (h : ∀ x, p x = true → q x = true) (ha : a ∈ l) (hq : q a = true) (hp : p a = false) : (l.filter p).length < (l.filter q).length := by
  induction l with
  | nil => cases ha
  | cons x l ih =>
    rw [List.filter_cons, List.filter_cons]
    rcases List.mem_cons.mp ha with rfl | ha
    · rw [if_neg (by rw [hp]; decide), if_pos hq, List.length_cons]
      have := filter_le (l := l) h
      omega
    · have ih := ih ha
      by_cases c : p x = true
      · rw [if_pos c, if_pos (h x c), List.length_cons, List.length_cons]; omega
      · rw [if_neg c]
        by_cases c2 : q x = true
        · rw [if_pos c2, List.length_cons]; omega
        · rw [if_neg c2]; exact ih
theorem stable_rch (h : ∀ j, Wt st i (k + 1) j → Wt st i k j) (r : Rch st i j) : Wt st i k j := by
  induction r with
  | refl => exact Wt.mono (k := 0) rfl (Nat.zero_le _)
  | step _ e ih => exact h _ (.inr ⟨_, ih, e⟩)
theorem wt_all (hw : InW st n) (hi : i < n) (r : Rch st i j) : Wt st i n j := by
  apply Classical.byContradiction
  intro hn
  have grow : ∀ k, k ≤ n → k + 1 ≤ (lv st n i k).length := by
    intro k
    induction k with
    | zero =>
      intro _
      have : i ∈ lv st n i 0 := (lv_mem hw hi).mpr rfl
      exact List.length_pos_of_mem this
    | succ k ih =>
      intro hk
      have ih := ih (by omega)
      have : ∃ u, Wt st i (k + 1) u ∧ ¬ Wt st i k u := by
        apply Classical.byContradiction
        intro hc
        refine hn (Wt.mono (stable_rch (k := k) (fun u hu => ?_) r) (by omega))
        apply Classical.byContradiction
        exact fun hq => hc ⟨u, hu, hq⟩
      obtain ⟨u, h1, h2⟩ := this
      have hlt : (lv st n i k).length < (lv st n i (k + 1)).length := by
        unfold lv
        exact filter_lt (a := u) (fun x hx => decide_eq_true (Or.inl (of_decide_eq_true hx))) (List.mem_range.mpr (h1.rch.lt hw hi)) (decide_eq_true h1) (decide_eq_false h2)
      omega
  have h1 := grow n (Nat.le_refl _)
  have h2 : (lv st n i n).length ≤ n := by
    have := List.length_filter_le (fun j => decide (Wt st i n j)) (List.range n)
    rw [List.length_range] at this
    exact this
  omega
theorem lv_last (hw : InW st n) (hi : i < n) : lv st n i n = rc st n i := inc_ext lv_inc rc_inc fun j => by
  rw [lv_mem hw hi, rc_mem hw hi]
  exact ⟨fun h => h.rch, fun h => wt_all hw hi h⟩
/-- next places, rising -/
def su (st : List Step) (i : Nat) : List Nat := srt nI (nubT [] ((st.filter fun s => decide (s.1 = i)).map fun s => s.2.2))
theorem su_mem : j ∈ su st i ↔ Edge st i j := by
  unfold su
  rw [srt_mem, nubT_mem, List.mem_map]
  constructor
  · rintro ⟨⟨s, hs, rfl⟩, _⟩
    rw [List.mem_filter] at hs
    have := of_decide_eq_true hs.2
    refine ⟨s.2.1, ?_⟩
    rw [← this]
    exact hs.1
  · rintro ⟨b, hb⟩
    exact ⟨⟨(i, b, j), List.mem_filter.mpr ⟨hb, decide_eq_true rfl⟩, rfl⟩, fun h => nomatch h⟩
theorem su_inc : Inc (su st i) := inc_srt (nubT_nodup _ _)
theorem su_len (hw : InW st n) : (su st i).length ≤ n := by
  have h := inc_ext (su_inc (st := st) (i := i)) (inc_filter n fun j => decide (j ∈ su st i)) fun a => by
    rw [List.mem_filter, List.mem_range, decide_eq_true_eq]
    exact ⟨fun h => ⟨(hw.edge (su_mem.mp h)).2, h⟩, fun h => h.2⟩
  rw [h]
  have := List.length_filter_le (fun j => decide (j ∈ su st i)) (List.range n)
  rw [List.length_range] at this
  exact this
/-- rising lists of places below n are no longer than n -/
theorem nodup_len {xs : List Nat} (hn : xs.Nodup) (hb : ∀ x ∈ xs, x < n) : xs.length ≤ n := by
  have h := inc_ext (inc_srt hn) (inc_filter n fun j => decide (j ∈ xs)) fun a => by
    rw [srt_mem, List.mem_filter, List.mem_range, decide_eq_true_eq]
    exact ⟨fun h => ⟨hb a h, h⟩, fun h => h.2⟩
  have e := congrArg List.length h
  rw [srt_len] at e
  rw [e]
  have := List.length_filter_le (fun j => decide (j ∈ xs)) (List.range n)
  rw [List.length_range] at this
  exact this
end
end Ev

set_option Elab.async false
set_option linter.all false
set_option maxRecDepth 100000
set_option maxHeartbeats 4000000
namespace Ev
open PySem PySem.Spec PyProof.Rows L2

/-! ### QQ. what is so behind loops with while, behind changed dicts and parts -/
section
variable {fa fb fc f fe fk : M PyData} {env e1 e2 : Env} {QS : Fl → Prop} {i j l : Nat} {fs ft gs body : Env → Option Fl} {Q : PyData → Env → Prop}
theorem wpS_while {N : Nat} (I : Nat → Env → Prop) (m0 : Nat) (h0 : I m0 env) (hN : m0 < N) (step : ∀ m e, I m e → wp fc e fun d e1 => ∃ b, d = .bool b ∧ (b = false → wpS gs e1 QS) ∧ (b = true → wpS body e1 fun fl => (∃ e2 m', (fl = .nx e2 ∨ fl = .ct e2) ∧ m' < m ∧ I m' e2) ∨ (∃ v e2, fl = .rt v e2 ∧ QS (.rt v e2)) ∨ (∃ e2, fl = .bk e2 ∧ wpS gs e2 QS))) :
    wpS (seqS (goW fc body N) gs) env QS := by
  have go : ∀ (N m : Nat) (e : Env), m < N → I m e → ∃ fl, goW fc body N e = some fl ∧ ((∃ e2, fl = .nx e2 ∧ wpS gs e2 QS) ∨ (∃ v e2, fl = .rt v e2 ∧ QS (.rt v e2))) := by
    intro N
    induction N with
    | zero => intro m e h; omega
    | succ N ih =>
      intro m e hm hI
      obtain ⟨d, e1, h1, b, rfl, hf, ht⟩ := step m e hI
      unfold goW
      rw [asB_of h1]
      cases b with
      | false => exact ⟨_, rfl, .inl ⟨e1, rfl, hf rfl⟩⟩
      | true =>
        obtain ⟨fl, b1, b2⟩ := ht rfl
        simp only
        rw [b1]
        rcases b2 with ⟨e2, m', rfl | rfl, hlt, q⟩ | ⟨v, e2, rfl, q⟩ | ⟨e2, rfl, q⟩
        · exact ih m' e2 (by omega) q
        · exact ih m' e2 (by omega) q
        · exact ⟨_, rfl, .inr ⟨v, e2, rfl, q⟩⟩
        · exact ⟨_, rfl, .inl ⟨e2, rfl, q⟩⟩
  obtain ⟨fl, h1, h2⟩ := go N m0 env hN h0
  rcases h2 with ⟨e2, rfl, fl2, g3, q⟩ | ⟨v, e2, rfl, q⟩
  · exact ⟨fl2, seqS_n h1 g3, q⟩
  · exact ⟨_, seqS_r h1, q⟩
theorem wpS_void (h : wpS (seqS fs gs) (env.set i none) QS) : wpS (seqS (voidS i fs) gs) env QS := h
theorem wpS_dput {kvs0 : DKV} (h : wp fe env fun d e => dictAt e i = some kvs0 ∧ wp fk e fun kd e2 => ∃ kvs key, dictAt e2 i = some kvs ∧ keyOf kd = some key ∧ kvs.length < sizeLine ∧ wpS gs (e2.set i (some (.dict (putD kvs key d)))) QS) : wpS (seqS (dputS i fe fk) gs) env QS := by
  obtain ⟨d, e, h1, h2, kd, e2, h3, kvs, key, h4, h5, h6, fl, h7, q⟩ := h
  refine ⟨fl, seqS_n (e1 := e2.set i (some (.dict (putD kvs key d)))) ?_ h7, q⟩
  unfold dputS
  rw [h1]
  simp only [Option.bind_some]
  rw [h2]
  simp only [Option.bind_some]
  rw [h3]
  simp only [Option.bind_some]
  rw [h4]
  simp only [Option.bind_some]
  rw [h5]
  simp only [Option.bind_some]
  rw [if_pos h6]
theorem wpS_appN {ds0 ds1 ds : List PyData} {n : Nat} {es : List PyData} {d : PyData} (h0 : listAt env i = some ds0) (h1 : fk env = some (.int (n : Nat), e1)) (h2 : listAt e1 i = some ds1) (h3 : n < ds1.length) (h4 : fe e1 = some (d, e2)) (h5 : listAt e2 i = some ds) (h6 : ds[n]? = some (.list es)) (h7 : es.length < sizeLine)
    (h : wpS gs (e2.set i (some (.list (ds.set n (.list (es ++ [d])))))) QS) : wpS (seqS (appNS i fk fe) gs) env QS := by
  obtain ⟨fl, h8, q⟩ := h
  refine ⟨fl, seqS_n (e1 := e2.set i (some (.list (ds.set n (.list (es ++ [d])))))) ?_ h8, q⟩
  unfold appNS
  rw [h0]
  simp only [Option.bind_some]
  rw [h1]
  simp only [Option.bind_some]
  rw [h2]
  simp only [Option.bind_some]
  have : ixN ds1.length (n : Int) = some n := by
    unfold ixN
    have h9 : (0 : Int) ≤ (n : Int) := by omega
    have h10 : (n : Int) < (ds1.length : Int) := by omega
    simp [h9, h10]
    try omega
  rw [this]
  simp only [Option.bind_some]
  rw [h4]
  simp only [Option.bind_some]
  rw [h5]
  simp only [Option.bind_some]
  rw [h6]
  simp only
  rw [if_pos h7]
theorem wpS_appMv {ds : List PyData} {d : PyData} (h0 : listAt env i = some ds) (h1 : env[j]? = some (some d)) (h2 : ds.length < sizeLine) (h : wpS gs ((env.set j none).set i (some (.list (ds ++ [d])))) QS) : wpS (seqS (appMvS i j) gs) env QS := by
  obtain ⟨fl, h8, q⟩ := h
  refine ⟨fl, seqS_n (e1 := (env.set j none).set i (some (.list (ds ++ [d])))) ?_ h8, q⟩
  unfold appMvS
  rw [h0]
  simp only [Option.bind_some]
  rw [h1]
  simp only [Option.bind_some, id]
  rw [if_pos h2]
theorem wpS_par2 (h : wp fa env fun d e => wp fb e fun d' e2 => wpS gs ((e2.set j (some d')).set i (some d)) QS) : wpS (seqS (par2F i j fa fb) gs) env QS := by
  obtain ⟨d, e, h1, d', e2, h2, fl, h3, q⟩ := h
  refine ⟨fl, seqS_n (e1 := (e2.set j (some d')).set i (some d)) ?_ h3, q⟩
  unfold par2F
  rw [h1]
  simp only [Option.bind_some]
  rw [h2]
  rfl
theorem wpS_par3 (h : wp fa env fun d e => wp fb e fun d' e2 => wp fc e2 fun d3 e3 => wpS gs (((e3.set l (some d3)).set j (some d')).set i (some d)) QS) : wpS (seqS (par3F i j l fa fb fc) gs) env QS := by
  obtain ⟨d, e, h1, d', e2, h2, d3, e3, h4, fl, h3, q⟩ := h
  refine ⟨fl, seqS_n (e1 := ((e3.set l (some d3)).set j (some d')).set i (some d)) ?_ h3, q⟩
  unfold par3F
  rw [h1]
  simp only [Option.bind_some]
  rw [h2]
  simp only [Option.bind_some]
  rw [h4]
  rfl
theorem wpS_retO {d : PyData} (h1 : env[i]? = some (some d)) (h : QS (.rt d (env.set i none))) : wpS (seqS (retOF i) gs) env QS := by
  refine ⟨_, seqS_r (d := d) (e1 := env.set i none) ?_, h⟩
  unfold retOF
  rw [varF_e h1]
  rfl
theorem atomF_b {b : Bool} (h : f env = some (.bool b, e1)) : atomF f env = some (.bool b, e1) := by
  unfold atomF
  rw [h]
  rfl
end
end Ev

set_option Elab.async false
set_option linter.all false
set_option maxRecDepth 100000
set_option maxHeartbeats 4000000
namespace Ev
open PySem PySem.Spec PyProof.Rows L2

/-! ### next places, places reached -/
def nLs (xss : List (List Nat)) : PyData := .list (xss.map nL)
theorem web0 (rows : List (List Str)) (steps : List Step) : ixD (encWeb rows steps) (.int 0) = some (.list (rows.map encRow)) := rfl
theorem web1 (rows : List (List Str)) (steps : List Step) : ixD (encWeb rows steps) (.int 1) = some (.list (steps.map encStep)) := rfl
theorem nLs_ix {T : List (List Nat)} {i : Nat} {xs : List Nat} (h : T[i]? = some xs) : ixD (nLs T) (nI i) = some (nL xs) := ixL (by rw [List.getElem?_map, h]; rfl)
theorem edge_take {st : List Step} {k : Nat} {s : Step} (h : st[k]? = some s) (i j : Nat) : Edge (st.take (k + 1)) i j ↔ Edge (st.take k) i j ∨ (i = s.1 ∧ j = s.2.2) := by
  have e : st.take (k + 1) = st.take k ++ [s] := by rw [List.take_add_one, h]; rfl
  unfold Edge
  rw [e]
  constructor
  · rintro ⟨b, hb⟩
    rcases List.mem_append.mp hb with hb | hb
    · exact .inl ⟨b, hb⟩
    · have := List.mem_singleton.mp hb
      exact .inr ⟨by rw [← this], by rw [← this]⟩
  · rintro (⟨b, hb⟩ | ⟨rfl, rfl⟩)
    · exact ⟨b, List.mem_append.mpr (.inl hb)⟩
    · exact ⟨s.2.1, List.mem_append.mpr (.inr (List.mem_singleton.mpr rfl))⟩
section
variable {rows : List (List Str)} {steps : List Step} {n : Nat}
abbrev EN (w t a b c : Option PyData) : Env := [w, t, none, a, b, c]
theorem nears_ok (hn : rows.length = n) (h60 : n ≤ 60) (hw : InW steps n) (hz : steps.length ≤ 10000) : c_nears_in [encWeb rows steps] = some (nLs ((List.range n).map (su steps)), [encWeb rows steps]) := by
  have key : ∃ d, c_nears_in [encWeb rows steps] = some (d, [encWeb rows steps]) ∧ d = nLs ((List.range n).map (su steps)) := by
    refine run_wp (fs := fb_nears_in) rfl rfl ?_
    show wpS fb_nears_in (EN (some (encWeb rows steps)) none none none none) _
    unfold fb_nears_in
    apply wpS_asg
    have h1 := compF_pure (enc := encRow) (l := rows) (p := fun _ => true) (h := fun _ => nL []) (src := seqAF (bind2 (varF 0) (conF (.int 0)) ixD)) (asg := nmG 2) (cond := yesF) (elt := mapM nilF mkL) (vs := [2]) (env := EN (some (encWeb rows steps)) none none none none) (e1 := EN (some (encWeb rows steps)) none none none none)
      (seqAF_l (bind2_e (varF_e rfl) conF_e (web0 _ _))) (by rw [hn, sizeLine_eq]; omega) fun r hr => ⟨_, _, rfl, yesF_e, (fun z => nomatch z), fun _ => ⟨_, mapM_e nilF_e (mkL_e (by simp)), rfl⟩⟩
    refine wp_of h1 ?_
    show wpS _ (EN (some (encWeb rows steps)) (some (.list ((rows.filter fun _ => true).map fun _ => nL []))) none none none) _
    have hT0 : (.list ((rows.filter fun _ => true).map fun _ => nL []) : PyData) = nLs (rows.map fun _ => []) := by
      unfold nLs
      rw [List.filter_eq_self.mpr fun _ _ => rfl, List.map_map]; rfl
    rw [hT0]
    apply wpS_for (I := fun k e => ∃ (T : List (List Nat)) (a b c : Option PyData), e = EN (some (encWeb rows steps)) (some (nLs T)) a b c ∧ T.length = n ∧ ∀ i, i < n → ∃ xs, T[i]? = some xs ∧ xs.Nodup ∧ (∀ j ∈ xs, j < n) ∧ ∀ j, j ∈ xs ↔ Edge (steps.take k) i j)
    refine wp_of (seqAF_l (bind2_e (varF_e rfl) conF_e (web1 _ _))) ⟨⟨_, none, none, none, rfl, by rw [List.length_map, hn], fun i hi => ⟨[], by rw [List.getElem?_map, List.getElem?_eq_getElem (by omega)]; rfl, List.nodup_nil, (fun j h => nomatch h), fun j => ⟨fun h => (nomatch h), fun ⟨b, hb⟩ => by simp at hb⟩⟩⟩, fun k d e hd hI => ?_, fun e hI => ?_⟩
    · obtain ⟨T, a, b, c, rfl, hT, hI⟩ := hI
      rw [List.getElem?_map] at hd
      cases hs : steps[k]? with
      | none => rw [hs] at hd; cases hd
      | some s =>
      rw [hs] at hd
      cases hd
      obtain ⟨hs1, hs2⟩ := hw s (List.mem_of_getElem? hs)
      obtain ⟨xs, hx, hnd, hb, hm⟩ := hI s.1 hs1
      refine ⟨EN (some (encWeb rows steps)) (some (nLs T)) (some (nI s.1)) (some (.str s.2.1)) (some (nI s.2.2)), rfl, ?_⟩
      apply wpS_if
      refine wp_of (bind2_e (varF_e rfl) (bind2_e (varF_e rfl) (varF_e rfl) (nLs_ix hx)) (n_notIn _ _)) ⟨_, rfl, fun hc => ?_, fun hc => ?_⟩
      · have hc := of_decide_eq_true hc
        apply wpS_assoc
        refine wpS_appN (ds0 := T.map nL) (ds1 := T.map nL) (ds := T.map nL) (n := s.1) (es := xs.map nI) rfl (varF_e rfl) rfl (by rw [List.length_map, hT]; exact hs1) (varF_e rfl) rfl (by rw [List.getElem?_map, hx]; rfl) (by
          rw [List.length_map, sizeLine_eq]
          have := nodup_len hnd hb
          omega) ?_
        refine ⟨.nx _, rfl, .inl ⟨_, .inl rfl, T.set s.1 (xs ++ [s.2.2]), some (nI s.1), some (.str s.2.1), some (nI s.2.2), ?_, by rw [List.length_set]; exact hT, fun i hi => ?_⟩⟩
        · have : (T.map nL).set s.1 (.list (xs.map nI ++ [nI s.2.2])) = (T.set s.1 (xs ++ [s.2.2])).map nL := by
            rw [List.map_set]
            congr 1
            unfold nL
            rw [List.map_append]; rfl
          show EN (some (encWeb rows steps)) (some (.list ((T.map nL).set s.1 (.list (xs.map nI ++ [nI s.2.2]))))) _ _ _ = _
          rw [this]; rfl
        · by_cases e : i = s.1
          · subst e
            refine ⟨xs ++ [s.2.2], List.getElem?_set_self (by rw [hT]; exact hi), ?_, fun j hj => ?_, fun j => ?_⟩
            · rw [List.nodup_append]
              exact ⟨hnd, by simp, fun x hx y hy e => hc (by rw [← List.mem_singleton.mp hy, ← e]; exact hx)⟩
            · rcases List.mem_append.mp hj with hj | hj
              · exact hb j hj
              · rw [List.mem_singleton.mp hj]; exact hs2
            · rw [edge_take hs, List.mem_append, hm, List.mem_singleton]
              exact ⟨fun h => h.imp id fun h => ⟨rfl, h⟩, fun h => h.imp id fun h => h.2⟩
          · obtain ⟨ys, hy, h1, h2, h3⟩ := hI i hi
            refine ⟨ys, by rw [List.getElem?_set_ne (Ne.symm e)]; exact hy, h1, h2, fun j => ?_⟩
            rw [edge_take hs, h3]
            exact ⟨.inl, fun h => h.elim id fun h => (e h.1).elim⟩
      · have hc : s.2.2 ∈ xs := by simpa using hc
        refine ⟨.nx _, rfl, .inl ⟨_, .inl rfl, T, some (nI s.1), some (.str s.2.1), some (nI s.2.2), rfl, hT, fun i hi => ?_⟩⟩
        obtain ⟨ys, hy, h1, h2, h3⟩ := hI i hi
        refine ⟨ys, hy, h1, h2, fun j => ?_⟩
        rw [edge_take hs, h3]
        refine ⟨.inl, fun h => h.elim id fun h => ?_⟩
        obtain ⟨rfl, rfl⟩ := h
        exact (hm _).mp hc
    · obtain ⟨T, a, b, c, rfl, hT, hI⟩ := hI
      rw [List.length_map, List.take_length] at hI
      apply wpS_ret
      have h2 := compF_pure (enc := nL) (l := T) (p := fun _ => true) (h := fun xs => nL (srt nI xs)) (src := seqAF (varF 1)) (asg := nmG 2) (cond := yesF) (elt := mapM (consF (varF 2) nilF) sortedD) (vs := [2]) (env := EN (some (encWeb rows steps)) (some (nLs T)) a b c) (e1 := EN (some (encWeb rows steps)) (some (nLs T)) a b c)
        (seqAF_l (varF_e rfl)) (by rw [hT, sizeLine_eq]; omega) fun xs hxs => by
          obtain ⟨i, hi, e⟩ := List.getElem_of_mem hxs
          obtain ⟨ys, hy, h1, h2, h3⟩ := hI i (by omega)
          rw [List.getElem?_eq_getElem hi] at hy
          have hy := Option.some.inj hy
          rw [e] at hy
          subst hy
          have := nodup_len h1 h2
          exact ⟨_, _, rfl, yesF_e, (fun z => nomatch z), fun _ => ⟨_, mapM_e (consF_e (varF_e rfl) nilF_e) (nL_sorted (by rw [sizeLine_eq]; omega)), rfl⟩⟩
      refine wp_of h2 ⟨_, _, rfl, ?_⟩
      rw [List.filter_eq_self.mpr fun _ _ => rfl]
      unfold nLs
      rw [List.map_map]
      refine congrArg PyData.list (List.ext_getElem? fun i => ?_)
      rw [List.getElem?_map, List.getElem?_map]
      by_cases hi : i < n
      · obtain ⟨ys, hy, h1, h2, h3⟩ := hI i hi
        rw [hy, List.getElem?_range hi]
        show some (nL (srt nI ys)) = some (nL (su steps i))
        rw [inc_ext (inc_srt h1) (su_inc (st := steps) (i := i)) fun j => by rw [srt_mem, h3, su_mem]]
      · rw [List.getElem?_eq_none (by omega), List.getElem?_eq_none (by rw [List.length_range]; omega)]; rfl
  obtain ⟨d, h, rfl⟩ := key
  exact h
end
end Ev

set_option Elab.async false
set_option linter.all false
set_option maxRecDepth 100000
set_option maxHeartbeats 4000000
namespace Ev
open PySem PySem.Spec PyProof.Rows L2

theorem popF_nL {env : Env} {i : Nat} {W : List Nat} {x : Nat} (h : listAt env i = some ((W ++ [x]).map nI)) : popF i env = some (nI x, env.set i (some (nL W))) := by
  unfold popF
  rw [h]
  simp only [Option.bind_some]
  have h1 : ((W ++ [x]).map nI)[((W ++ [x]).map nI).length - 1]? = some (nI x) := by
    rw [List.map_append, List.length_append, List.length_map]
    show (W.map nI ++ [nI x])[W.length + 1 - 1]? = _
    rw [Nat.add_sub_cancel, List.getElem?_append_right (by simp)]
    simp
  rw [h1]
  have h2 : ((W ++ [x]).map nI).dropLast = W.map nI := by
    rw [List.map_append]
    exact List.dropLast_concat
  rw [h2]; rfl
section
variable {st : List Step} {n p : Nat}
abbrev tr1 : Nat → PyData := fun _ => .bool true
theorem dN_tr1 (y : Nat) : (fun x => if x = y then PyData.bool true else tr1 x) = tr1 := funext fun x => by by_cases h : x = y <;> simp [h]
abbrev ER (nr pl : PyData) (D W : List Nat) (f : Option PyData) : Env := [some nr, some pl, some (.dict (dN tr1 D)), some (nL W), f]
theorem reached_ok (hw : InW st n) (hp : p < n) (h60 : n ≤ 60) : c_reached_in [nLs ((List.range n).map (su st)), nI p] = some (nL (rc st n p), [nLs ((List.range n).map (su st)), nI p]) := by
  have key : ∃ d, c_reached_in [nLs ((List.range n).map (su st)), nI p] = some (d, [nLs ((List.range n).map (su st)), nI p]) ∧ d = nL (rc st n p) := by
    refine run_wp (fs := fb_reached_in) rfl rfl ?_
    generalize hnr : nLs ((List.range n).map (su st)) = nr
    have hix : ∀ x, x < n → ixD nr (nI x) = some (nL (su st x)) := fun x hx => by
      rw [← hnr]
      exact nLs_ix (by rw [List.getElem?_map, List.getElem?_range hx]; rfl)
    show wpS fb_reached_in [some nr, some (nI p), none, none, none] _
    unfold fb_reached_in
    apply wpS_par2
    refine wp_of (a := .dict (dN tr1 [p])) (e1 := [some nr, some (nI p), none, none, none]) rfl ?_
    refine wp_of (a := nL [p]) (e1 := [some nr, some (nI p), none, none, none]) rfl ?_
    show wpS _ (ER nr (nI p) [p] [p] none) _
    apply wpS_while (I := fun m e => ∃ D W f, e = ER nr (nI p) D W f ∧ m ≤ n ∧ n - D.length + W.length = m ∧ D.Nodup ∧ (∀ x ∈ D, Rch st p x) ∧ p ∈ D ∧ (∀ x ∈ W, x ∈ D) ∧ ∀ x ∈ D, x ∉ W → ∀ y, Edge st x y → y ∈ D) (m0 := n) (hN := by omega)
    · exact ⟨[p], [p], none, rfl, Nat.le_refl _, by simp; omega, by simp, fun x hx => by rw [List.mem_singleton.mp hx]; exact .refl, by simp, fun x hx => hx, fun x hx h => (h hx).elim⟩
    · rintro m e ⟨D, W, f, rfl, hmn, hm, hD, hR, hpD, hWD, hC⟩
      have hDl : D.length ≤ n := nodup_len hD fun x hx => (hR x hx).lt hw hp
      refine wp_of (bind2_e (varF_e rfl) (mapM_e nilF_e (mkL_e (by simp))) (nL_ne W [])) ⟨_, rfl, fun hb => ?_, fun hb => ?_⟩
      · have hW : W = [] := by simpa using hb
        subst hW
        apply wpS_ret
        refine wp_of (mapM_e (consF_e (varF_e rfl) nilF_e) (sorted_dN (ys := rc st n p) (by omega) hD rc_inc fun a => ?_)) ⟨_, _, rfl, rfl⟩
        rw [rc_mem hw hp]
        refine ⟨hR a, fun h => ?_⟩
        induction h with
        | refl => exact hpD
        | step _ e ih => exact hC _ ih (by simp) _ e
      · have hW : W ≠ [] := by simpa using hb
        obtain ⟨W, x, rfl⟩ : ∃ W' x, W = W' ++ [x] := ⟨W.dropLast, W.getLast hW, (List.dropLast_concat_getLast hW).symm⟩
        have hxD : x ∈ D := hWD x (by simp)
        have hxn : x < n := (hR x hxD).lt hw hp
        rw [List.length_append, List.length_singleton] at hm
        apply wpS_for (I := fun k e => ∃ D' W' f, e = ER nr (nI p) D' W' f ∧ n - D'.length + W'.length = m - 1 ∧ D'.Nodup ∧ (∀ y ∈ D', Rch st p y) ∧ (∀ y ∈ D, y ∈ D') ∧ (∀ y ∈ W', y ∈ D') ∧ (∀ z ∈ D', z ∉ W' → z ≠ x → ∀ y, Edge st z y → y ∈ D') ∧ ∀ y ∈ (su st x).take k, y ∈ D')
        refine wp_of (a := (su st x).map nI) (e1 := ER nr (nI p) D W f) (seqAF_l (bind2_e (varF_e rfl) (popF_nL rfl) (hix x hxn))) ⟨⟨D, W, f, rfl, by omega, hD, hR, fun y h => h, fun y h => hWD y (by simp [h]), fun z hz hzW hzx y hy => hC z hz (by simp [hzW, hzx]) y hy, fun y h => by simp at h⟩, fun k d e hd hI => ?_, fun e hI => ?_⟩
        · obtain ⟨D', W', f', rfl, h1, h2, h3, h4, h5, h6, h7⟩ := hI
          rw [List.getElem?_map] at hd
          cases hs : (su st x)[k]? with
          | none => rw [hs] at hd; cases hd
          | some y =>
          rw [hs] at hd
          cases hd
          have hxy : Edge st x y := su_mem.mp (List.mem_of_getElem? hs)
          have hyR : Rch st p y := .step (hR x hxD) hxy
          have hyn := hyR.lt hw hp
          have hD'l : D'.length ≤ n := nodup_len h2 fun x hx => (h3 x hx).lt hw hp
          have htk : (su st x).take (k + 1) = (su st x).take k ++ [y] := by rw [List.take_add_one, hs]; rfl
          refine ⟨ER nr (nI p) D' W' (some (nI y)), rfl, ?_⟩
          apply wpS_if
          refine wp_of (bind2_e (varF_e rfl) (varF_e rfl) (n_in_dict tr1 y D')) ⟨_, rfl, fun hc => ?_, fun hc => ?_⟩
          · have hc := of_decide_eq_true hc
            have h2' : (D' ++ [y]).Nodup := by
              rw [List.nodup_append]
              exact ⟨h2, by simp, fun a ha b hb e => hc (by rw [← List.mem_singleton.mp hb, ← e]; exact ha)⟩
            have hD'l2 := nodup_len (n := n) h2' fun a ha => by
              rcases List.mem_append.mp ha with ha | ha
              · exact (h3 a ha).lt hw hp
              · rw [List.mem_singleton.mp ha]; exact hyn
            rw [List.length_append, List.length_singleton] at hD'l2
            apply wpS_assoc
            refine wpS_dput (kvs0 := dN tr1 D') (wp_of conF_e ⟨rfl, wp_of (varF_e rfl) ⟨dN tr1 D', _, rfl, keyN y, by unfold dN; rw [List.length_map, sizeLine_eq]; omega, ?_⟩⟩)
            rw [putD_dN hc, dN_tr1]
            show wpS _ (ER nr (nI p) (D' ++ [y]) W' (some (nI y))) _
            apply wpS_assoc
            refine wpS_append (l0 := W'.map nI) rfl (wp_of (varF_e rfl) ⟨W'.map nI, rfl, by rw [List.length_map, sizeLine_eq]; omega, ?_⟩)
            have e0 : W'.map nI ++ [nI y] = (W' ++ [y]).map nI := by rw [List.map_append]; rfl
            rw [e0]
            refine ⟨.nx _, rfl, .inl ⟨_, .inl rfl, D' ++ [y], W' ++ [y], some (nI y), rfl, ?_, h2', ?_, ?_, ?_, ?_, ?_⟩⟩
            · rw [List.length_append, List.length_append, List.length_singleton]; omega
            · intro a ha
              rcases List.mem_append.mp ha with ha | ha
              · exact h3 a ha
              · rw [List.mem_singleton.mp ha]; exact hyR
            · exact fun a ha => List.mem_append.mpr (.inl (h4 a ha))
            · intro a ha
              rcases List.mem_append.mp ha with ha | ha
              · exact List.mem_append.mpr (.inl (h5 a ha))
              · exact List.mem_append.mpr (.inr ha)
            · intro z hz hzW hzx b hb
              rcases List.mem_append.mp hz with hz | hz
              · exact List.mem_append.mpr (.inl (h6 z hz (fun h => hzW (List.mem_append.mpr (.inl h))) hzx b hb))
              · exact (hzW (List.mem_append.mpr (.inr hz))).elim
            · intro a ha
              rw [htk] at ha
              rcases List.mem_append.mp ha with ha | ha
              · exact List.mem_append.mpr (.inl (h7 a ha))
              · exact List.mem_append.mpr (.inr ha)
          · have hc : y ∈ D' := by simpa using hc
            refine ⟨.nx _, rfl, .inl ⟨_, .inl rfl, D', W', some (nI y), rfl, h1, h2, h3, h4, h5, h6, fun a ha => ?_⟩⟩
            rw [htk] at ha
            rcases List.mem_append.mp ha with ha | ha
            · exact h7 a ha
            · rw [List.mem_singleton.mp ha]; exact hc
        · obtain ⟨D', W', f', rfl, h1, h2, h3, h4, h5, h6, h7⟩ := hI
          rw [List.length_map, List.take_length] at h7
          refine ⟨.nx _, rfl, .inl ⟨_, m - 1, .inl rfl, by omega, D', W', f', rfl, by omega, h1, h2, h3, h4 p hpD, h5, fun z hz hzW y hy => ?_⟩⟩
          by_cases e : z = x
          · subst e
            exact h7 y (su_mem.mpr hy)
          · exact h6 z hz hzW e y hy
  obtain ⟨d, h, rfl⟩ := key
  exact h
end
end Ev

set_option Elab.async false
set_option linter.all false
set_option maxRecDepth 100000
set_option maxHeartbeats 4000000
namespace Ev
open PySem PySem.Spec PyProof.Rows L2

/-! ### webs that are judged right; closed lots -/
structure GW (n : Nat) (rows : List (List Str)) (st : List Step) : Prop where
  hn : rows.length = n
  h1 : 1 ≤ n
  h60 : n ≤ 60
  hw : InW st n
  hz : st.length ≤ 400
  ok : webB (encWeb rows st) = true
  fit : Fit (encWeb rows st)
section
variable {n : Nat} {rows : List (List Str)} {st : List Step} {p : Nat} {lot : List Nat}
theorem len_rows {env e1 : Env} {f : M PyData} (hn : rows.length = n) (h : f env = some (encWeb rows st, e1)) : (mapM (consF (bind2 f (conF (.int 0)) ixD) nilF) lenD) env = some (.int (n : Nat), e1) := by
  refine mapM_e (consF_e (bind2_e h conF_e (web0 _ _)) nilF_e) ?_
  rw [lenD_l', List.length_map, hn]
theorem check_web_ok (g : GW n rows st) : c_check_web [encWeb rows st] = some (.none, [encWeb rows st]) := by
  refine run_nx (fs := fb_check_web) (e1 := [some (encWeb rows st)]) rfl rfl ?_
  show fb_check_web [some (encWeb rows st)] = _
  unfold fb_check_web
  exact seqS_n (ifS_f (notF_e (b := true) (mapM_e (consF_e (varF_e rfl) nilF_e) (callF_e ((web_in_d g.fit).trans (by rw [g.ok]))))) skipS_e) skipS_e
theorem below_nI (h : p < n) : belowB (nI p) (n : Nat) = true := by
  unfold belowB nI
  simp
  omega
theorem check_place_ok (g : GW n rows st) (hp : p < n) : c_check_place [encWeb rows st, nI p] = some (.none, [encWeb rows st, nI p]) := by
  refine run_nx (fs := fb_check_place) (e1 := [some (encWeb rows st), some (nI p)]) rfl rfl ?_
  show fb_check_place [some (encWeb rows st), some (nI p)] = _
  unfold fb_check_place
  exact seqS_n (ifS_f (notF_e (b := true) (mapM_e (consF_e (varF_e rfl) (consF_e (len_rows g.hn (varF_e rfl)) nilF_e)) (callF_e ((is_below_d _ _).trans (by rw [below_nI hp]))))) skipS_e) skipS_e
theorem rises_nL (h : Inc lot) : risesB (lot.map nI) = true := by
  unfold risesB
  rw [List.all_eq_true]
  intro i hi
  rw [List.mem_range, List.length_map] at hi
  unfold adjB
  have h1 : (lot.map nI)[i]? = some (nI lot[i]) := by rw [List.getElem?_map, List.getElem?_eq_getElem (by omega)]; rfl
  have h2 : (lot.map nI)[i + 1]? = some (nI lot[i + 1]) := by rw [List.getElem?_map, List.getElem?_eq_getElem (by omega)]; rfl
  rw [List.getD_eq_getElem?_getD, List.getD_eq_getElem?_getD, h1, h2]
  show PySem.W.dataLt (.int _) (.int _) = true
  rw [PySem.W.dataLt_int]
  have := List.pairwise_iff_getElem.mp h i (i + 1) (by omega) (by omega) (by omega)
  exact decide_eq_true (by omega)
theorem asc_ok (h : Inc lot) (hb : ∀ x ∈ lot, x < n) (h60 : n ≤ 60) : c_are_ascending [nL lot, .int (n : Nat)] = some (.bool true, [nL lot, .int (n : Nat)]) := by
  have hl : lot.length ≤ n := nodup_len (h.imp fun h => Nat.ne_of_lt h) hb
  have hc := compF_pure (enc := nI) (l := lot) (p := fun _ => false) (h := nI) (src := seqAF (varF 0)) (asg := nmG 2) (cond := asB (notF (mapM (consF (varF 2) (consF (varF 1) nilF)) (callF c_is_below)))) (elt := varF 2) (vs := [2]) (env := [some (nL lot), some (.int (n : Nat)), none]) (e1 := [some (nL lot), some (.int (n : Nat)), none])
    (seqAF_l (varF_e rfl)) (by rw [sizeLine_eq]; omega) fun x hx => ⟨[some (nL lot), some (.int (n : Nat)), some (nI x)], [some (nL lot), some (.int (n : Nat)), some (nI x)], rfl, asB_e (notF_e (b := true) (mapM_e (consF_e (varF_e rfl) (consF_e (varF_e rfl) nilF_e)) (callF_e ((is_below_d _ _).trans (by rw [below_nI (hb x hx)]))))), fun _ => rfl, fun z => nomatch z⟩
  rw [List.filter_eq_nil_iff.mpr (fun _ _ => by simp)] at hc
  refine run_rt (fs := fb_are_ascending) (e1 := [some (nL lot), some (.int (n : Nat)), none]) rfl rfl ?_
  show fb_are_ascending [some (nL lot), some (.int (n : Nat)), none] = _
  unfold fb_are_ascending
  refine seqS_r (retS_e (andF_t (mapF_e (varF_e rfl) (isi_l _)) (andF_t (bind2_e hc (mapM_e nilF_e (mkL_e (by simp))) (nL_eq [] [])) (mapM_e (consF_e (varF_e rfl) nilF_e) (callF_e ((is_rising_d (by rw [List.length_map]; omega) fun i a b ha hb => ?_).trans (by rw [rises_nL h])))))))
  obtain ⟨x, _, rfl⟩ := List.mem_map.mp (List.mem_of_getElem? ha)
  obtain ⟨y, _, rfl⟩ := List.mem_map.mp (List.mem_of_getElem? hb)
  simp [ordOk, nI, PySem.W.alike, PyData.plain, PyData.depth]
theorem check_lot_ok (g : GW n rows st) (h : Inc lot) (hb : ∀ x ∈ lot, x < n) : c_check_lot [encWeb rows st, nL lot] = some (.none, [encWeb rows st, nL lot]) := by
  refine run_nx (fs := fb_check_lot) (e1 := [some (encWeb rows st), some (nL lot)]) rfl rfl ?_
  show fb_check_lot [some (encWeb rows st), some (nL lot)] = _
  unfold fb_check_lot
  exact seqS_n (ifS_f (notF_e (b := true) (mapM_e (consF_e (varF_e rfl) (consF_e (len_rows g.hn (varF_e rfl)) nilF_e)) (callF_e (asc_ok h hb g.h60)))) skipS_e) skipS_e
theorem check_wp_ok (g : GW n rows st) (hp : p < n) : c_check_web_place [encWeb rows st, nI p] = some (.none, [encWeb rows st, nI p]) := by
  refine run_nx (fs := fb_check_web_place) (e1 := [some (encWeb rows st), some (nI p)]) rfl rfl ?_
  show fb_check_web_place [some (encWeb rows st), some (nI p)] = _
  unfold fb_check_web_place
  exact seqS_n (exprS_e (mapM_e (consF_e (varF_e rfl) nilF_e) (callF_e (check_web_ok g)))) (seqS_n (exprS_e (mapM_e (consF_e (varF_e rfl) (consF_e (varF_e rfl) nilF_e)) (callF_e (check_place_ok g hp)))) skipS_e)
theorem check_wl_ok (g : GW n rows st) (h : Inc lot) (hb : ∀ x ∈ lot, x < n) : c_check_web_lot [encWeb rows st, nL lot] = some (.none, [encWeb rows st, nL lot]) := by
  refine run_nx (fs := fb_check_web_lot) (e1 := [some (encWeb rows st), some (nL lot)]) rfl rfl ?_
  show fb_check_web_lot [some (encWeb rows st), some (nL lot)] = _
  unfold fb_check_web_lot
  exact seqS_n (exprS_e (mapM_e (consF_e (varF_e rfl) nilF_e) (callF_e (check_web_ok g)))) (seqS_n (exprS_e (mapM_e (consF_e (varF_e rfl) (consF_e (varF_e rfl) nilF_e)) (callF_e (check_lot_ok g h hb)))) skipS_e)
theorem GW.nears (g : GW n rows st) : c_nears_in [encWeb rows st] = some (nLs ((List.range n).map (su st)), [encWeb rows st]) := nears_ok g.hn g.h60 g.hw (by have := g.hz; omega)
theorem reach_ok (g : GW n rows st) (hp : p < n) : c_reached [encWeb rows st, nI p] = some (nL (rc st n p), [encWeb rows st, nI p]) := by
  refine run_rt (fs := fb_reached) (e1 := [some (encWeb rows st), some (nI p)]) rfl rfl ?_
  show fb_reached [some (encWeb rows st), some (nI p)] = _
  unfold fb_reached
  exact seqS_n (exprS_e (mapM_e (consF_e (varF_e rfl) (consF_e (varF_e rfl) nilF_e)) (callF_e (check_wp_ok g hp)))) (seqS_r (retS_e (mapM_e (consF_e (mapM_e (consF_e (varF_e rfl) nilF_e) (callF_e g.nears)) (consF_e (varF_e rfl) nilF_e)) (callF_e (reached_ok g.hw hp g.h60)))))
/-! closed lots -/
def leaves (lot : List Nat) (s : Step) : Bool := decide (s.1 ∈ lot) && decide (s.2.2 ∉ lot)
def clB (st : List Step) (lot : List Nat) : Bool := (st.filter (leaves lot)).isEmpty
theorem andF_bb {fa fb : M PyData} {env : Env} {b b' : Bool} (h1 : fa env = some (.bool b, env)) (h2 : fb env = some (.bool b', env)) : andF fa fb env = some (.bool (b && b'), env) := andF_b h1 fun _ => h2
theorem step0 (s : Step) : ixD (encStep s) (.int 0) = some (nI s.1) := rfl
theorem step1 (s : Step) : ixD (encStep s) (.int 1) = some (.str s.2.1) := rfl
theorem step2 (s : Step) : ixD (encStep s) (.int 2) = some (nI s.2.2) := rfl
theorem leaves_comp {env : Env} {i j l : Nat} (hi : env[i]? = some (some (encWeb rows st))) (hl : env[l]? = some (some (nL lot))) (hj : env[j]? = some none) (hij : i ≠ j) (hlj : l ≠ j) (hz : st.length ≤ 10000) :
    bind2 (compF true (seqAF (bind2 (varF i) (conF (.int 1)) ixD)) (nmG j) (asB (andF (bind2 (bind2 (varF j) (conF (.int 0)) ixD) (varF l) (inD false)) (bind2 (bind2 (varF j) (conF (.int 2)) ixD) (varF l) (inD true)))) (varF j) [j]) (mapM nilF mkL) eqD env = some (.bool (clB st lot), env) := by
  have hlt : j < env.length := (List.getElem?_eq_some_iff.mp hj).1
  have hc := compF_pure (enc := encStep) (l := st) (p := leaves lot) (h := encStep) (src := seqAF (bind2 (varF i) (conF (.int 1)) ixD)) (asg := nmG j) (cond := asB (andF (bind2 (bind2 (varF j) (conF (.int 0)) ixD) (varF l) (inD false)) (bind2 (bind2 (varF j) (conF (.int 2)) ixD) (varF l) (inD true)))) (elt := varF j) (vs := [j]) (env := env) (e1 := env)
    (seqAF_l (bind2_e (varF_e hi) conF_e (web1 _ _))) (by rw [sizeLine_eq]; omega) fun s hs => by
      have w0 : wipeE env [j] = env := set_none hj
      have g1 : (env.set j (some (encStep s)))[j]? = some (some (encStep s)) := List.getElem?_set_self hlt
      have g2 : (env.set j (some (encStep s)))[l]? = some (some (nL lot)) := by rw [List.getElem?_set_ne (Ne.symm hlj)]; exact hl
      have w1 : wipeE (env.set j (some (encStep s))) [j] = wipeE env [j] := by rw [w0]; exact set_back hj _
      exact ⟨env.set j (some (encStep s)), env.set j (some (encStep s)), by rw [w0]; rfl, asB_e (andF_bb (bind2_e (bind2_e (varF_e g1) conF_e (step0 s)) (varF_e g2) (n_in _ _)) (bind2_e (bind2_e (varF_e g1) conF_e (step2 s)) (varF_e g2) (n_notIn _ _))), fun _ => w1, fun _ => ⟨_, varF_e g1, w1⟩⟩
  refine bind2_e hc (mapM_e nilF_e (mkL_e (by simp))) ?_
  rw [eqD_nil (plainAll_map encSt.plain _) (by
    have := depthAll_map (enc := encStep) encSt.depth (st.filter (leaves lot))
    rw [PyData.depth]; omega), List.isEmpty_map]
  rfl
theorem closed_ok (g : GW n rows st) (h : Inc lot) (hb : ∀ x ∈ lot, x < n) : c_is_closed [encWeb rows st, nL lot] = some (.bool (clB st lot), [encWeb rows st, nL lot]) := by
  refine run_rt (fs := fb_is_closed) (e1 := [some (encWeb rows st), some (nL lot), none]) rfl rfl ?_
  show fb_is_closed [some (encWeb rows st), some (nL lot), none] = _
  unfold fb_is_closed
  exact seqS_n (exprS_e (mapM_e (consF_e (varF_e rfl) (consF_e (varF_e rfl) nilF_e)) (callF_e (check_wl_ok g h hb)))) (seqS_r (retS_e (leaves_comp rfl rfl rfl (by decide) (by decide) (by have := g.hz; omega))))
theorem clB_rc (hw : InW st n) (hp : p < n) : clB st (rc st n p) = true := by
  unfold clB
  rw [List.isEmpty_iff, List.filter_eq_nil_iff]
  intro s hs h
  unfold leaves at h
  rw [Bool.and_eq_true, decide_eq_true_eq, decide_eq_true_eq, rc_mem hw hp, rc_mem hw hp] at h
  exact h.2 (.step h.1 ⟨s.2.1, hs⟩)
theorem rc_lt : ∀ x ∈ rc st n p, x < n := fun x hx => List.mem_range.mp (List.mem_filter.mp hx).1
end
end Ev

set_option Elab.async false
set_option linter.all false
set_option maxRecDepth 100000
set_option maxHeartbeats 4000000
namespace Ev
open PySem PySem.Spec PyProof.Rows L2

/-! ### rings -/
theorem rng1N {n : Nat} (h : n ≤ 10000) : rng1D [.int (n : Nat)] = some ((List.range n).map nI) := by
  rw [rng1_ok h]
  congr 1
  exact List.map_congr_left fun i _ => rgI_eq i
section
variable {n : Nat} {rows : List (List Str)} {st : List Step} {p i j k : Nat}
noncomputable def rg (st : List Step) (n i : Nat) : List Nat := (List.range n).filter fun j => decide (Rch st i j) && decide (Rch st j i)
noncomputable def rgs (st : List Step) (n : Nat) : Nat → List (List Nat)
  | 0 => []
  | k + 1 => if rg st n k ∈ rgs st n k then rgs st n k else rgs st n k ++ [rg st n k]
theorem rg_inc : Inc (rg st n i) := inc_filter n _
theorem rg_mem : j ∈ rg st n i ↔ j < n ∧ Rch st i j ∧ Rch st j i := by
  unfold rg
  rw [List.mem_filter, List.mem_range, Bool.and_eq_true, decide_eq_true_eq, decide_eq_true_eq]
theorem rg_of (hw : InW st n) (hi : i < n) : (rc st n i).filter (fun j => decide (i ∈ rc st n j)) = rg st n i := by
  refine inc_ext (List.Pairwise.sublist List.filter_sublist rc_inc) rg_inc fun j => ?_
  rw [List.mem_filter, decide_eq_true_eq, rg_mem, rc_mem hw hi]
  constructor
  · rintro ⟨h1, h2⟩
    have hj := h1.lt hw hi
    exact ⟨hj, h1, (rc_mem hw hj).mp h2⟩
  · rintro ⟨h1, h2, h3⟩
    exact ⟨h2, (rc_mem hw h1).mpr h3⟩
theorem rgs_len : ∀ k, (rgs st n k).length ≤ k
  | 0 => Nat.le_refl _
  | k + 1 => by
    have := rgs_len k
    unfold rgs
    split
    · omega
    · rw [List.length_append, List.length_singleton]; omega
theorem rgs_has : ∀ k i, i < k → rg st n i ∈ rgs st n k
  | 0, i, h => by omega
  | k + 1, i, h => by
    unfold rgs
    by_cases e : i = k
    · subst e
      split
      · assumption
      · simp
    · have := rgs_has k i (by omega)
      split
      · exact this
      · exact List.mem_append.mpr (.inl this)
theorem rgs_from : ∀ k xs, xs ∈ rgs st n k → ∃ i, i < k ∧ xs = rg st n i
  | 0, xs, h => nomatch h
  | k + 1, xs, h => by
    unfold rgs at h
    split at h
    · obtain ⟨i, h1, h2⟩ := rgs_from k xs h
      exact ⟨i, by omega, h2⟩
    · rcases List.mem_append.mp h with h | h
      · obtain ⟨i, h1, h2⟩ := rgs_from k xs h
        exact ⟨i, by omega, h2⟩
      · exact ⟨k, by omega, List.mem_singleton.mp h⟩
theorem rg_eq (h : j ∈ rg st n i) : rg st n j = rg st n i := by
  obtain ⟨h1, h2, h3⟩ := rg_mem.mp h
  refine inc_ext rg_inc rg_inc fun a => ?_
  rw [rg_mem, rg_mem]
  exact ⟨fun ⟨q1, q2, q3⟩ => ⟨q1, h2.trans q2, q3.trans h3⟩, fun ⟨q1, q2, q3⟩ => ⟨q1, h3.trans q2, q3.trans h2⟩⟩
theorem rgs_flat_nodup : ∀ k, (rgs st n k).flatten.Nodup
  | 0 => List.nodup_nil
  | k + 1 => by
    have ih := rgs_flat_nodup k
    unfold rgs
    split
    · exact ih
    · rename_i hn
      rw [List.flatten_append, List.nodup_append]
      have hnd : (rg st n k).Nodup := (rg_inc (st := st) (n := n) (i := k)).imp fun h => Nat.ne_of_lt h
      refine ⟨ih, by simpa using hnd, fun a ha b hb e => ?_⟩
      subst e
      have hb : a ∈ rg st n k := by simpa using hb
      obtain ⟨xs, hx, ha⟩ := List.mem_flatten.mp ha
      obtain ⟨i, hi, rfl⟩ := rgs_from k xs hx
      apply hn
      rw [← rg_eq hb, rg_eq ha]
      exact hx
theorem rgs_flat_mem (a : Nat) : a ∈ (rgs st n n).flatten ↔ a < n := by
  rw [List.mem_flatten]
  constructor
  · rintro ⟨xs, hx, ha⟩
    obtain ⟨i, hi, rfl⟩ := rgs_from n xs hx
    exact (rg_mem.mp ha).1
  · intro h
    exact ⟨rg st n a, rgs_has n a h, rg_mem.mpr ⟨h, .refl, .refl⟩⟩
theorem rgs_pos (h : 1 ≤ n) : ∃ xs r, rgs st n n = xs :: r := by
  cases e : rgs st n n with
  | nil => have := rgs_has (st := st) (n := n) n 0 (by omega); rw [e] at this; cases this
  | cons x r => exact ⟨x, r, rfl⟩
abbrev EG (web nr : PyData) (R : List (List Nat)) (lots : PyData) (a b : Option PyData) : Env := [some web, some nr, some (nLs R), some lots, a, b, none, none]
theorem rings_ok (g : GW n rows st) : c_rings_of [encWeb rows st] = some (nLs (rgs st n n), [encWeb rows st]) := by
  have key : ∃ d, c_rings_of [encWeb rows st] = some (d, [encWeb rows st]) ∧ d = nLs (rgs st n n) := by
    have hn60 := g.h60
    refine run_wp (fs := fb_rings_of) rfl rfl ?_
    show wpS fb_rings_of [some (encWeb rows st), none, none, none, none, none, none, none] _
    unfold fb_rings_of
    apply wpS_expr
    refine wp_of (mapM_e (consF_e (varF_e rfl) nilF_e) (callF_e (check_web_ok g))) ?_
    apply wpS_par2
    refine wp_of (mapM_e (consF_e (varF_e rfl) nilF_e) (callF_e g.nears)) ?_
    refine wp_of (mapM_e nilF_e (mkL_e (l := []) (by simp))) ?_
    generalize hnr : nLs ((List.range n).map (su st)) = nr
    show wpS _ [some (encWeb rows st), some nr, some (nLs []), none, none, none, none, none] _
    apply wpS_asg
    have hc := compF_pure (enc := nI) (l := List.range n) (p := fun _ => true) (h := fun i => nL (rc st n i)) (src := mapM (consF (mapM (consF (bind2 (varF 0) (conF (.int 0)) ixD) nilF) lenD) nilF) rng1D) (asg := nmG 4) (cond := yesF) (elt := mapM (consF (varF 1) (consF (varF 4) nilF)) (callF c_reached_in)) (vs := [4]) (env := [some (encWeb rows st), some nr, some (nLs []), none, none, none, none, none]) (e1 := [some (encWeb rows st), some nr, some (nLs []), none, none, none, none, none])
      (mapM_e (consF_e (len_rows g.hn (varF_e rfl)) nilF_e) (rng1N (by omega))) (by rw [List.length_range, sizeLine_eq]; omega) fun i hi => ⟨_, _, rfl, yesF_e, (fun z => nomatch z), fun _ => ⟨_, mapM_e (consF_e (varF_e rfl) (consF_e (varF_e rfl) nilF_e)) (callF_e (by rw [← hnr]; exact reached_ok g.hw (List.mem_range.mp hi) g.h60)), rfl⟩⟩
    rw [List.filter_eq_self.mpr fun _ _ => rfl] at hc
    refine wp_of hc ?_
    have hlots : (.list ((List.range n).map fun i => nL (rc st n i)) : PyData) = nLs ((List.range n).map (rc st n)) := by unfold nLs; rw [List.map_map]; rfl
    rw [hlots]
    show wpS _ (EG (encWeb rows st) nr [] (nLs ((List.range n).map (rc st n))) none none) _
    have hix : ∀ j, j < n → ixD (nLs ((List.range n).map (rc st n))) (nI j) = some (nL (rc st n j)) := fun j hj => nLs_ix (by rw [List.getElem?_map, List.getElem?_range hj]; rfl)
    apply wpS_for (I := fun k e => ∃ a b, e = EG (encWeb rows st) nr (rgs st n k) (nLs ((List.range n).map (rc st n))) a b)
    refine wp_of (a := (((List.range n).map (rc st n)).zipIdx).map (encAt nL)) (e1 := EG (encWeb rows st) nr [] (nLs ((List.range n).map (rc st n))) none none) ?_ ⟨⟨none, none, rfl⟩, fun k d e hd hI => ?_, fun e hI => ?_⟩
    · rw [← enumFrom_enc]
      exact enumAF_l (consF_e (varF_e rfl) nilF_e)
    · obtain ⟨a, b, rfl⟩ := hI
      have hk : k < n := by
        have := (List.getElem?_eq_some_iff.mp hd).1
        simpa using this
      have hd : d = .tuple [nI k, nL (rc st n k)] := by
        rw [List.getElem?_map, List.getElem?_zipIdx, List.getElem?_map, List.getElem?_range hk] at hd
        have := Option.some.inj hd
        rw [← this]
        unfold encAt
        simp [nI]
      subst hd
      refine ⟨EG (encWeb rows st) nr (rgs st n k) (nLs ((List.range n).map (rc st n))) (some (nI k)) (some (nL (rc st n k))), rfl, ?_⟩
      apply wpS_asg
      have hc := compF_pure (enc := nI) (l := rc st n k) (p := fun j => decide (k ∈ rc st n j)) (h := nI) (src := seqAF (varF 5)) (asg := nmG 7) (cond := asB (bind2 (varF 4) (bind2 (varF 3) (varF 7) ixD) (inD false))) (elt := varF 7) (vs := [7]) (env := EG (encWeb rows st) nr (rgs st n k) (nLs ((List.range n).map (rc st n))) (some (nI k)) (some (nL (rc st n k)))) (e1 := EG (encWeb rows st) nr (rgs st n k) (nLs ((List.range n).map (rc st n))) (some (nI k)) (some (nL (rc st n k))))
        (seqAF_l (varF_e rfl)) (by
          have := nodup_len (n := n) ((rc_inc (st := st) (n := n) (i := k)).imp fun h => Nat.ne_of_lt h) rc_lt
          rw [sizeLine_eq]; omega) fun j hj => ⟨[some (encWeb rows st), some nr, some (nLs (rgs st n k)), some (nLs ((List.range n).map (rc st n))), some (nI k), some (nL (rc st n k)), none, some (nI j)], _, rfl, asB_e (bind2_e (varF_e rfl) (bind2_e (varF_e rfl) (varF_e rfl) (hix j (rc_lt j hj))) (n_in _ _)), fun _ => rfl, fun _ => ⟨_, varF_e rfl, rfl⟩⟩
      refine wp_of hc ?_
      rw [rg_of g.hw hk]
      show wpS _ [some (encWeb rows st), some nr, some (nLs (rgs st n k)), some (nLs ((List.range n).map (rc st n))), some (nI k), some (nL (rc st n k)), some (nL (rg st n k)), none] _
      apply wpS_if
      refine wp_of (atomF_b (bind2_e (varF_e rfl) (varF_e rfl) (nL_notIn _ _))) ⟨_, rfl, fun hb => ?_, fun hb => ?_⟩
      · have hb := of_decide_eq_true hb
        apply wpS_assoc
        have hl := rgs_len (st := st) (n := n) k
        refine wpS_appMv (ds := (rgs st n k).map nL) rfl rfl (by rw [List.length_map, sizeLine_eq]; omega) ?_
        refine ⟨.nx _, rfl, .inl ⟨_, .inl rfl, some (nI k), some (nL (rc st n k)), ?_⟩⟩
        have e0 : rgs st n (k + 1) = rgs st n k ++ [rg st n k] := by
          conv => lhs; unfold rgs
          rw [if_neg hb]
        have e1 : (rgs st n k).map nL ++ [nL (rg st n k)] = (rgs st n (k + 1)).map nL := by rw [e0, List.map_append]; rfl
        show [some (encWeb rows st), some nr, some (.list ((rgs st n k).map nL ++ [nL (rg st n k)])), some (nLs ((List.range n).map (rc st n))), some (nI k), some (nL (rc st n k)), none, none] = _
        rw [e1]; rfl
      · have hb : rg st n k ∈ rgs st n k := by simpa using hb
        refine ⟨.nx _, rfl, .inl ⟨_, .inl rfl, some (nI k), some (nL (rc st n k)), ?_⟩⟩
        have e0 : rgs st n (k + 1) = rgs st n k := by
          conv => lhs; unfold rgs
          rw [if_pos hb]
        rw [e0]; rfl
    · obtain ⟨a, b, rfl⟩ := hI
      have hlen : ((((List.range n).map (rc st n)).zipIdx).map (encAt nL)).length = n := by simp
      rw [hlen]
      exact wpS_retO (d := nLs (rgs st n n)) rfl ⟨_, _, rfl, rfl⟩
  obtain ⟨d, h, rfl⟩ := key
  exact h
end
end Ev

set_option Elab.async false
set_option linter.all false
set_option maxRecDepth 100000
set_option maxHeartbeats 4000000
namespace Ev
open PySem PySem.Spec PyProof.Rows L2

/-! ### how far, no program in sight -/
theorem least {P : Nat → Prop} (h : ∃ k, P k) : ∃ k, P k ∧ ∀ m, m < k → ¬ P m := by
  obtain ⟨k, hk⟩ := h
  induction k using Nat.strongRecOn with
  | _ k ih =>
    by_cases c : ∃ m, m < k ∧ P m
    · obtain ⟨m, h1, h2⟩ := c
      exact ih m h1 h2
    · exact ⟨k, hk, fun m h1 h2 => c ⟨m, h1, h2⟩⟩
section
variable {st : List Step} {n p i j k : Nat}
open Classical in
noncomputable def dep (st : List Step) (p x : Nat) : Nat := if h : ∃ k, Wt st p k x then Classical.choose (least h) else 0
theorem dep_spec {x : Nat} (r : Rch st p x) : Wt st p (dep st p x) x ∧ ∀ m, m < dep st p x → ¬ Wt st p m x := by
  unfold dep
  rw [dif_pos r.wt]
  exact Classical.choose_spec (least r.wt)
theorem dep_le {x k : Nat} (h : Wt st p k x) : dep st p x ≤ k := by
  apply Nat.le_of_not_lt
  intro hlt
  exact (dep_spec h.rch).2 k hlt h
theorem dep_self : dep st p p = 0 := Nat.le_zero.mp (dep_le (k := 0) rfl)
theorem dep_edge {x y : Nat} (r : Rch st p x) (e : Edge st x y) : dep st p y ≤ dep st p x + 1 := dep_le (.inr ⟨x, (dep_spec r).1, e⟩)
theorem dep_zero {y : Nat} (r : Rch st p y) (h : dep st p y = 0) : y = p := by
  have := (dep_spec r).1
  rw [h] at this
  exact this
theorem dep_succ {y k : Nat} (r : Rch st p y) (h : dep st p y = k + 1) : ∃ u, Rch st p u ∧ dep st p u = k ∧ Edge st u y := by
  have h1 := (dep_spec r).1
  rw [h] at h1
  rcases h1 with h1 | ⟨u, h1, e⟩
  · exact ((dep_spec r).2 k (by omega) h1).elim
  · have hu := dep_le h1
    have := dep_edge h1.rch e
    exact ⟨u, h1.rch, by omega, e⟩
theorem dep_n (hw : InW st n) (hp : p < n) {x : Nat} (r : Rch st p x) : dep st p x ≤ n := dep_le (wt_all hw hp r)
def Path (st : List Step) : List Nat → Prop
  | [] => True
  | [_] => True
  | a :: b :: r => Edge st a b ∧ Path st (b :: r)
/-- what a way from p to x is -/
structure IsWay (st : List Step) (p x : Nat) (W : List Nat) : Prop where
  path : Path st W
  hd : W.head? = some p
  lt : W.getLast? = some x
  len : W.length = dep st p x + 1
  rch : ∀ y ∈ W, Rch st p y
/-! going back -/
def pv (par : Nat → Option Nat) (x : Nat) : PyData := match par x with
  | none => .none
  | some u => nI u
structure Par (st : List Step) (p : Nat) (L : List Nat) (par : Nat → Option Nat) : Prop where
  root : par p = none
  up : ∀ x ∈ L, x ≠ p → ∃ u, u ∈ L ∧ par x = some u ∧ Edge st u x ∧ dep st p x = dep st p u + 1
  rch : ∀ x ∈ L, Rch st p x
theorem last_ix (W : List Nat) (x : Nat) : ixD (nL (W ++ [x])) (.int (-1)) = some (nI x) := by
  show atI ((W ++ [x]).map nI) (-1) = _
  unfold atI ixN
  have h : ((W ++ [x]).map nI).length = W.length + 1 := by simp
  rw [h]
  have h2 : ¬ (0 : Int) ≤ -1 := by omega
  have h3 : (-1 + ((W.length : Int) + 1)).toNat = W.length := by omega
  have h4 : (1 : Int) ≤ (W.length : Int) + 1 := by omega
  simp [h2, h3, h4]
theorem back_ok {L : List Nat} {par : Nat → Option Nat} {x : Nat} (hw : InW st n) (hp : p < n) (h60 : n ≤ 60) (P : Par st p L par) (hx : x ∈ L) : ∃ W, c_way_back [.dict (dN (pv par) L), nI x] = some (nL W, [.dict (dN (pv par) L), nI x]) ∧ IsWay st p x W := by
  have key : ∃ d, c_way_back [.dict (dN (pv par) L), nI x] = some (d, [.dict (dN (pv par) L), nI x]) ∧ ∃ W, d = nL W ∧ IsWay st p x W := by
    refine run_wp (fs := fb_way_back) rfl rfl ?_
    generalize hA : PyData.dict (dN (pv par) L) = A
    have hix : ∀ y, y ∈ L → dixD A (nI y) = some (pv par y) := fun y hy => by
      rw [← hA]
      show (keyOf (nI y)).bind (valD (dN (pv par) L)) = _
      rw [keyN]
      simp only [Option.bind_some]
      rw [valD_dN, if_pos hy]
    show wpS fb_way_back [some A, some (nI x), none] _
    unfold fb_way_back
    apply wpS_asg
    refine wp_of (a := nL [x]) (e1 := [some A, some (nI x), none]) rfl ?_
    have hdx := dep_n hw hp (P.rch x hx)
    apply wpS_while (I := fun m e => ∃ y r, e = [some A, some (nI x), some (nL (y :: r).reverse)] ∧ y ∈ L ∧ dep st p y = m ∧ (y :: r).length + m = dep st p x + 1 ∧ Path st (y :: r) ∧ (y :: r).getLast? = some x ∧ ∀ z ∈ y :: r, Rch st p z) (m0 := dep st p x) (hN := by omega)
    · exact ⟨x, [], rfl, hx, rfl, by simp; omega, trivial, rfl, fun z hz => by rw [List.mem_singleton.mp hz]; exact P.rch x hx⟩
    · rintro m e ⟨y, r, rfl, hy, hd, hl, hpth, hlast, hR⟩
      have hrev : (y :: r).reverse = r.reverse ++ [y] := List.reverse_cons
      have hlk : ∀ {e : Env}, e = [some A, some (nI x), some (nL (y :: r).reverse)] → bind2 (varF 0) (bind2 (varF 2) (mapF (conF (.int 1)) negD) ixD) dixD e = some (pv par y, e) := fun {e} he => by
        subst he
        refine bind2_e (varF_e rfl) (bind2_e (varF_e rfl) (mapF_e conF_e (y := .int (-1)) rfl) (by rw [hrev]; exact last_ix _ _)) (hix y hy)
      refine wp_of (bind2_e (hlk rfl) conF_e (r := .bool (!isN (pv par y))) rfl) ⟨_, rfl, fun hb => ?_, fun hb => ?_⟩
      · -- the first one
        apply wpS_ret
        refine wp_of (mapF_e (varF_e rfl) (y := nL (y :: r)) ?_) ⟨_, _, rfl, y :: r, rfl, ?_⟩
        · show some (PyData.list (((y :: r).reverse.map nI).reverse)) = _
          rw [List.map_reverse, List.reverse_reverse]; rfl
        · have hyp : y = p := by
            apply Classical.byContradiction
            intro hne
            obtain ⟨u, _, h2, _⟩ := P.up y hy hne
            unfold pv at hb
            rw [h2] at hb
            cases hb
          subst hyp
          rw [dep_self] at hd
          subst hd
          exact ⟨hpth, rfl, hlast, by omega, hR⟩
      · have hyp : y ≠ p := by
          intro e
          subst e
          unfold pv at hb
          rw [P.root] at hb
          cases hb
        obtain ⟨u, h1, h2, h3, h4⟩ := P.up y hy hyp
        have hpv : pv par y = nI u := by unfold pv; rw [h2]
        have hlen : (y :: r).length ≤ 61 := by omega
        refine wpS_append (l0 := (y :: r).reverse.map nI) rfl (wp_of (hlk rfl) ⟨(y :: r).reverse.map nI, rfl, by rw [List.length_map, List.length_reverse, sizeLine_eq]; omega, ?_⟩)
        rw [hpv]
        have e0 : (y :: r).reverse.map nI ++ [nI u] = (u :: y :: r).reverse.map nI := by
          rw [List.reverse_cons (a := u), List.map_append]; rfl
        rw [e0]
        refine ⟨.nx _, rfl, .inl ⟨_, dep st p u, .inl rfl, by omega, u, y :: r, rfl, h1, rfl, ?_, ⟨h3, hpth⟩, ?_, ?_⟩⟩
        · rw [List.length_cons]; omega
        · rw [List.getLast?_cons_cons]; exact hlast
        · intro z hz
          rcases List.mem_cons.mp hz with rfl | hz
          · exact P.rch _ h1
          · exact hR z hz
  obtain ⟨d, h, W, rfl, hW⟩ := key
  exact ⟨W, h, hW⟩
end
end Ev

set_option Elab.async false
set_option linter.all false
set_option maxRecDepth 100000
set_option maxHeartbeats 4000000
namespace Ev
open PySem PySem.Spec PyProof.Rows L2

/-! ### the shortest way -/
structure Bfs (st : List Step) (p : Nat) (lot L : List Nat) (par : Nat → Option Nat) (t : Nat) : Prop where
  par : Par st p L par
  nd : L.Nodup
  hp : p ∈ L
  mono : L.Pairwise fun a b => dep st p a ≤ dep st p b
  done : ∀ x ∈ L.take t, x ∉ lot ∧ ∀ y, Edge st x y → y ∈ L
  top : ∀ h, L[t]? = some h → ∀ x ∈ L, dep st p x ≤ dep st p h + 1
  tl : t ≤ L.length
section
variable {st : List Step} {n p t h : Nat} {lot L : List Nat} {par : Nat → Option Nat} {rows : List (List Str)}
theorem mem_split {x : Nat} (hx : x ∈ L) (ht : L[t]? = some h) (mono : L.Pairwise fun a b => dep st p a ≤ dep st p b) (hd : dep st p x < dep st p h) : x ∈ L.take t := by
  obtain ⟨i, hi, rfl⟩ := List.getElem_of_mem hx
  obtain ⟨ht1, rfl⟩ := List.getElem?_eq_some_iff.mp ht
  by_cases c : i < t
  · exact List.mem_take_iff_getElem.mpr ⟨i, by omega, rfl⟩
  · by_cases e : i = t
    · subst e; omega
    · have := List.pairwise_iff_getElem.mp mono t i ht1 hi (by omega)
      omega
theorem Bfs.claim (B : Bfs st p lot L par t) (ht : L[t]? = some h) : ∀ (k v : Nat), dep st p v = k → Rch st p v → k ≤ dep st p h → v ∈ L
  | 0, v, e, r, _ => by rw [dep_zero r e]; exact B.hp
  | k + 1, v, e, r, hk => by
    obtain ⟨u, h1, h2, h3⟩ := dep_succ r e
    have hu := Bfs.claim B ht k u h2 h1 (by omega)
    exact (B.done u (mem_split hu ht B.mono (by omega))).2 v h3
theorem Bfs.before (B : Bfs st p lot L par t) (ht : L[t]? = some h) {v : Nat} (r : Rch st p v) (hd : dep st p v < dep st p h) : v ∉ lot := (B.done v (mem_split (B.claim ht _ v rfl r (by omega)) ht B.mono hd)).1
abbrev EB (web nr : PyData) (p : Nat) (lot L : List Nat) (par : Nat → Option Nat) (t : Nat) (h f : Option PyData) : Env := [some web, some (nI p), some (nL lot), some nr, some (.dict (dN (pv par) L)), some (nL L), some (.int (t : Nat)), h, f]
/-- what a way told is -/
def WayR (st : List Step) (p : Nat) (lot : List Nat) (d : PyData) : Prop := (d = .none ∧ ∀ x, Rch st p x → x ∉ lot) ∨ ∃ x W, d = nL W ∧ x ∈ lot ∧ Rch st p x ∧ IsWay st p x W ∧ ∀ v, Rch st p v → v ∈ lot → dep st p x ≤ dep st p v
theorem pv_put {y u : Nat} : (fun x => if x = y then nI u else pv par x) = pv (fun x => if x = y then some u else par x) := funext fun x => by
  by_cases e : x = y
  · simp [pv, e]
  · simp [pv, e]
theorem way_ok (g : GW n rows st) (hp : p < n) (hl : Inc lot) (hb : ∀ x ∈ lot, x < n) : ∃ d, c_way_to [encWeb rows st, nI p, nL lot] = some (d, [encWeb rows st, nI p, nL lot]) ∧ WayR st p lot d := by
  have hn60 := g.h60
  have hw := g.hw
  refine run_wp (fs := fb_way_to) rfl rfl ?_
  show wpS fb_way_to [some (encWeb rows st), some (nI p), some (nL lot), none, none, none, none, none, none] _
  unfold fb_way_to
  apply wpS_expr
  refine wp_of (mapM_e (consF_e (varF_e rfl) (consF_e (varF_e rfl) nilF_e)) (callF_e (check_wp_ok g hp))) ?_
  apply wpS_expr
  refine wp_of (mapM_e (consF_e (varF_e rfl) (consF_e (varF_e rfl) nilF_e)) (callF_e (check_lot_ok g hl hb))) ?_
  apply wpS_par3
  refine wp_of (mapM_e (consF_e (varF_e rfl) nilF_e) (callF_e g.nears)) ?_
  refine wp_of (a := .dict (dN (pv fun _ => none) [p])) (e1 := [some (encWeb rows st), some (nI p), some (nL lot), none, none, none, none, none, none]) rfl ?_
  refine wp_of (a := nL [p]) (e1 := [some (encWeb rows st), some (nI p), some (nL lot), none, none, none, none, none, none]) rfl ?_
  generalize hnr : nLs ((List.range n).map (su st)) = nr
  have hix : ∀ x, x < n → ixD nr (nI x) = some (nL (su st x)) := fun x hx => by
    rw [← hnr]
    exact nLs_ix (by rw [List.getElem?_map, List.getElem?_range hx]; rfl)
  apply wpS_asg
  refine wp_of conF_e ?_
  show wpS _ (EB (encWeb rows st) nr p lot [p] (fun _ => none) 0 none none) _
  apply wpS_while (I := fun m e => ∃ L par t h f, e = EB (encWeb rows st) nr p lot L par t h f ∧ Bfs st p lot L par t ∧ n - t = m) (m0 := n) (hN := by omega)
  · refine ⟨[p], _, 0, none, none, rfl, ⟨⟨rfl, fun x hx h => (h (List.mem_singleton.mp hx)).elim, fun x hx => by rw [List.mem_singleton.mp hx]; exact .refl⟩, by simp, by simp, by simp, fun x hx => by simp at hx, fun h hh x hx => ?_, by simp⟩, rfl⟩
    rw [List.mem_singleton.mp hx, dep_self]; omega
  · rintro m e ⟨L, par, t, h0, f0, rfl, B, hm⟩
    have hLn : L.length ≤ n := nodup_len B.nd fun x hx => (B.par.rch x hx).lt hw hp
    refine wp_of (bind2_e (varF_e rfl) (mapM_e (consF_e (varF_e rfl) nilF_e) (lenD_l' _)) (ltD_i _ _)) ⟨_, rfl, fun hc => ?_, fun hc => ?_⟩
    · -- all are gone through
      have hc : t = L.length := by
        have := of_decide_eq_false hc
        rw [List.length_map] at this
        have := B.tl
        omega
      apply wpS_ret
      refine wp_of conF_e ⟨_, _, rfl, .inl ⟨rfl, fun x r => ?_⟩⟩
      have htk : L.take t = L := by rw [hc]; exact List.take_length
      have hx : x ∈ L := by
        induction r with
        | refl => exact B.hp
        | step _ e ih => exact (B.done _ (by rw [htk]; exact ih)).2 _ e
      exact (B.done x (by rw [htk]; exact hx)).1
    · have hc : t < L.length := by
        have := of_decide_eq_true hc
        rw [List.length_map] at this
        omega
      have ht : L[t]? = some L[t] := List.getElem?_eq_getElem hc
      generalize L[t] = here at ht
      have hhL : here ∈ L := List.mem_of_getElem? ht
      have hhR := B.par.rch here hhL
      have hhn := hhR.lt hw hp
      apply wpS_par
      refine wp_of (consF_e (bind2_e (varF_e rfl) (varF_e rfl) (nL_ix ht)) (consF_e (bind2_e (varF_e rfl) conF_e (addD_ii _ _)) nilF_e)) ⟨_, _, rfl, ?_⟩
      show wpS _ (EB (encWeb rows st) nr p lot L par (t + 1) (some (nI here)) f0) _
      apply wpS_if
      refine wp_of (bind2_e (varF_e rfl) (varF_e rfl) (n_in here lot)) ⟨_, rfl, fun hi => ?_, fun hi => ?_⟩
      · have hi := of_decide_eq_true hi
        obtain ⟨W, hW1, hW2⟩ := back_ok hw hp hn60 B.par hhL
        apply wpS_assoc
        apply wpS_ret
        refine wp_of (mapM_e (consF_e (varF_e rfl) (consF_e (varF_e rfl) nilF_e)) (callF_e hW1)) (.inr (.inl ⟨_, _, rfl, _, _, rfl, .inr ⟨here, W, rfl, hi, hhR, hW2, fun v r hv => ?_⟩⟩))
        apply Nat.le_of_not_lt
        intro hlt
        exact B.before ht r hlt hv
      · have hi : here ∉ lot := by simpa using hi
        apply wpS_skipq
        apply wpS_for (I := fun k e => ∃ L' par' f, e = EB (encWeb rows st) nr p lot L' par' (t + 1) (some (nI here)) f ∧ Par st p L' par' ∧ L'.Nodup ∧ (L'.Pairwise fun a b => dep st p a ≤ dep st p b) ∧ (∃ ext, L' = L ++ ext) ∧ (∀ x ∈ L', dep st p x ≤ dep st p here + 1) ∧ ∀ y ∈ (su st here).take k, y ∈ L')
        refine wp_of (a := (su st here).map nI) (e1 := EB (encWeb rows st) nr p lot L par (t + 1) (some (nI here)) f0) (seqAF_l (bind2_e (varF_e rfl) (varF_e rfl) (hix here hhn))) ⟨⟨L, par, f0, rfl, B.par, B.nd, B.mono, ⟨[], by simp⟩, B.top here ht, fun y h => by simp at h⟩, fun k d e hd hI => ?_, fun e hI => ?_⟩
        · obtain ⟨L', par', f', rfl, P', nd', mo', ⟨ext, hext⟩, tp', hk'⟩ := hI
          rw [List.getElem?_map] at hd
          cases hs : (su st here)[k]? with
          | none => rw [hs] at hd; cases hd
          | some y =>
          rw [hs] at hd
          cases hd
          have hxy : Edge st here y := su_mem.mp (List.mem_of_getElem? hs)
          have hyR : Rch st p y := .step hhR hxy
          have hyn := hyR.lt hw hp
          have hL'l : L'.length ≤ n := nodup_len nd' fun x hx => (P'.rch x hx).lt hw hp
          have htk : (su st here).take (k + 1) = (su st here).take k ++ [y] := by rw [List.take_add_one, hs]; rfl
          refine ⟨EB (encWeb rows st) nr p lot L' par' (t + 1) (some (nI here)) (some (nI y)), rfl, ?_⟩
          apply wpS_if
          refine wp_of (bind2_e (varF_e rfl) (varF_e rfl) (n_in_dict (pv par') y L')) ⟨_, rfl, fun hc => ?_, fun hc => ?_⟩
          · have hc := of_decide_eq_true hc
            have hyL : y ∉ L := fun h => hc (by rw [hext]; exact List.mem_append.mpr (.inl h))
            have hdy : dep st p y = dep st p here + 1 := by
              have h1 := dep_edge hhR hxy
              have h2 : ¬ dep st p y ≤ dep st p here := fun h2 => hyL (B.claim ht _ y rfl hyR h2)
              omega
            have hhL' : here ∈ L' := by rw [hext]; exact List.mem_append.mpr (.inl hhL)
            apply wpS_assoc
            refine wpS_dput (kvs0 := dN (pv par') L') (wp_of (varF_e rfl) ⟨rfl, wp_of (varF_e rfl) ⟨dN (pv par') L', _, rfl, keyN y, by unfold dN; rw [List.length_map, sizeLine_eq]; omega, ?_⟩⟩)
            rw [putD_dN hc, pv_put]
            generalize hpp : (fun x => if x = y then some here else par' x) = par2
            show wpS _ [some (encWeb rows st), some (nI p), some (nL lot), some nr, some (.dict (dN (pv par2) (L' ++ [y]))), some (nL L'), some (.int ((t + 1 : Nat) : Int)), some (nI here), some (nI y)] _
            apply wpS_assoc
            refine wpS_append (l0 := L'.map nI) rfl (wp_of (varF_e rfl) ⟨L'.map nI, rfl, by rw [List.length_map, sizeLine_eq]; omega, ?_⟩)
            have e0 : L'.map nI ++ [nI y] = (L' ++ [y]).map nI := by rw [List.map_append]; rfl
            rw [e0]
            have hpy : y ≠ p := fun e => hyL (by rw [e]; exact B.hp)
            refine ⟨.nx _, rfl, .inl ⟨_, .inl rfl, L' ++ [y], par2, some (nI y), rfl, ⟨?_, ?_, ?_⟩, ?_, ?_, ⟨ext ++ [y], by rw [hext, List.append_assoc]⟩, ?_, ?_⟩⟩
            · rw [← hpp]
              show (if p = y then some here else par' p) = none
              rw [if_neg (Ne.symm hpy)]; exact P'.root
            · intro x hx hxp
              rw [← hpp]
              by_cases e : x = y
              · subst e
                exact ⟨here, List.mem_append.mpr (.inl hhL'), by simp, hxy, hdy⟩
              · have hx : x ∈ L' := (List.mem_append.mp hx).elim id fun h => (e (List.mem_singleton.mp h)).elim
                obtain ⟨u, h1, h2, h3, h4⟩ := P'.up x hx hxp
                exact ⟨u, List.mem_append.mpr (.inl h1), by simp only [if_neg e]; exact h2, h3, h4⟩
            · intro x hx
              rcases List.mem_append.mp hx with hx | hx
              · exact P'.rch x hx
              · rw [List.mem_singleton.mp hx]; exact hyR
            · rw [List.nodup_append]
              exact ⟨nd', by simp, fun a ha b hb e => hc (by rw [← List.mem_singleton.mp hb, ← e]; exact ha)⟩
            · rw [List.pairwise_append]
              refine ⟨mo', by simp, fun a ha b hb => ?_⟩
              rw [List.mem_singleton.mp hb, hdy]
              exact tp' a ha
            · intro x hx
              rcases List.mem_append.mp hx with hx | hx
              · exact tp' x hx
              · rw [List.mem_singleton.mp hx, hdy]; omega
            · intro a ha
              rw [htk] at ha
              rcases List.mem_append.mp ha with ha | ha
              · exact List.mem_append.mpr (.inl (hk' a ha))
              · exact List.mem_append.mpr (.inr ha)
          · have hc : y ∈ L' := by simpa using hc
            refine ⟨.nx _, rfl, .inl ⟨_, .inl rfl, L', par', some (nI y), rfl, P', nd', mo', ⟨ext, hext⟩, tp', fun a ha => ?_⟩⟩
            rw [htk] at ha
            rcases List.mem_append.mp ha with ha | ha
            · exact hk' a ha
            · rw [List.mem_singleton.mp ha]; exact hc
        · obtain ⟨L', par', f', rfl, P', nd', mo', ⟨ext, hext⟩, tp', hk'⟩ := hI
          rw [List.length_map, List.take_length] at hk'
          have ht' : L'[t]? = some here := by rw [hext, List.getElem?_append_left hc]; exact ht
          have htl : t < L'.length := (List.getElem?_eq_some_iff.mp ht').1
          have htk : L'.take (t + 1) = L.take t ++ [here] := by
            rw [List.take_add_one, ht', hext, List.take_append_of_le_length (by omega)]; rfl
          have hsub : ∀ x, x ∈ L → x ∈ L' := fun x hx => by rw [hext]; exact List.mem_append.mpr (.inl hx)
          refine ⟨.nx _, rfl, .inl ⟨_, n - (t + 1), .inl rfl, by omega, L', par', t + 1, some (nI here), f', rfl, ⟨P', nd', hsub p B.hp, mo', fun x hx => ?_, fun h1 hh x hx => ?_, by omega⟩, rfl⟩⟩
          · rw [htk] at hx
            rcases List.mem_append.mp hx with hx | hx
            · exact ⟨(B.done x hx).1, fun y hy => hsub y ((B.done x hx).2 y hy)⟩
            · rw [List.mem_singleton.mp hx]
              exact ⟨hi, fun y hy => hk' y (su_mem.mpr hy)⟩
          · have h2 := tp' x hx
            obtain ⟨q1, q2⟩ := List.getElem?_eq_some_iff.mp hh
            obtain ⟨q3, q4⟩ := List.getElem?_eq_some_iff.mp ht'
            have := List.pairwise_iff_getElem.mp mo' t (t + 1) q3 q1 (by omega)
            rw [q2, q4] at this
            omega
end
end Ev

set_option Elab.async false
set_option linter.all false
set_option maxRecDepth 100000
set_option maxHeartbeats 4000000
namespace Ev
open PySem PySem.Spec PyProof.Rows L2

/-! ### the law's own reckoning -/
structure GW9 (n : Nat) (rows : List (List Str)) (st : List Step) : Prop where
  g : GW n rows st
  h9 : n ≤ 9
  s60 : st.length ≤ 60
def fr (st : List Step) (u : Nat) : List Nat := (st.filter fun s => decide (s.1 = u)).map fun s => s.2.2
section
variable {st : List Step} {n p t u : Nat} {lot L : List Nat} {rows : List (List Str)}
theorem fr_mem {v : Nat} : v ∈ fr st u ↔ Edge st u v := by
  unfold fr
  rw [List.mem_map]
  constructor
  · rintro ⟨s, hs, rfl⟩
    rw [List.mem_filter] at hs
    have := of_decide_eq_true hs.2
    refine ⟨s.2.1, ?_⟩
    rw [← this]
    exact hs.1
  · rintro ⟨b, hb⟩
    exact ⟨(u, b, v), List.mem_filter.mpr ⟨hb, decide_eq_true rfl⟩, rfl⟩
theorem fr_len : (fr st u).length ≤ st.length := by
  unfold fr
  rw [List.length_map]
  exact List.length_filter_le _ _
theorem far_ok (g : GW9 n rows st) : c__law_far [encWeb rows st, nI u, .str ""] = some (nL (fr st u), [encWeb rows st, nI u, .str ""]) := by
  have hs := g.s60
  have hc := compF_pure (enc := encStep) (l := st) (p := fun s => decide (s.1 = u)) (h := fun s => nI s.2.2) (src := seqAF (bind2 (varF 0) (conF (.int 1)) ixD)) (asg := nmG 3) (cond := asB (andF (bind2 (bind2 (varF 3) (conF (.int 0)) ixD) (varF 1) eqD) (bind2 (varF 2) (mapM (consF (conF (.str "")) (consF (bind2 (varF 3) (conF (.int 1)) ixD) nilF)) mkT) (inD false)))) (elt := bind2 (varF 3) (conF (.int 2)) ixD) (vs := [3]) (env := [some (encWeb rows st), some (nI u), some (.str ""), none]) (e1 := [some (encWeb rows st), some (nI u), some (.str ""), none])
    (seqAF_l (bind2_e (varF_e rfl) conF_e (web1 _ _))) (by rw [sizeLine_eq]; omega) fun s hs => by
      have hb : (decide ((s.1 : Int) = (u : Int)) && decide (("" : Str) ∈ [("" : Str), s.2.1])) = decide (s.1 = u) := by
        rw [show decide (("" : Str) ∈ [("" : Str), s.2.1]) = true from decide_eq_true (by simp), Bool.and_true]
        exact decide_eq_decide.mpr ⟨fun h => by omega, fun h => by omega⟩
      refine ⟨[some (encWeb rows st), some (nI u), some (.str ""), some (encStep s)], [some (encWeb rows st), some (nI u), some (.str ""), some (encStep s)], rfl, asB_e ?_, fun _ => rfl, fun _ => ⟨_, bind2_e (varF_e rfl) conF_e (step2 s), rfl⟩⟩
      rw [← hb]
      exact andF_bb (bind2_e (bind2_e (varF_e rfl) conF_e (step0 s)) (varF_e rfl) (eqD_i _ _)) (bind2_e (varF_e rfl) (mapM_e (consF_e conF_e (consF_e (bind2_e (varF_e rfl) conF_e (step1 s)) nilF_e)) (mk2 _ _)) (encS.inT "" ["", s.2.1]))
  refine run_rt (fs := fb__law_far) (e1 := [some (encWeb rows st), some (nI u), some (.str ""), none]) rfl rfl ?_
  show fb__law_far [some (encWeb rows st), some (nI u), some (.str ""), none] = _
  unfold fb__law_far
  refine seqS_r (retS_e (hc.trans ?_))
  unfold nL fr
  rw [List.map_map]; rfl
theorem last_ixG (ds : List PyData) (d : PyData) : ixD (.list (ds ++ [d])) (.int (-1)) = some d := by
  show atI (ds ++ [d]) (-1) = _
  unfold atI ixN
  have h : (ds ++ [d]).length = ds.length + 1 := by simp
  rw [h]
  have h2 : ¬ (0 : Int) ≤ -1 := by omega
  have h3 : (-1 + ((ds.length : Int) + 1)).toNat = ds.length := by omega
  have h4 : (1 : Int) ≤ (ds.length : Int) + 1 := by omega
  simp [h2, h3, h4]
theorem lists_nL : ∀ T : List (List Nat), listsOf (T.map nL) = some (T.map fun xs => xs.map nI)
  | [] => rfl
  | xs :: T => by
    rw [List.map_cons, List.map_cons]
    show (listsOf (T.map nL)).map ((xs.map nI) :: ·) = _
    rw [lists_nL T]; rfl
theorem sum_nL {T : List (List Nat)} (h : T.flatten.length ≤ 100000) : sumLD [.list (T.map nL), .list []] = some (nL T.flatten) := by
  have e : (T.map fun xs => xs.map nI).flatten = T.flatten.map nI := by rw [List.map_flatten]
  show ((listsOf (T.map nL)).bind fun ls => if 0 + ls.flatten.length ≤ sizeLine then some (PyData.list ([] ++ ls.flatten)) else none) = _
  rw [lists_nL]
  simp only [Option.bind_some]
  rw [e, if_pos (by rw [List.length_map, sizeLine_eq]; omega)]
  rfl
theorem lv_zero (hw : InW st n) (hp : p < n) : lv st n p 0 = [p] := inc_ext lv_inc (by simp) fun j => by
  rw [lv_mem hw hp, List.mem_singleton]
  exact Iff.rfl
theorem lv_lt {k : Nat} : ∀ x ∈ lv st n p k, x < n := fun x hx => List.mem_range.mp (List.mem_filter.mp hx).1
theorem lv_len {k : Nat} : (lv st n p k).length ≤ n := nodup_len (lv_inc.imp fun h => Nat.ne_of_lt h) lv_lt
theorem flat_len {T : List (List Nat)} {m : Nat} (h : ∀ xs ∈ T, xs.length ≤ m) : T.flatten.length ≤ T.length * m := by
  induction T with
  | nil => simp
  | cons xs T ih =>
    have h1 := h xs (by simp)
    have h2 := ih fun ys hy => h ys (by simp [hy])
    rw [List.flatten_cons, List.length_append, List.length_cons, Nat.succ_mul]
    omega
noncomputable def lots (st : List Step) (n p : Nat) (k : Nat) : List (List Nat) := (List.range (k + 1)).map (lv st n p)
theorem lots_last {k : Nat} : lots st n p k = (List.range k).map (lv st n p) ++ [lv st n p k] := by
  unfold lots
  rw [List.range_succ, List.map_append]; rfl
theorem lots_ix {k : Nat} : ixD (nLs (lots st n p k)) (.int (-1)) = some (nL (lv st n p k)) := by
  unfold nLs
  rw [lots_last, List.map_append]
  exact last_ixG _ _
theorem behind_ok (g : GW9 n rows st) (hp : p < n) : c__law_behind [encWeb rows st, nI p] = some (nLs (lots st n p n), [encWeb rows st, nI p]) := by
  have h9 := g.h9
  have hs := g.s60
  have hw := g.g.hw
  have key : ∃ d, c__law_behind [encWeb rows st, nI p] = some (d, [encWeb rows st, nI p]) ∧ d = nLs (lots st n p n) := by
    refine run_wp (fs := fb__law_behind) rfl rfl ?_
    show wpS fb__law_behind [some (encWeb rows st), some (nI p), none, none, none] _
    unfold fb__law_behind
    apply wpS_asg
    refine wp_of (a := nLs [[p]]) (e1 := [some (encWeb rows st), some (nI p), none, none, none]) rfl ?_
    apply wpS_for (I := fun k e => ∃ tr, e = [some (encWeb rows st), some (nI p), some (nLs (lots st n p k)), tr, none])
    refine wp_of (mapM_e (consF_e (len_rows g.g.hn (varF_e rfl)) nilF_e) (rng1N (by omega))) ⟨⟨none, ?_⟩, fun k d e hd hI => ?_, fun e hI => ?_⟩
    · have : lots st n p 0 = [[p]] := by unfold lots; rw [show List.range (0 + 1) = [0] from rfl, List.map_singleton, lv_zero hw hp]
      rw [this]; rfl
    · obtain ⟨tr, rfl⟩ := hI
      have hk : k < n := by
        have := (List.getElem?_eq_some_iff.mp hd).1
        simpa using this
      refine ⟨[some (encWeb rows st), some (nI p), some (nLs (lots st n p k)), some d, none], rfl, ?_⟩
      have hlast : ∀ {e : Env}, e = [some (encWeb rows st), some (nI p), some (nLs (lots st n p k)), some d, none] → bind2 (varF 2) (mapF (conF (.int 1)) negD) ixD e = some (nL (lv st n p k), e) := fun {e} he => by
        subst he
        exact bind2_e (varF_e rfl) (mapF_e conF_e (y := .int (-1)) rfl) lots_ix
      have hll := lv_len (st := st) (n := n) (p := p) (k := k)
      have hc := compF_pure (enc := nI) (l := lv st n p k) (p := fun _ => true) (h := fun u => nL (fr st u)) (src := seqAF (bind2 (varF 2) (mapF (conF (.int 1)) negD) ixD)) (asg := nmG 4) (cond := yesF) (elt := mapM (consF (varF 0) (consF (varF 4) (consF (conF (.str "")) nilF))) (callF c__law_far)) (vs := [4]) (env := [some (encWeb rows st), some (nI p), some (nLs (lots st n p k)), some d, none]) (e1 := [some (encWeb rows st), some (nI p), some (nLs (lots st n p k)), some d, none])
        (seqAF_l (hlast rfl)) (by rw [sizeLine_eq]; omega) fun u hu => ⟨_, _, rfl, yesF_e, (fun z => nomatch z), fun _ => ⟨_, mapM_e (consF_e (varF_e rfl) (consF_e (varF_e rfl) (consF_e conF_e nilF_e))) (callF_e (far_ok g)), rfl⟩⟩
      rw [List.filter_eq_self.mpr fun _ _ => rfl] at hc
      have hfl : (((lv st n p k).map (fr st)).flatten).length ≤ 9 * 60 := by
        refine Nat.le_trans (flat_len (m := 60) fun xs hx => ?_) ?_
        · obtain ⟨u, _, rfl⟩ := List.mem_map.mp hx
          exact Nat.le_trans fr_len hs
        · rw [List.length_map]
          exact Nat.mul_le_mul_right 60 (by omega)
      have hc2 : (.list ((lv st n p k).map fun u => nL (fr st u)) : PyData) = .list (((lv st n p k).map (fr st)).map nL) := by rw [List.map_map]; rfl
      rw [hc2] at hc
      refine wpS_append (l0 := (lots st n p k).map nL) rfl (wp_of (mapM_e (consF_e (bind2_e (hlast rfl) (mapM_e (consF_e hc (consF_e (mapM_e nilF_e (mkL_e (l := []) (by simp))) nilF_e)) (sum_nL (by omega))) (y := nL ((lv st n p k).map (fr st)).flatten) (r := nL (lv st n p k ++ ((lv st n p k).map (fr st)).flatten)) ?_) nilF_e) (nL_setSort (ys := lv st n p (k + 1)) ?_ lv_inc fun a => ?_)) ⟨(lots st n p k).map nL, rfl, ?_, ?_⟩)
      · unfold nL
        rw [addD_ll (by rw [List.length_map, List.length_map, sizeLine_eq]; omega), List.map_append]
      · rw [List.length_append]; omega
      · rw [List.mem_append, lv_mem hw hp, lv_mem hw hp, List.mem_flatten]
        constructor
        · rintro (h | ⟨xs, hx, ha⟩)
          · exact .inl h
          · obtain ⟨u, hu, rfl⟩ := List.mem_map.mp hx
            exact .inr ⟨u, (lv_mem hw hp).mp hu, fr_mem.mp ha⟩
        · rintro (h | ⟨u, hu, e⟩)
          · exact .inl h
          · exact .inr ⟨fr st u, List.mem_map.mpr ⟨u, (lv_mem hw hp).mpr hu, rfl⟩, fr_mem.mpr e⟩
      · rw [List.length_map, sizeLine_eq]
        unfold lots
        rw [List.length_map, List.length_range]
        omega
      · have e0 : (lots st n p k).map nL ++ [nL (lv st n p (k + 1))] = (lots st n p (k + 1)).map nL := by
          rw [lots_last (k := k + 1), List.map_append]; rfl
        rw [e0]
        exact ⟨.nx _, rfl, .inl ⟨_, .inl rfl, some d, rfl⟩⟩
    · obtain ⟨tr, rfl⟩ := hI
      rw [List.length_map, List.length_range]
      apply wpS_ret
      exact wp_of (varF_e rfl) ⟨_, _, rfl, rfl⟩
  obtain ⟨d, h, rfl⟩ := key
  exact h
end
end Ev

set_option Elab.async false
set_option linter.all false
set_option maxRecDepth 100000
set_option maxHeartbeats 4000000
namespace Ev
open PySem PySem.Spec PyProof.Rows L2

/-! ### the law's judge of ways; webs that are drawn -/
section
variable {st : List Step} {n p x : Nat} {lot W : List Nat} {rows : List (List Str)}
theorem path_ix : ∀ {W : List Nat} {i a b : Nat}, Path st W → W[i]? = some a → W[i + 1]? = some b → Edge st a b
  | [], i, a, b, _, h, _ => by simp at h
  | [_], i, a, b, _, _, h => by simp at h
  | x :: y :: r, 0, a, b, hp, h1, h2 => by
    simp at h1 h2
    subst h1; subst h2
    exact hp.1
  | x :: y :: r, i + 1, a, b, hp, h1, h2 => path_ix (W := y :: r) (i := i) hp.2 (by simpa using h1) (by simpa using h2)
theorem rng2N {m : Nat} (h : m ≤ 10000) : rng2D [.int 1, .int (m : Nat)] = some ((List.range (m - 1)).map fun i : Nat => PyData.int (1 + (i : Nat))) := by
  show (if (rngOk 1 && rngOk (m : Nat)) = true then some (rngD 1 ((m : Nat) - 1 : Int).toNat) else none) = _
  rw [if_pos]
  · unfold rngD
    have : (((m : Nat) : Int) - 1).toNat = m - 1 := by omega
    rw [this]
  · unfold rngOk
    simp only [Bool.and_eq_true, decide_eq_true_eq]
    omega
theorem nL_ex {p : Bool} {m : Nat} (h : W.length ≤ 10000) : Ex p (m + 1) (nL W) := .lst (fun d hd => by
  obtain ⟨i, _, rfl⟩ := List.mem_map.mp hd
  exact .int _) (by rw [List.length_map]; exact h)
theorem is_way_ok (g : GW9 n rows st) (hW : IsWay st p x W) (hx : x ∈ lot) (hz : W.length ≤ 100) : c__law_is_way [encWeb rows st, nL W, nI p, nL lot] = some (.bool true, [encWeb rows st, nL W, nI p, nL lot]) := by
  refine run_rt (fs := fb__law_is_way) (e1 := [some (encWeb rows st), some (nL W), some (nI p), some (nL lot), none, none]) rfl rfl ?_
  show fb__law_is_way [some (encWeb rows st), some (nL W), some (nI p), some (nL lot), none, none] = _
  unfold fb__law_is_way
  have hne : W ≠ [] := fun e => by have := hW.hd; rw [e] at this; cases this
  have h1 : eqD (nL W) (.list []) = some (.bool false) := (nL_eq W []).trans (by rw [decide_eq_false hne])
  have h2 : ixD (nL W) (.int 0) = some (nI p) := nL_ix (i := 0) (by rw [← List.head?_eq_getElem?]; exact hW.hd)
  have h3 : ixD (nL W) (.int (-1)) = some (nI x) := by
    have e := List.dropLast_concat_getLast hne
    have hl := hW.lt
    rw [List.getLast?_eq_some_getLast hne] at hl
    have hl := Option.some.inj hl
    rw [hl] at e
    rw [← e]
    exact last_ix _ _
  have hc1 := compF_pure (enc := nI) (l := W) (p := fun _ => true) (h := nI) (src := seqAF (varF 1)) (asg := nmG 4) (cond := yesF) (elt := mapM (consF (varF 4) nilF) intCD) (vs := [4]) (env := [some (encWeb rows st), some (nL W), some (nI p), some (nL lot), none, none]) (e1 := [some (encWeb rows st), some (nL W), some (nI p), some (nL lot), none, none])
    (seqAF_l (varF_e rfl)) (by rw [sizeLine_eq]; omega) fun u hu => ⟨_, _, rfl, yesF_e, (fun z => nomatch z), fun _ => ⟨_, mapM_e (consF_e (varF_e rfl) nilF_e) rfl, rfl⟩⟩
  rw [List.filter_eq_self.mpr fun _ _ => rfl] at hc1
  have hc2 := compF_pure (enc := fun i : Nat => PyData.int (1 + (i : Nat))) (l := List.range (W.length - 1)) (p := fun _ => false) (h := fun i : Nat => PyData.int (1 + (i : Nat))) (src := mapM (consF (conF (.int 1)) (consF (mapM (consF (varF 1) nilF) lenD) nilF)) rng2D) (asg := nmG 5) (cond := asB (bind2 (bind2 (varF 1) (varF 5) ixD) (mapM (consF (varF 0) (consF (bind2 (varF 1) (bind2 (varF 5) (conF (.int 1)) subD) ixD) (consF (conF (.str "")) nilF))) (callF c__law_far)) (inD true))) (elt := varF 5) (vs := [5]) (env := [some (encWeb rows st), some (nL W), some (nI p), some (nL lot), none, none]) (e1 := [some (encWeb rows st), some (nL W), some (nI p), some (nL lot), none, none])
    (mapM_e (consF_e conF_e (consF_e (mapM_e (consF_e (varF_e rfl) nilF_e) (by rw [nL, lenD_l', List.length_map])) nilF_e)) (rng2N (by omega))) (by rw [List.length_range, sizeLine_eq]; omega) fun i hi => by
      have hi := List.mem_range.mp hi
      have g1 : W[i]? = some W[i] := List.getElem?_eq_getElem (by omega)
      have g2 : W[i + 1]? = some W[i + 1] := List.getElem?_eq_getElem (by omega)
      have hE := path_ix hW.path g1 g2
      generalize W[i] = a at g1 hE
      generalize W[i + 1] = b at g2 hE
      refine ⟨[some (encWeb rows st), some (nL W), some (nI p), some (nL lot), none, some (.int (1 + (i : Nat)))], [some (encWeb rows st), some (nL W), some (nI p), some (nL lot), none, some (.int (1 + (i : Nat)))], rfl, asB_e (bind2_e (x := nI b) (y := nL (fr st a)) (bind2_e (varF_e rfl) (varF_e rfl) ?_) (mapM_e (consF_e (varF_e rfl) (consF_e (x := nI a) (bind2_e (varF_e rfl) (bind2_e (varF_e rfl) conF_e (subD_ii _ _)) ?_) (consF_e conF_e nilF_e))) (callF_e (far_ok g))) ?_), fun _ => rfl, fun z => nomatch z⟩
      · rw [show (1 + (i : Int)) = ((i + 1 : Nat) : Int) by omega]
        exact nL_ix g2
      · rw [show (1 + (i : Int) - 1) = (i : Nat) by omega]
        exact nL_ix g1
      · rw [n_notIn, decide_eq_false (fun h => h (fr_mem.mpr hE))]
  rw [List.filter_eq_nil_iff.mpr (fun _ _ => by simp)] at hc2
  exact seqS_n (ifS_f (orF_f (notF_e (b := true) (mapF_e (varF_e rfl) (isi_l _))) (orF_f (bind2_e (varF_e rfl) (mapM_e nilF_e (mkL_e (by simp))) h1) (orF_f (bind2_e (bind2_e (varF_e rfl) conF_e h2) (varF_e rfl) ((neD_i _ _).trans (by simp))) (orF_f (bind2_e (bind2_e (varF_e rfl) (mapF_e conF_e (y := .int (-1)) rfl) h3) (varF_e rfl) ((n_notIn _ _).trans (by rw [decide_eq_false (fun h => h hx)]))) (notF_e (b := true) (mapM_e (consF_e (varF_e rfl) (consF_e hc1 nilF_e)) (callF_e (exact_refl (nL_ex (p := false) (m := 0) (W := W) (by omega)) 12 (by decide))))))))) skipS_e)
    (seqS_r (retS_e (bind2_e hc2 (mapM_e nilF_e (mkL_e (by simp))) (nL_eq [] []))))
end
/-! drawn webs -/
section
variable {rows : List (List Str)} {st : List Step}
theorem rises_map {l : List Step} (h : l.Pairwise fun a b => PySem.W.dataLt (encStep a) (encStep b) = true) : risesB (l.map encStep) = true := by
  unfold risesB
  rw [List.all_eq_true]
  intro i hi
  rw [List.mem_range, List.length_map] at hi
  unfold adjB
  have h1 : (l.map encStep)[i]? = some (encStep l[i]) := by rw [List.getElem?_map, List.getElem?_eq_getElem (by omega)]; rfl
  have h2 : (l.map encStep)[i + 1]? = some (encStep l[i + 1]) := by rw [List.getElem?_map, List.getElem?_eq_getElem (by omega)]; rfl
  rw [List.getD_eq_getElem?_getD, List.getD_eq_getElem?_getD, h1, h2]
  exact List.pairwise_iff_getElem.mp h i (i + 1) (by omega) (by omega) (by omega)
abbrev PL : List Str := ["p"]
theorem row_p {r : List Str} (h : RowOk PL r) : r = [] ∨ r = PL := by
  obtain ⟨sel, hs, rfl⟩ := h
  have hp := srt_perm PyData.str sel
  cases hs with
  | cons _ h =>
    cases h
    exact .inl (List.perm_nil.mp hp)
  | cons_cons _ h =>
    cases h
    exact .inr (List.perm_singleton.mp hp)
abbrev DL4 : List Str := ["go", "a"]
theorem gw_of (h1 : 1 ≤ rows.length) (h9 : rows.length ≤ 9) (hr : ∀ r ∈ rows, RowOk PL r) (hs : ∀ s ∈ st, StepOk DL4 rows.length s) (hp : st.Pairwise fun a b => PySem.W.dataLt (encStep a) (encStep b) = true) (hl : st.length ≤ 60) : GW9 rows.length rows st := by
  refine ⟨⟨rfl, h1, by omega, fun s h => ⟨(hs s h).1, (hs s h).2.2⟩, by omega, ?_, fun rows' steps' e => ?_⟩, h9, hl⟩
  · show webB (.tuple [.list (rows.map encRow), .list (st.map encStep)]) = true
    rw [webB_ll, List.length_map, List.length_map, rises_map hp]
    have e1 : ((rows.map encRow).all rowB) = true := by
      rw [List.all_eq_true]
      intro d hd
      obtain ⟨r, hr', rfl⟩ := List.mem_map.mp hd
      rcases row_p (hr r hr') with rfl | rfl
      · decide +kernel
      · decide +kernel
    have e2 : ((st.map encStep).all (stepB (rows.length : Nat))) = true := by
      rw [List.all_eq_true]
      intro d hd
      obtain ⟨s, hs', rfl⟩ := List.mem_map.mp hd
      obtain ⟨q1, q2, q3⟩ := hs s hs'
      have hwd : wordD (.str s.2.1) = true := by
        have : ∀ w ∈ DL4, wordD (.str w) = true := by decide +kernel
        exact this _ q2
      show (belowB (nI s.1) (rows.length : Nat) && (wordD (.str s.2.1) && belowB (nI s.2.2) (rows.length : Nat))) = true
      rw [below_nI q1, below_nI q3, hwd]; rfl
    rw [e1, e2]
    simp
    omega
  · injection e with e
    injection e with e1 e2
    injection e1 with e1
    injection e2 with e2 _
    injection e2 with e2
    subst e1; subst e2
    refine ⟨fun r h => ?_, fun s h => ?_, by rw [List.length_map]; omega, by rw [List.length_map]; omega⟩
    · obtain ⟨r, hr', rfl⟩ := List.mem_map.mp h
      rcases row_p (hr r hr') with rfl | rfl
      · exact .lst (fun d h => nomatch h) (by simp)
      · exact .lst (fun d h => by rw [List.mem_singleton.mp h]; exact .str (by decide +kernel)) (by simp)
    · obtain ⟨s, hs', rfl⟩ := List.mem_map.mp h
      refine .tup (fun d h => ?_) (by simp)
      have hw : ∀ w ∈ DL4, w.length ≤ 1000 := by decide +kernel
      rcases List.mem_cons.mp h with rfl | h
      · exact .int _
      · rcases List.mem_cons.mp h with rfl | h
        · exact .str (hw _ (hs s hs').2.1)
        · rw [List.mem_singleton.mp h]; exact .int _
/-- a block that draws whether it takes its item -/
theorem goC_rand {β : Type} {asg : PyData → Env → Option Env} {cond : M Bool} {elt : M PyData} {vs : List Nat} {enc h : β → PyData} (E : List PyData → Env) (E1 : β → List PyData → Env) (Q : β → Prop)
    (hst : ∀ a l t, Q a → Gen t l → t < 2 ^ 30 → asg (enc a) (E l) = some (E1 a l) ∧ ∃ b l', cond (E1 a l) = some (b, E1 a l') ∧ Gen (t + 1) l') (hel : ∀ a l, Q a → elt (E1 a l) = some (h a, E1 a l)) (hwp : ∀ a l, wipeE (E1 a l) vs = E l) :
    ∀ (as : List β) (t : Nat) (l : List PyData), (∀ a ∈ as, Q a) → Gen t l → t + as.length < 2 ^ 30 → ∃ (sel : List β) (l' : List PyData), sel.Sublist as ∧ goC asg cond elt vs (as.map enc) (E l) = some (sel.map h, E l') ∧ Gen (t + as.length) l'
  | [], t, l, _, G, _ => ⟨[], l, .slnil, rfl, G⟩
  | a :: as, t, l, hQ, G, ht => by
    rw [List.length_cons] at ht
    have qa := hQ a (by simp)
    obtain ⟨h1, b, l1, h2, G1⟩ := hst a l t qa G (by omega)
    obtain ⟨sel, l', s1, s2, G2⟩ := goC_rand E E1 Q hst hel hwp as (t + 1) l1 (fun x hx => hQ x (by simp [hx])) G1 (by omega)
    have G2 : Gen (t + (a :: as).length) l' := by
      rw [List.length_cons, show t + (as.length + 1) = t + 1 + as.length by omega]; exact G2
    cases b with
    | false => exact ⟨sel, l', .cons _ s1, goC_f h1 h2 (by rw [hwp]; exact s2), G2⟩
    | true => exact ⟨a :: sel, l', .cons₂ _ s1, goC_t h1 h2 (hel a l1 qa) (by rw [hwp]; exact s2), G2⟩
end
end Ev

set_option Elab.async false
set_option linter.all false
set_option maxRecDepth 100000
set_option maxHeartbeats 4000000
namespace Ev
open PySem PySem.Spec PyProof.Rows L2

def nin {β : Type} [DecidableEq β] (xs : List β) (a : β) : Bool := decide (a ∉ xs)
theorem nin_in {β : Type} [DecidableEq β] {enc : β → PyData} (E : Enc enc) (a : β) (xs : List β) : inD true (enc a) (.list (xs.map enc)) = some (.bool (nin xs a)) := E.notInL a xs
theorem nin_t {β : Type} [DecidableEq β] {xs : List β} {a : β} (h : nin xs a = true) : a ∉ xs := of_decide_eq_true h
theorem drawn9 {t : Nat} {l : List PyData} (G : Gen t l) (ht : t + 10000 < 2 ^ 30) : ∃ (rows : List (List Str)) (st : List Step) (l' : List PyData), c__law_drawn_web [.list l, .int 9, .list [.str "p"], .list [.str "go", .str "a"]] = some (encWeb rows st, [.list l', .int 9, .list [.str "p"], .list [.str "go", .str "a"]]) ∧ DrawnWeb PL DL4 9 rows st ∧ Gen (t + 10000) l' :=
  drawn_ok (m := 9) (ML := PL) (DL := DL4) (by decide) (by decide) (by decide) (by decide) (by decide) G ht
theorem DrawnWeb.gw {rows : List (List Str)} {st : List Step} (D : DrawnWeb PL DL4 9 rows st) : GW9 rows.length rows st := gw_of D.r1 D.r2 D.ro D.so D.ss (by have := D.sz; have := D.r2; omega)
section
variable {n : Nat} {rows : List (List Str)} {st : List Step}
abbrev EL (l : List PyData) (w m r s k o : Option PyData) : Env := [some (.list l), w, m, r, s, k, o]
abbrev restL : Env → Option Fl := (seqS (asgS 5 (compF false (seqAF (bind2 (varF 1) (conF (.int 1)) ixD)) (nmG 6) (asB (bind2 (lendF 0 (consF (conF (.int 3)) nilF) c__law_random) (conF (.int 0)) eqD)) (varF 6) [6]))
  (seqS (retS (mapM (consF (bind2 (varF 1) (conF (.int 0)) ixD) (consF (mapM (consF (bind2 (compF true (seqAF (varF 5)) (nmG 6) (asB (bind2 (varF 6) (varF 3) (inD true))) (varF 6) [6]) (varF 3) addD) nilF) sortedD) nilF)) mkT))
  skipS))
theorem long_ok {t : Nat} {l : List PyData} (G : Gen t l) (ht : t + 20000 < 2 ^ 30) : ∃ (d : PyData) (l' : List PyData), c__law_long_web [.list l] = some (d, [.list l']) ∧ ∃ (rows : List (List Str)) (st : List Step), d = encWeb rows st ∧ GW9 rows.length rows st ∧ Gen (t + 20000) l' := by
  refine run_lent_wp (k := 0) (fs := fb__law_long_web) rfl ?_
  show wpS fb__law_long_web (EL l none none none none none none) _
  unfold fb__law_long_web
  obtain ⟨rows, st, l1, hd, D, G1⟩ := drawn9 G (by omega)
  have hr1 := D.r1
  have hr2 := D.r2
  have hsz := D.sz
  apply wpS_asg
  refine wp_of (lendF_e rfl (consF_e conF_e (consF_e (mapM_e (consF_e conF_e nilF_e) (mkL_e (by rw [sizeLine_eq]; show 1 ≤ 16777216; decide))) (consF_e (mapM_e (consF_e conF_e (consF_e conF_e nilF_e)) (mkL_e (by rw [sizeLine_eq]; show 2 ≤ 16777216; decide))) nilF_e))) rfl hd) ?_
  apply wpS_asg
  refine wp_of (len_rows (n := rows.length) (rows := rows) (st := st) rfl (varF_e rfl)) ?_
  generalize hn : rows.length = n at hr1 hr2 hsz
  show wpS _ (EL l1 (some (encWeb rows st)) (some (.int (n : Nat))) none none none none) _
  apply wpS_asg
  have hsub : (n : Int) - 1 = ((n - 1 : Nat) : Int) := by omega
  obtain ⟨sel, l2, hs1, hs2, G2⟩ := goC_rand (asg := nmG 4) (cond := asB (bind2 (lendF 0 (consF (conF (.int 4)) nilF) c__law_random) (conF (.int 0)) gtD)) (elt := mapM (consF (varF 4) (consF (conF (.str "go")) (consF (bind2 (varF 4) (conF (.int 1)) addD) nilF))) mkT) (vs := [4]) (enc := nI) (h := fun i : Nat => encStep (i, "go", i + 1))
    (fun l => EL l (some (encWeb rows st)) (some (.int (n : Nat))) none none none none) (fun i l => EL l (some (encWeb rows st)) (some (.int (n : Nat))) none (some (nI i)) none none) (fun _ => True)
    (fun i l t _ G ht => by
      obtain ⟨k, l', hr, hk, G'⟩ := random_ok (b := 4) G ht (by decide) (by decide)
      exact ⟨rfl, _, l', asB_e (bind2_e (lendF_e rfl (consF_e conF_e nilF_e) rfl hr) conF_e (gtD_i _ _)), G'⟩)
    (fun i l _ => mapM_e (consF_e (varF_e rfl) (consF_e conF_e (consF_e (bind2_e (varF_e rfl) conF_e (addD_ii _ _)) nilF_e))) (mk3 _ _ _)) (fun i l => rfl) (List.range (n - 1)) (t + 10000) l1 (fun _ _ => trivial) G1 (by rw [List.length_range]; omega)
  rw [List.length_range] at G2
  refine wp_of (compF_f (mapM_e (consF_e (x := .int ((n - 1 : Nat) : Int)) (bind2_e (varF_e rfl) conF_e ((subD_ii _ _).trans (by rw [hsub]))) nilF_e) (rng1N (by omega))) (by rw [List.length_map, List.length_range, sizeLine_eq]; omega) hs2) ?_
  have hsl : sel.length ≤ n - 1 := by
    have := hs1.length_le
    rw [List.length_range] at this
    exact this
  have hsn : sel.Nodup := List.Pairwise.sublist hs1 List.nodup_range
  -- the end
  have fin : ∀ (R : List Step) (l : List PyData) (s : Option PyData), R.Nodup → R.length ≤ 10 → (∀ s ∈ R, StepOk DL4 n s) → Gen (t + 10000 + 20) l → wpS restL (EL l (some (encWeb rows st)) (some (.int (n : Nat))) (some (.list (R.map encStep))) s none none) (fun fl => ∃ d e l', fl = .rt d e ∧ e[0]? = some (some (.list l')) ∧ ∃ (rows : List (List Str)) (st : List Step), d = encWeb rows st ∧ GW9 rows.length rows st ∧ Gen (t + 20000) l') := fun R l s hR hRl hRs G => by
    apply wpS_asg
    obtain ⟨K, l3, hk1, hk2, G3⟩ := goC_rand (asg := nmG 6) (cond := asB (bind2 (lendF 0 (consF (conF (.int 3)) nilF) c__law_random) (conF (.int 0)) eqD)) (elt := varF 6) (vs := [6]) (enc := encStep) (h := encStep)
      (fun l => EL l (some (encWeb rows st)) (some (.int (n : Nat))) (some (.list (R.map encStep))) s none none) (fun a l => EL l (some (encWeb rows st)) (some (.int (n : Nat))) (some (.list (R.map encStep))) s none (some (encStep a))) (fun _ => True)
      (fun i l t _ G ht => by
        obtain ⟨k, l', hr, hk, G'⟩ := random_ok (b := 3) G ht (by decide) (by decide)
        exact ⟨rfl, _, l', asB_e (bind2_e (lendF_e rfl (consF_e conF_e nilF_e) rfl hr) conF_e (eqD_i _ _)), G'⟩)
      (fun i l _ => varF_e rfl) (fun i l => rfl) st (t + 10000 + 20) l (fun _ _ => trivial) G (by omega)
    refine wp_of (compF_f (seqAF_l (bind2_e (varF_e rfl) conF_e (web1 _ _))) (by rw [List.length_map, sizeLine_eq]; omega) hk2) ?_
    have hKl := hk1.length_le
    show wpS _ (EL l3 (some (encWeb rows st)) (some (.int (n : Nat))) (some (.list (R.map encStep))) s (some (.list (K.map encStep))) none) _
    have hc := compF_pure (enc := encStep) (l := K) (p := nin R) (h := encStep) (src := seqAF (varF 5)) (asg := nmG 6) (cond := asB (bind2 (varF 6) (varF 3) (inD true))) (elt := varF 6) (vs := [6]) (env := EL l3 (some (encWeb rows st)) (some (.int (n : Nat))) (some (.list (R.map encStep))) s (some (.list (K.map encStep))) none) (e1 := EL l3 (some (encWeb rows st)) (some (.int (n : Nat))) (some (.list (R.map encStep))) s (some (.list (K.map encStep))) none)
      (seqAF_l (varF_e rfl)) (by rw [sizeLine_eq]; omega) fun a ha => ⟨EL l3 (some (encWeb rows st)) (some (.int (n : Nat))) (some (.list (R.map encStep))) s (some (.list (K.map encStep))) (some (encStep a)), _, rfl, asB_e (bind2_e (varF_e rfl) (varF_e rfl) (nin_in encSt _ _)), fun _ => rfl, fun _ => ⟨_, varF_e rfl, rfl⟩⟩
    let X : List Step := K.filter (nin R) ++ R
    have hXl : X.length ≤ 37 := by
      show (K.filter (nin R) ++ R).length ≤ 37
      rw [List.length_append]
      have := List.length_filter_le (nin R) K
      omega
    have hXn : X.Nodup := by
      show (K.filter (nin R) ++ R).Nodup
      rw [List.nodup_append]
      have hKn : K.Nodup := List.Pairwise.sublist hk1 (D.ss.imp fun {a b} h e => by
        subst e
        have : PySem.W.dataLt (encStep a) (encStep a) = true := h
        have h2 := dLe_total (encStep a) (encStep a)
        rw [Bool.or_self] at h2
        have h2 : (!PySem.W.dataLt (encStep a) (encStep a)) = true := h2
        rw [this] at h2
        cases h2)
      exact ⟨List.Pairwise.sublist List.filter_sublist hKn, hR, fun a ha b hb e => by
        have := (List.mem_filter.mp ha).2
        rw [e] at this
        exact nin_t this hb⟩
    have hXs : ∀ s ∈ X, StepOk DL4 n s := fun s hs => by
      rcases List.mem_append.mp hs with hs | hs
      · rw [← hn]
        exact D.so s (hk1.subset (List.mem_filter.mp hs).1)
      · exact hRs s hs
    apply wpS_ret
    refine wp_of (mapM_e (consF_e (bind2_e (varF_e rfl) conF_e (web0 _ _)) (consF_e (mapM_e (consF_e (bind2_e (r := .list (X.map encStep)) hc (varF_e rfl) ?_) nilF_e) (encSt.sorted (by rw [sizeLine_eq]; omega))) nilF_e)) (mk2 _ _)) ⟨_, _, l3, rfl, rfl, rows, srt encStep X, rfl, ?_, G3.mono (by omega)⟩
    · show addD (.list ((K.filter (nin R)).map encStep)) (.list (R.map encStep)) = some (.list ((K.filter (nin R) ++ R).map encStep))
      rw [addD_ll (by rw [List.length_map, List.length_map, sizeLine_eq]; have := List.length_filter_le (nin R) K; omega), List.map_append]
    · refine gw_of (by omega) (by omega) D.ro (fun s hs => ?_) (encSt.strict (srt_sorted _ _) ((srt_perm _ _).nodup_iff.mpr hXn)) (by rw [srt_len]; omega)
      rw [hn]
      exact hXs s ((srt_perm _ _).mem_iff.mp hs)
  -- the row
  have hgo : sel.map (fun i => encStep (i, "go", i + 1)) = (sel.map fun i => ((i, "go", i + 1) : Step)).map encStep := by rw [List.map_map]; rfl
  rw [hgo]
  generalize hR0 : (sel.map fun i => ((i, "go", i + 1) : Step)) = R0
  have hR0l : R0.length ≤ n - 1 := by rw [← hR0, List.length_map]; exact hsl
  have hR0n : R0.Nodup := by
    rw [← hR0]
    exact List.pairwise_map.mpr (hsn.imp fun {a b} h e => h (by injection e))
  have hR0s : ∀ s ∈ R0, s.2.1 = "go" ∧ StepOk DL4 n s := fun s hs => by
    rw [← hR0] at hs
    obtain ⟨i, hi, rfl⟩ := List.mem_map.mp hs
    have := List.mem_range.mp (hs1.subset hi)
    exact ⟨rfl, by show i < n; omega, by show ("go" : Str) ∈ DL4; decide, by show i + 1 < n; omega⟩
  show wpS _ (EL l2 (some (encWeb rows st)) (some (.int (n : Nat))) (some (.list (R0.map encStep))) none none none) _
  apply wpS_if
  obtain ⟨k, l3, hr, hk, G3⟩ := random_ok (b := 2) G2 (by omega) (by decide) (by decide)
  refine wp_of (bind2_e (lendF_e rfl (consF_e conF_e nilF_e) rfl hr) conF_e (eqD_i _ _)) ⟨_, rfl, fun hb => ?_, fun hb => ?_⟩
  · obtain ⟨k2, l4, hr2, hk2, G4⟩ := random_ok (b := (n : Nat)) G3 (by omega) (by omega) (by omega)
    apply wpS_assoc
    refine wpS_append (l0 := R0.map encStep) rfl (wp_of (a := encStep (n - 1, "a", k2)) (e1 := EL l4 (some (encWeb rows st)) (some (.int (n : Nat))) (some (.list (R0.map encStep))) none none none) (mapM_e (consF_e (x := .int ((n - 1 : Nat) : Int)) (bind2_e (varF_e rfl) conF_e ((subD_ii _ _).trans (by rw [hsub]))) (consF_e conF_e (consF_e (lendF_e rfl (consF_e (varF_e rfl) nilF_e) rfl hr2) nilF_e))) (mk3 _ _ _)) ⟨R0.map encStep, rfl, by rw [List.length_map, sizeLine_eq]; omega, ?_⟩)
    apply wpS_skipq
    have e0 : R0.map encStep ++ [encStep (n - 1, "a", k2)] = (R0 ++ [((n - 1, "a", k2) : Step)]).map encStep := by rw [List.map_append]; rfl
    rw [e0]
    refine fin (R0 ++ [((n - 1, "a", k2) : Step)]) l4 none ?_ ?_ ?_ (G4.mono (by omega))
    · rw [List.nodup_append]
      refine ⟨hR0n, by simp, fun a ha b hb e => ?_⟩
      have h1 := (hR0s a ha).1
      rw [e, List.mem_singleton.mp hb] at h1
      have h1 : ("a" : Str) = "go" := h1
      exact absurd h1 (by decide)
    · rw [List.length_append, List.length_singleton]; omega
    · intro s hs
      rcases List.mem_append.mp hs with hs | hs
      · exact (hR0s s hs).2
      · rw [List.mem_singleton.mp hs]
        exact ⟨by show n - 1 < n; omega, by show ("a" : Str) ∈ DL4; decide, by show k2 < n; omega⟩
  · apply wpS_skipq
    exact fin R0 l3 none hR0n (by omega) (fun s hs => (hR0s s hs).2) (G3.mono (by omega))
end
end Ev

set_option Elab.async false
set_option linter.all false
set_option maxRecDepth 100000
set_option maxHeartbeats 4000000
namespace Ev
open PySem PySem.Spec PyProof.Rows L2

/-! ### parts of the judge of webs -/
section
variable {n p k : Nat} {rows : List (List Str)} {st : List Step} {aim : List Nat} {env e1 : Env}
theorem GW9.ex (g : GW9 n rows st) : Ex false 6 (encWeb rows st) := by
  obtain ⟨h1, h2, h3, h4⟩ := g.g.fit _ _ rfl
  have : Ex true 6 (encWeb rows st) := .tup (fun d hd => by
    rcases List.mem_cons.mp hd with rfl | hd
    · exact .lst h1 h3
    · rw [List.mem_singleton.mp hd]; exact .lst h2 h4) (by simp)
  exact this.any
theorem listRgN (h : n ≤ 10000) : listRgD [.int (n : Nat)] = some (nL (List.range n)) := by
  show (if (decide (-(2 ^ 62) ≤ ((n : Nat) : Int)) && decide (((n : Nat) : Int) ≤ 2 ^ 24)) = true then some (PyData.list (rngD 0 ((n : Nat) : Int).toNat)) else none) = _
  rw [if_pos (by simp only [Bool.and_eq_true, decide_eq_true_eq]; omega), Int.toNat_natCast]
  unfold rngD nL
  congr 2
  exact List.map_congr_left fun i _ => rgI_eq i
theorem rep1 {x : PyData} : mulD (.list [x]) (.int 1) = some (.list [x]) := by kernel_rfl
theorem rep0 {x : PyData} : mulD (.list [x]) (.int 0) = some (.list []) := by kernel_rfl
theorem kwF1 {c : FnSem} {d r : PyData} {o : List PyData} (h : c [d] = some (r, o)) : kwF 1 [0] c [d] = some r := (if_pos (show [d].length = 1 from rfl)).trans (callF_e h)
theorem kwF2 {c : FnSem} {a b r : PyData} {o : List PyData} (h : c [b, a] = some (r, o)) : kwF 2 [1, 0] c [a, b] = some r := (if_pos (show [a, b].length = 2 from rfl)).trans (callF_e h)
theorem kwF3 {c : FnSem} {a b d r : PyData} {o : List PyData} (h : c [d, b, a] = some (r, o)) : kwF 3 [2, 1, 0] c [a, b, d] = some r := (if_pos (show [a, b, d].length = 3 from rfl)).trans (callF_e h)
theorem mk1L {a : PyData} : mkL [a] = some (.list [a]) := mkL_e (by rw [sizeLine_eq]; show 1 ≤ 16777216; decide)
theorem mk2L {a b : PyData} : mkL [a, b] = some (.list [a, b]) := mkL_e (by rw [sizeLine_eq]; show 2 ≤ 16777216; decide)
theorem mk4L {a b c d : PyData} : mkL [a, b, c, d] = some (.list [a, b, c, d]) := mkL_e (by rw [sizeLine_eq]; show 4 ≤ 16777216; decide)
theorem mk0L : mkL [] = some (.list []) := mkL_e (by simp)
theorem nLs_ex {T : List (List Nat)} {q : Bool} {m : Nat} (h : T.length ≤ 10000) (h2 : ∀ xs ∈ T, xs.length ≤ 10000) : Ex q (m + 2) (nLs T) := .lst (fun d hd => by
  obtain ⟨xs, hx, rfl⟩ := List.mem_map.mp hd
  exact nL_ex (h2 xs hx)) (by rw [List.length_map]; exact h)
theorem rgs_ex {q : Bool} {m : Nat} (h : n ≤ 60) : Ex q (m + 2) (nLs (rgs st n n)) := nLs_ex (by have := rgs_len (st := st) (n := n) n; omega) fun xs hx => by
  obtain ⟨i, _, rfl⟩ := rgs_from n xs hx
  have := nodup_len (n := n) ((rg_inc (st := st) (n := n) (i := i)).imp fun h => Nat.ne_of_lt h) fun x hx => (rg_mem.mp hx).1
  omega
theorem sumOF_e {i : Nat} {ds : List PyData} {fb : M PyData} {d r : PyData} (h0 : listAt env i = some ds) (h1 : fb env = some (d, e1)) (h2 : sumLD [.list ds, d] = some r) : sumOF i fb env = some (r, e1) := by
  unfold sumOF
  rw [h0]
  simp only [Option.bind_some]
  rw [h1]
  simp only [Option.bind_some]
  rw [h2]; rfl
theorem callA_e {c : FnSem} {ds o : List PyData} {b : Bool} (h : c ds = some (.bool b, o)) : (callF c ds).bind atomD = some (.bool b) := by rw [callF_e h]; rfl
/-! lots by number -/
noncomputable def encLot (st : List Step) (n p m : Nat) : PyData := .tuple [nI m, nL (lv st n p m)]
theorem enum_lots {f : M (List PyData)} (h : f env = some ([nLs (lots st n p n)], e1)) : enumAF f env = some ((List.range (n + 1)).map (encLot st n p), e1) := by
  have h2 := enumAF_l (l := (lots st n p n).map nL) h
  rw [h2, enumFrom_enc (enc := nL)]
  refine congrArg (fun x => some (x, e1)) (List.ext_getElem? fun i => ?_)
  rw [List.getElem?_map, List.getElem?_map, List.getElem?_zipIdx]
  unfold lots
  rw [List.getElem?_map]
  by_cases hi : i < n + 1
  · rw [List.getElem?_range hi]
    simp [encAt, encLot, nI]
  · rw [List.getElem?_eq_none (by rw [List.length_range]; omega)]
    rfl
def meets (st : List Step) (n p : Nat) (aim : List Nat) (L : List Nat) : Bool := !decide (L.filter (fun v => decide (v ∈ aim)) = [])
noncomputable def farL (st : List Step) (n p : Nat) (aim : List Nat) : List Nat := (List.range (n + 1)).filter fun m => meets st n p aim (lv st n p m)
theorem meets_iff (hw : InW st n) (hp : p < n) {m : Nat} : meets st n p aim (lv st n p m) = true ↔ ∃ v, v ∈ aim ∧ Wt st p m v := by
  unfold meets
  rw [Bool.not_eq_true', decide_eq_false_iff_not, List.filter_eq_nil_iff]
  constructor
  · intro h
    apply Classical.byContradiction
    intro hc
    refine h fun v hv hd => hc ⟨v, of_decide_eq_true hd, (lv_mem hw hp).mp hv⟩
  · rintro ⟨v, h1, h2⟩ h
    exact h v ((lv_mem hw hp).mpr h2) (decide_eq_true h1)
theorem farL_nil (hw : InW st n) (hp : p < n) : farL st n p aim = [] ↔ ∀ x, Rch st p x → x ∉ aim := by
  unfold farL
  rw [List.filter_eq_nil_iff]
  constructor
  · intro h x r hx
    refine h n (List.mem_range.mpr (by omega)) ((meets_iff hw hp).mpr ⟨x, hx, wt_all hw hp r⟩)
  · intro h m _ hm
    obtain ⟨v, h1, h2⟩ := (meets_iff hw hp).mp hm
    exact h v h2.rch h1
theorem filter_head {P : Nat → Bool} {m : Nat} : ∀ {a k : Nat}, P a = true → (∀ b, b < a → P b = false) → a < k → ((List.range k).filter P)[0]? = some a := fun {a k} h1 h2 h3 => by
  have e : List.range k = List.range a ++ (List.range (k - a)).map (a + ·) := by
    have := List.range_add (n := a) (m := k - a)
    rw [← this]
    congr 1
    omega
  rw [e, List.filter_append, List.filter_eq_nil_iff.mpr (fun b hb => by rw [h2 b (List.mem_range.mp hb)]; decide), List.nil_append]
  have : k - a = (k - a - 1) + 1 := by omega
  rw [this, List.range_succ_eq_map, List.map_cons, List.filter_cons_of_pos (by simpa using h1)]
  simp
theorem farL_head (hw : InW st n) (hp : p < n) {x : Nat} (hx : x ∈ aim) (r : Rch st p x) (hm : ∀ v, Rch st p v → v ∈ aim → dep st p x ≤ dep st p v) : (farL st n p aim)[0]? = some (dep st p x) := by
  refine filter_head (m := 0) ((meets_iff hw hp).mpr ⟨x, hx, (dep_spec r).1⟩) (fun b hb => ?_) (by have := dep_n hw hp r; omega)
  cases h : meets st n p aim (lv st n p b) with
  | false => rfl
  | true =>
    obtain ⟨v, h1, h2⟩ := (meets_iff hw hp).mp h
    have := hm v h2.rch h1
    have := dep_le h2
    omega
end
end Ev

set_option Elab.async false
set_option linter.all false
set_option maxRecDepth 100000
set_option maxHeartbeats 4000000
namespace Ev
open PySem PySem.Spec PyProof.Rows L2

section
variable {n : Nat} {rows : List (List Str)} {st : List Step}
abbrev EV (l : List PyData) (w no ev lo : PyData) (s5 s6 s7 s8 s9 s10 s11 s12 s13 : Option PyData) : Env := [some (.list l), some w, some no, some ev, some lo, s5, s6, s7, s8, s9, s10, s11, s12, s13, none, none, none, none]
abbrev lotP : M PyData := bind2 (bind2 (varF 4) (varF 5) ixD) (mapF (conF (.int 1)) negD) ixD
noncomputable def LT (st : List Step) (n : Nat) : PyData := .list ((List.range n).map fun i => nLs (lots st n i n))
theorem LT_ix {i : Nat} (hi : i < n) : ixD (LT st n) (nI i) = some (nLs (lots st n i n)) := ixL (by rw [List.getElem?_map, List.getElem?_range hi]; rfl)
theorem lot_last (g : GW9 n rows st) {i : Nat} (hi : i < n) {env : Env} {a : Nat} (h4 : env[4]? = some (some (LT st n))) (ha : env[a]? = some (some (nI i))) : bind2 (bind2 (varF 4) (varF a) ixD) (mapF (conF (.int 1)) negD) ixD env = some (nL (rc st n i), env) := by
  refine bind2_e (bind2_e (varF_e h4) (varF_e ha) (LT_ix hi)) (mapF_e conF_e (y := .int (-1)) rfl) ?_
  rw [lots_ix, lv_last g.g.hw hi]
/-- the rings, gone through here -/
theorem ring_comp (g : GW9 n rows st) {k : Nat} (hk : k < n) (l : List PyData) (w no : PyData) (s6 s7 s9 s10 s11 s12 s13 : Option PyData) :
    compF true (seqAF (varF 3)) (nmG 8) (asB (andF (bind2 (varF 8) (bind2 (bind2 (varF 4) (varF 5) ixD) (mapF (conF (.int 1)) negD) ixD) (inD false)) (bind2 (varF 5) (bind2 (bind2 (varF 4) (varF 8) ixD) (mapF (conF (.int 1)) negD) ixD) (inD false)))) (varF 8) [8] (EV l w no (nL (List.range n)) (LT st n) (some (nI k)) s6 s7 none s9 s10 s11 s12 s13) = some (nL (rg st n k), EV l w no (nL (List.range n)) (LT st n) (some (nI k)) s6 s7 none s9 s10 s11 s12 s13) := by
  have h9 := g.h9
  have hw := g.g.hw
  have hc := compF_pure (enc := nI) (l := List.range n) (p := fun j => decide (j ∈ rc st n k) && decide (k ∈ rc st n j)) (h := nI) (src := seqAF (varF 3)) (asg := nmG 8) (cond := asB (andF (bind2 (varF 8) (bind2 (bind2 (varF 4) (varF 5) ixD) (mapF (conF (.int 1)) negD) ixD) (inD false)) (bind2 (varF 5) (bind2 (bind2 (varF 4) (varF 8) ixD) (mapF (conF (.int 1)) negD) ixD) (inD false)))) (elt := varF 8) (vs := [8]) (env := EV l w no (nL (List.range n)) (LT st n) (some (nI k)) s6 s7 none s9 s10 s11 s12 s13) (e1 := EV l w no (nL (List.range n)) (LT st n) (some (nI k)) s6 s7 none s9 s10 s11 s12 s13)
    (seqAF_l (varF_e rfl)) (by rw [List.length_range, sizeLine_eq]; omega) fun j hj => by
      have hj := List.mem_range.mp hj
      exact ⟨EV l w no (nL (List.range n)) (LT st n) (some (nI k)) s6 s7 (some (nI j)) s9 s10 s11 s12 s13, _, rfl, asB_e (andF_bb (bind2_e (varF_e rfl) (lot_last g hk rfl rfl) (n_in _ _)) (bind2_e (varF_e rfl) (lot_last g hj rfl rfl) (n_in _ _))), fun _ => rfl, fun _ => ⟨_, varF_e rfl, rfl⟩⟩
  rw [hc]
  refine congrArg (fun x => some (nL x, _)) (inc_ext (List.Pairwise.sublist List.filter_sublist List.pairwise_lt_range) rg_inc fun j => ?_)
  rw [List.mem_filter, List.mem_range, Bool.and_eq_true, decide_eq_true_eq, decide_eq_true_eq, rg_mem, rc_mem hw hk]
  constructor
  · rintro ⟨h1, h2, h3⟩
    exact ⟨h1, h2, (rc_mem hw h1).mp h3⟩
  · rintro ⟨h1, h2, h3⟩
    exact ⟨h1, h2, (rc_mem hw h1).mpr h3⟩
abbrev ringsP : Env → Option Fl := forS (seqAF (varF 3)) (nmG 5) (seqS (asgS 7 (compF true (seqAF (varF 3)) (nmG 8) (asB (andF (bind2 (varF 8) (bind2 (bind2 (varF 4) (varF 5) ixD) (mapF (conF (.int 1)) negD) ixD) (inD false)) (bind2 (varF 5) (bind2 (bind2 (varF 4) (varF 8) ixD) (mapF (conF (.int 1)) negD) ixD) (inD false)))) (varF 8) [8]))
  (seqS (asgS 6 (bind2 (varF 6) (bind2 (mapM (consF (varF 7) nilF) mkL) (mapM (consF (bind2 (varF 7) (varF 6) (inD true)) nilF) intCD) mulD) addD))
  skipS))
theorem rings_loop (g : GW9 n rows st) {l : List PyData} {w no : PyData} {gs : Env → Option Fl} {QS : Fl → Prop} (h : ∀ a b, wpS gs (EV l w no (nL (List.range n)) (LT st n) a (some (nLs (rgs st n n))) b none none none none none none) QS) : wpS (seqS ringsP gs) (EV l w no (nL (List.range n)) (LT st n) none (some (nLs [])) none none none none none none none) QS := by
  have h9 := g.h9
  apply wpS_for (I := fun k e => ∃ a b, e = EV l w no (nL (List.range n)) (LT st n) a (some (nLs (rgs st n k))) b none none none none none none)
  refine wp_of (seqAF_l (varF_e rfl)) ⟨⟨none, none, rfl⟩, fun k d e hd hI => ?_, fun e hI => ?_⟩
  · obtain ⟨a, b, rfl⟩ := hI
    have hk : k < n := by
      have := (List.getElem?_eq_some_iff.mp hd).1
      simpa using this
    rw [List.getElem?_map, List.getElem?_range hk] at hd
    cases hd
    refine ⟨EV l w no (nL (List.range n)) (LT st n) (some (nI k)) (some (nLs (rgs st n k))) b none none none none none none, rfl, ?_⟩
    apply wpS_asg
    refine wp_of (ring_comp g hk _ _ _ _ _ _ _ _ _ _) ?_
    apply wpS_asg
    have hl := rgs_len (st := st) (n := n) k
    have hfin : addD (nLs (rgs st n k)) (.list (if rg st n k ∈ rgs st n k then [] else [nL (rg st n k)])) = some (nLs (rgs st n (k + 1))) := by
      unfold nLs
      rw [addD_ll (by
        rw [List.length_map, sizeLine_eq]
        split
        · simp; omega
        · simp; omega)]
      conv => rhs; unfold rgs
      split
      · rw [List.append_nil]
      · rw [List.map_append]; rfl
    refine wp_of (bind2_e (varF_e rfl) (bind2_e (y := .int (if rg st n k ∉ rgs st n k then 1 else 0)) (r := .list (if rg st n k ∈ rgs st n k then [] else [nL (rg st n k)])) (mapM_e (consF_e (varF_e rfl) nilF_e) mk1L) (mapM_e (consF_e (bind2_e (varF_e rfl) (varF_e rfl) (nL_notIn _ _)) nilF_e) ?_) ?_) hfin) ?_
    · show some (PyData.int (if decide (rg st n k ∉ rgs st n k) = true then 1 else 0)) = _
      by_cases c : rg st n k ∈ rgs st n k <;> simp [c]
    · by_cases c : rg st n k ∈ rgs st n k
      · rw [if_neg (fun h => h c), if_pos c]; exact rep0
      · rw [if_pos c, if_neg c]; exact rep1
    · exact ⟨.nx _, rfl, .inl ⟨_, .inl rfl, some (nI k), some (nL (rg st n k)), rfl⟩⟩
  · obtain ⟨a, b, rfl⟩ := hI
    rw [List.length_map, List.length_range]
    exact h a b
end
end Ev

set_option Elab.async false
set_option linter.all false
set_option maxRecDepth 100000
set_option maxHeartbeats 4000000
namespace Ev
open PySem PySem.Spec PyProof.Rows L2

section
variable {n t k : Nat} {rows : List (List Str)} {st : List Step} {l : List PyData} {no : PyData} {s6 s7 s8 s9 s10 s11 s12 s13 : Option PyData} {aim : List Nat} {d : PyData}
abbrev T1 : M PyData := notF (mapM (consF (mapM (consF (mapM (consF (varF 1) (consF (varF 5) nilF)) (callF c_reached)) (consF (mapM (consF (varF 5) (consF (varF 1) nilF)) (kwF 2 [1, 0] c_reached)) (consF (mapM (consF (varF 1) (consF (varF 10) nilF)) (callF c_is_closed)) (consF (mapM (consF (varF 10) (consF (varF 1) nilF)) (kwF 2 [1, 0] c_is_closed)) nilF)))) mkL) (consF (mapM (consF (varF 10) (consF (varF 10) (consF (conF (.bool true)) (consF (conF (.bool true)) nilF)))) mkL) nilF)) (callF (c__law_exact 12)))
theorem rc_len : (rc st n k).length ≤ n := nodup_len (rc_inc.imp fun h => Nat.ne_of_lt h) rc_lt
theorem T1_e (g : GW9 n rows st) (hk : k < n) (ev lo : PyData) : T1 (EV l (encWeb rows st) no ev lo (some (nI k)) s6 s7 s8 s9 (some (nL (rc st n k))) s11 s12 s13) = some (.bool false, EV l (encWeb rows st) no ev lo (some (nI k)) s6 s7 s8 s9 (some (nL (rc st n k))) s11 s12 s13) := by
  have h9 := g.h9
  have h1 := reach_ok g.g hk
  have h2 := (closed_ok g.g (rc_inc (st := st) (n := n) (i := k)) rc_lt).trans (by rw [clB_rc g.g.hw hk])
  have hl := rc_len (st := st) (n := n) (k := k)
  have hx : Ex false 2 (.list [nL (rc st n k), nL (rc st n k), .bool true, .bool true]) := .lst (all_cons (nL_ex (by omega)) (all_cons (nL_ex (by omega)) (all_cons (.bl _) (all_cons (.bl _) all_nil)))) (by simp)
  exact notF_e (b := true) (mapM_e (consF_e (mapM_e (consF_e (mapM_e (consF_e (varF_e rfl) (consF_e (varF_e rfl) nilF_e)) (callF_e h1)) (consF_e (mapM_e (consF_e (varF_e rfl) (consF_e (varF_e rfl) nilF_e)) (kwF2 h1)) (consF_e (mapM_e (consF_e (varF_e rfl) (consF_e (varF_e rfl) nilF_e)) (callF_e h2)) (consF_e (mapM_e (consF_e (varF_e rfl) (consF_e (varF_e rfl) nilF_e)) (kwF2 h2)) nilF_e)))) mk4L) (consF_e (mapM_e (consF_e (varF_e rfl) (consF_e (varF_e rfl) (consF_e conF_e (consF_e conF_e nilF_e)))) mk4L) nilF_e)) (callF_e (exact_refl hx 12 (by decide))))
abbrev aimP : M PyData := compF false (seqAF (varF 3)) (nmG 8) (asB (bind2 (lendF 0 (consF (conF (.int 4)) nilF) c__law_random) (conF (.int 0)) eqD)) (varF 8) [8]
theorem aim_ok (h9 : n ≤ 9) (G : Gen t l) (ht : t + 100 < 2 ^ 30) (w lo : PyData) (s5 : Option PyData) : ∃ (aim : List Nat) (l' : List PyData), aim.Sublist (List.range n) ∧ aimP (EV l w no (nL (List.range n)) lo s5 s6 s7 s8 s9 s10 s11 s12 s13) = some (nL aim, EV l' w no (nL (List.range n)) lo s5 s6 s7 s8 s9 s10 s11 s12 s13) ∧ Gen (t + 20) l' := by
  obtain ⟨aim, l', h1, h2, G'⟩ := goC_rand (asg := nmG 8) (cond := asB (bind2 (lendF 0 (consF (conF (.int 4)) nilF) c__law_random) (conF (.int 0)) eqD)) (elt := varF 8) (vs := [8]) (enc := nI) (h := nI)
    (fun l => EV l w no (nL (List.range n)) lo s5 s6 s7 none s9 s10 s11 s12 s13) (fun i l => EV l w no (nL (List.range n)) lo s5 s6 s7 (some (nI i)) s9 s10 s11 s12 s13) (fun _ => True)
    (fun i l t _ G ht => by
      obtain ⟨k, l', hr, hk, G'⟩ := random_ok (b := 4) G ht (by decide) (by decide)
      exact ⟨rfl, _, l', asB_e (bind2_e (lendF_e rfl (consF_e conF_e nilF_e) rfl hr) conF_e (eqD_i _ _)), G'⟩)
    (fun i l _ => varF_e rfl) (fun i l => rfl) (List.range n) t l (fun _ _ => trivial) G (by rw [List.length_range]; omega)
  rw [List.length_range] at G'
  have hh := compF_f (ds := (List.range n).map nI) (src := seqAF (varF 3)) (env := EV l w no (nL (List.range n)) lo s5 s6 s7 s8 s9 s10 s11 s12 s13) (e1 := EV l w no (nL (List.range n)) lo s5 s6 s7 s8 s9 s10 s11 s12 s13) (e2 := EV l' w no (nL (List.range n)) lo s5 s6 s7 none s9 s10 s11 s12 s13) (vs := [8]) (seqAF_l (varF_e rfl)) (by rw [List.length_map, List.length_range, sizeLine_eq]; omega) h2
  exact ⟨aim, l', h1, hh, G'.mono (by omega)⟩
abbrev farP : M PyData := compF true (enumAF (consF (bind2 (varF 4) (varF 5) ixD) nilF)) (tupG (consG (nmG 15) (consG (nmG 16) nilG)) 2) (asB (bind2 (compF true (seqAF (varF 16)) (nmG 17) (asB (bind2 (varF 17) (varF 11) (inD false))) (varF 17) [17]) (mapM nilF mkL) neD)) (varF 15) [15, 16]
theorem far_all (g : GW9 n rows st) (hk : k < n) (w ev : PyData) : farP (EV l w no ev (LT st n) (some (nI k)) s6 s7 s8 s9 s10 (some (nL aim)) s12 s13) = some (nL (farL st n k aim), EV l w no ev (LT st n) (some (nI k)) s6 s7 s8 s9 s10 (some (nL aim)) s12 s13) := by
  have h9 := g.h9
  have hc := compF_pure (enc := encLot st n k) (l := List.range (n + 1)) (p := fun m => meets st n k aim (lv st n k m)) (h := nI) (src := enumAF (consF (bind2 (varF 4) (varF 5) ixD) nilF)) (asg := tupG (consG (nmG 15) (consG (nmG 16) nilG)) 2) (cond := asB (bind2 (compF true (seqAF (varF 16)) (nmG 17) (asB (bind2 (varF 17) (varF 11) (inD false))) (varF 17) [17]) (mapM nilF mkL) neD)) (elt := varF 15) (vs := [15, 16]) (env := EV l w no ev (LT st n) (some (nI k)) s6 s7 s8 s9 s10 (some (nL aim)) s12 s13) (e1 := EV l w no ev (LT st n) (some (nI k)) s6 s7 s8 s9 s10 (some (nL aim)) s12 s13)
    (enum_lots (consF_e (bind2_e (varF_e rfl) (varF_e rfl) (LT_ix hk)) nilF_e)) (by rw [List.length_range, sizeLine_eq]; omega) fun m hm => by
      have hl := lv_len (st := st) (n := n) (p := k) (k := m)
      have hi := compF_pure (enc := nI) (l := lv st n k m) (p := fun v => decide (v ∈ aim)) (h := nI) (src := seqAF (varF 16)) (asg := nmG 17) (cond := asB (bind2 (varF 17) (varF 11) (inD false))) (elt := varF 17) (vs := [17]) (env := [some (.list l), some w, some no, some ev, some (LT st n), some (nI k), s6, s7, s8, s9, s10, some (nL aim), s12, s13, none, some (nI m), some (nL (lv st n k m)), none]) (e1 := [some (.list l), some w, some no, some ev, some (LT st n), some (nI k), s6, s7, s8, s9, s10, some (nL aim), s12, s13, none, some (nI m), some (nL (lv st n k m)), none])
        (seqAF_l (varF_e rfl)) (by rw [sizeLine_eq]; omega) fun v hv => ⟨[some (.list l), some w, some no, some ev, some (LT st n), some (nI k), s6, s7, s8, s9, s10, some (nL aim), s12, s13, none, some (nI m), some (nL (lv st n k m)), some (nI v)], _, rfl, asB_e (bind2_e (varF_e rfl) (varF_e rfl) (n_in _ _)), fun _ => rfl, fun _ => ⟨_, varF_e rfl, rfl⟩⟩
      exact ⟨[some (.list l), some w, some no, some ev, some (LT st n), some (nI k), s6, s7, s8, s9, s10, some (nL aim), s12, s13, none, some (nI m), some (nL (lv st n k m)), none], _, rfl, asB_e (bind2_e hi (mapM_e nilF_e mk0L) (nL_ne _ [])), fun _ => rfl, fun _ => ⟨_, varF_e rfl, rfl⟩⟩
  exact hc
abbrev T2 : M PyData := orF (notF (mapM (consF (mapM (consF (varF 1) (consF (varF 11) nilF)) (callF c_is_closed)) (consF (varF 13) nilF)) (callF (c__law_exact 12)))) (bind2 (bind2 (varF 12) (conF .none) isNoneD) (bind2 (varF 8) (mapM nilF mkL) eqD) neD)
theorem neD_same (b : Bool) : neD (.bool b) (.bool b) = some (.bool false) := (neD_b b b).trans (by cases b <;> rfl)
theorem T2_e (g : GW9 n rows st) (hk : k < n) (hI : Inc aim) (hb : ∀ x ∈ aim, x < n) (hd : WayR st k aim d) (ev lo : PyData) :
    T2 (EV l (encWeb rows st) no ev lo (some (nI k)) s6 s7 (some (nL (farL st n k aim))) s9 s10 (some (nL aim)) (some d) (some (.bool (clB st aim)))) = some (.bool false, EV l (encWeb rows st) no ev lo (some (nI k)) s6 s7 (some (nL (farL st n k aim))) s9 s10 (some (nL aim)) (some d) (some (.bool (clB st aim)))) := by
  have hw := g.g.hw
  have he : decide (farL st n k aim = []) = isN d := by
    rcases hd with ⟨rfl, h⟩ | ⟨x, W, rfl, h1, h2, h3, h4⟩
    · exact decide_eq_true ((farL_nil hw hk).mpr h)
    · exact decide_eq_false fun h => (farL_nil hw hk).mp h x h2 h1
  refine orF_f (notF_e (b := true) (mapM_e (consF_e (mapM_e (consF_e (varF_e rfl) (consF_e (varF_e rfl) nilF_e)) (callF_e (closed_ok g.g hI hb))) (consF_e (varF_e rfl) nilF_e)) (callF_e (exact_refl (n := 0) (.bl (clB st aim)) 12 (by decide))))) (bind2_e (x := .bool (isN d)) (y := .bool (isN d)) (bind2_e (varF_e rfl) conF_e rfl) (bind2_e (varF_e rfl) (mapM_e nilF_e mk0L) ((nL_eq _ []).trans (by rw [he]))) (neD_same _))
abbrev T3 : M PyData := andF (bind2 (varF 12) (conF .none) notNoneD) (orF (notF (mapM (consF (varF 1) (consF (varF 12) (consF (varF 5) (consF (varF 11) nilF)))) (callF c__law_is_way))) (orF (bind2 (mapM (consF (varF 12) nilF) lenD) (bind2 (bind2 (varF 8) (conF (.int 0)) ixD) (conF (.int 1)) addD) neD) (notF (mapM (consF (varF 1) (consF (mapM (consF (varF 11) (consF (varF 5) (consF (varF 1) nilF))) (kwF 3 [2, 1, 0] c_way_to)) (consF (varF 5) (consF (varF 11) nilF)))) (callF c__law_is_way)))))
theorem T3_e (g : GW9 n rows st) (hk : k < n) (hd : WayR st k aim d) (hc : c_way_to [encWeb rows st, nI k, nL aim] = some (d, [encWeb rows st, nI k, nL aim])) (ev lo : PyData) :
    T3 (EV l (encWeb rows st) no ev lo (some (nI k)) s6 s7 (some (nL (farL st n k aim))) s9 s10 (some (nL aim)) (some d) s13) = some (.bool false, EV l (encWeb rows st) no ev lo (some (nI k)) s6 s7 (some (nL (farL st n k aim))) s9 s10 (some (nL aim)) (some d) s13) := by
  have hw := g.g.hw
  have h9 := g.h9
  rcases hd with ⟨rfl, h⟩ | ⟨x, W, rfl, h1, h2, h3, h4⟩
  · exact andF_f (bind2_e (varF_e rfl) conF_e rfl)
  · have hdn := dep_n hw hk h2
    have hlen := h3.len
    have hway := is_way_ok g h3 h1 (by omega)
    have h0 : ixD (nL (farL st n k aim)) (.int 0) = some (nI (dep st k x)) := nL_ix (i := 0) (farL_head hw hk h1 h2 h4)
    refine andF_t (bind2_e (varF_e rfl) conF_e rfl) (orF_f (notF_e (b := true) (mapM_e (consF_e (varF_e rfl) (consF_e (varF_e rfl) (consF_e (varF_e rfl) (consF_e (varF_e rfl) nilF_e)))) (callF_e hway))) (orF_f (bind2_e (mapM_e (consF_e (varF_e rfl) nilF_e) (lenD_l' _)) (bind2_e (bind2_e (varF_e rfl) conF_e h0) conF_e (addD_ii _ _)) ((neD_i _ _).trans ?_)) (notF_e (b := true) (mapM_e (consF_e (varF_e rfl) (consF_e (mapM_e (consF_e (varF_e rfl) (consF_e (varF_e rfl) (consF_e (varF_e rfl) nilF_e))) (kwF3 hc)) (consF_e (varF_e rfl) (consF_e (varF_e rfl) nilF_e)))) (callF_e hway)))))
    rw [decide_eq_true (by rw [List.length_map, hlen]; rfl)]
    rfl
abbrev closedP : M PyData := bind2 (compF true (seqAF (bind2 (varF 1) (conF (.int 1)) ixD)) (nmG 14) (asB (andF (bind2 (bind2 (varF 14) (conF (.int 0)) ixD) (varF 11) (inD false)) (bind2 (bind2 (varF 14) (conF (.int 2)) ixD) (varF 11) (inD true)))) (varF 14) [14]) (mapM nilF mkL) eqD
abbrev spotsP : Env → Option Fl := forS (seqAF (varF 3)) (nmG 5) (seqS (asgS 10 lotP) (seqS (ifS T1 (seqS (retS (conF (.bool false))) skipS) skipS) (seqS (asgS 11 aimP) (seqS (parS 12 13 (consF (mapM (consF (varF 1) (consF (varF 5) (consF (varF 11) nilF))) (callF c_way_to)) (consF closedP nilF))) (seqS (asgS 8 farP) (seqS (ifS T2 (seqS (retS (conF (.bool false))) skipS) skipS) (seqS (ifS T3 (seqS (retS (conF (.bool false))) skipS) skipS) skipS)))))))
theorem spots_loop (g : GW9 n rows st) (G : Gen t l) (ht : t + 1000 < 2 ^ 30) {gs : Env → Option Fl} {QS : Fl → Prop} {s5 : Option PyData} (h : ∀ l' a b c e f i, Gen (t + 200) l' → wpS gs (EV l' (encWeb rows st) no (nL (List.range n)) (LT st n) a s6 s7 b s9 c e f i) QS) : wpS (seqS spotsP gs) (EV l (encWeb rows st) no (nL (List.range n)) (LT st n) s5 s6 s7 s8 s9 s10 s11 s12 s13) QS := by
  have h9 := g.h9
  have hw := g.g.hw
  apply wpS_for (I := fun k e => ∃ l' a b c x f i, e = EV l' (encWeb rows st) no (nL (List.range n)) (LT st n) a s6 s7 b s9 c x f i ∧ Gen (t + 20 * k) l')
  refine wp_of (seqAF_l (varF_e rfl)) ⟨⟨l, s5, s8, s10, s11, s12, s13, rfl, G⟩, fun k d e hd hI => ?_, fun e hI => ?_⟩
  · obtain ⟨l', a, b, c, x, f, i, rfl, G'⟩ := hI
    have hk : k < n := by
      have := (List.getElem?_eq_some_iff.mp hd).1
      simpa using this
    rw [List.getElem?_map, List.getElem?_range hk] at hd
    cases hd
    refine ⟨EV l' (encWeb rows st) no (nL (List.range n)) (LT st n) (some (nI k)) s6 s7 b s9 c x f i, rfl, ?_⟩
    apply wpS_asg
    refine wp_of (lot_last g hk rfl rfl) ?_
    apply wpS_if
    refine wp_of (T1_e g hk _ _) ⟨_, rfl, (fun z => nomatch z), fun _ => ?_⟩
    apply wpS_skipq
    apply wpS_asg
    obtain ⟨aim, l2, ha1, ha2, G2⟩ := aim_ok (no := no) (s6 := s6) (s7 := s7) (s8 := b) (s9 := s9) (s10 := some (nL (rc st n k))) (s11 := x) (s12 := f) (s13 := i) h9 G' (by omega) (encWeb rows st) (LT st n) (some (nI k))
    refine wp_of ha2 ?_
    have hI : Inc aim := List.Pairwise.sublist ha1 List.pairwise_lt_range
    have hb : ∀ x ∈ aim, x < n := fun x hx => List.mem_range.mp (ha1.subset hx)
    obtain ⟨d, hc, hd⟩ := way_ok g.g hk hI hb
    apply wpS_par
    refine wp_of (consF_e (mapM_e (consF_e (varF_e rfl) (consF_e (varF_e rfl) (consF_e (varF_e rfl) nilF_e))) (callF_e hc)) (consF_e (leaves_comp (rows := rows) (st := st) (lot := aim) rfl rfl rfl (by decide) (by decide) (by have := g.s60; omega)) nilF_e)) ⟨_, _, rfl, ?_⟩
    apply wpS_asg
    refine wp_of (far_all g hk _ _) ?_
    apply wpS_if
    refine wp_of (T2_e g hk hI hb hd _ _) ⟨_, rfl, (fun z => nomatch z), fun _ => ?_⟩
    apply wpS_skipq
    apply wpS_if
    refine wp_of (T3_e g hk hd hc _ _) ⟨_, rfl, (fun z => nomatch z), fun _ => ?_⟩
    apply wpS_skipq
    exact ⟨.nx _, rfl, .inl ⟨_, .inl rfl, l2, _, _, _, _, _, _, rfl, G2.mono (by omega)⟩⟩
  · obtain ⟨l', a, b, c, x, f, i, rfl, G'⟩ := hI
    rw [List.length_map, List.length_range] at G'
    exact h l' a b c x f i (G'.mono (by omega))
end
end Ev

set_option Elab.async false
set_option linter.all false
set_option maxRecDepth 100000
set_option maxHeartbeats 4000000
namespace Ev
open PySem PySem.Spec PyProof.Rows L2

section
variable {n t : Nat} {rows : List (List Str)} {st : List Step} {l : List PyData} {s5 s6 s7 s8 s9 s10 s11 s12 s13 : Option PyData}
abbrev T4 : M PyData := orF (notF (mapM (consF (mapM (consF (varF 9) (consF (mapM (consF (varF 1) nilF) (kwF 1 [0] c_rings_of)) nilF)) mkL) (consF (mapM (consF (varF 6) (consF (varF 6) nilF)) mkL) nilF)) fun ds => (callF (c__law_exact 12) ds).bind atomD)) (bind2 (mapM (consF (sumOF 9 (mapM nilF mkL)) nilF) sortedD) (varF 3) neD)
theorem T4_e (g : GW9 n rows st) (no lo : PyData) : T4 (EV l (encWeb rows st) no (nL (List.range n)) lo s5 (some (nLs (rgs st n n))) s7 s8 (some (nLs (rgs st n n))) s10 s11 s12 s13) = some (.bool false, EV l (encWeb rows st) no (nL (List.range n)) lo s5 (some (nLs (rgs st n n))) s7 s8 (some (nLs (rgs st n n))) s10 s11 s12 s13) := by
  have h9 := g.h9
  have hx : Ex false 3 (.list [nLs (rgs st n n), nLs (rgs st n n)]) := .lst (all_cons (rgs_ex (by omega)) (all_cons (rgs_ex (by omega)) all_nil)) (by simp)
  have hfn := rgs_flat_nodup (st := st) (n := n) n
  have hfl : (rgs st n n).flatten.length ≤ n := nodup_len hfn fun a ha => (rgs_flat_mem a).mp ha
  refine orF_f (notF_e (b := true) (mapM_e (consF_e (mapM_e (consF_e (varF_e rfl) (consF_e (mapM_e (consF_e (varF_e rfl) nilF_e) (kwF1 (rings_ok g.g))) nilF_e)) mk2L) (consF_e (mapM_e (consF_e (varF_e rfl) (consF_e (varF_e rfl) nilF_e)) mk2L) nilF_e)) (callA_e (exact_refl hx 12 (by decide))))) (bind2_e (mapM_e (consF_e (sumOF_e (ds := (rgs st n n).map nL) rfl (mapM_e nilF_e mk0L) (sum_nL (by omega))) nilF_e) (nL_sorted_inc (ys := List.range n) (by rw [sizeLine_eq]; omega) hfn List.pairwise_lt_range fun a => by rw [rgs_flat_mem, List.mem_range])) (varF_e rfl) ((nL_ne _ _).trans (by rw [decide_eq_true rfl]; rfl)))
abbrev T5 : M PyData := notF (mapM (consF (mapM (consF (mapM (consF (varF 1) nilF) (callF c_rings_of)) (consF (varF 1) nilF)) mkL) (consF (mapM (consF (varF 6) (consF (varF 2) nilF)) mkL) nilF)) (callF (c__law_exact 12)))
theorem T5_e (g : GW9 n rows st) (ev lo : PyData) : T5 (EV l (encWeb rows st) (encWeb rows st) ev lo s5 (some (nLs (rgs st n n))) s7 s8 s9 s10 s11 s12 s13) = some (.bool false, EV l (encWeb rows st) (encWeb rows st) ev lo s5 (some (nLs (rgs st n n))) s7 s8 s9 s10 s11 s12 s13) := by
  have h9 := g.h9
  have hx : Ex false 7 (.list [nLs (rgs st n n), encWeb rows st]) := .lst (all_cons (rgs_ex (by omega)) (all_cons g.ex all_nil)) (by simp)
  exact notF_e (b := true) (mapM_e (consF_e (mapM_e (consF_e (mapM_e (consF_e (varF_e rfl) nilF_e) (callF_e (rings_ok g.g))) (consF_e (varF_e rfl) nilF_e)) mk2L) (consF_e (mapM_e (consF_e (varF_e rfl) (consF_e (varF_e rfl) nilF_e)) mk2L) nilF_e)) (callF_e (exact_refl hx 12 (by decide))))
theorem right_ok (g : GW9 n rows st) (G : Gen t l) (ht : t + 2000 < 2 ^ 30) : ∃ (d : PyData) (l' : List PyData), c__law_web_right [.list l, encWeb rows st] = some (d, [.list l', encWeb rows st]) ∧ d = .bool true ∧ Gen (t + 1000) l' := by
  have h9 := g.h9
  have hw := g.g.hw
  refine run_lent_wp (k := 1) (fs := fb__law_web_right) rfl ?_
  show wpS fb__law_web_right [some (.list l), some (encWeb rows st), none, none, none, none, none, none, none, none, none, none, none, none, none, none, none, none] _
  unfold fb__law_web_right
  apply wpS_par
  refine wp_of (consF_e (mapM_e (consF_e (varF_e rfl) nilF_e) (callF_e (copied_same g.ex 12 (by decide)))) (consF_e (mapF_e (len_rows g.g.hn (varF_e rfl)) (listRgN (by omega))) nilF_e)) ⟨_, _, rfl, ?_⟩
  apply wpS_asg
  have hc := compF_pure (enc := nI) (l := List.range n) (p := fun _ => true) (h := fun i => nLs (lots st n i n)) (src := seqAF (varF 3)) (asg := nmG 5) (cond := yesF) (elt := mapM (consF (varF 1) (consF (varF 5) nilF)) (callF c__law_behind)) (vs := [5]) (env := [some (.list l), some (encWeb rows st), some (encWeb rows st), some (nL (List.range n)), none, none, none, none, none, none, none, none, none, none, none, none, none, none]) (e1 := [some (.list l), some (encWeb rows st), some (encWeb rows st), some (nL (List.range n)), none, none, none, none, none, none, none, none, none, none, none, none, none, none])
    (seqAF_l (varF_e rfl)) (by rw [List.length_range, sizeLine_eq]; omega) fun i hi => ⟨_, _, rfl, yesF_e, (fun z => nomatch z), fun _ => ⟨_, mapM_e (consF_e (varF_e rfl) (consF_e (varF_e rfl) nilF_e)) (callF_e (behind_ok g (List.mem_range.mp hi))), rfl⟩⟩
  rw [List.filter_eq_self.mpr fun _ _ => rfl] at hc
  refine wp_of hc ?_
  apply wpS_asg
  refine wp_of (mapM_e nilF_e mk0L) ?_
  show wpS _ (EV l (encWeb rows st) (encWeb rows st) (nL (List.range n)) (LT st n) none (some (nLs [])) none none none none none none none) _
  refine rings_loop g fun a b => ?_
  apply wpS_asg
  refine wp_of (mapM_e (consF_e (varF_e rfl) nilF_e) (callF_e (rings_ok g.g))) ?_
  apply wpS_if
  refine wp_of (T4_e g _ _) ⟨_, rfl, (fun z => nomatch z), fun _ => ?_⟩
  apply wpS_skipq
  obtain ⟨xs, r, hxr⟩ := rgs_pos (st := st) g.g.h1
  have hrl := rgs_len (st := st) (n := n) n
  have hxl : xs.length ≤ n := by
    obtain ⟨i, _, rfl⟩ := rgs_from (st := st) (n := n) n xs (by rw [hxr]; simp)
    exact nodup_len ((rg_inc (st := st) (n := n) (i := i)).imp fun h => Nat.ne_of_lt h) fun x hx => (rg_mem.mp hx).1
  refine wpS_appN (ds0 := (rgs st n n).map nL) (ds1 := (rgs st n n).map nL) (ds := (rgs st n n).map nL) (n := 0) (es := xs.map nI) (d := .int 0) rfl conF_e rfl (by rw [hxr]; simp) conF_e rfl (by rw [hxr]; rfl) (by rw [List.length_map, sizeLine_eq]; omega) ?_
  refine wpS_append (l0 := _) rfl (wp_of conF_e ⟨_, rfl, by rw [List.length_set, List.length_map, sizeLine_eq]; omega, ?_⟩)
  apply wpS_if
  refine wp_of (T5_e g _ _) ⟨_, rfl, (fun z => nomatch z), fun _ => ?_⟩
  apply wpS_skipq
  refine spots_loop g G (by omega) fun l' a b c e f i G' => ?_
  apply wpS_ret
  exact wp_of (mapM_e (consF_e (varF_e rfl) (consF_e (varF_e rfl) nilF_e)) (callF_e (exact_refl g.ex 12 (by decide)))) ⟨_, _, l', rfl, rfl, rfl, G'.mono (by omega)⟩
end
end Ev

set_option Elab.async false
set_option linter.all false
set_option maxRecDepth 100000
set_option maxHeartbeats 4000000
namespace Ev
open PySem PySem.Spec PyProof.Rows L2

/-! ### one web, reckoned -/
def wtB (st : List Step) (p : Nat) : Nat → Nat → Bool
  | 0, j => decide (j = p)
  | k + 1, j => wtB st p k j || st.any fun s => wtB st p k s.1 && decide (s.2.2 = j)
section
variable {st : List Step} {n p i j k : Nat}
theorem wtB_iff : ∀ k j, wtB st p k j = true ↔ Wt st p k j
  | 0, j => by unfold wtB; rw [decide_eq_true_eq]; exact Iff.rfl
  | k + 1, j => by
    unfold wtB
    rw [Bool.or_eq_true, wtB_iff k j, List.any_eq_true]
    constructor
    · rintro (h | ⟨s, hs, h⟩)
      · exact .inl h
      · rw [Bool.and_eq_true, wtB_iff k, decide_eq_true_eq] at h
        refine .inr ⟨s.1, h.1, s.2.1, ?_⟩
        rw [← h.2]
        exact hs
    · rintro (h | ⟨u, h, b, hb⟩)
      · exact .inl h
      · exact .inr ⟨(u, b, j), hb, by rw [Bool.and_eq_true, wtB_iff k, decide_eq_true_eq]; exact ⟨h, rfl⟩⟩
def rcB (st : List Step) (n p : Nat) : List Nat := (List.range n).filter (wtB st p n)
def rgB (st : List Step) (n i : Nat) : List Nat := (List.range n).filter fun j => wtB st i n j && wtB st j n i
def rgsB (st : List Step) (n : Nat) : Nat → List (List Nat)
  | 0 => []
  | k + 1 => if rgB st n k ∈ rgsB st n k then rgsB st n k else rgsB st n k ++ [rgB st n k]
def suB (st : List Step) (n i : Nat) : List Nat := (List.range n).filter fun j => st.any fun s => decide (s.1 = i) && decide (s.2.2 = j)
theorem rch_iff (hw : InW st n) (hp : p < n) : Rch st p j ↔ wtB st p n j = true := by
  rw [wtB_iff]
  exact ⟨wt_all hw hp, fun h => h.rch⟩
theorem rc_eq (hw : InW st n) (hp : p < n) : rc st n p = rcB st n p := inc_ext rc_inc (inc_filter n _) fun a => by
  unfold rcB
  rw [rc_mem hw hp, List.mem_filter, List.mem_range, rch_iff hw hp]
  exact ⟨fun h => ⟨((rch_iff hw hp).mpr h).lt hw hp, h⟩, fun h => h.2⟩
theorem rg_eqB (hw : InW st n) (hp : p < n) : rg st n p = rgB st n p := inc_ext rg_inc (inc_filter n _) fun a => by
  unfold rgB
  rw [rg_mem, List.mem_filter, List.mem_range, Bool.and_eq_true]
  constructor
  · rintro ⟨h1, h2, h3⟩
    exact ⟨h1, (rch_iff hw hp).mp h2, (rch_iff hw h1).mp h3⟩
  · rintro ⟨h1, h2, h3⟩
    exact ⟨h1, (rch_iff hw hp).mpr h2, (rch_iff hw h1).mpr h3⟩
theorem rgs_eqB (hw : InW st n) : ∀ k, k ≤ n → rgs st n k = rgsB st n k
  | 0, _ => rfl
  | k + 1, h => by
    unfold rgs rgsB
    rw [rgs_eqB hw k (by omega), rg_eqB hw (by omega)]
theorem su_eqB (hw : InW st n) : su st i = suB st n i := inc_ext su_inc (inc_filter n _) fun a => by
  unfold suB
  rw [su_mem, List.mem_filter, List.mem_range, List.any_eq_true]
  constructor
  · intro e
    refine ⟨(hw.edge e).2, ?_⟩
    obtain ⟨b, hb⟩ := e
    exact ⟨_, hb, by simp⟩
  · rintro ⟨_, s, hs, h⟩
    rw [Bool.and_eq_true, decide_eq_true_eq, decide_eq_true_eq] at h
    refine ⟨s.2.1, ?_⟩
    rw [← h.1, ← h.2]
    exact hs
end
abbrev rows0 : List (List Str) := [["p"], [], ["q"], []]
abbrev st0 : List Step := [(0, "go", 1), (0, "stay", 0), (1, "go", 2), (2, "go", 1), (2, "halt", 3)]
abbrev webD0 : PyData := .tuple [.list [.list [.str "p"], .list [], .list [.str "q"], .list []], .list [.tuple [.int 0, .str "go", .int 1], .tuple [.int 0, .str "stay", .int 0], .tuple [.int 1, .str "go", .int 2], .tuple [.int 2, .str "go", .int 1], .tuple [.int 2, .str "halt", .int 3]]]
theorem W0_eq : encWeb rows0 st0 = webD0 := rfl
theorem st0_in : InW st0 4 := by
  intro s hs
  have : ∀ s ∈ st0, s.1 < 4 ∧ s.2.2 < 4 := by decide
  exact this s hs
theorem W0_fit : Fit (encWeb rows0 st0) := by
  have hS : ∀ (i j : Int) (w : Str), w.length ≤ 1000 → Ex true 4 (.tuple [.int i, .str w, .int j]) := fun i j w h => .tup (all_cons (.int _) (all_cons (.str h) (all_cons (.int _) all_nil))) (by simp)
  have : Ex true 6 webD0 := .tup (all_cons (.lst (all_cons (.lst (all_cons (.str (by decide +kernel)) all_nil) (by simp)) (all_cons (.lst all_nil (by simp)) (all_cons (.lst (all_cons (.str (by decide +kernel)) all_nil) (by simp)) (all_cons (.lst all_nil (by simp)) all_nil)))) (by simp))
    (all_cons (.lst (all_cons (hS _ _ _ (by decide +kernel)) (all_cons (hS _ _ _ (by decide +kernel)) (all_cons (hS _ _ _ (by decide +kernel)) (all_cons (hS _ _ _ (by decide +kernel)) (all_cons (hS _ _ _ (by decide +kernel)) all_nil))))) (by simp)) all_nil)) (by simp)
  exact this.fit
theorem W0_gw : GW 4 rows0 st0 := ⟨rfl, by decide, by decide, st0_in, by decide, by decide +kernel, W0_fit⟩
theorem nears0 : c_nears_in [webD0] = some (nLs [[0, 1], [2], [1, 3], []], [webD0]) := by
  have h := W0_gw.nears
  have e : (List.range 4).map (su st0) = [[0, 1], [2], [1, 3], []] := by
    have : (List.range 4).map (su st0) = (List.range 4).map (suB st0 4) := List.map_congr_left fun i _ => su_eqB st0_in
    rw [this]
    decide
  rw [e] at h
  exact h
theorem reach0 : c_reached [webD0, .int 1] = some (.list [.int 1, .int 2, .int 3], [webD0, .int 1]) := by
  have h := reach_ok W0_gw (p := 1) (by decide)
  rw [rc_eq st0_in (by decide), show rcB st0 4 1 = [1, 2, 3] by decide] at h
  exact h
theorem rings0 : c_rings_of [webD0] = some (.list [.list [.int 0], .list [.int 1, .int 2], .list [.int 3]], [webD0]) := by
  have h := rings_ok W0_gw
  rw [rgs_eqB st0_in 4 (Nat.le_refl _), show rgsB st0 4 4 = [[0], [1, 2], [3]] by decide] at h
  exact h
theorem closed0 : c_is_closed [webD0, .list [.int 1, .int 2]] = some (.bool false, [webD0, .list [.int 1, .int 2]]) := by
  have h := closed_ok (lot := [1, 2]) W0_gw (by decide) (by decide)
  rw [show clB st0 [1, 2] = false by decide] at h
  exact h
theorem closed1 : c_is_closed [webD0, .list []] = some (.bool true, [webD0, .list []]) := by
  have h := closed_ok (lot := []) W0_gw (by decide) (by decide)
  rw [show clB st0 [] = true by decide] at h
  exact h
theorem par3F_e {fa fb fc : M PyData} {env e1 e2 e3 : Env} {i j l : Nat} {x y z : PyData} (h1 : fa env = some (x, e1)) (h2 : fb e1 = some (y, e2)) (h3 : fc e2 = some (z, e3)) : par3F i j l fa fb fc env = some (.nx (((e3.set l (some z)).set j (some y)).set i (some x))) := by
  unfold par3F
  rw [h1]
  simp only [Option.bind_some]
  rw [h2]
  simp only [Option.bind_some]
  rw [h3]
  rfl
end Ev

set_option Elab.async false
set_option linter.all false
set_option maxRecDepth 100000
set_option maxHeartbeats 4000000
namespace Ev
open PySem PySem.Spec PyProof.Rows L2

abbrev restW : Env → Option Fl := (seqS (asgS 6 (conF (.int 0)))
  (seqS (goW (bind2 (varF 6) (mapM (consF (varF 5) nilF) lenD) ltD) (seqS (parS 7 6 (consF (bind2 (varF 5) (varF 6) ixD) (consF (bind2 (varF 6) (conF (.int 1)) addD) nilF)))
  (seqS (ifS (bind2 (varF 7) (varF 2) (inD false)) (seqS (retS (mapM (consF (varF 4) (consF (varF 7) nilF)) (callF c_way_back)))
  skipS) skipS)
  (seqS (forS (seqAF (bind2 (varF 3) (varF 7) ixD)) (nmG 8) (seqS (ifS (bind2 (varF 8) (varF 4) (inAD true)) (seqS (dputS 4 (varF 7) (varF 8))
  (seqS (appendS 5 (varF 8))
  skipS)) skipS)
  skipS))
  skipS))) 1000)
  (seqS (retS (conF .none))
  skipS)))
def rtD : Option Fl → Option PyData
  | some (.rt d _) => some d
  | _ => none
theorem rtD_some {o : Option Fl} {d : PyData} (h : rtD o = some d) : ∃ e, o = some (.rt d e) := by
  unfold rtD at h
  split at h
  · cases h; exact ⟨_, rfl⟩
  · cases h
theorem chk_a {p : Nat} (hp : p < 4) : c_check_web_place [webD0, nI p] = some (.none, [webD0, nI p]) := by
  have h := check_wp_ok W0_gw hp
  rw [W0_eq] at h
  exact h
theorem chk_b {lot : List Nat} (hl : Inc lot) (hb : ∀ x ∈ lot, x < 4) : c_check_lot [webD0, nL lot] = some (.none, [webD0, nL lot]) := by
  have h := check_lot_ok W0_gw hl hb
  rw [W0_eq] at h
  exact h
theorem dict0 {p : Nat} {env : Env} (h : env[1]? = some (some (nI p))) : mapM (consP (varF 1) (conF .none) nilP) mkD env = some (.dict [(nI p, .none)], env) := by
  refine mapM_e (a := [(nI p, .none)]) ?_ rfl
  unfold consP
  rw [varF_e h]
  rfl
theorem way_run {p : Nat} {lot : List Nat} {d : PyData} (hp : p < 4) (hl : Inc lot) (hb : ∀ x ∈ lot, x < 4) (h : rtD (restW [some webD0, some (nI p), some (nL lot), some (nLs [[0, 1], [2], [1, 3], []]), some (.dict [(nI p, .none)]), some (nL [p]), none, none, none]) = some d) : c_way_to [webD0, nI p, nL lot] = some (d, [webD0, nI p, nL lot]) := by
  obtain ⟨e, he⟩ := rtD_some h
  have h1 := chk_a hp
  have h2 := chk_b hl hb
  have h3 := nears0
  generalize webD0 = w at he h1 h2 h3 ⊢
  generalize nLs [[0, 1], [2], [1, 3], []] = nr at he h3
  refine run_rt (fs := fb_way_to) (e1 := e) rfl rfl ?_
  show fb_way_to [some w, some (nI p), some (nL lot), none, none, none, none, none, none] = _
  unfold fb_way_to
  have h4 : par3F 3 4 5 (mapM (consF (varF 0) nilF) (callF c_nears_in)) (mapM (consP (varF 1) (conF .none) nilP) mkD) (mapM (consF (varF 1) nilF) mkL) [some w, some (nI p), some (nL lot), none, none, none, none, none, none] = some (.nx [some w, some (nI p), some (nL lot), some nr, some (.dict [(nI p, .none)]), some (nL [p]), none, none, none]) :=
    par3F_e (mapM_e (consF_e (varF_e rfl) nilF_e) (callF_e h3)) (dict0 rfl) (mapM_e (consF_e (varF_e rfl) nilF_e) mk1L)
  exact seqS_n (exprS_e (mapM_e (consF_e (varF_e rfl) (consF_e (varF_e rfl) nilF_e)) (callF_e h1))) (seqS_n (exprS_e (mapM_e (consF_e (varF_e rfl) (consF_e (varF_e rfl) nilF_e)) (callF_e h2))) (seqS_n h4 he))
theorem way_a : c_way_to [webD0, .int 0, .list [.int 3]] = some (.list [.int 0, .int 1, .int 2, .int 3], [webD0, .int 0, .list [.int 3]]) := way_run (p := 0) (lot := [3]) (by decide) (by decide) (by decide) (by kernel_rfl)
theorem way_b : c_way_to [webD0, .int 3, .list [.int 0]] = some (.none, [webD0, .int 3, .list [.int 0]]) := way_run (p := 3) (lot := [0]) (by decide) (by decide) (by decide) (by kernel_rfl)
theorem way_c : c_way_to [webD0, .int 2, .list [.int 2, .int 3]] = some (.list [.int 2], [webD0, .int 2, .list [.int 2, .int 3]]) := way_run (p := 2) (lot := [2, 3]) (by decide) (by decide) (by decide) (by kernel_rfl)
/-! ### the law -/
abbrev EK (S : PyData) (l : List PyData) (a b c : Option PyData) : Env := [some S, some (.list l), a, b, c]
theorem law_main (ns : List Int) (h : ns.length ≤ 63) : ∃ outs, c_law [.list (ns.map .int)] = some (.bool true, outs) := by
  obtain ⟨l0, o, hg, G0⟩ := generator_ok ns
  suffices hh : ∃ d, c_law [.list (ns.map .int)] = some (d, [.list (ns.map .int)]) ∧ d = .bool true by
    obtain ⟨d, h1, rfl⟩ := hh
    exact ⟨_, h1⟩
  refine run_wp (fs := fb_law) (by decide) rfl ?_
  show wpS fb_law [some (.list (ns.map .int)), none, none, none, none] _
  unfold fb_law
  generalize PyData.list (ns.map .int) = S at hg
  apply wpS_asg
  refine wp_of (a := .list l0) (mapM_e (consF_e (varF_e rfl) (consF_e conF_e nilF_e)) (callF_e hg)) ?_
  apply wpS_for (I := fun k e => ∃ l a b, e = EK S l a b none ∧ Gen (40000 * k) l)
  refine wp_of (mapM_e (consF_e conF_e nilF_e) (rng1_ok (n := 5) (by decide))) ⟨⟨l0, none, none, rfl, G0⟩, fun k d e hd ⟨l, a, b, he, G⟩ => ?_, fun e ⟨l, a, b, he, G⟩ => ?_⟩
  · subst he
    have hk : k < 5 := by
      have := (List.getElem?_eq_some_iff.mp hd).1
      simpa using this
    refine ⟨EK S l (some d) b none, rfl, ?_⟩
    obtain ⟨rows, st, l1, h1, D, G1⟩ := drawn9 G (by omega)
    obtain ⟨_, l2, h2, rows2, st2, rfl, g2, G2⟩ := long_ok G1 (by omega)
    have hall : ∀ x ∈ [encWeb rows st, encWeb rows2 st2], ∃ r s, x = encWeb r s ∧ GW9 r.length r s := all_cons ⟨rows, st, rfl, D.gw⟩ (all_cons ⟨rows2, st2, rfl, g2⟩ all_nil)
    apply wpS_for (I := fun j e => ∃ l b, e = EK S l (some d) b none ∧ Gen (40000 * k + 30000 + 1000 * j) l)
    refine wp_of (seqAF_l (l := [encWeb rows st, encWeb rows2 st2]) (mapM_e (consF_e (lendF_e (e1 := EK S l (some d) b none) rfl (consF_e conF_e (consF_e (mapM_e (consF_e conF_e nilF_e) mk1L) (consF_e (mapM_e (consF_e conF_e (consF_e conF_e nilF_e)) mk2L) nilF_e))) rfl h1) (consF_e (lendF_e (e1 := EK S l1 (some d) b none) rfl nilF_e rfl h2) nilF_e)) mk2L)) ⟨⟨l2, b, rfl, G2.mono (by omega)⟩, fun j x e hx ⟨l, b, he, G⟩ => ?_, fun e ⟨l, b, he, G⟩ => ?_⟩
    · subst he
      have hj : j < 2 := by
        have := (List.getElem?_eq_some_iff.mp hx).1
        simpa using this
      obtain ⟨r, s, rfl, g⟩ := hall x (List.mem_of_getElem? hx)
      obtain ⟨_, l', h3, rfl, G3⟩ := right_ok g G (by omega)
      refine ⟨EK S l (some d) (some (encWeb r s)) none, rfl, ?_⟩
      apply wpS_if
      refine wp_of (notF_e (b := true) (lendF_e (e1 := EK S l (some d) (some (encWeb r s)) none) rfl (consF_e (varF_e rfl) nilF_e) rfl h3)) ⟨_, rfl, (fun z => nomatch z), fun _ => ?_⟩
      apply wpS_skipq
      exact ⟨.nx _, rfl, .inl ⟨_, .inl rfl, l', _, rfl, G3.mono (by omega)⟩⟩
    · subst he
      exact ⟨.nx _, rfl, .inl ⟨_, .inl rfl, l, _, _, rfl, G.mono (by simp; omega)⟩⟩
  · subst he
    apply wpS_asg
    refine wp_of (a := webD0) (e1 := EK S l a b none) (by kernel_rfl) ?_
    apply wpS_asg
    refine wp_of (mapM_e (consF_e (mapM_e (consF_e (varF_e rfl) (consF_e conF_e nilF_e)) (callF_e reach0)) (consF_e (mapM_e (consF_e (varF_e rfl) nilF_e) (callF_e rings0)) (consF_e (mapM_e (consF_e (varF_e rfl) (consF_e (mapM_e (consF_e conF_e (consF_e conF_e nilF_e)) mk2L) nilF_e)) (callF_e closed0)) (consF_e (mapM_e (consF_e (varF_e rfl) (consF_e (mapM_e nilF_e mk0L) nilF_e)) (callF_e closed1)) (consF_e (mapM_e (consF_e (varF_e rfl) (consF_e conF_e (consF_e (mapM_e (consF_e conF_e nilF_e) mk1L) nilF_e))) (callF_e way_a)) (consF_e (mapM_e (consF_e (varF_e rfl) (consF_e conF_e (consF_e (mapM_e (consF_e conF_e nilF_e) mk1L) nilF_e))) (callF_e way_b)) (consF_e (mapM_e (consF_e (varF_e rfl) (consF_e conF_e (consF_e (mapM_e (consF_e conF_e (consF_e conF_e nilF_e)) mk2L) nilF_e))) (callF_e way_c)) nilF_e))))))) (mkL_e (by rw [sizeLine_eq]; show 7 ≤ 16777216; decide))) ?_
    apply wpS_ret
    refine wp_of (a := .bool true) (e1 := EK S l a (some webD0) (some (.list [.list [.int 1, .int 2, .int 3], .list [.list [.int 0], .list [.int 1, .int 2], .list [.int 3]], .bool false, .bool true, .list [.int 0, .int 1, .int 2, .int 3], .none, .list [.int 2]]))) (by kernel_rfl) ?_
    exact ⟨_, _, rfl, rfl⟩
end Ev

set_option Elab.async false
set_option linter.all false
set_option maxRecDepth 100000
set_option maxHeartbeats 0
namespace Ev
open PySem PySem.Spec PyProof.Rows L2
/-! ### the head -/
def dd_is_whole : He.DefD := ⟨("is_whole", none), "is_whole", "is_whole", defArgs s_is_whole, defBody s_is_whole, defScope s_is_whole, [], []⟩
def dd_is_below : He.DefD := ⟨("is_below", none), "is_below", "is_below", defArgs s_is_below, defBody s_is_below, defScope s_is_below, [], []⟩
def dd_is_rising : He.DefD := ⟨("is_rising", none), "is_rising", "is_rising", defArgs s_is_rising, defBody s_is_rising, defScope s_is_rising, [], []⟩
def dd_are_ascending : He.DefD := ⟨("are_ascending", none), "are_ascending", "are_ascending", defArgs s_are_ascending, defBody s_are_ascending, defScope s_are_ascending, [], []⟩
def dd_is_word : He.DefD := ⟨("is_word", none), "is_word", "is_word", defArgs s_is_word, defBody s_is_word, defScope s_is_word, [], []⟩
def dd_are_words : He.DefD := ⟨("are_words", none), "are_words", "are_words", defArgs s_are_words, defBody s_are_words, defScope s_are_words, [], []⟩
def dd_is_step : He.DefD := ⟨("is_step", none), "is_step", "is_step", defArgs s_is_step, defBody s_is_step, defScope s_is_step, [], []⟩
def dd_is_web_in : He.DefD := ⟨("is_web_in", none), "is_web_in", "is_web_in", defArgs s_is_web_in, defBody s_is_web_in, defScope s_is_web_in, [], []⟩
def dd_check_web : He.DefD := ⟨("check_web", none), "check_web", "check_web", defArgs s_check_web, defBody s_check_web, defScope s_check_web, [], []⟩
def dd_check_place : He.DefD := ⟨("check_place", none), "check_place", "check_place", defArgs s_check_place, defBody s_check_place, defScope s_check_place, [], []⟩
def dd_check_lot : He.DefD := ⟨("check_lot", none), "check_lot", "check_lot", defArgs s_check_lot, defBody s_check_lot, defScope s_check_lot, [], []⟩
def dd_check_web_place : He.DefD := ⟨("check_web_place", none), "check_web_place", "check_web_place", defArgs s_check_web_place, defBody s_check_web_place, defScope s_check_web_place, [], []⟩
def dd_check_web_lot : He.DefD := ⟨("check_web_lot", none), "check_web_lot", "check_web_lot", defArgs s_check_web_lot, defBody s_check_web_lot, defScope s_check_web_lot, [], []⟩
def dd_nears_in : He.DefD := ⟨("nears_in", none), "nears_in", "nears_in", defArgs s_nears_in, defBody s_nears_in, defScope s_nears_in, [], []⟩
def dd_reached_in : He.DefD := ⟨("reached_in", none), "reached_in", "reached_in", defArgs s_reached_in, defBody s_reached_in, defScope s_reached_in, [], []⟩
def dd_reached : He.DefD := ⟨("reached", none), "reached", "reached", defArgs s_reached, defBody s_reached, defScope s_reached, [], []⟩
def dd_rings_of : He.DefD := ⟨("rings_of", none), "rings_of", "rings_of", defArgs s_rings_of, defBody s_rings_of, defScope s_rings_of, [], []⟩
def dd_is_closed : He.DefD := ⟨("is_closed", none), "is_closed", "is_closed", defArgs s_is_closed, defBody s_is_closed, defScope s_is_closed, [], []⟩
def dd_way_back : He.DefD := ⟨("way_back", none), "way_back", "way_back", defArgs s_way_back, defBody s_way_back, defScope s_way_back, [], []⟩
def dd_way_to : He.DefD := ⟨("way_to", none), "way_to", "way_to", defArgs s_way_to, defBody s_way_to, defScope s_way_to, [], []⟩
def dd__law_hash : He.DefD := ⟨("_law_hash", none), "_law_hash", "_law_hash", defArgs s__law_hash, defBody s__law_hash, defScope s__law_hash, [], []⟩
def dd__law_random : He.DefD := ⟨("_law_random", none), "_law_random", "_law_random", defArgs s__law_random, defBody s__law_random, defScope s__law_random, [], []⟩
def dd__law_cell : He.DefD := ⟨("_law_cell", none), "_law_cell", "_law_cell", defArgs s__law_cell, defBody s__law_cell, defScope s__law_cell, [], []⟩
def dd__law_generator : He.DefD := ⟨("_law_generator", none), "_law_generator", "_law_generator", defArgs s__law_generator, defBody s__law_generator, defScope s__law_generator, [], []⟩
def dd__law_pick : He.DefD := ⟨("_law_pick", none), "_law_pick", "_law_pick", defArgs s__law_pick, defBody s__law_pick, defScope s__law_pick, [], []⟩
def dd__law_exact : He.DefD := ⟨("_law_exact", none), "_law_exact", "_law_exact", defArgs s__law_exact, defBody s__law_exact, defScope s__law_exact, [], []⟩
def dd__law_copied : He.DefD := ⟨("_law_copied", none), "_law_copied", "_law_copied", defArgs s__law_copied, defBody s__law_copied, defScope s__law_copied, [], []⟩
def dd__law_drawn_web : He.DefD := ⟨("_law_drawn_web", none), "_law_drawn_web", "_law_drawn_web", defArgs s__law_drawn_web, defBody s__law_drawn_web, defScope s__law_drawn_web, [], []⟩
def dd__law_far : He.DefD := ⟨("_law_far", none), "_law_far", "_law_far", defArgs s__law_far, defBody s__law_far, defScope s__law_far, [], []⟩
def dd__law_long_web : He.DefD := ⟨("_law_long_web", none), "_law_long_web", "_law_long_web", defArgs s__law_long_web, defBody s__law_long_web, defScope s__law_long_web, [], []⟩
def dd__law_behind : He.DefD := ⟨("_law_behind", none), "_law_behind", "_law_behind", defArgs s__law_behind, defBody s__law_behind, defScope s__law_behind, [], []⟩
def dd__law_is_way : He.DefD := ⟨("_law_is_way", none), "_law_is_way", "_law_is_way", defArgs s__law_is_way, defBody s__law_is_way, defScope s__law_is_way, [], []⟩
def dd__law_web_right : He.DefD := ⟨("_law_web_right", none), "_law_web_right", "_law_web_right", defArgs s__law_web_right, defBody s__law_web_right, defScope s__law_web_right, [], []⟩
def dd_law : He.DefD := ⟨("law", none), "law", "law", defArgs s_law, defBody s_law, defScope s_law, [], []⟩
def hfn0 : List He.DefD := [dd_is_whole, dd_is_below, dd_is_rising, dd_are_ascending, dd_is_word, dd_are_words, dd_is_step, dd_is_web_in, dd_check_web, dd_check_place, dd_check_lot, dd_check_web_place, dd_check_web_lot, dd_nears_in, dd_reached_in, dd_reached, dd_rings_of, dd_is_closed, dd_way_back, dd_way_to, dd__law_hash, dd__law_random, dd__law_cell, dd__law_generator, dd__law_pick, dd__law_exact, dd__law_copied, dd__law_drawn_web, dd__law_far, dd__law_long_web]
def hfn1 : List He.DefD := [dd__law_behind, dd__law_is_way, dd__law_web_right, dd_law]
def hfn : List He.DefD := hfn0 ++ hfn1
def hfa0 : List He.Fa := [.glo "is_whole", .glo "is_below", .glo "is_rising", .glo "are_ascending", .glo "is_word", .glo "are_words", .glo "is_step", .glo "is_web_in", .glo "check_web", .glo "check_place", .glo "check_lot", .glo "check_web_place", .glo "check_web_lot", .glo "nears_in", .glo "reached_in", .glo "reached", .glo "rings_of", .glo "is_closed", .glo "way_back", .glo "way_to", .glo "_law_hash", .glo "_law_random", .glo "_law_cell", .glo "_law_generator", .glo "_law_pick", .glo "_law_exact", .glo "_law_copied", .glo "_law_drawn_web", .glo "_law_far", .glo "_law_long_web"]
def hfa1 : List He.Fa := [.glo "_law_behind", .glo "_law_is_way", .glo "_law_web_right", .glo "law", .free "all", .free "bool", .free "dict", .free "enumerate", .free "int", .free "isinstance", .free "len", .free "list", .free "max", .free "range", .free "set", .free "sorted", .free "str", .free "sum", .free "tuple", .glo "CLOSED", .glo "CLOSED_TOO", .str "FIGURES" "0123456789", .str "LETTERS" "abcdefghijklmnopqrstuvwxyz", .int "MOST_MARKS" 20, .int "MOST_PLACES" 60, .int "MOST_SIGNS" 8, .int "MOST_STEPS" 400]
def hfa : List He.Fa := hfa0 ++ hfa1
def hex (K : PySem.W.Frag) : Bool := He.tupB K "CLOSED" [(.str "yes"), (.str "no"), (.str "not"), (.str "and"), (.str "or"), (.str "some"), (.str "all"), (.str "any"), (.str "least"), (.str "great")] && He.tupB K "CLOSED_TOO" [(.str "next"), (.str "until"), (.str "unless"), (.str "always"), (.str "ever"), (.str "way"), (.str "place"), (.str "step"), (.str "state")]
abbrev hk : PySem.W.Hook := He.hookX 4 hfa hfn [] [] hex
def ob (s : PySem.W.SharedT) : He.AlX := He.obsX 4 hfa hfn [] [] hex (HandSHeadRun.getT s)
theorem ob_eq (s : PySem.W.SharedT) : ob s = hk.obs s.abs := He.obsX_eq (HandSHeadRun.getT_eq s)
abbrev hR : PySem.W.OpenRow := PySem.W.OpenLaw.row PySem.Challenge.rw_everheld_k04_whole_reached_rings_and_way
def hlo0 : List Str := ["HeldError", "InvalidWeb", "InvalidPlace", "InvalidSet", "LETTERS", "FIGURES", "MOST_SIGNS", "CLOSED", "CLOSED_TOO", "is_whole", "is_below", "is_rising", "are_ascending", "is_word", "are_words", "MOST_PLACES", "MOST_STEPS", "MOST_MARKS", "is_step", "is_web_in", "check_web", "check_place", "check_lot", "check_web_place", "check_web_lot", "nears_in", "reached_in", "reached", "rings_of", "is_closed"]
def hlo1 : List Str := ["way_to", "way_back", "_law_hash", "_law_random", "_law_cell", "_law_generator", "_law_pick", "_law_exact", "_law_copied", "_law_drawn_web", "_law_far", "_law_long_web", "_law_behind", "_law_is_way", "_law_web_right"]
def hlo : List Str := hlo0 ++ hlo1
theorem hrun (w : World) : HandSHeadRun.RunEq hR (PySem.W.view hR.prog [49]) hk ob 6000 hlo w := by
  intro os
  kernel_rfl
-- @@ facts
section
variable {P : Program} {w : World} {K : PySem.W.Frag} {h : Heap} {mg : Str → Option Value}
theorem bk_of (X : K.In h) (G : h.Ns mainGlobals mg) (c : He.SaysX hfa hfn [] [] hex w h K) : Bk K mg := by
  have cd := c.t.d
  have ce : hex K = true := c.more
  unfold hex at ce
  simp only [Bool.and_eq_true] at ce
  obtain ⟨e0, e1⟩ := ce
  obtain ⟨fd_is_whole, F_is_whole⟩ := cd.def_ 0 (d := dd_is_whole) rfl
  obtain ⟨fd_is_below, F_is_below⟩ := cd.def_ 1 (d := dd_is_below) rfl
  obtain ⟨fd_is_rising, F_is_rising⟩ := cd.def_ 2 (d := dd_is_rising) rfl
  obtain ⟨fd_are_ascending, F_are_ascending⟩ := cd.def_ 3 (d := dd_are_ascending) rfl
  obtain ⟨fd_is_word, F_is_word⟩ := cd.def_ 4 (d := dd_is_word) rfl
  obtain ⟨fd_are_words, F_are_words⟩ := cd.def_ 5 (d := dd_are_words) rfl
  obtain ⟨fd_is_step, F_is_step⟩ := cd.def_ 6 (d := dd_is_step) rfl
  obtain ⟨fd_is_web_in, F_is_web_in⟩ := cd.def_ 7 (d := dd_is_web_in) rfl
  obtain ⟨fd_check_web, F_check_web⟩ := cd.def_ 8 (d := dd_check_web) rfl
  obtain ⟨fd_check_place, F_check_place⟩ := cd.def_ 9 (d := dd_check_place) rfl
  obtain ⟨fd_check_lot, F_check_lot⟩ := cd.def_ 10 (d := dd_check_lot) rfl
  obtain ⟨fd_check_web_place, F_check_web_place⟩ := cd.def_ 11 (d := dd_check_web_place) rfl
  obtain ⟨fd_check_web_lot, F_check_web_lot⟩ := cd.def_ 12 (d := dd_check_web_lot) rfl
  obtain ⟨fd_nears_in, F_nears_in⟩ := cd.def_ 13 (d := dd_nears_in) rfl
  obtain ⟨fd_reached_in, F_reached_in⟩ := cd.def_ 14 (d := dd_reached_in) rfl
  obtain ⟨fd_reached, F_reached⟩ := cd.def_ 15 (d := dd_reached) rfl
  obtain ⟨fd_rings_of, F_rings_of⟩ := cd.def_ 16 (d := dd_rings_of) rfl
  obtain ⟨fd_is_closed, F_is_closed⟩ := cd.def_ 17 (d := dd_is_closed) rfl
  obtain ⟨fd_way_back, F_way_back⟩ := cd.def_ 18 (d := dd_way_back) rfl
  obtain ⟨fd_way_to, F_way_to⟩ := cd.def_ 19 (d := dd_way_to) rfl
  obtain ⟨fd__law_hash, F__law_hash⟩ := cd.def_ 20 (d := dd__law_hash) rfl
  obtain ⟨fd__law_random, F__law_random⟩ := cd.def_ 21 (d := dd__law_random) rfl
  obtain ⟨fd__law_cell, F__law_cell⟩ := cd.def_ 22 (d := dd__law_cell) rfl
  obtain ⟨fd__law_generator, F__law_generator⟩ := cd.def_ 23 (d := dd__law_generator) rfl
  obtain ⟨fd__law_pick, F__law_pick⟩ := cd.def_ 24 (d := dd__law_pick) rfl
  obtain ⟨fd__law_exact, F__law_exact⟩ := cd.def_ 25 (d := dd__law_exact) rfl
  obtain ⟨fd__law_copied, F__law_copied⟩ := cd.def_ 26 (d := dd__law_copied) rfl
  obtain ⟨fd__law_drawn_web, F__law_drawn_web⟩ := cd.def_ 27 (d := dd__law_drawn_web) rfl
  obtain ⟨fd__law_far, F__law_far⟩ := cd.def_ 28 (d := dd__law_far) rfl
  obtain ⟨fd__law_long_web, F__law_long_web⟩ := cd.def_ 29 (d := dd__law_long_web) rfl
  obtain ⟨fd__law_behind, F__law_behind⟩ := cd.def_ 30 (d := dd__law_behind) rfl
  obtain ⟨fd__law_is_way, F__law_is_way⟩ := cd.def_ 31 (d := dd__law_is_way) rfl
  obtain ⟨fd__law_web_right, F__law_web_right⟩ := cd.def_ 32 (d := dd__law_web_right) rfl
  obtain ⟨fd_law, F_law⟩ := cd.def_ 33 (d := dd_law) rfl
  exact ⟨⟨⟨_, _, F_is_whole, He.glo_ok X G (cd.fact 0 (f := .glo "is_whole") rfl)⟩⟩,
    ⟨⟨_, _, F_is_below, He.glo_ok X G (cd.fact 1 (f := .glo "is_below") rfl)⟩⟩,
    ⟨⟨_, _, F_is_rising, He.glo_ok X G (cd.fact 2 (f := .glo "is_rising") rfl)⟩⟩,
    ⟨⟨_, _, F_are_ascending, He.glo_ok X G (cd.fact 3 (f := .glo "are_ascending") rfl)⟩⟩,
    ⟨⟨_, _, F_is_word, He.glo_ok X G (cd.fact 4 (f := .glo "is_word") rfl)⟩⟩,
    ⟨⟨_, _, F_are_words, He.glo_ok X G (cd.fact 5 (f := .glo "are_words") rfl)⟩⟩,
    ⟨⟨_, _, F_is_step, He.glo_ok X G (cd.fact 6 (f := .glo "is_step") rfl)⟩⟩,
    ⟨⟨_, _, F_is_web_in, He.glo_ok X G (cd.fact 7 (f := .glo "is_web_in") rfl)⟩⟩,
    ⟨⟨_, _, F_check_web, He.glo_ok X G (cd.fact 8 (f := .glo "check_web") rfl)⟩⟩,
    ⟨⟨_, _, F_check_place, He.glo_ok X G (cd.fact 9 (f := .glo "check_place") rfl)⟩⟩,
    ⟨⟨_, _, F_check_lot, He.glo_ok X G (cd.fact 10 (f := .glo "check_lot") rfl)⟩⟩,
    ⟨⟨_, _, F_check_web_place, He.glo_ok X G (cd.fact 11 (f := .glo "check_web_place") rfl)⟩⟩,
    ⟨⟨_, _, F_check_web_lot, He.glo_ok X G (cd.fact 12 (f := .glo "check_web_lot") rfl)⟩⟩,
    ⟨⟨_, _, F_nears_in, He.glo_ok X G (cd.fact 13 (f := .glo "nears_in") rfl)⟩⟩,
    ⟨⟨_, _, F_reached_in, He.glo_ok X G (cd.fact 14 (f := .glo "reached_in") rfl)⟩⟩,
    ⟨⟨_, _, F_reached, He.glo_ok X G (cd.fact 15 (f := .glo "reached") rfl)⟩⟩,
    ⟨⟨_, _, F_rings_of, He.glo_ok X G (cd.fact 16 (f := .glo "rings_of") rfl)⟩⟩,
    ⟨⟨_, _, F_is_closed, He.glo_ok X G (cd.fact 17 (f := .glo "is_closed") rfl)⟩⟩,
    ⟨⟨_, _, F_way_back, He.glo_ok X G (cd.fact 18 (f := .glo "way_back") rfl)⟩⟩,
    ⟨⟨_, _, F_way_to, He.glo_ok X G (cd.fact 19 (f := .glo "way_to") rfl)⟩⟩,
    ⟨⟨_, _, F__law_hash, He.glo_ok X G (cd.fact 20 (f := .glo "_law_hash") rfl)⟩⟩,
    ⟨⟨_, _, F__law_random, He.glo_ok X G (cd.fact 21 (f := .glo "_law_random") rfl)⟩⟩,
    ⟨⟨_, _, F__law_cell, He.glo_ok X G (cd.fact 22 (f := .glo "_law_cell") rfl)⟩⟩,
    ⟨⟨_, _, F__law_generator, He.glo_ok X G (cd.fact 23 (f := .glo "_law_generator") rfl)⟩⟩,
    ⟨⟨_, _, F__law_pick, He.glo_ok X G (cd.fact 24 (f := .glo "_law_pick") rfl)⟩⟩,
    ⟨⟨_, _, F__law_exact, He.glo_ok X G (cd.fact 25 (f := .glo "_law_exact") rfl)⟩⟩,
    ⟨⟨_, _, F__law_copied, He.glo_ok X G (cd.fact 26 (f := .glo "_law_copied") rfl)⟩⟩,
    ⟨⟨_, _, F__law_drawn_web, He.glo_ok X G (cd.fact 27 (f := .glo "_law_drawn_web") rfl)⟩⟩,
    ⟨⟨_, _, F__law_far, He.glo_ok X G (cd.fact 28 (f := .glo "_law_far") rfl)⟩⟩,
    ⟨⟨_, _, F__law_long_web, He.glo_ok X G (cd.fact 29 (f := .glo "_law_long_web") rfl)⟩⟩,
    ⟨⟨_, _, F__law_behind, He.glo_ok X G (cd.fact 30 (f := .glo "_law_behind") rfl)⟩⟩,
    ⟨⟨_, _, F__law_is_way, He.glo_ok X G (cd.fact 31 (f := .glo "_law_is_way") rfl)⟩⟩,
    ⟨⟨_, _, F__law_web_right, He.glo_ok X G (cd.fact 32 (f := .glo "_law_web_right") rfl)⟩⟩,
    ⟨⟨_, _, F_law, He.glo_ok X G (cd.fact 33 (f := .glo "law") rfl)⟩⟩,
    He.free_ok X G (cd.fact 34 (f := .free "all") rfl),
    He.free_ok X G (cd.fact 35 (f := .free "bool") rfl),
    He.free_ok X G (cd.fact 36 (f := .free "dict") rfl),
    He.free_ok X G (cd.fact 37 (f := .free "enumerate") rfl),
    He.free_ok X G (cd.fact 38 (f := .free "int") rfl),
    He.free_ok X G (cd.fact 39 (f := .free "isinstance") rfl),
    He.free_ok X G (cd.fact 40 (f := .free "len") rfl),
    He.free_ok X G (cd.fact 41 (f := .free "list") rfl),
    He.free_ok X G (cd.fact 42 (f := .free "max") rfl),
    He.free_ok X G (cd.fact 43 (f := .free "range") rfl),
    He.free_ok X G (cd.fact 44 (f := .free "set") rfl),
    He.free_ok X G (cd.fact 45 (f := .free "sorted") rfl),
    He.free_ok X G (cd.fact 46 (f := .free "str") rfl),
    He.free_ok X G (cd.fact 47 (f := .free "sum") rfl),
    He.free_ok X G (cd.fact 48 (f := .free "tuple") rfl),
    con_tup (He.glo_ok X G (cd.fact 49 (f := .glo "CLOSED") rfl)) (He.tupB_ok e0) (fun H W => (.cons (.str _) (.cons (.str _) (.cons (.str _) (.cons (.str _) (.cons (.str _) (.cons (.str _) (.cons (.str _) (.cons (.str _) (.cons (.str _) (.cons (.str _) .nil))))))))))),
    con_tup (He.glo_ok X G (cd.fact 50 (f := .glo "CLOSED_TOO") rfl)) (He.tupB_ok e1) (fun H W => (.cons (.str _) (.cons (.str _) (.cons (.str _) (.cons (.str _) (.cons (.str _) (.cons (.str _) (.cons (.str _) (.cons (.str _) (.cons (.str _) .nil)))))))))),
    con_str (He.str_ok X G (cd.fact 51 (f := .str "FIGURES" "0123456789") rfl)),
    con_str (He.str_ok X G (cd.fact 52 (f := .str "LETTERS" "abcdefghijklmnopqrstuvwxyz") rfl)),
    con_int (He.int_ok X G (cd.fact 53 (f := .int "MOST_MARKS" 20) rfl)),
    con_int (He.int_ok X G (cd.fact 54 (f := .int "MOST_PLACES" 60) rfl)),
    con_int (He.int_ok X G (cd.fact 55 (f := .int "MOST_SIGNS" 8) rfl)),
    con_int (He.int_ok X G (cd.fact 56 (f := .int "MOST_STEPS" 400) rfl))⟩
end

section
variable {K : PySem.W.Frag} {h : Heap} {mg : Str → Option Value}
theorem law_slots {H : Hp} {a : Addr} {ns : List Int} (hS : SqL K H a (ns.map V.int)) : Slots K H W0 [.sh] ([V.ref a].map some) ([PyData.list (ns.map .int)].map some) (fun _ => Z0) := by
  refine data_slots (vs := [V.ref a]) (ds := [.list (ns.map .int)]) (allSh_ok (by decide)) rfl (fun _ z => z.elim) (.cons (.lst (hS.imp (fun z => ⟨z, fun q => q⟩) id) ?_) .nil)
  clear hS
  induction ns with
  | nil => exact .nil
  | cons n ns ih => exact .cons (.int n) ih
theorem law_fin {P : Program} {w : World} {fa : Addr} (B : Bk K mg) (KX : K.In h) (hmg : mg ("law" : Str) = some (.ref fa)) :
    ∃ (K : PySem.W.Frag) (fd : FuncData) (sp : L2.Sp), K.In h ∧ (∀ (s : Shared) (u : Value), BindsTo s fd { pos := [u] } [(("script" : Str), u)]) ∧
      (∀ (H : L2.Hp) (a : Addr) (ns : List Int), ns.length ≤ 63 → L2.Only H → L2.SqL K H a (ns.map L2.V.int) → sp [L2.V.ref a] H (fun v _ => v = L2.V.bl true) fun _ _ _ => False) ∧
      ∀ base : Heap, K.In base → base.Ns mainGlobals mg → L2.FnOk P w K mg base L2.CX0 16 fa fd [("script" : Str)] sp := by
  obtain ⟨f0, fd0, F0, m0⟩ := B.d_law.ex
  have e0 : f0 = fa := by
    have e := m0.symm.trans hmg
    injection e with e
    injection e with e
  have b := L2.FunD.bindsA (ps := ps_law) F0 (fun _ _ _ _ _ _ us hl => match us, hl with | [_], _ => rfl)
  refine ⟨K, fd0, spF K [.sh] .sh c_law, KX, fun s v => b s [v] rfl, fun H a ns hl _ hS => ?_, fun base KB GB => ?_⟩
  · obtain ⟨outs, hm⟩ := law_main ns hl
    exact ⟨_, _, _, _, outs, law_slots hS, hm, fun v H' G' _ _ ow _ => ow.1.blI⟩
  · obtain ⟨f1, fd1, F1, m1, G1, _⟩ := (h_law (P := P) (w := w) (base := base) B).ex
    have e1 : f1 = f0 := by
      have e := m1.symm.trans m0
      injection e with e
      injection e with e
    subst e1 e0
    have e2 : fd1 = fd0 := funD_eq F1 F0
    subst e2
    exact G1
end
end Ev
open PySem PySem.W PySem.Calls PyProof.Rows
theorem PySem.Challenge.cw_everheld_k04_whole_reached_rings_and_way_holds : PySem.Challenge.rw_everheld_k04_whole_reached_rings_and_way.Holds := by
  w_on; o_law
  refine HandSHeadRun.head_any (r := OpenLaw.row PySem.Challenge.rw_everheld_k04_whole_reached_rings_and_way) (q := view (OpenLaw.row PySem.Challenge.rw_everheld_k04_whole_reached_rings_and_way).prog [49]) (H := Ev.hk) (ob := Ev.ob) (M := 6000) (loose := Ev.hlo) (d := HandSHeadRun.topDef (OpenLaw.row PySem.Challenge.rw_everheld_k04_whole_reached_rings_and_way).prog 49) (kwd := []) Ev.ob_eq
    (by kernel_rfl) (fun s => by kernel_rfl) Ev.hrun (by kernel_rfl) (by kernel_rfl) (by kernel_rfl) (by rfl) (by first | assumption | decide +kernel) (by decide +kernel) ⟨rfl, rfl, rfl, rfl, rfl, by decide +kernel⟩ ?hw ?hc
  case hw => w_witness2
  case hc =>
    refine L2.walk_ofE (l := PySem.Challenge.rw_everheld_k04_whole_reached_rings_and_way) (n := 63) (k := 16) (x := "script") (CX := L2.CX0) rfl (by decide) (by kernel_rfl) ⟨rfl, by decide, by decide⟩ ?F (fun _ _ _ _ z => z)
    intro w mg fa h Y G hmg0
    obtain ⟨K, KX, c⟩ := Y
    have hmg : mg ("law" : PySem.Str) = some (.ref fa) := by
      have e : (HandSHeadRun.topDef (OpenLaw.row PySem.Challenge.rw_everheld_k04_whole_reached_rings_and_way).prog 49).name = ("law" : PySem.Str) := by kernel_rfl
      rw [← e]
      exact hmg0
    exact Ev.law_fin (Ev.bk_of KX G c) KX hmg
