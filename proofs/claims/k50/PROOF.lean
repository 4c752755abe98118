import PyProof.Rows.All
import Wide.All
import OpenK.AllK
import Wide.FinOn
import HandS.ForMost
import KE.GoesEnum
import HandS.ForExc
import HandS.Flow
import HandS.TupAny
import HandS.TupMul
import HandS.TupLe
import HandS.IsInst
import HandS.Wide
import HandS.CallSlots
import HandS.Lambda
import HandS.NoneIn
import HandS.Style
import HandS.Deep
import HandS.TupSets
import HandS.Zip
import HandS.ExcIs
import HandS.ExcValue
import HandS.HotCalls
import HandS.SetFor
import KE.SortData
import HandS.SortOrd
import HandS.SortRule
import KE.KDictPairs
import HandS.DictTup
import HandS.Nested
import HandS.EndTab
import HandS.Iter
import HandS.Conv
import HandS.Set
import HandS.Strs
import PySem.Challenge.RW_fairstops_k50_whole_bounds
set_option Elab.async false
set_option linter.all false
set_option maxRecDepth 100000
set_option autoImplicit false
namespace Sm
open PySem PySem.Spec L2
inductive D where
  | non | bl (b : Bool) | int (i : Int) | str (x : Str) | tup (xs : List D) | lst (xs : List D) | dct (kvs : List (D × D)) | exc (c : Nat) | scr (ns : List Int) | scr0 | fnv | obj (k : Nat) | dcl (kvs : List (D × D)) | scr1
  deriving Inhabited
inductive R (α : Type) where
  | ok (a : α) | err (c : Nat) | bad
def R.bind {α β : Type} : R α → (α → R β) → R β
  | .ok a, k => k a
  | .err c, _ => .err c
  | .bad, _ => .bad
instance : Monad R where
  pure := R.ok
  bind := R.bind
abbrev Env := List (Option D)

def isTbl : HO → Bool | .tbl _ => true | _ => false
def Sam (H H' : Hp) : Prop := ∀ b o, H b = some o → isTbl o = false → H' b = some o
theorem Sam.refl (H : Hp) : Sam H H := fun _ _ h _ => h
theorem Sam.trans {H H1 H2 : Hp} (a : Sam H H1) (b : Sam H1 H2) : Sam H H2 := fun c o h n => b c o (a c o h n) n
theorem Sam.of {H H' : Hp} (s : Same H H') : Sam H H' := fun b o h _ => s b o h
theorem Sam.rd {H H' : Hp} {a : Addr} {u : HO} (e : Sam H H') (h : Rd H a u) (n : isTbl u = false) : Rd H' a u := by
  rcases h with h | ⟨o, h⟩
  · exact .inl (e _ _ h n)
  · exact .inr ⟨o, e _ _ h rfl⟩
theorem Sam.sqL {K : PySem.W.Frag} {H H' : Hp} {a : Addr} {xs : List V} (e : Sam H H') (h : SqL K H a xs) : SqL K H' a xs := by
  rcases h with h | h
  · exact .inl (e.rd h rfl)
  · exact .inr h
theorem Sam.sqT {K : PySem.W.Frag} {H H' : Hp} {a : Addr} {xs : List V} (e : Sam H H') (h : SqT K H a xs) : SqT K H' a xs := by
  rcases h with h | h
  · exact .inl (e.rd h rfl)
  · exact .inr h
theorem sqT_of {K : PySem.W.Frag} {H : Hp} {a : Addr} {xs : List V} (h : H a = some (.tup xs)) : SqT K H a xs := .inl (.inl h)
theorem Sam.sqU {K : PySem.W.Frag} {H H' : Hp} {a : Addr} {xs : List V} (e : Sam H H') (h : H a = some (.tup xs)) : SqT K H' a xs := .inl (.inl (e _ _ h rfl))
structure Glb where
  c : Nat → Addr
  ns : List Int
  T : List (Addr × Str)
  fn : Hp → Addr → Prop
  fnM : ∀ H H' v, Sam H H' → fn H v → fn H' v
  ob : Nat → Addr → Prop
def Glb.of (c : Nat → Addr) (ns : List Int) (T : List (Addr × Str)) : Glb := ⟨c, ns, T, fun _ _ => False, fun _ _ _ _ h => h, fun _ _ => False⟩
theorem same_upd {H : Hp} {p : Addr} {o : HO} (h : H p = none) : Same H (upd H p o) := fun b x e => by
  rw [upd_ne (ne_of_none e h)]
  exact e

structure Vw (cl : Glb) (Hv H : Hp) : Prop where
  s : Sam Hv H
  d : ∀ b, H b = none → Hv b = none
  t : ∀ b xs, H b = some (.tup xs) → Hv b = some (.tup xs)
  z : ∀ b o u, H b = some (.frz o u) → Hv b = some (.frz o u)
  tab : LamX.Tabs cl.T H
  x : ∀ b φ, H b = some (.ext φ) → Hv b = some (.ext φ)
section
variable {cl : Glb}
theorem Vw.refl {H : Hp} (t : LamX.Tabs cl.T H) : Vw cl H H := ⟨Sam.refl _, fun _ h => h, fun _ _ h => h, fun _ _ _ h => h, t, fun _ _ h => h⟩
structure Ext (cl : Glb) (Hv H Hv' H' : Hp) : Prop where
  hh : Sam H H'
  vv : Sam Hv Hv'
  vh : Vw cl Hv' H'
  old : ∀ b o, H b = some o → Hv b = none → Hv' b = none
  dom : ∀ b, H' b = none → H b = none
  tt : ∀ b ps, H b = some (.tbl ps) → ∃ ps', H' b = some (.tbl ps')
theorem Ext.refl {Hv H : Hp} (s : Vw cl Hv H) : Ext cl Hv H Hv H := ⟨Sam.refl _, Sam.refl _, s, fun _ _ _ h => h, fun _ h => h, fun _ ps h => ⟨ps, h⟩⟩
theorem Ext.trans {Hv H Hv1 H1 Hv2 H2 : Hp} (a : Ext cl Hv H Hv1 H1) (b : Ext cl Hv1 H1 Hv2 H2) : Ext cl Hv H Hv2 H2 where
  hh := a.hh.trans b.hh
  vv := a.vv.trans b.vv
  vh := b.vh
  old := fun c o h n => by
    cases q : H1 c with
    | none => rw [a.dom c q] at h; cases h
    | some u => exact b.old c u q (a.old c o h n)
  dom := fun c h => a.dom c (b.dom c h)
  tt := fun c ps h => let ⟨ps', h'⟩ := a.tt c ps h; b.tt c ps' h'
theorem upd_none {H : Hp} {p b : Addr} {o : HO} (h : upd H p o b = none) : b ≠ p ∧ H b = none := by
  unfold upd at h
  split at h
  · cases h
  · exact ⟨by assumption, h⟩
theorem Ext.new {Hv H : Hp} {p : Addr} {o : HO} (s : Vw cl Hv H) (h : H p = none) : Ext cl Hv H (upd Hv p o) (upd H p o) where
  hh := .of (same_upd h)
  vv := .of (same_upd (s.d p h))
  vh := ⟨fun b u e n => by
    by_cases z : b = p
    · subst z; rw [upd_same] at e ⊢; exact e
    · rw [upd_ne z] at e ⊢; exact s.s b u e n, fun b e => by
    obtain ⟨h1, h2⟩ := upd_none e
    rw [upd_ne h1]; exact s.d b h2, fun b xs e => by
    by_cases z : b = p
    · subst z; rw [upd_same] at e ⊢; exact e
    · rw [upd_ne z] at e ⊢; exact s.t b xs e, fun b xs y e => by
    by_cases z : b = p
    · subst z; rw [upd_same] at e ⊢; exact e
    · rw [upd_ne z] at e ⊢; exact s.z b xs y e, s.tab.ext (same_upd h), fun b φ e => by
    by_cases z : b = p
    · subst z; rw [upd_same] at e ⊢; exact e
    · rw [upd_ne z] at e ⊢; exact s.x b φ e⟩
  old := fun b u e n => by rw [upd_ne (ne_of_none e h)]; exact n
  dom := fun b e => (upd_none e).2
  tt := fun b ps e => ⟨ps, by rw [upd_ne (ne_of_none e h)]; exact e⟩
end
section
variable (K : PySem.W.Frag) (cl : Glb)
def ExcO (a C : Addr) : HO := .ext fun h => ∃ (o : Obj) (vs : Array Value), h.get? a = some o ∧ Zc (.ref C) none o ∧ o.data = .fields vs
mutual
inductive Rep (H : Hp) : V → D → Prop
  | non : Rep H .non .non
  | bl (b : Bool) : Rep H (.bl b) (.bl b)
  | int (i : Int) : Rep H (.int i) (.int i)
  | str (x : Str) : Rep H (.str x) (.str x)
  | lst {a : Addr} {xs : List V} {ds : List D} : H a = some (.lst xs) → xs.length ≤ sizeLine → Reps H xs ds → Rep H (.ref a) (.lst ds)
  | tup {a : Addr} {xs : List V} {ds : List D} : H a = some (.tup xs) → xs.length ≤ sizeLine → Reps H xs ds → Rep H (.ref a) (.tup ds)
  | dctK {a : Addr} {kvs : List (L2.Key × V)} {es : List (D × D)} : H a = some (.dK kvs) → RepsK H kvs es → Rep H (.ref a) (.dct es)
  | dctT {a : Addr} {kvs : List (List L2.Key × V)} {es : List (D × D)} : H a = some (.dT kvs) → es ≠ [] → RepsT H kvs es → Rep H (.ref a) (.dct es)
  | scr {a : Addr} {ns : List Int} : SqL K H a (ns.map V.int) → ns.length ≤ sizeLine → Rep H (.ref a) (.scr ns)
  | scr0 {a : Addr} : SqL K H a (cl.ns.map V.int) → cl.ns.length ≤ sizeLine → Rep H (.ref a) .scr0
  | exc {a : Addr} {c : Nat} : H a = some (ExcO a (cl.c c)) → Rep H (.ref a) (.exc c)
  | fnv {a : Addr} : cl.fn H a → Rep H (.ref a) .fnv
  | obj {a : Addr} {k : Nat} : cl.ob k a → Rep H (.ref a) (.obj k)
  | dclK {a : Addr} {o : Obj} {kvs : List (L2.Key × V)} {es : List (D × D)} : H a = some (.frz o (.dK kvs)) → RepsK H kvs es → Rep H (.ref a) (.dcl es)
  | dclT {a : Addr} {o : Obj} {kvs : List (List L2.Key × V)} {es : List (D × D)} : H a = some (.frz o (.dT kvs)) → es ≠ [] → RepsT H kvs es → Rep H (.ref a) (.dcl es)
  | scr1 {a : Addr} : SqL K H a ((cl.ns.map (· + 1)).map V.int) → cl.ns.length ≤ sizeLine → Rep H (.ref a) .scr1
inductive Reps (H : Hp) : List V → List D → Prop
  | nil : Reps H [] []
  | cons {v : V} {vs : List V} {d : D} {ds : List D} : Rep H v d → Reps H vs ds → Reps H (v :: vs) (d :: ds)
inductive RepsK (H : Hp) : List (L2.Key × V) → List (D × D) → Prop
  | nil : RepsK H [] []
  | cons {i : Int} {v : V} {d : D} {r : List (L2.Key × V)} {es : List (D × D)} : Rep H v d → RepsK H r es → RepsK H ((Sum.inl i, v) :: r) ((.int i, d) :: es)
inductive RepsT (H : Hp) : List (List L2.Key × V) → List (D × D) → Prop
  | nil : RepsT H [] []
  | cons {k : List Int} {v : V} {d : D} {r : List (List L2.Key × V)} {es : List (D × D)} : Rep H v d → RepsT H r es → RepsT H ((k.map Sum.inl, v) :: r) ((.tup (k.map D.int), d) :: es)
end
end
section
variable {K : PySem.W.Frag} {cl : Glb} {H H' Hv Hv' : Hp}
mutual
theorem Rep.mono (e : Sam H H') : ∀ {v : V} {d : D}, Rep K cl H v d → Rep K cl H' v d
  | _, _, .non => .non
  | _, _, .bl b => .bl b
  | _, _, .int i => .int i
  | _, _, .str x => .str x
  | _, _, .lst h n r => .lst (e _ _ h rfl) n (Reps.mono e r)
  | _, _, .scr h n => .scr (e.sqL h) n
  | _, _, .scr0 h n => .scr0 (e.sqL h) n
  | _, _, .tup h n r => .tup (e _ _ h rfl) n (Reps.mono e r)
  | _, _, .dctK h r => .dctK (e _ _ h rfl) (RepsK.mono e r)
  | _, _, .dctT h n r => .dctT (e _ _ h rfl) n (RepsT.mono e r)
  | _, _, .exc h => .exc (e _ _ h rfl)
  | _, _, .fnv h => .fnv (cl.fnM _ _ _ e h)
  | _, _, .obj h => .obj h
  | _, _, .dclK h r => .dclK (e _ _ h rfl) (RepsK.mono e r)
  | _, _, .dclT h n r => .dclT (e _ _ h rfl) n (RepsT.mono e r)
  | _, _, .scr1 h n => .scr1 (e.sqL h) n
theorem Reps.mono (e : Sam H H') : ∀ {v : List V} {d : List D}, Reps K cl H v d → Reps K cl H' v d
  | _, _, .nil => .nil
  | _, _, .cons r t => .cons (Rep.mono e r) (Reps.mono e t)
theorem RepsK.mono (e : Sam H H') : ∀ {v : List (L2.Key × V)} {d : List (D × D)}, RepsK K cl H v d → RepsK K cl H' v d
  | _, _, .nil => .nil
  | _, _, .cons r t => .cons (Rep.mono e r) (RepsK.mono e t)
theorem RepsT.mono (e : Sam H H') : ∀ {v : List (List L2.Key × V)} {d : List (D × D)}, RepsT K cl H v d → RepsT K cl H' v d
  | _, _, .nil => .nil
  | _, _, .cons r t => .cons (Rep.mono e r) (RepsT.mono e t)
end
theorem Reps.length : ∀ {vs : List V} {ds : List D}, Reps K cl H vs ds → vs.length = ds.length
  | _, _, .nil => rfl
  | _, _, .cons _ t => by rw [List.length_cons, List.length_cons, Reps.length t]
theorem Reps.get : ∀ {vs : List V} {ds : List D} {i : Nat} {d : D}, Reps K cl H vs ds → ds[i]? = some d → ∃ v, vs[i]? = some v ∧ Rep K cl H v d
  | _, _, _, _, .nil, e => by simp at e
  | _, _, 0, _, .cons r _, e => by simp at e; subst e; exact ⟨_, rfl, r⟩
  | _, _, i + 1, d, .cons _ t, e => by
    obtain ⟨u, h1, h2⟩ := Reps.get (i := i) (d := d) t (by simpa using e)
    exact ⟨u, by simpa using h1, h2⟩
theorem Reps.append : ∀ {vs us : List V} {ds es : List D}, Reps K cl H vs ds → Reps K cl H us es → Reps K cl H (vs ++ us) (ds ++ es)
  | _, _, _, _, .nil, s => s
  | _, _, _, _, .cons r t, s => .cons r (Reps.append t s)
theorem Reps.take : ∀ {vs : List V} {ds : List D} (n : Nat), Reps K cl H vs ds → Reps K cl H (vs.take n) (ds.take n)
  | _, _, 0, _ => .nil
  | _, _, _ + 1, .nil => .nil
  | _, _, n + 1, .cons r t => .cons r (Reps.take n t)
theorem Reps.drop : ∀ {vs : List V} {ds : List D} (n : Nat), Reps K cl H vs ds → Reps K cl H (vs.drop n) (ds.drop n)
  | _, _, 0, r => r
  | _, _, _ + 1, .nil => .nil
  | _, _, n + 1, .cons _ t => Reps.drop n t
theorem Reps.reverse : ∀ {vs : List V} {ds : List D}, Reps K cl H vs ds → Reps K cl H vs.reverse ds.reverse
  | _, _, .nil => .nil
  | _, _, .cons r t => by
    rw [List.reverse_cons, List.reverse_cons]
    exact (Reps.reverse t).append (.cons r .nil)
theorem Reps.set {v : V} {d : D} (r : Rep K cl H v d) : ∀ {vs : List V} {ds : List D} (i : Nat), Reps K cl H vs ds → Reps K cl H (vs.set i v) (ds.set i d)
  | _, _, _, .nil => .nil
  | _, _, 0, .cons _ t => .cons r t
  | _, _, i + 1, .cons q t => .cons q (Reps.set r i t)
theorem Reps.replicate (n : Nat) {vs : List V} {ds : List D} (h : Reps K cl H vs ds) : Reps K cl H (List.replicate n vs).flatten (List.replicate n ds).flatten := by
  induction n with
  | zero => exact .nil
  | succ n ih => simp only [List.replicate_succ, List.flatten_cons]; exact h.append ih
end
section
variable (cl : Glb) (W : WX) (σ : St)
def Pst {α : Type} (Hv H : Hp) (T : Hp → Hp → α → Prop) : R α → Prop
  | .ok d => ∀ Hv' H', Ext cl Hv H Hv' H' → T Hv' H' d
  | .err c => ∀ Hv' H', Ext cl Hv H Hv' H' → W (.ref (cl.c c)) none σ H'
  | .bad => False
end
section
variable {cl : Glb} {W : WX} {σ : St} {Hv H Hv1 H1 : Hp} {α β : Type}
theorem Pst.ext {T : Hp → Hp → α → Prop} {r : R α} (h : Pst cl W σ Hv H T r) (e : Ext cl Hv H Hv1 H1) : Pst cl W σ Hv1 H1 T r := by
  cases r with
  | ok d => exact fun Hv' H' e' => h Hv' H' (e.trans e')
  | err c => exact fun Hv' H' e' => h Hv' H' (e.trans e')
  | bad => exact h
theorem bindP {r : R α} {k : α → R β} {T : Hp → Hp → β → Prop} {T1 : Hp → Hp → α → Prop} (h : Pst cl W σ Hv H T (r.bind k))
    (hk : ∀ a Hv1 H1, r = .ok a → Ext cl Hv H Hv1 H1 → Pst cl W σ Hv1 H1 T (k a) → T1 Hv1 H1 a) : Pst cl W σ Hv H T1 r := by
  cases r with
  | ok d => exact fun Hv' H' e => hk d Hv' H' rfl e (Pst.ext (r := k d) h e)
  | err c => exact h
  | bad => exact h
end
def TV (K : PySem.W.Frag) (cl : Glb) (Q : VK) : Hp → Hp → D → Prop := fun Hv' H' d => ∀ v, Rep K cl Hv' v d → Q v H'
def TVs (K : PySem.W.Frag) (cl : Glb) (Q : List V → Hp → Prop) : Hp → Hp → List D → Prop := fun Hv' H' d => ∀ v, Reps K cl Hv' v d → Q v H'
def TB (Q : Bool → Hp → Prop) : Hp → Hp → Bool → Prop := fun _ H' b => Q b H'

structure ER (K : PySem.W.Frag) (cl : Glb) (Hv : Hp) (ρ : Env) (σ : St) : Prop where
  get : ∀ (i : Nat) d, ρ[i]? = some (some d) → ∃ v, σ[i]? = some (some v) ∧ Rep K cl Hv v d
  len : ρ.length = σ.length
theorem ER.mono {K : PySem.W.Frag} {cl : Glb} {Hv Hv' : Hp} {ρ : Env} {σ : St} (e : ER K cl Hv ρ σ) (s : Sam Hv Hv') : ER K cl Hv' ρ σ :=
  ⟨fun i d h => let ⟨v, h1, h2⟩ := e.get i d h; ⟨v, h1, h2.mono s⟩, e.len⟩

abbrev DE := Env → R D
abbrev DA := Env → R (List D)
abbrev DT := Env → R Bool
section
variable (X : Cx) (W : WX) (cl : Glb)
def RunE (f : DE) (t : TE) : Prop := ∀ (Hv H : Hp) (σ : St) (ρ : Env) (Q : VK), Vw cl Hv H → ER X.K cl Hv ρ σ → Pst cl W σ Hv H (TV X.K cl Q) (f ρ) → t σ H Q
def RunA (f : DA) (t : TA) : Prop := ∀ (Hv H : Hp) (σ : St) (ρ : Env) (Q : List V → Hp → Prop), Vw cl Hv H → ER X.K cl Hv ρ σ → Pst cl W σ Hv H (TVs X.K cl Q) (f ρ) → t σ H Q
def RunT (f : DT) (t : TT) : Prop := ∀ (Hv H : Hp) (σ : St) (ρ : Env) (Q : Bool → Hp → Prop), Vw cl Hv H → ER X.K cl Hv ρ σ → Pst cl W σ Hv H (TB Q) (f ρ) → t σ H Q
def SE (e : Expr) (f : DE) : Prop := ∃ t, PE X e t ∧ RunE X W cl f t
def SA (es : List Expr) (f : DA) : Prop := ∃ t, PA X es t ∧ RunA X W cl f t ∧ ∀ ρ ds, f ρ = .ok ds → ds.length = es.length
def ST (e : Expr) (f : DT) : Prop := ∃ t, PT X e t ∧ RunT X W cl f t
def SW (e : Expr) (f : DT) : Prop := ∃ t, PW X e t ∧ RunT X W cl f t
end
end Sm
namespace Sm
open PySem PySem.Spec L2
def ofO {α : Type} : Option α → R α
  | some a => .ok a
  | none => .bad
theorem ofO_ok {α : Type} {o : Option α} {cl : Glb} {W : WX} {σ : St} {Hv H : Hp} {T : Hp → Hp → α → Prop} (h : Pst cl W σ Hv H T (ofO o)) : ∃ a, o = some a ∧ ∀ Hv' H', Ext cl Hv H Hv' H' → T Hv' H' a := by
  cases o with
  | none => exact h.elim
  | some a => exact ⟨a, rfl, h⟩

mutual
def toPy : D → PyData
  | .non => .none
  | .bl b => .bool b
  | .int i => .int i
  | .str x => .str x
  | .tup xs => .tuple (toPys xs)
  | .lst xs => .list (toPys xs)
  | .dct _ => .dict []
  | .exc _ => .dict []
  | .scr ns => .list (ns.map .int)
  | .scr0 => .dict []
  | .fnv => .dict []
  | .obj _ => .dict []
  | .dcl _ => .dict []
  | .scr1 => .dict []
def toPys : List D → List PyData
  | [] => []
  | x :: xs => toPy x :: toPys xs
end
mutual
def pln : Nat → D → Bool
  | _, .non => true
  | _, .bl _ => true
  | _, .int _ => true
  | _, .str x => PySem.PyData.strOk x
  | n + 1, .tup xs => plns n xs
  | n + 1, .lst xs => plns n xs
  | n + 1, .scr _ => true
  | _, _ => false
def plns : Nat → List D → Bool
  | _, [] => true
  | n, x :: xs => pln n x && plns n xs
end
def deqI (i : Int) : D → Bool
  | .int j => i == j
  | .bl b => i == (if b then 1 else 0)
  | _ => false
def deqIs : List Int → List D → Bool
  | [], [] => true
  | i :: is, d :: ds => deqI i d && deqIs is ds
  | _, _ => false
def deqJ (i : Int) : D → Bool
  | .int j => j == i
  | .bl b => (if b then 1 else 0) == i
  | _ => false
def deqJs : List D → List Int → Bool
  | [], [] => true
  | d :: ds, i :: is => deqJ i d && deqJs ds is
  | _, _ => false
mutual
def deq : D → D → Bool
  | .non, .non => true
  | .bl a, .bl b => a == b
  | .bl a, .int j => (if a then 1 else 0) == j
  | .int i, .bl b => i == (if b then 1 else 0)
  | .int i, .int j => i == j
  | .str x, .str y => x == y
  | .lst xs, .lst ys => deqs xs ys
  | .tup xs, .tup ys => deqs xs ys
  | .scr ns, .lst ys => deqIs ns ys
  | .lst ys, .scr ns => deqJs ys ns
  | .scr ns, .scr ms => ns == ms
  | _, _ => false
def deqs : List D → List D → Bool
  | [], [] => true
  | x :: xs, y :: ys => deq x y && deqs xs ys
  | _, _ => false
end
theorem deqI_py (i : Int) (d : D) : PyData.eqv (.int i) (toPy d) = deqI i d := by cases d <;> simp [toPy, deqI, PyData.eqv]
theorem deqJ_py (i : Int) (d : D) : PyData.eqv (toPy d) (.int i) = deqJ i d := by cases d <;> simp [toPy, deqJ, PyData.eqv]
theorem deqIs_py : ∀ (ns : List Int) (ds : List D), PyData.eqvAll (ns.map .int) (toPys ds) = deqIs ns ds
  | [], [] => by simp [toPys, deqIs, PyData.eqvAll]
  | [], _ :: _ => by simp [toPys, deqIs, PyData.eqvAll]
  | _ :: _, [] => by simp [toPys, deqIs, PyData.eqvAll]
  | n :: ns, d :: ds => by simp only [List.map_cons, toPys, deqIs, PyData.eqvAll]; rw [deqI_py, deqIs_py ns ds]
theorem deqJs_py : ∀ (ds : List D) (ns : List Int), PyData.eqvAll (toPys ds) (ns.map .int) = deqJs ds ns
  | [], [] => by simp [toPys, deqJs, PyData.eqvAll]
  | [], _ :: _ => by simp [toPys, deqJs, PyData.eqvAll]
  | _ :: _, [] => by simp [toPys, deqJs, PyData.eqvAll]
  | d :: ds, n :: ns => by simp only [List.map_cons, toPys, deqJs, PyData.eqvAll]; rw [deqJ_py, deqJs_py ds ns]
theorem eqv_ints : ∀ (ns ms : List Int), PyData.eqvAll (ns.map .int) (ms.map .int) = (ns == ms)
  | [], [] => by simp [PyData.eqvAll]
  | [], _ :: _ => by simp [PyData.eqvAll]
  | _ :: _, [] => by simp [PyData.eqvAll]
  | n :: ns, m :: ms => by
    simp only [List.map_cons, PyData.eqvAll]
    rw [eqv_ints ns ms]
    simp [PyData.eqv]
mutual
theorem deq_py : ∀ a b : D, PyData.eqv (toPy a) (toPy b) = deq a b
  | .non, b => by cases b <;> simp [toPy, deq, PyData.eqv]
  | .bl _, b => by cases b <;> simp [toPy, deq, PyData.eqv]
  | .int _, b => by cases b <;> simp [toPy, deq, PyData.eqv]
  | .str _, b => by cases b <;> simp [toPy, deq, PyData.eqv]
  | .tup xs, b => by
    cases b with
    | tup ys => simp only [toPy, deq, PyData.eqv]; exact deqs_py xs ys
    | _ => simp [toPy, deq, PyData.eqv]
  | .lst xs, b => by
    cases b with
    | lst ys => simp only [toPy, deq, PyData.eqv]; exact deqs_py xs ys
    | scr ys => simp only [toPy, deq, PyData.eqv]; exact deqJs_py xs ys
    | _ => simp [toPy, deq, PyData.eqv]
  | .dct _, b => by cases b <;> simp [toPy, deq, PyData.eqv]
  | .exc _, b => by cases b <;> simp [toPy, deq, PyData.eqv]
  | .scr0, b => by cases b <;> simp [toPy, deq, PyData.eqv]
  | .fnv, b => by cases b <;> simp [toPy, deq, PyData.eqv]
  | .obj _, b => by cases b <;> simp [toPy, deq, PyData.eqv]
  | .dcl _, b => by cases b <;> simp [toPy, deq, PyData.eqv]
  | .scr1, b => by cases b <;> simp [toPy, deq, PyData.eqv]
  | .scr xs, b => by
    cases b with
    | lst ys => simp only [toPy, deq, PyData.eqv]; exact deqIs_py xs ys
    | scr ys => simp only [toPy, deq, PyData.eqv]; exact eqv_ints xs ys
    | _ => simp [toPy, deq, PyData.eqv]
theorem deqs_py : ∀ a b : List D, PyData.eqvAll (toPys a) (toPys b) = deqs a b
  | [], [] => by simp [toPys, deqs, PyData.eqvAll]
  | [], _ :: _ => by simp [toPys, deqs, PyData.eqvAll]
  | _ :: _, [] => by simp [toPys, deqs, PyData.eqvAll]
  | x :: xs, y :: ys => by simp only [toPys, deqs, PyData.eqvAll]; rw [deq_py x y, deqs_py xs ys]
end
theorem ints_lay : ∀ ns : List Int, PyData.canLayAll0 (ns.map .int) = true ∧ PyData.depthAll (ns.map .int) = 0
  | [] => by simp [PyData.canLayAll0, PyData.depthAll]
  | n :: ns => by
    have := ints_lay ns
    simp [PyData.canLayAll0, PyData.depthAll, PyData.canLay0, PyData.depth, this.1, this.2]
mutual
theorem pln_lay : ∀ (n : Nat) (a : D), pln n a = true → (toPy a).canLay0 = true ∧ (toPy a).depth ≤ n
  | _, .non, _ => by simp [toPy, PyData.canLay0, PyData.depth]
  | _, .bl _, _ => by simp [toPy, PyData.canLay0, PyData.depth]
  | _, .int _, _ => by simp [toPy, PyData.canLay0, PyData.depth]
  | _, .str x, h => by
    simp only [pln] at h
    simp [toPy, PyData.canLay0, PyData.depth, h]
  | 0, .tup xs, h => by simp [pln] at h
  | 0, .lst xs, h => by simp [pln] at h
  | n + 1, .tup xs, h => by
    simp only [pln] at h
    have := plns_lay n xs h
    simp only [toPy, PyData.canLay0, PyData.depth]
    exact ⟨this.1, by omega⟩
  | n + 1, .lst xs, h => by
    simp only [pln] at h
    have := plns_lay n xs h
    simp only [toPy, PyData.canLay0, PyData.depth]
    exact ⟨this.1, by omega⟩
  | 0, .scr xs, h => by simp [pln] at h
  | n + 1, .scr xs, h => by
    have := ints_lay xs
    simp only [toPy, PyData.canLay0, PyData.depth]
    exact ⟨this.1, by omega⟩
  | 0, .dct _, h => by simp [pln] at h
  | _ + 1, .dct _, h => by simp [pln] at h
  | 0, .exc _, h => by simp [pln] at h
  | _ + 1, .exc _, h => by simp [pln] at h
  | 0, .scr0, h => by simp [pln] at h
  | 0, .fnv, h => by simp [pln] at h
  | 0, .obj _, h => by simp [pln] at h
  | 0, .dcl _, h => by simp [pln] at h
  | 0, .scr1, h => by simp [pln] at h
  | _ + 1, .scr0, h => by simp [pln] at h
  | _ + 1, .fnv, h => by simp [pln] at h
  | _ + 1, .obj _, h => by simp [pln] at h
  | _ + 1, .dcl _, h => by simp [pln] at h
  | _ + 1, .scr1, h => by simp [pln] at h
theorem plns_lay : ∀ (n : Nat) (a : List D), plns n a = true → PyData.canLayAll0 (toPys a) = true ∧ PyData.depthAll (toPys a) ≤ n
  | n, [], _ => by simp [toPys, PyData.canLayAll0, PyData.depthAll]
  | n, x :: xs, h => by
    simp only [plns, Bool.and_eq_true] at h
    have h1 := pln_lay n x h.1
    have h2 := plns_lay n xs h.2
    simp only [toPys, PyData.canLayAll0, PyData.depthAll, Bool.and_eq_true]
    exact ⟨⟨h1.1, h2.1⟩, by omega⟩
end
theorem pln_shaped {a : D} (h : pln 64 a = true) : SeqAt.shaped (toPy a) = true := by
  have := pln_lay 64 a h
  unfold SeqAt.shaped
  rw [this.1, decide_eq_true this.2]; rfl
section
variable {K : PySem.W.Frag} {cl : Glb} {H : Hp}
theorem dp_ints : ∀ ns : List Int, DpAll K H (ns.map V.int) (ns.map PyData.int)
  | [] => .nil
  | n :: ns => .cons (.int n) (dp_ints ns)
mutual
theorem Rep.dp : ∀ {n : Nat} {v : V} {d : D}, Rep K cl H v d → pln n d = true → Dp K H v (toPy d)
  | _, _, _, .non, _ => by simp only [toPy]; exact .non
  | _, _, _, .bl b, _ => by simp only [toPy]; exact .bl b
  | _, _, _, .int b, _ => by simp only [toPy]; exact .int b
  | _, _, _, .str b, _ => by simp only [toPy]; exact .str b
  | 0, _, _, .lst h _ r, p => by simp [pln] at p
  | 0, _, _, .tup h _ r, p => by simp [pln] at p
  | n + 1, _, _, .lst h _ r, p => by
    simp only [pln] at p
    simp only [toPy]
    exact .lst (.inl (.inl h)) (Reps.dp (n := n) r p)
  | 0, _, _, .scr h _, p => by simp [pln] at p
  | n + 1, _, _, .scr h _, p => by
    simp only [toPy]
    exact .lst h (dp_ints _)
  | n + 1, _, _, .tup h _ r, p => by
    simp only [pln] at p
    simp only [toPy]
    exact .tup (sqT_of h) (Reps.dp (n := n) r p)
  | 0, _, _, .exc _, p => by simp [pln] at p
  | _ + 1, _, _, .exc _, p => by simp [pln] at p
  | 0, _, _, .scr0 _ _, p => by simp [pln] at p
  | 0, _, _, .fnv _, p => by simp [pln] at p
  | 0, _, _, .obj _, p => by simp [pln] at p
  | 0, _, _, .dclK _ _, p => by simp [pln] at p
  | 0, _, _, .dclT _ _ _, p => by simp [pln] at p
  | 0, _, _, .scr1 _ _, p => by simp [pln] at p
  | _ + 1, _, _, .scr0 _ _, p => by simp [pln] at p
  | _ + 1, _, _, .fnv _, p => by simp [pln] at p
  | _ + 1, _, _, .obj _, p => by simp [pln] at p
  | _ + 1, _, _, .dclK _ _, p => by simp [pln] at p
  | _ + 1, _, _, .dclT _ _ _, p => by simp [pln] at p
  | _ + 1, _, _, .scr1 _ _, p => by simp [pln] at p
theorem Reps.dp : ∀ {n : Nat} {vs : List V} {ds : List D}, Reps K cl H vs ds → plns n ds = true → DpAll K H vs (toPys ds)
  | _, _, _, .nil, _ => by simp only [toPys]; exact .nil
  | n, _, _, .cons r t, p => by
    simp only [plns, Bool.and_eq_true] at p
    simp only [toPys]
    exact .cons (Rep.dp (n := n) r p.1) (Reps.dp (n := n) t p.2)
end
end
section
variable (X : Cx) (cl : Glb)
def OpS (f : Value → Value → Sem Value) (o : D → D → Option D) : Prop := ∃ r, OpR X f r ∧ ∀ (Hv H : Hp) (x y : V) (a b d : D) (Q : VK), Vw cl Hv H → Rep X.K cl Hv x a → Rep X.K cl Hv y b → o a b = some d →
  (∀ v Hv' H', Ext cl Hv H Hv' H' → Rep X.K cl Hv' v d → Q v H') → r x y H Q
end
theorem OpR.or {X : Cx} {f : Value → Value → Sem Value} {r r' : R2} (h : OpR X f r) (h' : OpR X f r') : OpR X f (fun x y H Q => r x y H Q ∨ r' x y H Q) := by
  intro pins s σ H x y v u Q I rx ry q
  rcases q with q | q
  · exact h pins s σ H x y v u Q I rx ry q
  · exact h' pins s σ H x y v u Q I rx ry q
def orO (o o' : D → D → Option D) : D → D → Option D := fun a b => match o a b with | some d => some d | none => o' a b
theorem OpS.or {X : Cx} {cl : Glb} {f : Value → Value → Sem Value} {o o' : D → D → Option D} (h : OpS X cl f o) (h' : OpS X cl f o') : OpS X cl f (orO o o') := by
  obtain ⟨r, hr, hs⟩ := h
  obtain ⟨r', hr', hs'⟩ := h'
  refine ⟨_, OpR.or hr hr', fun Hv H x y a b d Q vw rx ry e q => ?_⟩
  unfold orO at e
  split at e
  · rename_i d' e'
    cases e
    exact .inl (hs Hv H x y a b _ Q vw rx ry e' q)
  · exact .inr (hs' Hv H x y a b _ Q vw rx ry e q)
theorem OpS.imp {X : Cx} {cl : Glb} {f : Value → Value → Sem Value} {o o' : D → D → Option D} (h : OpS X cl f o) (h' : ∀ a b d, o' a b = some d → o a b = some d) : OpS X cl f o' := by
  obtain ⟨r, hr, hs⟩ := h
  exact ⟨r, hr, fun Hv H x y a b d Q vw rx ry e q => hs Hv H x y a b d Q vw rx ry (h' _ _ _ e) q⟩
section
variable {X : Cx} {cl : Glb}
theorem new_tup {Hv H : Hp} {Q : VK} {xs : List V} {ds : List D} (vw : Vw cl Hv H) (r : Reps X.K cl Hv xs ds) (z : xs.length ≤ sizeLine) (q : ∀ v Hv' H', Ext cl Hv H Hv' H' → Rep X.K cl Hv' v (.tup ds) → Q v H') :
    ∀ p, H p = none → Q (.ref p) (upd H p (.tup xs)) := fun p hp =>
  q _ _ _ (Ext.new vw hp) (.tup upd_same z (r.mono (Ext.new vw hp).vv))
theorem new_lst {Hv H : Hp} {Q : VK} {xs : List V} {ds : List D} (vw : Vw cl Hv H) (r : Reps X.K cl Hv xs ds) (z : xs.length ≤ sizeLine) (q : ∀ v Hv' H', Ext cl Hv H Hv' H' → Rep X.K cl Hv' v (.lst ds) → Q v H') :
    ∀ p, H p = none → Q (.ref p) (upd H p (.lst xs)) := fun p hp =>
  q _ _ _ (Ext.new vw hp) (.lst upd_same z (r.mono (Ext.new vw hp).vv))

def oAddI : D → D → Option D | .int i, .int j => some (.int (i + j)) | _, _ => none
def oSubI : D → D → Option D | .int i, .int j => some (.int (i - j)) | _, _ => none
def mulOk (i j : Int) : Bool := decide (i.natAbs.log2 + j.natAbs.log2 < 1000000) || decide (-(2 ^ 64) < i ∧ i < 2 ^ 64) || decide (-(2 ^ 64) < j ∧ j < 2 ^ 64)
def oMulI : D → D → Option D | .int i, .int j => if mulOk i j then some (.int (i * j)) else none | _, _ => none
def oDivI : D → D → Option D | .int i, .int j => if j ≠ 0 ∧ j.natAbs.log2 < 9000 then some (.int (i.fdiv j)) else none | _, _ => none
def oModI : D → D → Option D | .int i, .int j => if j ≠ 0 then some (.int (i.fmod j)) else none | _, _ => none
def oLt : D → D → Option D | .int i, .int j => some (.bl (decide (i < j))) | _, _ => none
def oLe : D → D → Option D | .int i, .int j => some (.bl (decide (i ≤ j))) | _, _ => none
def oGt : D → D → Option D | .int i, .int j => some (.bl (decide (j < i))) | _, _ => none
def oGe : D → D → Option D | .int i, .int j => some (.bl (decide (j ≤ i))) | _, _ => none
def oCatS : D → D → Option D | .str x, .str y => if x.length + y.length ≤ sizeLine then some (.str (x ++ y)) else none | _, _ => none
def oCatT : D → D → Option D | .tup x, .tup y => if x.length + y.length ≤ sizeLine then some (.tup (x ++ y)) else none | _, _ => none
def oCatL : D → D → Option D | .lst x, .lst y => if x.length + y.length ≤ sizeLine then some (.lst (x ++ y)) else none | _, _ => none
def oEq : D → D → Option D := fun a b => if pln 64 a && pln 64 b then some (.bl (deq a b)) else none
def oNe : D → D → Option D := fun a b => if pln 64 a && pln 64 b then some (.bl (!deq a b)) else none

theorem opI_of {f : Value → Value → Sem Value} {g : Int → Int → V} {h : Int → Int → D} {o : D → D → Option D} (hr : OpR X f (rI0 g)) (hg : ∀ i j H, Rep X.K cl H (g i j) (h i j))
    (ho : ∀ a b d, o a b = some d → ∃ i j, a = .int i ∧ b = .int j ∧ d = h i j) : OpS X cl f o := by
  refine ⟨_, hr, fun Hv H x y a b d Q vw rx ry e q => ?_⟩
  obtain ⟨i, j, rfl, rfl, rfl⟩ := ho a b d e
  cases rx
  cases ry
  exact ⟨i, j, rfl, rfl, q _ _ _ (Ext.refl vw) (hg i j _)⟩
theorem opI_ofC {f : Value → Value → Sem Value} {C : Int → Int → Prop} {g : Int → Int → V} {h : Int → Int → D} {o : D → D → Option D} (hr : OpR X f (rI C g)) (hg : ∀ i j H, Rep X.K cl H (g i j) (h i j))
    (ho : ∀ a b d, o a b = some d → ∃ i j, a = .int i ∧ b = .int j ∧ C i j ∧ d = h i j) : OpS X cl f o := by
  refine ⟨_, hr, fun Hv H x y a b d Q vw rx ry e q => ?_⟩
  obtain ⟨i, j, rfl, rfl, hc, rfl⟩ := ho a b d e
  cases rx
  cases ry
  exact ⟨i, j, rfl, rfl, hc, q _ _ _ (Ext.refl vw) (hg i j _)⟩
theorem os_add : OpS X cl (binaryOp .Add) oAddI := opI_of (h := fun i j => .int (i + j)) op_add (fun _ _ _ => .int _) fun a b d e => by
  cases a <;> cases b <;> simp [oAddI] at e
  subst e; exact ⟨_, _, rfl, rfl, rfl⟩
theorem os_sub : OpS X cl (binaryOp .Sub) oSubI := opI_of (h := fun i j => .int (i - j)) op_sub (fun _ _ _ => .int _) fun a b d e => by
  cases a <;> cases b <;> simp [oSubI] at e
  subst e; exact ⟨_, _, rfl, rfl, rfl⟩
theorem os_lt : OpS X cl (compareOp .Lt) oLt := opI_of (h := fun i j => .bl (decide (i < j))) op_lt (fun _ _ _ => .bl _) fun a b d e => by
  cases a <;> cases b <;> simp [oLt] at e
  subst e; exact ⟨_, _, rfl, rfl, rfl⟩
theorem os_le : OpS X cl (compareOp .LtE) oLe := opI_of (h := fun i j => .bl (decide (i ≤ j))) op_le (fun _ _ _ => .bl _) fun a b d e => by
  cases a <;> cases b <;> simp [oLe] at e
  subst e; exact ⟨_, _, rfl, rfl, rfl⟩
theorem os_gt : OpS X cl (compareOp .Gt) oGt := opI_of (h := fun i j => .bl (decide (j < i))) op_gt (fun _ _ _ => .bl _) fun a b d e => by
  cases a <;> cases b <;> simp [oGt] at e
  subst e; exact ⟨_, _, rfl, rfl, rfl⟩
theorem os_ge : OpS X cl (compareOp .GtE) oGe := opI_of (h := fun i j => .bl (decide (j ≤ i))) op_ge (fun _ _ _ => .bl _) fun a b d e => by
  cases a <;> cases b <;> simp [oGe] at e
  subst e; exact ⟨_, _, rfl, rfl, rfl⟩
def CMulX (i j : Int) : Prop := mulOk i j = true
theorem op_mulX : OpR X (binaryOp .Mult) (rI CMulX fun i j => .int (i * j)) := opI fun i j _ _ _ _ _ hc q => by
  unfold CMulX mulOk at hc
  rw [Bool.or_eq_true, Bool.or_eq_true] at hc
  rcases hc with (h | h) | h
  · have h' : i.natAbs.log2 + j.natAbs.log2 < 1000000 := of_decide_eq_true h
    exact PyProof.Rows.mul_int q (CMulW.ok (i := i) (j := j) h')
  · exact PyProof.Rows.mul_int q (CMul.ok (.inl (of_decide_eq_true h)))
  · exact PyProof.Rows.mul_int q (CMul.ok (.inr (of_decide_eq_true h)))
theorem os_mul : OpS X cl (binaryOp .Mult) oMulI := opI_ofC (h := fun i j => .int (i * j)) op_mulX (fun _ _ _ => .int _) fun a b d e => by
  cases a <;> cases b <;> simp [oMulI] at e
  obtain ⟨h1, rfl⟩ := e; exact ⟨_, _, rfl, rfl, h1, rfl⟩
theorem op_divX : OpR X (binaryOp .FloorDiv) (rI (fun _ j => j ≠ 0 ∧ j.natAbs.log2 < 9000) fun i j => .int (i.fdiv j)) := opI fun i j _ _ _ _ _ hc q =>
  PyProof.Rows.floordiv_int hc.1 q (.inl (PyProof.noPylong_of_log2 hc.2))
theorem os_div : OpS X cl (binaryOp .FloorDiv) oDivI := opI_ofC (h := fun i j => .int (i.fdiv j)) op_divX (fun _ _ _ => .int _) fun a b d e => by
  cases a <;> cases b <;> simp [oDivI] at e
  obtain ⟨h1, rfl⟩ := e; exact ⟨_, _, rfl, rfl, h1, rfl⟩
theorem os_mod : OpS X cl (binaryOp .Mod) oModI := opI_ofC (h := fun i j => .int (i.fmod j)) op_modN (fun _ _ _ => .int _) fun a b d e => by
  cases a <;> cases b <;> simp [oModI] at e
  obtain ⟨h1, rfl⟩ := e; exact ⟨_, _, rfl, rfl, h1, rfl⟩
theorem os_catS : OpS X cl (binaryOp .Add) oCatS := by
  refine ⟨_, op_add_str, fun Hv H x y a b d Q vw rx ry e q => ?_⟩
  cases a <;> cases b <;> simp [oCatS] at e
  obtain ⟨h1, rfl⟩ := e
  cases rx; cases ry
  exact ⟨_, _, rfl, rfl, h1, q _ _ _ (Ext.refl vw) (.str _)⟩
theorem os_catT : OpS X cl (binaryOp .Add) oCatT := by
  refine ⟨_, op_catA, fun Hv H x y a b d Q vw rx ry e q => ?_⟩
  cases a <;> cases b <;> simp [oCatT] at e
  obtain ⟨h1, rfl⟩ := e
  cases rx with
  | tup s1 z1 r1 =>
    cases ry with
    | tup s2 z2 r2 =>
      have e1 := r1.length
      have e2 := r2.length
      refine ⟨_, _, _, _, rfl, rfl, vw.s.sqU s1, vw.s.sqU s2, by omega, fun h => ?_, fun h h' => ?_, fun h h' => ?_⟩
      · subst h; cases r1
        exact q _ _ _ (Ext.refl vw) (.tup s2 z2 r2)
      · subst h'; cases r2
        rw [List.append_nil] at q
        exact q _ _ _ (Ext.refl vw) (.tup s1 z1 r1)
      · exact new_tup vw (r1.append r2) (by rw [List.length_append]; omega) q
theorem os_catL : OpS X cl (binaryOp .Add) oCatL := by
  refine ⟨_, op_cat, fun Hv H x y a b d Q vw rx ry e q => ?_⟩
  cases a <;> cases b <;> simp [oCatL] at e
  obtain ⟨h1, rfl⟩ := e
  cases rx with
  | lst s1 z1 r1 =>
    cases ry with
    | lst s2 z2 r2 =>
      have e1 := r1.length
      have e2 := r2.length
      exact ⟨_, _, _, _, rfl, rfl, vw.s _ _ s1 rfl, vw.s _ _ s2 rfl, by omega, new_lst vw (r1.append r2) (by rw [List.length_append]; omega) q⟩
theorem os_eq (hu : X.A.units + 64 < cLine) : OpS X cl (compareOp .Eq) oEq := by
  refine ⟨_, op_eqD hu, fun Hv H x y a b d Q vw rx ry e q => ?_⟩
  unfold oEq at e
  split at e
  · rename_i h
    cases e
    rw [Bool.and_eq_true] at h
    refine ⟨toPy a, toPy b, (rx.mono vw.s).dp h.1, (ry.mono vw.s).dp h.2, pln_shaped h.1, pln_shaped h.2, ?_⟩
    rw [deq_py]
    exact q _ _ _ (Ext.refl vw) (.bl _)
  · cases e
theorem os_ne (hu : X.A.units + 64 < cLine) : OpS X cl (compareOp .NotEq) oNe := by
  refine ⟨_, op_neD hu, fun Hv H x y a b d Q vw rx ry e q => ?_⟩
  unfold oNe at e
  split at e
  · rename_i h
    cases e
    rw [Bool.and_eq_true] at h
    refine ⟨toPy a, toPy b, (rx.mono vw.s).dp h.1, (ry.mono vw.s).dp h.2, pln_shaped h.1, pln_shaped h.2, ?_⟩
    rw [deq_py]
    exact q _ _ _ (Ext.refl vw) (.bl _)
  · cases e
def oAdd : D → D → Option D
  | .int i, .int j => some (.int (i + j))
  | .str x, .str y => if x.length + y.length ≤ sizeLine then some (.str (x ++ y)) else none
  | .tup x, .tup y => if x.length + y.length ≤ sizeLine then some (.tup (x ++ y)) else none
  | .lst x, .lst y => if x.length + y.length ≤ sizeLine then some (.lst (x ++ y)) else none
  | _, _ => none
theorem os_plus : OpS X cl (binaryOp .Add) oAdd := (os_add.or (os_catS.or (os_catT.or os_catL))).imp fun a b d e => by
  unfold orO
  cases a <;> cases b <;> simp [oAdd] at e <;> simp [oAddI, oCatS, oCatT, oCatL, e]
end
end Sm
namespace Sm
open PySem PySem.Spec L2
section
variable {X : Cx} {W : WX} {cl : Glb} {pos p : Pos} {a b c e : Expr} {es : List Expr} {fa fb fc : DE}
def dVar (i : Nat) : DE := fun ρ => match ρ[i]? with | some (some d) => .ok d | _ => .bad
def dC (d : D) : DE := fun _ => .ok d
theorem se_var (i : Nat) {x : Str} (hN : X.N[i]? = some x := by rfl) (hv : Vis X.env.scope x := by first | exact Or.inl rfl | exact Or.inr (Or.inl rfl) | exact Or.inr (Or.inr rfl)) (hd : (x == ("__debug__" : Str)) = false := by decide)
    (hcd : (x == ("__classdict__" : Str)) = false := by decide) : SE X W cl (.Name x pos) (dVar i) := by
  refine ⟨_, pe_var hN hv hd hcd, fun Hv H σ ρ Q vw er pv => ?_⟩
  unfold dVar at pv
  split at pv
  · rename_i d h
    obtain ⟨v, h1, h2⟩ := er.get i d h
    exact ⟨v, h1, pv _ _ (Ext.refl vw) v h2⟩
  · exact pv.elim
theorem se_const {e : Expr} {v : V} {d : D} (h : PE X e (tC v)) (r : ∀ H, Rep X.K cl H v d) : SE X W cl e (dC d) :=
  ⟨_, h, fun _ _ _ _ _ vw _ pv => pv _ _ (Ext.refl vw) v (r _)⟩
theorem se_int {i : Int} {j : Nat} : SE X W cl (.Constant (.int i) j pos) (dC (.int i)) := se_const pe_int fun _ => .int i
theorem se_bl {i : Bool} {j : Nat} : SE X W cl (.Constant (.bool i) j pos) (dC (.bl i)) := se_const pe_bl fun _ => .bl i
theorem se_non {j : Nat} : SE X W cl (.Constant .none j pos) (dC .non) := se_const pe_non fun _ => .non
theorem se_str {i : Str} {j : Nat} : SE X W cl (.Constant (.str i) j pos) (dC (.str i)) := se_const pe_str fun _ => .str i
theorem se_globI {x : Str} {i : Int} {t : Tok} (hg : Gl X x) (hm : X.mg x = some (.int i t)) (hd : (x == ("__debug__" : Str)) = false := by decide) : SE X W cl (.Name x pos) (dC (.int i)) :=
  se_const (pe_glob (v := .int i) hg hm ⟨t, rfl⟩ hd) fun _ => .int i
def dBin (o : D → D → Option D) (fa fb : DE) : DE := fun ρ => (fa ρ).bind fun a => (fb ρ).bind fun b => ofO (o a b)
theorem bin_run {o : D → D → Option D} {r : R2} {ta tb : TE} (hs : ∀ (Hv H : Hp) (x y : V) (a b d : D) (Q : VK), Vw cl Hv H → Rep X.K cl Hv x a → Rep X.K cl Hv y b → o a b = some d →
      (∀ v Hv' H', Ext cl Hv H Hv' H' → Rep X.K cl Hv' v d → Q v H') → r x y H Q)
    (ha : RunE X W cl fa ta)
    (hb : RunE X W cl fb tb)
    : RunE X W cl (dBin o fa fb) (tOp r ta tb) := by
  intro Hv H σ ρ Q vw er pv
  refine ha Hv H σ ρ _ vw er (bindP pv fun x Hv1 H1 _ e1 pv1 v rv => ?_)
  refine hb Hv1 H1 σ ρ _ e1.vh (er.mono e1.vv) (bindP pv1 fun y Hv2 H2 _ e2 pv2 u ru => ?_)
  obtain ⟨d, ed, q⟩ := ofO_ok pv2
  exact hs Hv2 H2 v u x y d Q e2.vh (rv.mono e2.vv) ru ed fun v' Hv' H' e' r' => q Hv' H' e' v' r'
theorem se_op {op : Operator} {o : D → D → Option D} (ho : OpS X cl (binaryOp op) o) (ha : SE X W cl a fa) (hb : SE X W cl b fb) : SE X W cl (.BinOp a op b pos) (dBin o fa fb) := by
  obtain ⟨r, hr, hs⟩ := ho
  obtain ⟨ta, pa, ha⟩ := ha
  obtain ⟨tb, pb, hb⟩ := hb
  exact ⟨_, pe_op hr pa pb, bin_run hs ha hb⟩
theorem se_cmp {op : CmpOp} {o : D → D → Option D} (ho : OpS X cl (compareOp op) o) (ha : SE X W cl a fa) (hb : SE X W cl b fb) (hm : behindInMarks op b = false := by rfl) : SE X W cl (.Compare a [op] [b] pos) (dBin o fa fb) := by
  obtain ⟨r, hr, hs⟩ := ho
  obtain ⟨ta, pa, ha⟩ := ha
  obtain ⟨tb, pb, hb⟩ := hb
  exact ⟨_, pe_cmpR hr pa pb hm, bin_run hs ha hb⟩
def asB : DE → DT := fun f ρ => (f ρ).bind fun d => match d with | .bl b => .ok b | _ => .bad
theorem tTest_run {fa : DE} {ta : TE} (ha : RunE X W cl fa ta) : RunT X W cl (asB fa) (tTest ta) := by
  intro Hv H σ ρ Q vw er pv
  refine ha Hv H σ ρ _ vw er (bindP pv fun x Hv1 H1 _ e1 pv1 v rv => ?_)
  cases x with
  | bl k =>
    cases rv
    exact ⟨k, rfl, pv1 _ _ (Ext.refl e1.vh)⟩
  | _ => exact pv1.elim
theorem st_cmp {op : CmpOp} {o : D → D → Option D} (ho : OpS X cl (compareOp op) o) (ha : SE X W cl a fa) (hb : SE X W cl b fb) (hm : behindInMarks op b = false := by rfl) : ST X W cl (.Compare a [op] [b] pos) (asB (dBin o fa fb)) := by
  obtain ⟨r, hr, hs⟩ := ho
  obtain ⟨ta, pa, ha⟩ := ha
  obtain ⟨tb, pb, hb⟩ := hb
  exact ⟨_, pt_cmpR hr pa pb hm, tTest_run (bin_run hs ha hb)⟩
def dChain (o o' : D → D → Option D) (fa fb fc : DE) : DE := fun ρ => (fa ρ).bind fun a => (fb ρ).bind fun b => (ofO (o a b)).bind fun k => match k with
  | .bl true => (fc ρ).bind fun c => ofO (o' b c)
  | .bl false => .ok (.bl false)
  | _ => .bad
theorem chain_run {o o' : D → D → Option D} {r r' : R2} {ta tb tc : TE} (hs : ∀ (Hv H : Hp) (x y : V) (a b d : D) (Q : VK), Vw cl Hv H → Rep X.K cl Hv x a → Rep X.K cl Hv y b → o a b = some d →
      (∀ v Hv' H', Ext cl Hv H Hv' H' → Rep X.K cl Hv' v d → Q v H') → r x y H Q) (hs' : ∀ (Hv H : Hp) (x y : V) (a b d : D) (Q : VK), Vw cl Hv H → Rep X.K cl Hv x a → Rep X.K cl Hv y b → o' a b = some d →
      (∀ v Hv' H', Ext cl Hv H Hv' H' → Rep X.K cl Hv' v d → Q v H') → r' x y H Q)
    (ha : RunE X W cl fa ta) (hb : RunE X W cl fb tb) (hc : RunE X W cl fc tc) : RunE X W cl (dChain o o' fa fb fc) (tChain r r' ta tb tc) := by
  intro Hv H σ ρ Q vw er pv
  refine ha Hv H σ ρ _ vw er (bindP pv fun x Hv1 H1 _ e1 pv1 v rv => ?_)
  refine hb Hv1 H1 σ ρ _ e1.vh (er.mono e1.vv) (bindP pv1 fun y Hv2 H2 _ e2 pv2 u ru => ?_)
  cases eo : o x y with
  | none => rw [eo] at pv2; exact pv2.elim
  | some d =>
    rw [eo] at pv2
    refine hs Hv2 H2 v u x y d _ e2.vh (rv.mono e2.vv) ru eo fun z Hv3 H3 e3 rz => ?_
    cases d with
    | bl k =>
      cases rz
      refine ⟨k, rfl, ?_⟩
      have pv3 := Pst.ext pv2 e3
      cases k with
      | false =>
        rw [if_neg Bool.false_ne_true]
        exact pv3 _ _ (Ext.refl e3.vh) _ (.bl false)
      | true =>
        rw [if_pos rfl]
        refine hc Hv3 H3 σ ρ _ e3.vh (((er.mono e1.vv).mono e2.vv).mono e3.vv) (bindP (show Pst cl W σ Hv3 H3 (TV X.K cl Q) ((fc ρ).bind fun c => ofO (o' y c)) from pv3) fun w Hv4 H4 _ e4 pv4 t rt => ?_)
        obtain ⟨d', ed, q⟩ := ofO_ok pv4
        exact hs' Hv4 H4 u t y w d' Q e4.vh ((ru.mono e3.vv).mono e4.vv) rt ed fun v' Hv' H' e' r' => q Hv' H' e' v' r'
    | _ => exact pv2.elim
theorem se_chain {op op' : CmpOp} {o o' : D → D → Option D} (ho : OpS X cl (compareOp op) o) (ho' : OpS X cl (compareOp op') o') (ha : SE X W cl a fa) (hb : SE X W cl b fb) (hc : SE X W cl c fc) (hm : lastMarks [op, op'] [b, c] = false := by rfl) :
    SE X W cl (.Compare a [op, op'] [b, c] pos) (dChain o o' fa fb fc) := by
  obtain ⟨r, hr, hs⟩ := ho
  obtain ⟨r', hr', hs'⟩ := ho'
  obtain ⟨ta, pa, ha⟩ := ha
  obtain ⟨tb, pb, hb⟩ := hb
  obtain ⟨tc, pc, hc⟩ := hc
  exact ⟨_, pe_chain hr hr' pa pb pc hm, chain_run hs hs' ha hb hc⟩
theorem st_chain {op op' : CmpOp} {o o' : D → D → Option D} (ho : OpS X cl (compareOp op) o) (ho' : OpS X cl (compareOp op') o') (ha : SE X W cl a fa) (hb : SE X W cl b fb) (hc : SE X W cl c fc) (hm : lastMarks [op, op'] [b, c] = false := by rfl) :
    ST X W cl (.Compare a [op, op'] [b, c] pos) (asB (dChain o o' fa fb fc)) := by
  obtain ⟨r, hr, hs⟩ := ho
  obtain ⟨r', hr', hs'⟩ := ho'
  obtain ⟨ta, pa, ha⟩ := ha
  obtain ⟨tb, pb, hb⟩ := hb
  obtain ⟨tc, pc, hc⟩ := hc
  exact ⟨_, pt_chain hr hr' pa pb pc hm, tTest_run (chain_run hs hs' ha hb hc)⟩

def tru : D → Option Bool
  | .non => some false
  | .bl b => some b
  | .int i => some (i != 0)
  | .str x => if x.length ≤ sizeLine then some ((x.length : Int) != 0) else none
  | .tup xs => some (!xs.isEmpty)
  | .lst xs => some (!xs.isEmpty)
  | _ => none
theorem reps_isEmpty {K : PySem.W.Frag} {H : Hp} {xs : List V} {ds : List D} (r : Reps K cl H xs ds) : (!xs.isEmpty) = !ds.isEmpty := by cases r <;> rfl
theorem tru_rep {K : PySem.W.Frag} {Hv H : Hp} {v : V} {d : D} {k : Bool} (vw : Vw cl Hv H) (r : Rep K cl Hv v d) (h : tru d = some k) : TruV K v H k := by
  cases r with
  | non => exact (Option.some.inj h).symm
  | bl b => exact (Option.some.inj h).symm
  | int b => exact (Option.some.inj h).symm
  | str b =>
    simp only [tru] at h
    split at h
    · exact ⟨by assumption, (Option.some.inj h).symm⟩
    · cases h
  | lst s z r => exact .inl ⟨_, .inl (.inl (vw.s _ _ s rfl)), by rw [reps_isEmpty r]; exact (Option.some.inj h).symm⟩
  | tup s z r => exact .inr (.inl ⟨_, vw.s.sqU s, by rw [reps_isEmpty r]; exact (Option.some.inj h).symm⟩)
  | scr _ _ => cases h
  | scr0 _ _ => cases h
  | fnv _ => cases h
  | obj _ => cases h
  | dclK _ _ => cases h
  | dclT _ _ _ => cases h
  | scr1 _ _ => cases h
  | exc _ => cases h
  | dctK _ _ => cases h
  | dctT _ _ _ => cases h
def dTru (f : DE) : DT := fun ρ => (f ρ).bind fun d => ofO (tru d)
theorem st_truth (ha : SE X W cl a fa) (he : ∀ whole, isTrue a X.env whole = (do let v ← whole; standAt a.pos; holding [v] (truthy v)) := by intro _; rfl) : ST X W cl a (dTru fa) := by
  obtain ⟨ta, pa, ha⟩ := ha
  refine ⟨_, pt_truth pa he, fun Hv H σ ρ Q vw er pv => ?_⟩
  refine ha Hv H σ ρ _ vw er (bindP pv fun x Hv1 H1 _ e1 pv1 v rv => ?_)
  obtain ⟨k, ek, q⟩ := ofO_ok pv1
  exact ⟨k, tru_rep e1.vh rv ek, q _ _ (Ext.refl e1.vh)⟩
def dNotT (f : DT) : DT := fun ρ => (f ρ).bind fun b => .ok (!b)
theorem st_not {f : DT} (ha : ST X W cl a f) : ST X W cl (.UnaryOp .Not a pos) (dNotT f) := by
  obtain ⟨ta, pa, ha⟩ := ha
  refine ⟨_, pt_not pa, fun Hv H σ ρ Q vw er pv => ?_⟩
  exact ha Hv H σ ρ _ vw er (bindP pv fun x Hv1 H1 _ e1 pv1 => pv1 _ _ (Ext.refl e1.vh))
def dAndT (f g : DT) : DT := fun ρ => (f ρ).bind fun b => match b with | true => g ρ | false => .ok false
def dOrT (f g : DT) : DT := fun ρ => (f ρ).bind fun b => match b with | true => .ok true | false => g ρ
theorem sw_one {f : DT} {op : BoolOp} (ha : ST X W cl a f) : SW X W cl (.BoolOp op [a] pos) f := by
  obtain ⟨ta, pa, ha⟩ := ha
  cases op with
  | And => exact ⟨_, pw_and1 pa, ha⟩
  | Or => exact ⟨_, pw_or1 pa, ha⟩
theorem sw_and {f g : DT} (ha : ST X W cl a f) (hb : SW X W cl (.BoolOp .And (b :: es) pos) g) : SW X W cl (.BoolOp .And (a :: b :: es) pos) (dAndT f g) := by
  obtain ⟨ta, pa, ha⟩ := ha
  obtain ⟨tb, pb, hb⟩ := hb
  refine ⟨_, pw_and pa pb, fun Hv H σ ρ Q vw er pv => ?_⟩
  refine ha Hv H σ ρ _ vw er (bindP pv fun x Hv1 H1 _ e1 pv1 => ?_)
  show if x = true then tb σ H1 Q else Q false H1
  cases x with
  | true => rw [if_pos rfl]; exact hb Hv1 H1 σ ρ Q e1.vh (er.mono e1.vv) pv1
  | false => rw [if_neg Bool.false_ne_true]; exact pv1 _ _ (Ext.refl e1.vh)
theorem sw_or {f g : DT} (ha : ST X W cl a f) (hb : SW X W cl (.BoolOp .Or (b :: es) pos) g) : SW X W cl (.BoolOp .Or (a :: b :: es) pos) (dOrT f g) := by
  obtain ⟨ta, pa, ha⟩ := ha
  obtain ⟨tb, pb, hb⟩ := hb
  refine ⟨_, pw_or pa pb, fun Hv H σ ρ Q vw er pv => ?_⟩
  refine ha Hv H σ ρ _ vw er (bindP pv fun x Hv1 H1 _ e1 pv1 => ?_)
  show if x = true then Q true H1 else tb σ H1 Q
  cases x with
  | true => rw [if_pos rfl]; exact pv1 _ _ (Ext.refl e1.vh)
  | false => rw [if_neg Bool.false_ne_true]; exact hb Hv1 H1 σ ρ Q e1.vh (er.mono e1.vv) pv1
theorem SW.st {f : DT} (h : SW X W cl e f) : ST X W cl e f := by
  obtain ⟨t, pt, h⟩ := h
  exact ⟨t, pt.pt, h⟩
def dAnd (f g : DE) : DE := fun ρ => (f ρ).bind fun x => (ofO (tru x)).bind fun k => match k with | true => g ρ | false => .ok x
def dOr (f g : DE) : DE := fun ρ => (f ρ).bind fun x => (ofO (tru x)).bind fun k => match k with | true => .ok x | false => g ρ
def dNot (f : DE) : DE := fun ρ => (f ρ).bind fun x => (ofO (tru x)).bind fun k => .ok (.bl (!k))
theorem se_one {op : BoolOp} (ha : SE X W cl a fa) : SE X W cl (.BoolOp op [a] pos) fa := by
  obtain ⟨ta, pa, ha⟩ := ha
  exact ⟨_, pe_one pa, ha⟩
theorem se_and (ha : SE X W cl a fa) (hb : SE X W cl (.BoolOp .And (b :: es) pos) fb) : SE X W cl (.BoolOp .And (a :: b :: es) pos) (dAnd fa fb) := by
  obtain ⟨ta, pa, ha⟩ := ha
  obtain ⟨tb, pb, hb⟩ := hb
  refine ⟨_, pe_andT pa pb, fun Hv H σ ρ Q vw er pv => ?_⟩
  refine ha Hv H σ ρ _ vw er (bindP pv fun x Hv1 H1 _ e1 pv1 v rv => ?_)
  cases ek : tru x with
  | none => rw [ek] at pv1; exact pv1.elim
  | some k =>
    rw [ek] at pv1
    refine ⟨k, tru_rep e1.vh rv ek, ?_⟩
    cases k with
    | true => rw [if_pos rfl]; exact hb Hv1 H1 σ ρ Q e1.vh (er.mono e1.vv) pv1
    | false => rw [if_neg Bool.false_ne_true]; exact pv1 _ _ (Ext.refl e1.vh) v rv
theorem se_or (ha : SE X W cl a fa) (hb : SE X W cl (.BoolOp .Or (b :: es) pos) fb) : SE X W cl (.BoolOp .Or (a :: b :: es) pos) (dOr fa fb) := by
  obtain ⟨ta, pa, ha⟩ := ha
  obtain ⟨tb, pb, hb⟩ := hb
  refine ⟨_, pe_orT pa pb, fun Hv H σ ρ Q vw er pv => ?_⟩
  refine ha Hv H σ ρ _ vw er (bindP pv fun x Hv1 H1 _ e1 pv1 v rv => ?_)
  cases ek : tru x with
  | none => rw [ek] at pv1; exact pv1.elim
  | some k =>
    rw [ek] at pv1
    refine ⟨k, tru_rep e1.vh rv ek, ?_⟩
    cases k with
    | true => rw [if_pos rfl]; exact pv1 _ _ (Ext.refl e1.vh) v rv
    | false => rw [if_neg Bool.false_ne_true]; exact hb Hv1 H1 σ ρ Q e1.vh (er.mono e1.vv) pv1
theorem se_not (ha : SE X W cl a fa) : SE X W cl (.UnaryOp .Not a pos) (dNot fa) := by
  obtain ⟨ta, pa, ha⟩ := ha
  refine ⟨_, pe_notT pa, fun Hv H σ ρ Q vw er pv => ?_⟩
  refine ha Hv H σ ρ _ vw er (bindP pv fun x Hv1 H1 _ e1 pv1 v rv => ?_)
  cases ek : tru x with
  | none => rw [ek] at pv1; exact pv1.elim
  | some k =>
    rw [ek] at pv1
    exact ⟨k, tru_rep e1.vh rv ek, pv1 _ _ (Ext.refl e1.vh) _ (.bl _)⟩
def dIf (t : DT) (f g : DE) : DE := fun ρ => (t ρ).bind fun k => match k with | true => f ρ | false => g ρ
theorem se_if {t : DT} (hc : ST X W cl c t) (ha : SE X W cl a fa) (hb : SE X W cl b fb) : SE X W cl (.IfExp c a b pos) (dIf t fa fb) := by
  obtain ⟨tc, pc, hc⟩ := hc
  obtain ⟨ta, pa, ha⟩ := ha
  obtain ⟨tb, pb, hb⟩ := hb
  refine ⟨_, pe_ifExp pc pa pb, fun Hv H σ ρ Q vw er pv => ?_⟩
  refine hc Hv H σ ρ _ vw er (bindP pv fun x Hv1 H1 _ e1 pv1 => ?_)
  show if x = true then ta σ H1 Q else tb σ H1 Q
  cases x with
  | true => rw [if_pos rfl]; exact ha Hv1 H1 σ ρ Q e1.vh (er.mono e1.vv) pv1
  | false => rw [if_neg Bool.false_ne_true]; exact hb Hv1 H1 σ ρ Q e1.vh (er.mono e1.vv) pv1
def oNeg : D → Option D | .int i => some (.int (-i)) | _ => none
def dUn (o : D → Option D) (f : DE) : DE := fun ρ => (f ρ).bind fun x => ofO (o x)
theorem se_neg (ha : SE X W cl a fa) : SE X W cl (.UnaryOp .USub a pos) (dUn oNeg fa) := by
  obtain ⟨ta, pa, ha⟩ := ha
  refine ⟨_, pe_un un_neg pa, fun Hv H σ ρ Q vw er pv => ?_⟩
  refine ha Hv H σ ρ _ vw er (bindP pv fun x Hv1 H1 _ e1 pv1 v rv => ?_)
  obtain ⟨d, ed, q⟩ := ofO_ok pv1
  cases x <;> simp [oNeg] at ed
  subst ed
  cases rv
  exact ⟨_, rfl, q _ _ (Ext.refl e1.vh) _ (.int _)⟩

def dNil : DA := fun _ => .ok []
def dCons (f : DE) (g : DA) : DA := fun ρ => (f ρ).bind fun a => (g ρ).bind fun as => .ok (a :: as)
theorem sa_nil : SA X W cl [] dNil := ⟨_, pa_nil, fun Hv H σ ρ Q vw er pv => pv _ _ (Ext.refl vw) [] .nil, fun ρ ds h => by cases h; rfl⟩
theorem sa_cons {g : DA} (ha : SE X W cl e fa) (hr : SA X W cl es g) (hs : starEach (e :: es) X.env = (false, eval e X.env) :: starEach es X.env := by rfl) : SA X W cl (e :: es) (dCons fa g) := by
  obtain ⟨ta, pa, ha⟩ := ha
  obtain ⟨tr, pr, hr, hl⟩ := hr
  refine ⟨_, pa_cons pa pr hs, fun Hv H σ ρ Q vw er pv => ?_, fun ρ ds h => ?_⟩
  · refine ha Hv H σ ρ _ vw er (bindP pv fun x Hv1 H1 _ e1 pv1 v rv => ?_)
    refine hr Hv1 H1 σ ρ _ e1.vh (er.mono e1.vv) (bindP pv1 fun y Hv2 H2 _ e2 pv2 u ru => ?_)
    exact pv2 _ _ (Ext.refl e2.vh) _ (.cons (rv.mono e2.vv) ru)
  · unfold dCons at h
    cases h1 : fa ρ with
    | ok x =>
      cases h2 : g ρ with
      | ok y =>
        rw [h1, h2] at h
        cases h
        rw [List.length_cons, List.length_cons, hl ρ y h2]
      | err c => rw [h1, h2] at h; cases h
      | bad => rw [h1, h2] at h; cases h
    | err c => rw [h1] at h; cases h
    | bad => rw [h1] at h; cases h
def dTup (g : DA) : DE := fun ρ => (g ρ).bind fun ds => .ok (.tup ds)
def dLst (g : DA) : DE := fun ρ => (g ρ).bind fun ds => .ok (.lst ds)
theorem small_line {n : Nat} (h : decide (n ≤ 1000) = true) : n ≤ sizeLine := Nat.le_of_lt (small1000 (of_decide_eq_true h))
theorem se_tup {g : DA} {x1 : Nat} (h : SA X W cl es g) (hn : decide (es.length ≤ 1000) = true := by rfl) : SE X W cl (.Tuple es x1 pos) (dTup g) := by
  obtain ⟨ta, pa, ha, hl⟩ := h
  refine ⟨_, pe_tup pa, fun Hv H σ ρ Q vw er pv => ?_⟩
  refine ha Hv H σ ρ _ vw er (bindP pv fun x Hv1 H1 ex e1 pv1 v rv => ?_)
  have z : v.length ≤ sizeLine := by rw [rv.length, hl ρ x ex]; exact small_line hn
  exact ⟨z, new_tup e1.vh rv z fun v' Hv' H' e' r' => pv1 _ _ e' v' r'⟩
theorem se_lst {g : DA} (h : SA X W cl es g) (hn : decide (es.length ≤ 1000) = true := by rfl) : SE X W cl (.List es pos) (dLst g) := by
  obtain ⟨ta, pa, ha, hl⟩ := h
  refine ⟨_, pe_lst pa, fun Hv H σ ρ Q vw er pv => ?_⟩
  refine ha Hv H σ ρ _ vw er (bindP pv fun x Hv1 H1 ex e1 pv1 v rv => ?_)
  have z : v.length ≤ sizeLine := by rw [rv.length, hl ρ x ex]; exact small_line hn
  exact ⟨z, new_lst e1.vh rv z fun v' Hv' H' e' r' => pv1 _ _ e' v' r'⟩

def intsD : List D → Option (List Int)
  | [] => some []
  | .int i :: ds => (intsD ds).map (i :: ·)
  | _ => none
theorem intsD_eq : ∀ {xs : List D} {k : List Int}, intsD xs = some k → xs = k.map .int
  | [], k, h => by cases h; rfl
  | .int i :: ds, k, h => by
    simp only [intsD, Option.map_eq_some_iff] at h
    obtain ⟨k', h1, rfl⟩ := h
    rw [intsD_eq h1]; rfl
  | .non :: _, k, h => by cases h
  | .bl _ :: _, k, h => by cases h
  | .str _ :: _, k, h => by cases h
  | .tup _ :: _, k, h => by cases h
  | .lst _ :: _, k, h => by cases h
  | .dct _ :: _, k, h => by cases h
  | .exc _ :: _, k, h => by cases h
  | .scr _ :: _, k, h => by cases h
  | .scr0 :: _, k, h => by cases h
  | .fnv :: _, k, h => by cases h
  | .obj _ :: _, k, h => by cases h
  | .dcl _ :: _, k, h => by cases h
  | .scr1 :: _, k, h => by cases h
theorem intsD_map : ∀ k : List Int, intsD (k.map .int) = some k
  | [] => rfl
  | i :: k => by simp [intsD, intsD_map k]
def isKI (i : Int) : D → Bool | .int j => j == i | _ => false
def isKT (a : List Int) : D → Bool | .tup ys => intsD ys == some a | _ => false
def kInt : D → Bool | .int _ => true | _ => false
def kTup : D → Bool | .tup ys => (intsD ys).isSome | _ => false
def findE (t : D → Bool) (es : List (D × D)) : Option D := (es.find? fun e => t e.1).map (·.2)
def oGetK (es : List (D × D)) : D → Option (Option D)
  | .int i => if es.all fun e => kInt e.1 then some (findE (isKI i) es) else none
  | .tup xs => match intsD xs with
    | some a => if es ≠ [] ∧ es.all fun e => kTup e.1 then some (findE (isKT a) es) else none
    | none => none
  | _ => none
def oIx : D → D → Option D
  | .dct es, k => (oGetK es k).bind id
  | .dcl es, k => (oGetK es k).bind id
  | .lst ds, .int i => atI ds i
  | .tup ds, .int i => atI ds i
  | .scr ns, .int i => (atI ns i).map .int
  | .str z, .int i => if z.length ≤ sizeLine then (atI z.cps.toList i).map fun c => .str ⟨#[c]⟩ else none
  | _, _ => none
def oIxS : D → D → Option D
  | .lst ds, .int i => atI ds i
  | .tup ds, .int i => atI ds i
  | .scr ns, .int i => (atI ns i).map .int
  | .str z, .int i => if z.length ≤ sizeLine then (atI z.cps.toList i).map fun c => .str ⟨#[c]⟩ else none
  | _, _ => none
theorem reps_atI {K : PySem.W.Frag} {H : Hp} {xs : List V} {ds : List D} {i : Int} {d : D} (r : Reps K cl H xs ds) (h : atI ds i = some d) : ∃ v, atI xs i = some v ∧ Rep K cl H v d := by
  unfold atI at h ⊢
  rw [← r.length] at h
  cases q : ixN xs.length i with
  | none => rw [q] at h; cases h
  | some j =>
    rw [q] at h
    obtain ⟨v, h1, h2⟩ := r.get (i := j) h
    exact ⟨v, h1, h2⟩
theorem se_ix (ha : SE X W cl a fa) (hb : SE X W cl b fb) (hs : PlainIx b := by intro _ _; rfl) : SE X W cl (.Subscript a b pos) (dBin oIxS fa fb) := by
  obtain ⟨ta, pa, ha⟩ := ha
  obtain ⟨tb, pb, hb⟩ := hb
  refine ⟨_, pe_ix ix_seq pa pb hs, bin_run (fun Hv H x y a b d Q vw rx ry e q => ?_) ha hb⟩
  cases b with
  | int i =>
    cases ry
    cases rx with
    | lst s z r =>
      obtain ⟨v, h1, h2⟩ := reps_atI r e
      exact .inl ⟨_, _, i, v, rfl, rfl, .inl (.inl (vw.s _ _ s rfl)), h1, q _ _ _ (Ext.refl vw) h2⟩
    | tup s z r =>
      obtain ⟨v, h1, h2⟩ := reps_atI r e
      exact .inr (.inl ⟨_, _, i, v, rfl, rfl, vw.s.sqU s, h1, q _ _ _ (Ext.refl vw) h2⟩)
    | scr s z =>
      simp only [oIxS, Option.map_eq_some_iff] at e
      obtain ⟨n, h1, rfl⟩ := e
      refine .inl ⟨_, _, i, .int n, rfl, rfl, vw.s.sqL s, ?_, q _ _ _ (Ext.refl vw) (.int n)⟩
      unfold atI at h1 ⊢
      rw [List.length_map]
      cases z : ixN _ i with
      | none => rw [z] at h1; cases h1
      | some j =>
        rw [z] at h1
        show (List.map V.int _)[j]? = _
        have h2 : _[j]? = some n := h1
        rw [List.getElem?_map, h2]; rfl
    | str z =>
      simp only [oIxS] at e
      split at e
      · rw [Option.map_eq_some_iff] at e
        obtain ⟨c, h1, rfl⟩ := e
        exact .inr (.inr ⟨_, _, c, rfl, rfl, by assumption, h1, q _ _ _ (Ext.refl vw) (.str _)⟩)
      · cases e
    | _ => cases e
  | _ => cases a <;> cases e
end
end Sm
namespace Sm
open PySem PySem.Spec L2
def spF (K : PySem.W.Frag) (cl : Glb) (n : Nat) (F : List D → R D) : Sp := fun vs H Q E => vs.length = n ∧ ∃ Hv ds, Vw cl Hv H ∧ Reps K cl Hv vs ds ∧ Pst cl (fun c d _ H => E c d H) [] Hv H (TV K cl Q) (F ds)
structure Fn (P : Program) (w : World) (K : PySem.W.Frag) (mg : Str → Option Value) (base : Heap) (cl : Glb) (k : Nat) (x : Str) (n : Nat) (F : List D → R D) : Prop where
  ex : ∃ f fd ps, FnOk P w K mg base (L2.CX P w) k f fd ps (spF K cl n F) ∧ mg x = some (.ref f) ∧ PySem.W.keepIn K (.ref f) = true ∧ Binds K fd ps [] ∧ ps.length = n
theorem Fn.mono {P : Program} {w : World} {K : PySem.W.Frag} {mg : Str → Option Value} {base : Heap} {cl : Glb} {k k' : Nat} {x : Str} {n : Nat} {F : List D → R D} (h : Fn P w K mg base cl k x n F) (hk : k ≤ k') : Fn P w K mg base cl k' x n F := by
  obtain ⟨f, fd, ps, h1, h2, h3, h4, h5⟩ := h
  exact ⟨f, fd, ps, h1.mono hk, h2, h3, h4, h5⟩
section
variable {X : Cx} {W : WX} {cl : Glb} {pos p : Pos} {a b c e : Expr} {es : List Expr} {fa fb fc : DE} {g : DA}
def dCall (F : List D → R D) (g : DA) : DE := fun ρ => (g ρ).bind F
theorem se_call {k n : Nat} {x : Str} {F : List D → R D} (G : Fn X.prog X.w X.K X.mg X.base cl k x n F) (hr : Room k X.A) (tk : Takes X W) (ha : SA X W cl (e :: es) g) (hg : Gl X x := by rfl) (hn : (e :: es).length = n := by rfl) (hdb : (x == ("__debug__" : Str)) = false := by decide)
    (he : starEach (e :: es) X.env = (false, eval e X.env) :: starEach es X.env := by rfl) (hpl : (backTo pos (starEach es X.env)).any (·.1) = false := by rfl) :
    SE X W cl (.Call (.Name x p) (e :: es) [] pos) (dCall F g) := by
  obtain ⟨f, fd, ps, h1, h2, h3, h4, h5⟩ := G
  obtain ⟨ta, pa, ha, hl⟩ := ha
  refine ⟨_, pe_callS h1 hr hg h2 h3 h4 (fun σ => passAt tk σ) pa hdb he hpl, fun Hv H σ ρ Q vw er pv => ?_⟩
  refine ha Hv H σ ρ _ vw er (bindP pv fun x Hv1 H1 ex e1 pv1 v rv => ?_)
  refine ⟨?_, Hv1, x, e1.vh, rv, ?_⟩
  · rw [rv.length, hl ρ x ex]; exact hn
  · cases q : F x with
    | ok d => rw [q] at pv1; exact pv1
    | err c => rw [q] at pv1; exact pv1
    | bad => rw [q] at pv1; exact pv1.elim

section
variable (X : Cx) (cl : Glb)
def CallS (f : Value) (o : List D → Option D) : Prop := ∃ r, CallR X f r ∧ ∀ (Hv H : Hp) (xs : List V) (ds : List D) (d : D) (Q : VK), Vw cl Hv H → Reps X.K cl Hv xs ds → o ds = some d →
  (∀ v Hv' H', Ext cl Hv H Hv' H' → Rep X.K cl Hv' v d → Q v H') → r xs H Q
end
def dB (o : List D → Option D) (g : DA) : DE := fun ρ => (g ρ).bind fun ds => ofO (o ds)
theorem callB_run {o : List D → Option D} {r : List V → Hp → VK → Prop} {t : TA} (hs : ∀ (Hv H : Hp) (xs : List V) (ds : List D) (d : D) (Q : VK), Vw cl Hv H → Reps X.K cl Hv xs ds → o ds = some d →
  (∀ v Hv' H', Ext cl Hv H Hv' H' → Rep X.K cl Hv' v d → Q v H') → r xs H Q) (ha : RunA X W cl g t) : RunE X W cl (dB o g) (tCB r t) := by
  intro Hv H σ ρ Q vw er pv
  refine ha Hv H σ ρ _ vw er (bindP pv fun x Hv1 H1 ex e1 pv1 v rv => ?_)
  obtain ⟨d, ed, q⟩ := ofO_ok pv1
  exact hs Hv1 H1 v x d Q e1.vh rv ed fun v' Hv' H' e' r' => q Hv' H' e' v' r'
theorem se_callB {x : Str} {id : String} {o : List D → Option D} (hc : CallS X cl (.builtin id) o) (hv : bootBuiltins x = some (.builtin id)) (ha : SA X W cl (e :: es) g) (hm : X.mg x = none) (hg : Gl X x := by rfl) (hn : x ≠ "__name__" := by decide) (hdb : (x == ("__debug__" : Str)) = false := by decide)
    (he : starEach (e :: es) X.env = (false, eval e X.env) :: starEach es X.env := by rfl) (hpl : (backTo pos (starEach es X.env)).any (·.1) = false := by rfl) : SE X W cl (.Call (.Name x p) (e :: es) [] pos) (dB o g) := by
  obtain ⟨r, hr, hs⟩ := hc
  obtain ⟨ta, pa, ha, hl⟩ := ha
  exact ⟨_, pe_callB hr hg hm hv pa hn hdb he hpl, callB_run hs ha⟩
theorem se_callTy {x : Str} {T : String} {o : List D → Option D} (hc : CallS X cl (.type T) o) (hv : bootBuiltins x = some (.type T)) (ha : SA X W cl (e :: es) g) (hm : X.mg x = none) (hg : Gl X x := by rfl) (hn : x ≠ "__name__" := by decide) (hdb : (x == ("__debug__" : Str)) = false := by decide)
    (he : starEach (e :: es) X.env = (false, eval e X.env) :: starEach es X.env := by rfl) (hpl : (backTo pos (starEach es X.env)).any (·.1) = false := by rfl) : SE X W cl (.Call (.Name x p) (e :: es) [] pos) (dB o g) := by
  obtain ⟨r, hr, hs⟩ := hc
  obtain ⟨ta, pa, ha, hl⟩ := ha
  exact ⟨_, pe_callTy hr hg hm hv pa hn hdb he hpl, callB_run hs ha⟩

def oLen : List D → Option D
  | [.lst ds] => some (.int ds.length)
  | [.tup ds] => some (.int ds.length)
  | [.scr ds] => some (.int ds.length)
  | [.str z] => if z.length ≤ sizeLine then some (.int z.length) else none
  | _ => none
theorem cs_len : CallS X cl (.builtin "len") oLen := by
  refine ⟨_, call_len, fun Hv H xs ds d Q vw r e q => ?_⟩
  cases r with
  | nil => cases e
  | cons r t =>
    cases t with
    | cons _ _ => cases r <;> cases e
    | nil =>
      cases r with
      | lst s z r =>
        cases e
        refine ⟨_, _, rfl, .inl ⟨_, .inl (.inl (vw.s _ _ s rfl)), rfl⟩, ?_⟩
        rw [r.length]; exact q _ _ _ (Ext.refl vw) (.int _)
      | tup s z r =>
        cases e
        refine ⟨_, _, rfl, .inr ⟨_, vw.s.sqU s, rfl⟩, ?_⟩
        rw [r.length]; exact q _ _ _ (Ext.refl vw) (.int _)
      | scr s z =>
        cases e
        refine ⟨_, _, rfl, .inl ⟨_, vw.s.sqL s, rfl⟩, ?_⟩
        rw [List.length_map]; exact q _ _ _ (Ext.refl vw) (.int _)
      | str z =>
        simp only [oLen] at e
        split at e
        · cases e
          exact ⟨_, _, rfl, ⟨by assumption, rfl⟩, q _ _ _ (Ext.refl vw) (.int _)⟩
        · cases e
      | _ => cases e
def oAbs : List D → Option D | [.int i] => some (.int (if i < 0 then -i else i)) | _ => none
theorem cs_abs : CallS X cl (.builtin "abs") oAbs := by
  refine ⟨_, call_abs, fun Hv H xs ds d Q vw r e q => ?_⟩
  cases r with
  | nil => cases e
  | cons r t =>
    cases t with
    | cons _ _ => cases r <;> cases e
    | nil =>
      cases r with
      | int i =>
        cases e
        exact ⟨_, rfl, q _ _ _ (Ext.refl vw) (.int _)⟩
      | _ => cases e
def oMax2 : List D → Option D | [.int i, .int j] => some (.int (if j > i then j else i)) | _ => none
theorem cs_max2 (hc : X.calm = true) : CallS X cl (.builtin "max") oMax2 := by
  refine ⟨_, call_max2 hc, fun Hv H xs ds d Q vw r e q => ?_⟩
  cases r with
  | nil => cases e
  | cons r t =>
    cases t with
    | nil => cases r <;> cases e
    | cons r' t =>
      cases t with
      | cons _ _ => cases r <;> cases r' <;> cases e
      | nil =>
        cases r with
        | int i =>
          cases r' with
          | int j => cases e; exact ⟨_, _, rfl, q _ _ _ (Ext.refl vw) (.int _)⟩
          | _ => cases e
        | _ => cases r' <;> cases e
end
structure ItOk (K : PySem.W.Frag) (cl : Glb) (J : It) (Hv0 : Hp) (ds : List D) : Prop where
  go : ∀ i Hv H, Sam Hv0 Hv → Vw cl Hv H → i < ds.length → J.go i H
  stop : ∀ i Hv H, Sam Hv0 Hv → Vw cl Hv H → i = ds.length → J.stop i H
  yld : ∀ (i : Nat) Hv H, Sam Hv0 Hv → Vw cl Hv H → ∀ d, ds[i]? = some d → ∀ x H', J.yld i H x H' → ∃ Hv', Ext cl Hv H Hv' H' ∧ Rep K cl Hv' x d
abbrev DI := Env → R (List D)
def TJ (K : PySem.W.Frag) (cl : Glb) (Q : It → Hp → Prop) : Hp → Hp → List D → Prop := fun Hv' H' ds => ds.length ≤ sizeLine → ∀ J, ItOk K cl J Hv' ds → Q J H'
def SI (X : Cx) (W : WX) (cl : Glb) (tg iter : Expr) (f : DI) : Prop := ∃ wi, PI X tg iter wi ∧ ∀ (Hv H : Hp) (σ : St) (ρ : Env) (Q : It → Hp → Prop), Vw cl Hv H → ER X.K cl Hv ρ σ → Pst cl W σ Hv H (TJ X.K cl Q) (f ρ) → wi σ H Q
theorem PI.or {X : Cx} {tg iter : Expr} {w1 w2 : TI} (h1 : PI X tg iter w1) (h2 : PI X tg iter w2) : PI X tg iter (fun σ H R => w1 σ H R ∨ w2 σ H R) :=
  ⟨fun pins s σ H R I h => h.elim (h1.run pins s σ H R I) (h2.run pins s σ H R I)⟩
section
variable {X : Cx} {W : WX} {cl : Glb} {pos p : Pos} {a b c e tg : Expr} {es : List Expr} {fa fb fc : DE} {g : DA}
def itemsOf : D → Option (List D)
  | .lst ds => some ds
  | .tup ds => some ds
  | .scr ns => some (ns.map .int)
  | _ => none
def dItems (f : DE) : DI := fun ρ => (f ρ).bind fun d => ofO (itemsOf d)
theorem it_list {K : PySem.W.Frag} {Hv : Hp} {l : Addr} {xs : List V} {ds : List D} (s : SqL K Hv l xs) (r : Reps K cl Hv xs ds) : ItOk K cl (Itl K l) Hv ds where
  go := fun i Hv' H sm vw h => by
    have hl := r.length
    obtain ⟨v, h1, _⟩ := r.get (i := i) (d := ds[i]) (by simp [h])
    exact ⟨xs, v, vw.s.sqL (sm.sqL s), h1⟩
  stop := fun i Hv' H sm vw h => ⟨xs, vw.s.sqL (sm.sqL s), by rw [r.length]; omega⟩
  yld := fun i Hv' H sm vw d h x H' ⟨e1, e2⟩ => by
    subst e1
    obtain ⟨v, h1, h2⟩ := r.get h
    have := e2 xs (vw.s.sqL (sm.sqL s))
    rw [h1] at this; cases this
    exact ⟨Hv', Ext.refl vw, h2.mono sm⟩
theorem it_tup {K : PySem.W.Frag} {Hv : Hp} {l : Addr} {xs : List V} {ds : List D} (s : SqT K Hv l xs) (r : Reps K cl Hv xs ds) : ItOk K cl (Itt K l) Hv ds where
  go := fun i Hv' H sm vw h => by
    have hl := r.length
    obtain ⟨v, h1, _⟩ := r.get (i := i) (d := ds[i]) (by simp [h])
    exact ⟨xs, v, vw.s.sqT (sm.sqT s), h1⟩
  stop := fun i Hv' H sm vw h => ⟨xs, vw.s.sqT (sm.sqT s), by rw [r.length]; omega⟩
  yld := fun i Hv' H sm vw d h x H' ⟨e1, e2⟩ => by
    subst e1
    obtain ⟨v, h1, h2⟩ := r.get h
    have := e2 xs (vw.s.sqT (sm.sqT s))
    rw [h1] at this; cases this
    exact ⟨Hv', Ext.refl vw, h2.mono sm⟩
theorem reps_ints {K : PySem.W.Frag} {H : Hp} : ∀ ns : List Int, Reps K cl H (ns.map V.int) (ns.map D.int)
  | [] => .nil
  | n :: ns => .cons (.int n) (reps_ints ns)
theorem si_seq (ha : SE X W cl a fa) : SI X W cl tg a (dItems fa) := by
  obtain ⟨ta, pa, ha⟩ := ha
  refine ⟨_, PI.or (pi_list pa) (pi_tup pa), fun Hv H σ ρ Q vw er pv => ?_⟩
  unfold dItems at pv
  cases q : fa ρ with
  | bad => rw [q] at pv; exact pv.elim
  | err c =>
    rw [q] at pv
    exact .inl (ha Hv H σ ρ _ vw er (by rw [q]; exact pv))
  | ok d =>
    rw [q] at pv
    have left : ∀ ds, (itemsOf d = some ds) → (∀ v Hv1, Rep X.K cl Hv1 v d → ∃ l xs, v = .ref l ∧ SqL X.K Hv1 l xs ∧ Reps X.K cl Hv1 xs ds ∧ ds.length ≤ sizeLine) → iList X.K ta σ H Q := fun ds ed hd => by
      refine ha Hv H σ ρ _ vw er ?_
      rw [q]
      intro Hv1 H1 e1 v rv
      obtain ⟨l, xs, rfl, s, r, z⟩ := hd v Hv1 rv
      have pv1 : Pst cl W σ Hv H (TJ X.K cl Q) (ofO (itemsOf d)) := pv
      rw [ed] at pv1
      exact ⟨l, rfl, ⟨xs, e1.vh.s.sqL s⟩, pv1 Hv1 H1 e1 z _ (it_list s r)⟩
    cases d with
    | lst ds => exact .inl (left ds rfl fun v Hv1 rv => by cases rv with | lst s z r => exact ⟨_, _, rfl, .inl (.inl s), r, by rw [← r.length]; exact z⟩)
    | scr ns => exact .inl (left _ rfl fun v Hv1 rv => by cases rv with | scr s z => exact ⟨_, _, rfl, s, reps_ints ns, by rw [List.length_map]; exact z⟩)
    | tup ds =>
      refine .inr (ha Hv H σ ρ _ vw er ?_)
      rw [q]
      intro Hv1 H1 e1 v rv
      cases rv with
      | tup s z r => exact ⟨_, rfl, ⟨_, e1.vh.s.sqU s⟩, pv Hv1 H1 e1 (by rw [← r.length]; exact z) _ (it_tup (sqT_of s) r)⟩
    | _ => exact pv.elim
def rngD (lo : Int) (n : Nat) : List D := (List.range n).map fun i => .int (lo + (i : Nat))
theorem it_range {K : PySem.W.Frag} {Hv : Hp} (lo : Int) (n : Nat) : ItOk K cl (Itr lo n) Hv (rngD lo n) where
  go := fun i Hv' H sm vw h => by
    show i < n
    simpa [rngD] using h
  stop := fun i Hv' H sm vw h => by
    show n ≤ i
    simp [rngD] at h
    omega
  yld := fun i Hv' H sm vw d h x H' ⟨e1, e2⟩ => by
    subst e1 e2
    unfold rngD at h
    rw [List.getElem?_map] at h
    by_cases hi : i < n
    · rw [List.getElem?_range hi] at h
      cases h
      exact ⟨Hv', Ext.refl vw, .int _⟩
    · rw [List.getElem?_eq_none (by simpa using hi)] at h; cases h
def rng1 : List D → Option (List D)
  | [.int j] => if -16777216 ≤ j ∧ j ≤ 16777216 then some (rngD 0 j.toNat) else none
  | _ => none
def dRng (o : List D → Option (List D)) (g : DA) : DI := fun ρ => (g ρ).bind fun d => ofO (o d)
theorem rngD_len (lo : Int) (n : Nat) : (rngD lo n).length = n := by simp [rngD]
theorem si_range1 (ha : SA X W cl [a] g) (hm : X.mg "range" = none) (hg : Gl X "range" := by rfl) (hs : starEach [a] X.env = [(false, eval a X.env)] := by rfl) : SI X W cl tg (.Call (.Name "range" p) [a] [] pos) (dRng rng1 g) := by
  obtain ⟨ta, pa, ha, hl⟩ := ha
  refine ⟨_, pi_range1 hg hm pa hs, fun Hv H σ ρ Q vw er pv => ?_⟩
  refine ha Hv H σ ρ _ vw er (bindP pv fun x Hv1 H1 ex e1 pv1 v rv => ?_)
  obtain ⟨ds, ed, q⟩ := ofO_ok pv1
  cases rv with
  | nil => cases ed
  | cons r t =>
    cases t with
    | cons _ _ => cases r <;> cases ed
    | nil =>
      cases r with
      | int j =>
        simp only [rng1] at ed
        split at ed
        · rename_i hj
          cases ed
          exact ⟨j, rfl, by omega, by omega, q _ _ (Ext.refl e1.vh) (by rw [rngD_len]; show j.toNat ≤ 16777216; omega) _ (it_range 0 j.toNat)⟩
        · cases ed
      | _ => cases ed
end
inductive Pat where
  | v (i : Nat)
  | t (ps : List Pat)
mutual
def bindPat : Pat → D → Env → Option Env
  | .v i, d, ρ => some (ρ.set i (some d))
  | .t ps, d, ρ => match d with
    | .tup ds => bindPats ps ds ρ
    | .lst ds => bindPats ps ds ρ
    | _ => none
def bindPats : List Pat → List D → Env → Option Env
  | [], [], ρ => some ρ
  | p :: ps, d :: ds, ρ => (bindPat p d ρ).bind fun ρ' => bindPats ps ds ρ'
  | _, _, _ => none
end
end Sm
namespace Sm
open PySem PySem.Spec L2
inductive O where
  | nx (ρ : Env) | ret (d : D) | err (ρ : Env) (c : Nat) | bad
abbrev DS := Env → O
def O.seq : O → DS → O
  | .nx ρ, k => k ρ
  | .ret d, _ => .ret d
  | .err ρ c, _ => .err ρ c
  | .bad, _ => .bad
def R.to {α : Type} (ρ : Env) : R α → (α → O) → O
  | .ok a, k => k a
  | .err c, _ => .err ρ c
  | .bad, _ => .bad

inductive OwnO (K : PySem.W.Frag) (cl : Glb) (Hv : Hp) : HO → D → Prop
  | lst {vs : List V} {ds : List D} : vs.length ≤ sizeLine → Reps K cl Hv vs ds → OwnO K cl Hv (.lst vs) (.lst ds)
  | dct {kvs : List (L2.Key × V)} {es : List (D × D)} : kvs.length ≤ sizeLine → RepsK K cl Hv kvs es → OwnO K cl Hv (.dK kvs) (.dct es)
theorem OwnO.mono {K : PySem.W.Frag} {cl : Glb} {Hv Hv' : Hp} {o : HO} {d : D} (h : OwnO K cl Hv o d) (e : Sam Hv Hv') : OwnO K cl Hv' o d := by
  cases h with
  | lst z r => exact .lst z (r.mono e)
  | dct z r => exact .dct z (r.mono e)
theorem OwnO.tbl {K : PySem.W.Frag} {cl : Glb} {Hv : Hp} {o : HO} {d : D} (h : OwnO K cl Hv o d) : isTbl o = false := by cases h <;> rfl
theorem OwnO.noT {K : PySem.W.Frag} {cl : Glb} {Hv : Hp} {o : HO} {d : D} (h : OwnO K cl Hv o d) : (∀ xs, o ≠ .tup xs) ∧ (∀ u x, o ≠ .frz u x) ∧ (∀ ps, o ≠ .tbl ps) := by
  cases h <;> refine ⟨fun _ e => ?_, fun _ _ e => ?_, fun _ e => ?_⟩ <;> cases e
theorem OwnO.rep {K : PySem.W.Frag} {cl : Glb} {H : Hp} {o : HO} {d : D} {p : Addr} (h : OwnO K cl H o d) (e : H p = some o) : Rep K cl H (.ref p) d := by
  cases h with
  | lst z r => exact .lst e z r
  | dct z r => exact .dctK e r
theorem OwnO.ofL {K : PySem.W.Frag} {cl : Glb} {Hv : Hp} {o : HO} {ds : List D} (h : OwnO K cl Hv o (.lst ds)) : ∃ vs, o = .lst vs ∧ vs.length ≤ sizeLine ∧ Reps K cl Hv vs ds := by
  cases h with
  | lst z r => exact ⟨_, rfl, z, r⟩
def OwnR (K : PySem.W.Frag) (cl : Glb) (Hv H : Hp) (p : Addr) (d : D) : Prop := ∃ o, H p = some o ∧ OwnO K cl Hv o d
structure SR (K : PySem.W.Frag) (cl : Glb) (Hv0 H0 : Hp) (own : List Nat) (ρ : Env) (σ : St) (Hv H : Hp) : Prop where
  ext : Ext cl Hv0 H0 Hv H
  len : ρ.length = σ.length
  sh : ∀ (i : Nat) d, i ∉ own → ρ[i]? = some (some d) → ∃ v, σ[i]? = some (some v) ∧ Rep K cl Hv v d
  ow : ∀ i, i ∈ own → ∃ p d, ρ[i]? = some (some d) ∧ σ[i]? = some (some (.ref p)) ∧ Hv p = none ∧ H0 p = none ∧ OwnR K cl Hv H p d
  ap : ∀ (i j : Nat) p, i ∈ own → j ∈ own → σ[i]? = some (some (.ref p)) → σ[j]? = some (some (.ref p)) → i = j
def mask (own : List Nat) (ρ : Env) : Env := own.foldr (fun i r => r.set i none) ρ
theorem mask_get {ρ : Env} {i : Nat} {d : D} : ∀ {own : List Nat}, (mask own ρ)[i]? = some (some d) → i ∉ own ∧ ρ[i]? = some (some d)
  | [], h => ⟨by simp, h⟩
  | j :: own, h => by
    have h : ((mask own ρ).set j none)[i]? = some (some d) := h
    by_cases hj : j = i
    · subst hj
      by_cases hl : j < (mask own ρ).length
      · rw [List.getElem?_set_self hl] at h; cases h
      · rw [List.getElem?_eq_none (by simpa using hl)] at h; cases h
    · rw [List.getElem?_set_ne hj] at h
      obtain ⟨h1, h2⟩ := mask_get (own := own) h
      exact ⟨by simp only [List.mem_cons, not_or]; exact ⟨fun e => hj e.symm, h1⟩, h2⟩
theorem mask_len {ρ : Env} : ∀ {own : List Nat}, (mask own ρ).length = ρ.length
  | [] => rfl
  | j :: own => (List.length_set ..).trans (mask_len (own := own))
section
variable {K : PySem.W.Frag} {cl : Glb} {Hv0 H0 Hv H Hv' H' : Hp} {own : List Nat} {ρ : Env} {σ : St}
theorem SR.er (s : SR K cl Hv0 H0 own ρ σ Hv H) : ER K cl Hv (mask own ρ) σ := ⟨fun i d h => let ⟨h1, h2⟩ := mask_get h; s.sh i d h1 h2, mask_len.trans s.len⟩
theorem SR.step (s : SR K cl Hv0 H0 own ρ σ Hv H) (e : Ext cl Hv H Hv' H') : SR K cl Hv0 H0 own ρ σ Hv' H' where
  ext := s.ext.trans e
  len := s.len
  sh := fun i d h1 h2 => let ⟨v, h3, h4⟩ := s.sh i d h1 h2; ⟨v, h3, h4.mono e.vv⟩
  ow := fun i hi => by
    obtain ⟨p, d, h1, h2, h3, h4, o, h5, h6⟩ := s.ow i hi
    exact ⟨p, d, h1, h2, e.old p _ h5 h3, h4, o, e.hh _ _ h5 h6.tbl, h6.mono e.vv⟩
  ap := s.ap
def lift (Hv H H' : Hp) : Hp := fun b => if (H b).isSome && (Hv b).isNone then none else H' b
theorem lift_old {b : Addr} {o : HO} (h : Hv b = some o) : lift Hv H H' b = H' b := by
  unfold lift
  rw [h]
  simp
theorem lift_new {b : Addr} (h : H b = none) : lift Hv H H' b = H' b := by
  unfold lift
  rw [h]
  simp
theorem lift_tup (e : Ext cl H H Hv' H') {b : Addr} {o : HO} (h' : H' b = some o) (ho : isTbl o = false) (hv : H b = some o → Hv b = some o) : lift Hv H H' b = some o := by
  cases q : H b with
  | none => rw [lift_new q]; exact h'
  | some u =>
    have eu : u = o := by
      cases t : isTbl u with
      | false =>
        rw [e.hh b u q t] at h'
        exact Option.some.inj h'
      | true =>
        cases u with
        | tbl ps =>
          obtain ⟨ps', w⟩ := e.tt b ps q
          rw [w] at h'; cases h'; cases ho
        | _ => cases t
    subst eu
    rw [lift_old (hv q)]; exact h'
theorem ext_lift (vw : Vw cl Hv H) (e : Ext cl H H Hv' H') : Ext cl Hv H (lift Hv H H') H' where
  hh := e.hh
  vv := fun b o h n => by
    rw [lift_old h]
    exact e.hh b o (vw.s b o h n) n
  vh := by
    refine ⟨fun b o h n => ?_, fun b h => ?_, fun b xs h => ?_, fun b ob xs h => ?_, ?_, fun b φ h => ?_⟩
    · unfold lift at h
      split at h
      · cases h
      · exact h
    · unfold lift
      split
      · rfl
      · exact h
    · exact lift_tup e h rfl fun q => vw.t b xs q
    · exact lift_tup e h rfl fun q => vw.z b ob xs q
    · exact e.vh.tab
    · exact lift_tup e h rfl fun q => vw.x b φ q
  old := fun b o h n => by
    unfold lift
    rw [h, n]; rfl
  dom := e.dom
  tt := e.tt
end
mutual
def pure' : D → Bool
  | .non => true
  | .bl _ => true
  | .int _ => true
  | .str _ => true
  | .tup xs => pures xs
  | _ => false
def pures : List D → Bool
  | [] => true
  | x :: xs => pure' x && pures xs
end
section
variable {K : PySem.W.Frag} {cl : Glb}
end
end Sm
namespace Sm
open PySem PySem.Spec L2
section
variable {K : PySem.W.Frag} {cl : Glb} {Hv0 H0 Hv H Hv' H' : Hp} {own own' : List Nat} {ρ : Env} {σ : St}
open Classical in
noncomputable def thaw (own own' : List Nat) (σ : St) (Hv H : Hp) : Hp := fun b => match Hv b with
  | some o => some o
  | none => if ∃ i, i ∈ own ∧ i ∉ own' ∧ σ[i]? = some (some (.ref b)) then H b else none
theorem thaw_old {b : Addr} {o : HO} (h : Hv b = some o) : thaw own own' σ Hv H b = some o := by
  unfold thaw; rw [h]
theorem thaw_new {b : Addr} (h : Hv b = none) (i : Nat) (h1 : i ∈ own) (h2 : i ∉ own') (h3 : σ[i]? = some (some (.ref b))) : thaw own own' σ Hv H b = H b := by
  unfold thaw; rw [h]
  exact if_pos ⟨i, h1, h2, h3⟩
theorem thaw_no {b : Addr} (h : Hv b = none) (hn : ∀ i : Nat, i ∈ own → i ∉ own' → σ[i]? ≠ some (some (.ref b))) : thaw own own' σ Hv H b = none := by
  unfold thaw; rw [h]
  exact if_neg fun ⟨i, h1, h2, h3⟩ => hn i h1 h2 h3
theorem thaw_some {b : Addr} {o : HO} (vs : Vw cl Hv H) (h : thaw own own' σ Hv H b = some o) : Hv b = some o ∨ (Hv b = none ∧ H b = some o) := by
  cases q : Hv b with
  | some u => rw [thaw_old q] at h; exact .inl h
  | none =>
    unfold thaw at h
    rw [q] at h
    simp only at h
    split at h
    · exact .inr ⟨rfl, h⟩
    · cases h
theorem SR.freeze (s : SR K cl Hv0 H0 own ρ σ Hv H) (hs : ∀ i ∈ own', i ∈ own) : SR K cl Hv0 H0 own' ρ σ (thaw own own' σ Hv H) H ∧ Sam Hv (thaw own own' σ Hv H) := by
  have vw := s.ext.vh
  have vv : Sam Hv (thaw own own' σ Hv H) := fun b o h _ => thaw_old h
  refine ⟨⟨⟨s.ext.hh, s.ext.vv.trans vv, ⟨fun b o h n => ?_, fun b h => ?_, fun b xs h => thaw_old (vw.t b xs h), fun b o u h => thaw_old (vw.z b o u h), vw.tab, fun b φ h => thaw_old (vw.x b φ h)⟩, fun b o h n => ?_, s.ext.dom, s.ext.tt⟩, s.len, fun i d h1 h2 => ?_, fun i hi => ?_, fun i j p h1 h2 => s.ap i j p (hs i h1) (hs j h2)⟩, vv⟩
  · rcases thaw_some vw h with q | ⟨_, q⟩
    · exact vw.s b o q n
    · exact q
  · cases q : thaw own own' σ Hv H b with
    | none => rfl
    | some o =>
      rcases thaw_some vw q with z | ⟨_, z⟩
      · rw [vw.d b h] at z; cases z
      · rw [h] at z; cases z
  · refine thaw_no (s.ext.old b o h n) fun i h1 h2 h3 => ?_
    obtain ⟨p, d, _, e2, _, e4, _⟩ := s.ow i h1
    rw [h3] at e2; cases e2
    rw [h] at e4; cases e4
  · by_cases hi : i ∈ own
    · obtain ⟨p, d', e1, e2, e3, e4, o, e6, e8⟩ := s.ow i hi
      rw [h2] at e1; cases e1
      exact ⟨_, e2, (e8.mono vv).rep ((thaw_new e3 i hi h1 e2).trans e6)⟩
    · obtain ⟨v, e1, e2⟩ := s.sh i d hi h2
      exact ⟨v, e1, e2.mono vv⟩
  · obtain ⟨p, d, e1, e2, e3, e4, o, e6, e8⟩ := s.ow i (hs i hi)
    refine ⟨p, d, e1, e2, thaw_no e3 fun j h1 h2 h3 => ?_, e4, o, e6, e8.mono vv⟩
    have := s.ap i j p (hs i hi) h1 e2 h3
    subst this
    exact h2 hi
theorem SR.set {i : Nat} {v : V} {d : D} (s : SR K cl Hv0 H0 own ρ σ Hv H) (hs : ∀ j ∈ own', j ∈ own ∧ j ≠ i) (r : Rep K cl Hv v d) (ho : ∀ j ∈ own, j ∈ own' ∨ j = i) : SR K cl Hv0 H0 own' (ρ.set i (some d)) (σ.set i (some v)) Hv H where
  ext := s.ext
  len := by rw [List.length_set, List.length_set]; exact s.len
  sh := fun j e h1 h2 => by
    by_cases hj : j = i
    · subst hj
      by_cases hi : j < σ.length
      · rw [List.getElem?_set_self (by rw [s.len]; exact hi)] at h2
        cases h2
        exact ⟨v, List.getElem?_set_self hi, r⟩
      · rw [List.getElem?_eq_none (by rw [List.length_set, s.len]; omega)] at h2
        cases h2
    · rw [List.getElem?_set_ne (Ne.symm hj)] at h2
      rw [List.getElem?_set_ne (Ne.symm hj)]
      exact s.sh j e (fun z => (ho j z).elim h1 hj) h2
  ow := fun j hj => by
    obtain ⟨h1, h2⟩ := hs j hj
    rw [List.getElem?_set_ne (Ne.symm h2), List.getElem?_set_ne (Ne.symm h2)]
    exact s.ow j h1
  ap := fun j k p h1 h2 e1 e2 => by
    rw [List.getElem?_set_ne (Ne.symm (hs j h1).2)] at e1
    rw [List.getElem?_set_ne (Ne.symm (hs k h2).2)] at e2
    exact s.ap j k p (hs j h1).1 (hs k h2).1 e1 e2
theorem SR.setOwnO {i : Nat} {p : Addr} {o : HO} {d : D} (s : SR K cl Hv0 H0 own ρ σ Hv H) (hp : H p = none) (r : OwnO K cl Hv o d) (hi : i < σ.length) :
    SR K cl Hv0 H0 (i :: own.filter (· ≠ i)) (ρ.set i (some d)) (σ.set i (some (.ref p))) Hv (upd H p o) := by
  have vw := s.ext.vh
  have smh : Sam H (upd H p o) := .of (same_upd hp)
  have vw' : Vw cl Hv (upd H p o) := ⟨vw.s.trans smh, fun b h => vw.d b (upd_none h).2, fun b xs h => by
    by_cases z : b = p
    · subst z; rw [upd_same] at h; cases h; exact (r.noT.1 _ rfl).elim
    · rw [upd_ne z] at h; exact vw.t b xs h, fun b o' u h => by
    by_cases z : b = p
    · subst z; rw [upd_same] at h; cases h; exact (r.noT.2.1 _ _ rfl).elim
    · rw [upd_ne z] at h; exact vw.z b o' u h, vw.tab.ext (same_upd hp), fun b φ h => by
    by_cases z : b = p
    · subst z; rw [upd_same] at h; cases h; cases r
    · rw [upd_ne z] at h; exact vw.x b φ h⟩
  have mem : ∀ j, j ∈ i :: own.filter (· ≠ i) → j ≠ i → j ∈ own := fun j h n => by
    rcases List.mem_cons.mp h with z | z
    · exact absurd z n
    · exact (List.mem_filter.mp z).1
  refine ⟨⟨s.ext.hh.trans smh, s.ext.vv, vw', s.ext.old, fun b h => s.ext.dom b (upd_none h).2, fun b ps h => ?_⟩, ?_, fun j d h1 h2 => ?_, fun j hj => ?_, fun j k q h1 h2 e1 e2 => ?_⟩
  · obtain ⟨ps', h'⟩ := s.ext.tt b ps h
    exact ⟨ps', by rw [upd_ne (ne_of_none h' hp)]; exact h'⟩
  · rw [List.length_set, List.length_set]; exact s.len
  · have hj : j ≠ i := fun z => h1 (by rw [z]; exact List.mem_cons_self)
    rw [List.getElem?_set_ne (Ne.symm hj)] at h2 ⊢
    exact s.sh j d (fun z => h1 (List.mem_cons_of_mem _ (List.mem_filter.mpr ⟨z, by simpa using hj⟩))) h2
  · by_cases hji : j = i
    · subst hji
      exact ⟨p, d, List.getElem?_set_self (by rw [s.len]; exact hi), List.getElem?_set_self hi, vw.d p hp, s.ext.dom p hp, o, upd_same, r⟩
    · rw [List.getElem?_set_ne (Ne.symm hji), List.getElem?_set_ne (Ne.symm hji)]
      obtain ⟨q, d, e1, e2, e3, e4, o', e6, e8⟩ := s.ow j (mem j hj hji)
      exact ⟨q, d, e1, e2, e3, e4, o', by rw [upd_ne (ne_of_none e6 hp)]; exact e6, e8⟩
  · have key : ∀ m, m ∈ i :: own.filter (· ≠ i) → m ≠ i → (σ.set i (some (.ref p)))[m]? = some (some (.ref p)) → False := fun m hm n e => by
      rw [List.getElem?_set_ne (Ne.symm n)] at e
      obtain ⟨q', d, e1, e2, e3, e4, o', e6, e8⟩ := s.ow m (mem m hm n)
      rw [e] at e2; cases e2
      rw [hp] at e6; cases e6
    have self : (σ.set i (some (.ref p)))[i]? = some (some (.ref p)) := List.getElem?_set_self hi
    by_cases hj : j = i
    · by_cases hk : k = i
      · rw [hj, hk]
      · rw [hj, self] at e1
        cases e1
        exact (key k h2 hk e2).elim
    · by_cases hk : k = i
      · rw [hk, self] at e2
        cases e2
        exact (key j h1 hj e1).elim
      · rw [List.getElem?_set_ne (Ne.symm hj)] at e1
        rw [List.getElem?_set_ne (Ne.symm hk)] at e2
        exact s.ap j k q (mem j h1 hj) (mem k h2 hk) e1 e2
theorem SR.setOwn {i : Nat} {p : Addr} {vs : List V} {ds : List D} (s : SR K cl Hv0 H0 own ρ σ Hv H) (hp : H p = none) (hz : vs.length ≤ sizeLine) (r : Reps K cl Hv vs ds) (hi : i < σ.length) :
    SR K cl Hv0 H0 (i :: own.filter (· ≠ i)) (ρ.set i (some (.lst ds))) (σ.set i (some (.ref p))) Hv (upd H p (.lst vs)) := s.setOwnO hp (.lst hz r) hi
theorem SR.writeO {i : Nat} {p : Addr} {o' : HO} {d0 d' : D} (s : SR K cl Hv0 H0 own ρ σ Hv H) (hi : i ∈ own) (e1 : ρ[i]? = some (some d0)) (e2 : σ[i]? = some (some (.ref p))) (r : OwnO K cl Hv o' d') :
    SR K cl Hv0 H0 own (ρ.set i (some d')) σ Hv (upd H p o') := by
  have vw := s.ext.vh
  obtain ⟨p', d, a1, a2, a3, a4, o, e6, ro⟩ := s.ow i hi
  rw [e2] at a2; cases a2
  have ne : ∀ b u, H b = some u → (∃ ps, u = .tbl ps) ∨ (∃ xs, u = .tup xs) → b ≠ p := fun b u h n z => by
    subst z; rw [e6] at h; cases h
    rcases n with ⟨ps, n⟩ | ⟨xs, n⟩
    · exact ro.noT.2.2 _ n
    · exact ro.noT.1 _ n
  have neV : ∀ b o, Hv b = some o → b ≠ p := fun b o h z => by subst z; rw [a3] at h; cases h
  have iσ : i < σ.length := (List.getElem?_eq_some_iff.mp e2).1
  refine ⟨⟨fun b o h n => ?_, s.ext.vv, ⟨fun b o h n => ?_, fun b h => vw.d b (upd_none h).2, fun b xs h => ?_, fun b o u h => ?_, fun p hp => ?_, fun b φ h => ?_⟩, s.ext.old, fun b h => s.ext.dom b (upd_none h).2, fun b ps h => ?_⟩, by rw [List.length_set]; exact s.len, fun j d h1 h2 => ?_, fun j hj => ?_, s.ap⟩
  · rw [upd_ne fun z => by subst z; rw [a4] at h; cases h]
    exact s.ext.hh b o h n
  · rw [upd_ne (neV b o h)]; exact vw.s b o h n
  · by_cases z : b = p
    · subst z; rw [upd_same] at h; cases h; exact (r.noT.1 _ rfl).elim
    · rw [upd_ne z] at h; exact vw.t b xs h
  · by_cases z : b = p
    · subst z; rw [upd_same] at h; cases h; exact (r.noT.2.1 _ _ rfl).elim
    · rw [upd_ne z] at h; exact vw.z b o u h
  · obtain ⟨ps, h1, h2, h3⟩ := vw.tab p hp
    refine ⟨ps, by rw [upd_ne (ne p.1 _ h1 (.inl ⟨_, rfl⟩))]; exact h1, h2, fun pos cv hc => ?_⟩
    obtain ⟨c, e, hc'⟩ := h3 pos cv hc
    exact ⟨c, e, by rw [upd_ne fun z => ?_]; exact hc'; subst z; rw [e6] at hc'; cases hc'; cases ro⟩
  · by_cases z : b = p
    · subst z; rw [upd_same] at h; cases h; cases r
    · rw [upd_ne z] at h; exact vw.x b φ h
  · obtain ⟨ps', h'⟩ := s.ext.tt b ps h
    exact ⟨ps', by rw [upd_ne (ne b _ h' (.inl ⟨_, rfl⟩))]; exact h'⟩
  · have hji : j ≠ i := fun z => h1 (z ▸ hi)
    rw [List.getElem?_set_ne (Ne.symm hji)] at h2
    exact s.sh j d h1 h2
  · by_cases hji : j = i
    · subst hji
      exact ⟨p, d', List.getElem?_set_self (by rw [s.len]; exact iσ), e2, a3, a4, o', upd_same, r⟩
    · rw [List.getElem?_set_ne (Ne.symm hji)]
      obtain ⟨q, d', b1, b2, b3, b4, o2, b6, b8⟩ := s.ow j hj
      have : q ≠ p := fun z => hji (s.ap j i p hj hi (z ▸ b2) e2)
      exact ⟨q, d', b1, b2, b3, b4, o2, by rw [upd_ne this]; exact b6, b8⟩
theorem SR.write {i : Nat} {p : Addr} {vs : List V} {ds ds' : List D} {vs' : List V} (s : SR K cl Hv0 H0 own ρ σ Hv H) (hi : i ∈ own) (e1 : ρ[i]? = some (some (.lst ds))) (e2 : σ[i]? = some (some (.ref p))) (e6 : H p = some (.lst vs)) (hz : vs'.length ≤ sizeLine) (r : Reps K cl Hv vs' ds') :
    SR K cl Hv0 H0 own (ρ.set i (some (.lst ds'))) σ Hv (upd H p (.lst vs')) := s.writeO hi e1 e2 (.lst hz r)
end
end Sm
namespace Sm
open PySem PySem.Spec L2
structure Gd (X : Cx) (W : WX) : Prop where
  calm : X.calm = true
  nd : X.N.Nodup
  tk : Takes X W
  po : PassesOwn (model X.prog X.w) X.A X.env X.xe
section
variable (X : Cx) (W : WX) (cl : Glb)
def PSO (Hv0 H0 : Hp) (own : List Nat) (Hv : Hp) (Dn : Ends) : O → Prop
  | .nx ρ' => ∀ σ' Hv' H', SR X.K cl Hv0 H0 own ρ' σ' Hv' H' → Sam Hv Hv' → σ'.length = X.N.length → Dn.nx σ' H'
  | .ret d => ∀ v Hv' H', Ext cl Hv0 H0 Hv' H' → Rep X.K cl Hv' v d → Dn.rt v H'
  | .err ρ' c => ∀ σ' Hv' H', SR X.K cl Hv0 H0 [] ρ' σ' Hv' H' → Sam Hv Hv' → σ'.length = X.N.length → W (.ref (cl.c c)) none σ' H'
  | .bad => False
def RunS (own own' : List Nat) (f : DS) (t : TS) : Prop := ∀ (Hv0 H0 : Hp) (ρ : Env) (σ : St) (Hv H : Hp) (Dn : Ends), SR X.K cl Hv0 H0 own ρ σ Hv H → σ.length = X.N.length → PSO X W cl Hv0 H0 own' Hv Dn (f ρ) → t Dn σ H
def SS (own own' : List Nat) (st : Stmt) (f : DS) : Prop := ∃ t, PS X st t ∧ RunS X W cl own own' f t
def SSs (own own' : List Nat) (st : List Stmt) (f : DS) : Prop := ∃ t, PSs X st t ∧ RunS X W cl own own' f t
end
section
variable {X : Cx} {W : WX} {cl : Glb} {Hv0 H0 Hv Hv1 H : Hp} {own own1 own2 own3 : List Nat} {Dn : Ends} {pos p : Pos} {a b c e : Expr} {es : List Expr} {fa fb : DE} {g : DA} {st : Stmt} {sts : List Stmt}
theorem PSO.mono {r : O} (h : PSO X W cl Hv0 H0 own Hv Dn r) (s : Sam Hv Hv1) : PSO X W cl Hv0 H0 own Hv1 Dn r := by
  cases r with
  | nx ρ => exact fun σ' Hv' H' sr sm hl => h σ' Hv' H' sr (s.trans sm) hl
  | ret d => exact h
  | err ρ c => exact fun σ' Hv' H' sr sm hl => h σ' Hv' H' sr (s.trans sm) hl
  | bad => exact h
theorem PSO.less {r : O} (h : PSO X W cl Hv0 H0 own2 Hv Dn r) (hs : ∀ i ∈ own2, i ∈ own1) : PSO X W cl Hv0 H0 own1 Hv Dn r := by
  cases r with
  | nx ρ =>
    intro σ' Hv' H' sr sm hl
    obtain ⟨s1, s2⟩ := sr.freeze hs
    exact h σ' _ H' s1 (sm.trans s2) hl
  | ret d => exact h
  | err ρ c => exact h
  | bad => exact h
def sub (a b : List Nat) : Bool := a.all fun i => b.contains i
theorem sub_mem {a b : List Nat} (h : sub a b = true) : ∀ i ∈ a, i ∈ b := fun i hi => by
  unfold sub at h
  rw [List.all_eq_true] at h
  simpa using h i hi
theorem SS.pre {f : DS} (h : SS X W cl own1 own2 st f) (hs : sub own1 own = true := by rfl) : SS X W cl own own2 st f := by
  obtain ⟨t, pt, h⟩ := h
  refine ⟨t, pt, fun Hv0 H0 ρ σ Hv H Dn sr hl po => ?_⟩
  obtain ⟨s1, s2⟩ := sr.freeze (sub_mem hs)
  exact h Hv0 H0 ρ σ _ H Dn s1 hl (po.mono s2)
theorem SS.post {f : DS} (h : SS X W cl own own1 st f) (hs : sub own2 own1 = true := by rfl) : SS X W cl own own2 st f := by
  obtain ⟨t, pt, h⟩ := h
  exact ⟨t, pt, fun Hv0 H0 ρ σ Hv H Dn sr hl po => h Hv0 H0 ρ σ Hv H Dn sr hl (po.less (sub_mem hs))⟩
theorem SSs.post {f : DS} (h : SSs X W cl own own1 sts f) (hs : sub own2 own1 = true := by rfl) : SSs X W cl own own2 sts f := by
  obtain ⟨t, pt, h⟩ := h
  exact ⟨t, pt, fun Hv0 H0 ρ σ Hv H Dn sr hl po => h Hv0 H0 ρ σ Hv H Dn sr hl (po.less (sub_mem hs))⟩

theorem ss_nil : SSs X W cl own own [] .nx :=
  ⟨_, pss_nil, fun Hv0 H0 ρ σ Hv H Dn sr hl po => po σ Hv H sr (Sam.refl _) hl⟩
def dSeq (f g : DS) : DS := fun ρ => (f ρ).seq g
theorem seq_run {f g : DS} {t u : TS} (h1 : RunS X W cl own own1 f t) (h2 : RunS X W cl own2 own3 g u) (hs : ∀ i ∈ own2, i ∈ own1) : RunS X W cl own own3 (dSeq f g) (tSeq t u) := by
  intro Hv0 H0 ρ σ Hv H Dn sr hl po
  refine h1 Hv0 H0 ρ σ Hv H _ sr hl ?_
  unfold dSeq at po
  cases q : f ρ with
  | nx ρ' =>
    rw [q] at po
    intro σ' Hv' H' sr' sm hl'
    obtain ⟨s1, s2⟩ := sr'.freeze hs
    exact h2 Hv0 H0 ρ' σ' _ H' Dn s1 hl' (PSO.mono (r := g ρ') po (sm.trans s2))
  | ret d => rw [q] at po; exact po
  | err ρ c => rw [q] at po; exact po
  | bad => rw [q] at po; exact po
theorem ss_cons {f g : DS} (h1 : SS X W cl own own1 st f) (h2 : SSs X W cl own2 own3 sts g) (hs : sub own2 own1 = true := by rfl) : SSs X W cl own own3 (st :: sts) (dSeq f g) := by
  obtain ⟨t, pt, h1⟩ := h1
  obtain ⟨u, pu, h2⟩ := h2
  exact ⟨_, pss_cons pt pu, seq_run h1 h2 (sub_mem hs)⟩
theorem ss_one {f : DS} (h1 : SS X W cl own own1 st f) : SSs X W cl own own1 [st] f := by
  obtain ⟨t, pt, h1⟩ := h1
  exact ⟨_, pss_one pt, h1⟩
theorem use_mask {α : Type} {ρ : Env} {σ : St} {T : Hp → Hp → α → Prop} {r : R α} {k : α → O} (sr : SR X.K cl Hv0 H0 own ρ σ Hv H) (hl : σ.length = X.N.length) (po : PSO X W cl Hv0 H0 own1 Hv Dn (r.to ρ k))
    (h : ∀ a Hv' H', r = .ok a → Ext cl Hv H Hv' H' → SR X.K cl Hv0 H0 own ρ σ Hv' H' → PSO X W cl Hv0 H0 own1 Hv' Dn (k a) → T Hv' H' a) : Pst cl W σ Hv H T r := by
  cases r with
  | ok a => exact fun Hv' H' e => h a Hv' H' rfl e (sr.step e) (PSO.mono (r := k a) po e.vv)
  | err c =>
    intro Hv' H' e
    obtain ⟨s1, s2⟩ := (sr.step e).freeze (own' := []) (by simp)
    exact po σ _ H' s1 (e.vv.trans s2) hl
  | bad => exact po
theorem use_full {α : Type} {ρ : Env} {σ : St} {T : Hp → Hp → α → Prop} {r : R α} {k : α → O} (sr : SR X.K cl Hv0 H0 own ρ σ Hv H) (hl : σ.length = X.N.length) (po : PSO X W cl Hv0 H0 own1 Hv Dn (r.to ρ k))
    (h : ∀ a Hv1 H', r = .ok a → Ext cl (thaw own [] σ Hv H) H Hv1 H' → SR X.K cl Hv0 H0 [] ρ σ Hv1 H' → SR X.K cl Hv0 H0 own ρ σ (lift Hv H H') H' → Sam Hv (lift Hv H H') → PSO X W cl Hv0 H0 own1 (lift Hv H H') Dn (k a) → T Hv1 H' a) :
    Pst cl W σ (thaw own [] σ Hv H) H T r := by
  obtain ⟨s1, s2⟩ := sr.freeze (own' := []) (by simp)
  cases r with
  | ok a =>
    intro Hv1 H' e
    have e2 : Ext cl Hv H (lift Hv H H') H' := ext_lift sr.ext.vh ⟨e.hh, Sam.trans e.hh (Sam.refl _), Vw.refl e.vh.tab, fun b o h n => (by rw [h] at n; cases n), e.dom, e.tt⟩
    exact h a Hv1 H' rfl e (s1.step e) (sr.step e2) e2.vv (PSO.mono (r := k a) po e2.vv)
  | err c =>
    intro Hv' H' e
    exact po σ Hv' H' (s1.step e) (s2.trans e.vv) hl
  | bad => exact po
def dRet (f : DE) : DS := fun ρ => (f ρ).to ρ .ret
theorem ss_ret (ha : SE X W cl a fa) : SS X W cl own own1 (.Return (some a) pos) (dRet fa) := by
  obtain ⟨ta, pa, ha⟩ := ha
  refine ⟨_, ps_ret pa, fun Hv0 H0 ρ σ Hv H Dn sr hl po => ?_⟩
  obtain ⟨s1, s2⟩ := sr.freeze (own' := []) (by simp)
  refine ha _ H σ ρ _ s1.ext.vh s1.er (use_full sr hl po fun d Hv1 H' _ e sr1 sr2 sm po' v r => ?_)
  exact po' v Hv1 H' sr1.ext r
def dDrop (f : DE) : DS := fun ρ => (f ρ).to ρ fun _ => .nx ρ
theorem ss_expr (ha : SE X W cl a fa) (hs : swapsWith a none pos.line X.env = pure false := by rfl) : SS X W cl own own (.Expr a pos) (dDrop fa) := by
  obtain ⟨ta, pa, ha⟩ := ha
  refine ⟨_, ps_expr pa hs, fun Hv0 H0 ρ σ Hv H Dn sr hl po => ?_⟩
  obtain ⟨s1, s2⟩ := sr.freeze (own' := []) (by simp)
  refine ha _ H σ ρ _ s1.ext.vh s1.er (use_full sr hl po fun d Hv1 H' _ e sr1 sr2 sm po' v r => ?_)
  exact po' σ _ H' sr2 (Sam.refl _) hl
def dIfS (t : DT) (f g : DS) : DS := fun ρ => (t ρ).to ρ fun k => match k with | true => f ρ | false => g ρ
theorem ss_if {t : DT} {f g : DS} {s1 s2 : List Stmt} (hc : ST X W cl c t) (ha : SSs X W cl own own1 s1 f) (hb : SSs X W cl own own1 s2 g) : SS X W cl own own1 (.If c s1 s2 pos) (dIfS t f g) := by
  obtain ⟨tc, pc, hc⟩ := hc
  obtain ⟨ta, pa, ha⟩ := ha
  obtain ⟨tb, pb, hb⟩ := hb
  refine ⟨_, ps_if pc pa pb, fun Hv0 H0 ρ σ Hv H Dn sr hl po => ?_⟩
  obtain ⟨s1, s2⟩ := sr.freeze (own' := []) (by simp)
  refine hc _ H σ ρ _ s1.ext.vh s1.er (use_full sr hl po fun k Hv1 H' _ e sr1 sr2 sm po' => ?_)
  show if k = true then ta Dn σ H' else tb Dn σ H'
  cases k with
  | true => rw [if_pos rfl]; exact ha Hv0 H0 ρ σ _ H' Dn sr2 hl po'
  | false => rw [if_neg Bool.false_ne_true]; exact hb Hv0 H0 ρ σ _ H' Dn sr2 hl po'

def nots (own : List Nat) (i : Nat) : List Nat := own.filter (· ≠ i)
theorem nots_mem {own : List Nat} {i : Nat} : ∀ j ∈ nots own i, j ∈ own ∧ j ≠ i := fun j h => by
  have := List.mem_filter.mp h
  exact ⟨this.1, by simpa using this.2⟩
theorem nots_or {own : List Nat} {i : Nat} : ∀ j ∈ own, j ∈ nots own i ∨ j = i := fun j h => by
  by_cases e : j = i
  · exact .inr e
  · exact .inl (List.mem_filter.mpr ⟨h, by simpa using e⟩)
def dSet (own : List Nat) (i : Nat) (f : DE) : DS := fun ρ => (f (mask own ρ)).to ρ fun d => .nx (ρ.set i (some d))
def dSetP (i : Nat) (f : DE) : DS := fun ρ => (f ρ).to ρ fun d => if pure' d then .nx (ρ.set i (some d)) else .bad
theorem ilt {i : Nat} {x : Str} {σ : St} (hi : X.N[i]? = some x) (hl : σ.length = X.N.length) : i < σ.length := by
  rw [hl]; exact (List.getElem?_eq_some_iff.mp hi).1
theorem ss_set {i : Nat} {x : Str} {p' : Pos} (gd : Gd X W) (ha : SE X W cl a fa) (hi : X.N[i]? = some x := by rfl) (hx : Loc X.env.scope x := by first | exact Or.inl rfl | exact Or.inr rfl) (hs : swapsWith a (some (.Name x p')) pos.line X.env = pure false := by rfl)
    (hf : X.fn x = true ∨ X.env.scope.names.lookup x = some .local := by first | exact .inl rfl | exact .inr rfl | assumption) : SS X W cl own (nots own i) (.Assign [.Name x p'] a pos) (dSet own i fa) := by
  obtain ⟨ta, pa, ha⟩ := ha
  refine ⟨_, ps_set gd.nd hi hx pa hs hf, fun Hv0 H0 ρ σ Hv H Dn sr hl po => ?_⟩
  refine ha Hv H σ _ _ sr.ext.vh sr.er (use_mask sr hl po fun d Hv' H' _ e sr' po' v r => ?_)
  exact po' _ Hv' H' (sr'.set nots_mem r nots_or) (Sam.refl _) (by rw [List.length_set]; exact hl)
def TN (K : PySem.W.Frag) (cl : Glb) (Q : VK) : Hp → Hp → List D → Prop := fun Hv' H' ds => ∀ p vs, H' p = none → vs.length ≤ sizeLine → Reps K cl Hv' vs ds → Q (.ref p) (upd H' p (.lst vs))
def SN (X : Cx) (W : WX) (cl : Glb) (e : Expr) (f : DA) : Prop := ∃ t, PE X e t ∧ ∀ (Hv H : Hp) (σ : St) (ρ : Env) (Q : VK), Vw cl Hv H → ER X.K cl Hv ρ σ → Pst cl W σ Hv H (TN X.K cl Q) (f ρ) → t σ H Q
theorem sn_lst (h : SA X W cl es g) (hn : decide (es.length ≤ 1000) = true := by rfl) : SN X W cl (.List es pos) g := by
  obtain ⟨ta, pa, ha, hl⟩ := h
  refine ⟨_, pe_lst pa, fun Hv H σ ρ Q vw er pv => ?_⟩
  refine ha Hv H σ ρ _ vw er ?_
  cases q : g ρ with
  | ok ds =>
    rw [q] at pv
    intro Hv1 H1 e1 vs rv
    have z : vs.length ≤ sizeLine := by rw [rv.length, hl ρ ds q]; exact small_line hn
    exact ⟨z, fun p hp => pv Hv1 H1 e1 p vs hp z rv⟩
  | err c => rw [q] at pv; exact pv
  | bad => rw [q] at pv; exact pv
def dSetN (own : List Nat) (i : Nat) (f : DA) : DS := fun ρ => (f (mask own ρ)).to ρ fun ds => .nx (ρ.set i (some (.lst ds)))
theorem ss_setN {i : Nat} {x : Str} {p' : Pos} (gd : Gd X W) (ha : SN X W cl a g) (hi : X.N[i]? = some x := by rfl) (hx : Loc X.env.scope x := by first | exact Or.inl rfl | exact Or.inr rfl) (hs : swapsWith a (some (.Name x p')) pos.line X.env = pure false := by rfl)
    (hf : X.fn x = true ∨ X.env.scope.names.lookup x = some .local := by first | exact .inl rfl | exact .inr rfl | assumption) : SS X W cl own (i :: nots own i) (.Assign [.Name x p'] a pos) (dSetN own i g) := by
  obtain ⟨ta, pa, ha⟩ := ha
  refine ⟨_, ps_set gd.nd hi hx pa hs hf, fun Hv0 H0 ρ σ Hv H Dn sr hl po => ?_⟩
  refine ha Hv H σ _ _ sr.ext.vh sr.er (use_mask sr hl po fun ds Hv' H' _ e sr' po' p vs hp hz r => ?_)
  exact po' _ Hv' _ (sr'.setOwn hp hz r (ilt hi hl)) (Sam.refl _) (by rw [List.length_set]; exact hl)
def putIn (i : Nat) (ρ : Env) (new : List D) : O := match ρ[i]? with
  | some (some (.lst ds)) => if ds.length + new.length ≤ sizeLine then .nx (ρ.set i (some (.lst (ds ++ new)))) else .bad
  | _ => .bad
def lstAt (i : Nat) (ρ : Env) : Bool := match ρ[i]? with | some (some (.lst _)) => true | _ => false
def dApp (own : List Nat) (i : Nat) (f : DE) : DS := fun ρ => if lstAt i ρ then (f (mask own ρ)).to ρ fun d => putIn i ρ [d] else .bad
def dAppP (i : Nat) (f : DE) : DS := fun ρ => if lstAt i ρ then (f ρ).to ρ fun d => if pure' d then putIn i ρ [d] else .bad else .bad
theorem lstAt_ok {i : Nat} {ρ : Env} (h : lstAt i ρ = true) : ∃ ds, ρ[i]? = some (some (.lst ds)) := by
  unfold lstAt at h
  split at h
  · exact ⟨_, by assumption⟩
  · cases h
theorem app_end {i : Nat} {ρ : Env} {σ : St} {Hv H H' : Hp} {v : V} {d : D} {q : Addr} (sr : SR X.K cl Hv0 H0 own ρ σ Hv H') (hl : σ.length = X.N.length) (ho : i ∈ own) (hq : σ[i]? = some (some (.ref q))) (r : Rep X.K cl Hv v d) (po : PSO X W cl Hv0 H0 own Hv Dn (putIn i ρ [d])) :
    ∃ l xs y, V.ref q = .ref l ∧ [v] = [y] ∧ H' l = some (.lst xs) ∧ xs.length < sizeLine ∧ Dn.nx σ (upd H' l (.lst (xs ++ [y]))) := by
  obtain ⟨p, d0, e1, e2, e3, e4, o, e6, eo⟩ := sr.ow i ho
  rw [hq] at e2; cases e2
  unfold putIn at po
  rw [e1] at po
  cases d0 with
  | lst ds => ?_
  | _ => exact po.elim
  obtain ⟨vs, rfl, e7, e8⟩ := eo.ofL
  simp only at po
  split at po
  · rename_i hz
    have hz : vs.length + 1 ≤ sizeLine := by rw [e8.length]; exact hz
    refine ⟨q, vs, v, rfl, rfl, e6, hz, ?_⟩
    exact po σ Hv _ (sr.write ho e1 hq e6 (by rw [List.length_append]; exact hz) (e8.append (.cons r .nil))) (Sam.refl _) hl
  · exact po.elim
theorem ss_app {i : Nat} {x : Str} {apos npos : Pos} (ha : SE X W cl a fa) (ho : own.contains i = true := by rfl) (hN : X.N[i]? = some x := by rfl) (hv : Vis X.env.scope x := by first | exact Or.inl rfl | exact Or.inr (Or.inl rfl)) (hd : (x == ("__debug__" : Str)) = false := by decide)
    (hcd : (x == ("__classdict__" : Str)) = false := by decide) (hline : (apos.endLine == p.line) = true := by rfl) (hs1 : starEach [a] X.env = [(false, eval a X.env)] := by rfl)
    (hfew : ((backTo p (starEach [a] X.env)).all (fun x => !x.1) && (backToKw p (keywordEach [] X.env)).all (fun x => x.1.isSome) && decide ([a].length + ([] : List Keyword).length + (if ([] : List Keyword).isEmpty then 0 else 1) < 30)) = true := by rfl)
    (hs : swapsWith (.Call (.Attribute (.Name x npos) "append" apos) [a] [] p) none pos.line X.env = pure false := by rfl) :
    SS X W cl own own (.Expr (.Call (.Attribute (.Name x npos) "append" apos) [a] [] p) pos) (dApp own i fa) := by
  obtain ⟨ta, pa, ha⟩ := ha
  refine ⟨_, ps_expr (pe_bm PySem.F.plainAttrs_list PySem.F.slot_list_append PySem.F.type_list_append mt_append (pe_var hN hv hd hcd) (pa_cons pa pa_nil hs1) rfl hfew hline hs1 rfl) hs, fun Hv0 H0 ρ σ Hv H Dn sr hl po => ?_⟩
  have hi : i ∈ own := by simpa using ho
  obtain ⟨q, d0, e1, e2, e3, e4, o, e6, eo⟩ := sr.ow i hi
  cases hla : lstAt i ρ with
  | false => simp only [dApp, dAppP, hla] at po; exact po.elim
  | true => ?_
  obtain ⟨ds, h1⟩ := lstAt_ok hla
  rw [h1] at e1; cases e1
  obtain ⟨vs, rfl, e7, e8⟩ := eo.ofL
  simp only [dApp, dAppP, hla, if_true] at po
  refine ⟨.ref q, e2, .inl ⟨rfl, vs, .inl (.inl e6)⟩, ?_⟩
  refine ha Hv H σ _ _ sr.ext.vh sr.er (use_mask sr hl po fun d Hv' H' _ e sr' po' v r => ?_)
  exact app_end (H := H) sr' hl hi e2 r po'
end
end Sm
namespace Sm
open PySem PySem.Spec L2
mutual
def patIx : Pat → List Nat
  | .v i => [i]
  | .t ps => patIxs ps
def patIxs : List Pat → List Nat
  | [] => []
  | p :: ps => patIx p ++ patIxs ps
end
def disj (a b : List Nat) : Bool := a.all fun i => !b.contains i
theorem disj_mem {a b : List Nat} (h : disj a b = true) : ∀ i ∈ a, i ∉ b := fun i hi => by
  unfold disj at h
  rw [List.all_eq_true] at h
  simpa using h i hi
section
variable {X : Cx} {W : WX} {cl : Glb} {Hv0 H0 Hv Hv1 H : Hp} {own own1 own2 own3 : List Nat} {Dn : Ends} {pos p : Pos} {a b c e tg iter : Expr} {es : List Expr} {fa fb : DE} {g : DA} {st : Stmt} {sts : List Stmt}
def SG (X : Cx) (cl : Glb) (tg : Expr) (pt : Pat) : Prop := ∃ t, PG X tg t ∧ ∀ (Hv H : Hp) (v : V) (d : D) (ρ ρ' : Env) (σ : St) (Q : St → Hp → Prop), Vw cl Hv H → Rep X.K cl Hv v d → bindPat pt d ρ = some ρ' → ρ.length = σ.length →
  (∀ σ', (∀ (own : List Nat) (Hv0 H0 Hv1 H1 : Hp), SR X.K cl Hv0 H0 own ρ σ Hv1 H1 → Sam Hv Hv1 → (∀ i ∈ patIx pt, i ∉ own) → SR X.K cl Hv0 H0 own ρ' σ' Hv1 H1) → (∀ Hv2, ER X.K cl Hv2 ρ σ → Sam Hv Hv2 → ER X.K cl Hv2 ρ' σ') → σ'.length = σ.length → ρ'.length = ρ.length → (∀ j, j ∉ patIx pt → σ'[j]? = σ[j]?) → Q σ' H) → t v σ H Q
def SGs (X : Cx) (cl : Glb) (tg : List Expr) (pt : List Pat) : Prop := ∃ t, PGs X tg t ∧ ∀ (Hv H : Hp) (v : List V) (d : List D) (ρ ρ' : Env) (σ : St) (Q : St → Hp → Prop), Vw cl Hv H → Reps X.K cl Hv v d → bindPats pt d ρ = some ρ' → ρ.length = σ.length →
  (∀ σ', (∀ (own : List Nat) (Hv0 H0 Hv1 H1 : Hp), SR X.K cl Hv0 H0 own ρ σ Hv1 H1 → Sam Hv Hv1 → (∀ i ∈ patIxs pt, i ∉ own) → SR X.K cl Hv0 H0 own ρ' σ' Hv1 H1) → (∀ Hv2, ER X.K cl Hv2 ρ σ → Sam Hv Hv2 → ER X.K cl Hv2 ρ' σ') → σ'.length = σ.length → ρ'.length = ρ.length → (∀ j, j ∉ patIxs pt → σ'[j]? = σ[j]?) → Q σ' H) → t v σ H Q
theorem er_set {K : PySem.W.Frag} {Hv : Hp} {ρ : Env} {σ : St} {i : Nat} {v : V} {d : D} (e : ER K cl Hv ρ σ) (r : Rep K cl Hv v d) : ER K cl Hv (ρ.set i (some d)) (σ.set i (some v)) := ⟨fun j d' h => by
  by_cases hj : j = i
  · subst hj
    by_cases hl : j < ρ.length
    · rw [List.getElem?_set_self hl] at h; cases h
      exact ⟨v, List.getElem?_set_self (by rw [← e.len]; exact hl), r⟩
    · rw [List.getElem?_eq_none (by simpa using hl)] at h; cases h
  · rw [List.getElem?_set_ne (Ne.symm hj)] at h ⊢
    exact e.get j d' h, by rw [List.length_set, List.length_set]; exact e.len⟩
theorem sg_name {x : Str} (i : Nat) (nd : X.N.Nodup) (hi : X.N[i]? = some x := by rfl) (hx : Loc X.env.scope x := by first | exact Or.inl rfl | exact Or.inr rfl)
    (hf : X.fn x = true ∨ X.env.scope.names.lookup x = some .local := by first | exact .inl rfl | exact .inr rfl | assumption) : SG X cl (.Name x pos) (.v i) := by
  refine ⟨_, pg_name nd hi hx hf, fun Hv H v d ρ ρ' σ Q vw r e hl q => ?_⟩
  cases e
  refine q _ (fun own Hv0 H0 Hv1 H1 sr sm hd => ?_) (fun Hv2 er sm => ?_) (by rw [List.length_set]) (by rw [List.length_set]) fun j hj => ?_
  · have ho : i ∉ own := hd i (by simp [patIx])
    exact sr.set (fun j hj => ⟨hj, fun z => ho (z ▸ hj)⟩) (r.mono sm) fun j hj => .inl hj
  · exact er_set er (r.mono sm)
  · rw [List.getElem?_set_ne]
    intro z
    exact hj (by simp [patIx, z])
theorem sgs_nil : SGs X cl [] [] := by
  refine ⟨_, pgs_nil, fun Hv H v d ρ ρ' σ Q vw r e hl q => ?_⟩
  cases r with
  | nil =>
    cases e
    exact ⟨rfl, q σ (fun own Hv0 H0 Hv1 H1 sr _ _ => sr) (fun _ er _ => er) rfl rfl fun _ _ => rfl⟩
  | cons _ _ => cases e
theorem sgs_cons {pt : Pat} {pts : List Pat} (h1 : SG X cl e pt) (h2 : SGs X cl es pts) (hs : (assignEach (e :: es) X.env).map (·.2) = assign e X.env :: (assignEach es X.env).map (·.2) := by rfl) : SGs X cl (e :: es) (pt :: pts) := by
  obtain ⟨t, pt1, h1⟩ := h1
  obtain ⟨u, pu, h2⟩ := h2
  refine ⟨_, pgs_cons pt1 pu hs, fun Hv H v d ρ ρ' σ Q vw r e hl q => ?_⟩
  cases r with
  | nil => simp [bindPats] at e
  | cons r t =>
    simp only [bindPats, Option.bind_eq_some_iff] at e
    obtain ⟨ρ1, e1, e2⟩ := e
    refine ⟨_, _, rfl, h1 Hv H _ _ ρ ρ1 σ _ vw r e1 hl fun σ1 f1 g1 l1 m1 k1 => ?_⟩
    refine h2 Hv H _ _ ρ1 ρ' σ1 _ vw t e2 (by rw [m1, l1]; exact hl) fun σ2 f2 g2 l2 m2 k2 => ?_
    refine q σ2 (fun own Hv0 H0 Hv1 H1 sr sm hd => ?_) (fun Hv2 er sm => ?_) (l2.trans l1) (m2.trans m1) fun j hj => ?_
    · exact f2 own Hv0 H0 Hv1 H1 (f1 own Hv0 H0 Hv1 H1 sr sm fun i hi => hd i (by simp [patIxs, hi])) sm fun i hi => hd i (by simp [patIxs, hi])
    · exact g2 Hv2 (g1 Hv2 er sm) sm
    · rw [k2 j fun z => hj (by simp [patIxs, z]), k1 j fun z => hj (by simp [patIxs, z])]
theorem PG.or {t1 t2 : TG} (h1 : PG X tg t1) (h2 : PG X tg t2) : PG X tg (fun v σ H Q => t1 v σ H Q ∨ t2 v σ H Q) :=
  ⟨fun pins s σ H v u Q I r h => h.elim (h1.run pins s σ H v u Q I r) (h2.run pins s σ H v u Q I r)⟩
theorem bindPats_len : ∀ (ps : List Pat) (ds : List D) (ρ ρ' : Env), bindPats ps ds ρ = some ρ' → ds.length = ps.length := by
  intro ps
  induction ps with
  | nil => intro ds ρ ρ' h; cases ds with | nil => rfl | cons _ _ => simp [bindPats] at h
  | cons p ps ih =>
    intro ds ρ ρ' h
    cases ds with
    | nil => simp [bindPats] at h
    | cons d ds =>
      simp only [bindPats, Option.bind_eq_some_iff] at h
      obtain ⟨ρ1, _, h2⟩ := h
      rw [List.length_cons, List.length_cons, ih ds ρ1 ρ' h2]
theorem sg_tup {pts : List Pat} {k : Nat} (hc : X.calm = true) (h : SGs X cl es pts) (hn : (assignEach es X.env).length = pts.length := by rfl) (hst : (assignEach es X.env).findIdx? (·.1) = none := by rfl) : SG X cl (.Tuple es k pos) (.t pts) := by
  obtain ⟨t, pt, h⟩ := h
  refine ⟨_, PG.or (pg_tup hc pt hn hst) (pg_unl hc pt hn hst), fun Hv H v d ρ ρ' σ Q vw r e hl q => ?_⟩
  cases d with
  | tup ds =>
    cases r with
    | tup s z r =>
      simp only [bindPat] at e
      refine .inl ⟨_, _, rfl, vw.s.sqU s, ?_, h Hv H _ _ ρ ρ' σ Q vw r e hl fun σ' f1 g1 l1 m1 k1 => q σ' f1 g1 l1 m1 k1⟩
      rw [r.length]
      exact bindPats_len _ _ _ _ e
  | lst ds =>
    cases r with
    | lst s z r =>
      simp only [bindPat] at e
      refine .inr ⟨_, _, rfl, .inl (.inl (vw.s _ _ s rfl)), ?_, h Hv H _ _ ρ ρ' σ Q vw r e hl fun σ' f1 g1 l1 m1 k1 => q σ' f1 g1 l1 m1 k1⟩
      rw [r.length]
      exact bindPats_len _ _ _ _ e
  | _ => simp [bindPat] at e
def dAsg (own : List Nat) (pt : Pat) (f : DE) : DS := fun ρ => (f (mask own ρ)).to ρ fun d => match bindPat pt d ρ with | some ρ' => .nx ρ' | none => .bad
theorem ss_asg {pt : Pat} (ha : SE X W cl a fa) (hg : SG X cl tg pt) (hd : disj (patIx pt) own = true := by rfl) (hs : swapsWithSole [tg] a pos.line X.env = pure false := by rfl) (hw : swappedStores [tg] a X.env = pure none := by rfl)
    (h1 : (assignEach [tg] X.env).map (·.2) = [assign tg X.env] := by rfl) : SS X W cl own own (.Assign [tg] a pos) (dAsg own pt fa) := by
  obtain ⟨ta, pa, ha⟩ := ha
  obtain ⟨t, pt1, hg⟩ := hg
  refine ⟨_, ps_asg pa pt1 hs hw h1, fun Hv0 H0 ρ σ Hv H Dn sr hl po => ?_⟩
  refine ha Hv H σ _ _ sr.ext.vh sr.er (use_mask sr hl po fun d Hv' H' _ e sr' po' v r => ?_)
  cases q : bindPat pt d ρ with
  | none => rw [q] at po'; exact po'.elim
  | some ρ' =>
    rw [q] at po'
    exact hg Hv' H' v d ρ ρ' σ _ sr'.ext.vh r q sr'.len fun σ' f1 g1 l1 m1 k1 => po' σ' Hv' H' (f1 own Hv0 H0 Hv' H' sr' (Sam.refl _) (disj_mem hd)) (Sam.refl _) (l1.trans hl)
def dPar (own : List Nat) (i j : Nat) (g : DA) : DS := fun ρ => (g (mask own ρ)).to ρ fun ds => match ds with | [d1, d2] => .nx ((ρ.set i (some d1)).set j (some d2)) | _ => .bad
theorem ss_par {i j : Nat} {x y : Str} {px py pt pt2 : Pos} {kt k2 : Nat} (gd : Gd X W) (ha : SA X W cl [a, b] g) (hi : X.N[i]? = some x := by rfl) (hj : X.N[j]? = some y := by rfl) (hij : i ≠ j := by decide)
    (hd : disj [i, j] own = true := by rfl) (hx : X.env.scope.names.lookup x = some .local := by rfl) (hy : X.env.scope.names.lookup y = some .local := by rfl)
    (hw : swappedStores [.Tuple [.Name x px, .Name y py] kt pt] (.Tuple [a, b] k2 pt2) X.env = pure (some [x, y]) := by rfl)
    (hs : swapsWithSole [.Tuple [.Name x px, .Name y py] kt pt] (.Tuple [a, b] k2 pt2) pos.line X.env = pure false := by rfl) :
    SS X W cl own own (.Assign [.Tuple [.Name x px, .Name y py] kt pt] (.Tuple [a, b] k2 pt2) pos) (dPar own i j g) := by
  obtain ⟨ta, pa, ha, _⟩ := ha
  refine ⟨_, ps_par gd.calm gd.nd hi hj hij hx hy pa hw hs, fun Hv0 H0 ρ σ Hv H Dn sr hl po => ?_⟩
  refine ha Hv H σ _ _ sr.ext.vh sr.er (use_mask sr hl po fun ds Hv' H' _ e sr' po' vs r => ?_)
  have di := disj_mem hd
  cases r with
  | nil => exact po'.elim
  | cons r1 r =>
    cases r with
    | nil => exact po'.elim
    | cons r2 r =>
      cases r with
      | cons _ _ => exact po'.elim
      | nil =>
        have s1 := sr'.set (own' := own) (i := i) (fun k hk => ⟨hk, fun z => di i (by simp) (z ▸ hk)⟩) r1 fun k hk => .inl hk
        have s2 := s1.set (own' := own) (i := j) (fun k hk => ⟨hk, fun z => di j (by simp) (z ▸ hk)⟩) r2 fun k hk => .inl hk
        exact ⟨_, _, rfl, po' _ Hv' H' s2 (Sam.refl _) (by rw [List.length_set, List.length_set]; exact hl)⟩

def forGo (pt : Pat) (f : DS) : List D → DS
  | [], ρ => .nx ρ
  | d :: ds, ρ => match bindPat pt d ρ with
    | some ρ' => (f ρ').seq (forGo pt f ds)
    | none => .bad
def dFor (own : List Nat) (pt : Pat) (it : DI) (f : DS) : DS := fun ρ => (it (mask own ρ)).to ρ fun ds => forGo pt f ds ρ
theorem ss_for {pt : Pat} {it : DI} {f : DS} (gd : Gd X W) (hi : SI X W cl tg iter it) (hg : SG X cl tg pt) (hb : SSs X W cl own own sts f) (hd : disj (patIx pt) own = true := by rfl) (hs : ∀ x, foldedSetIterable iter X.env x = pure x := by intro _; rfl) :
    SS X W cl own own (.For tg iter sts [] pos) (dFor own pt it f) := by
  obtain ⟨wi, pi, hi⟩ := hi
  obtain ⟨tg1, pg, hg⟩ := hg
  obtain ⟨tb, pb, hb⟩ := hb
  refine ⟨_, ps_for gd.po gd.calm pi pg pb hs, fun Hv0 H0 ρ σ Hv H Dn sr hl po => ?_⟩
  refine hi Hv H σ _ _ sr.ext.vh sr.er (use_mask sr hl po fun ds Hv' H' _ e sr' po' z J hJ => ?_)
  refine ⟨fun i m σ1 H1 => ∃ ρ1 Hv1, SR X.K cl Hv0 H0 own ρ1 σ1 Hv1 H1 ∧ σ1.length = X.N.length ∧ Sam Hv' Hv1 ∧ m = ds.length - i ∧ i ≤ ds.length ∧ PSO X W cl Hv0 H0 own Hv1 Dn (forGo pt f (ds.drop i) ρ1),
    ⟨ds.length, ρ, Hv', sr', hl, Sam.refl _, rfl, Nat.zero_le _, po'⟩, ?_⟩
  rintro i m σ1 H1 ⟨ρ1, Hv1, s1, l1, sm1, rfl, hi1, p1⟩
  by_cases hlt : i < ds.length
  · rw [List.drop_eq_getElem_cons hlt] at p1
    unfold forGo at p1
    refine .inr ⟨hJ.go i Hv1 H1 sm1 s1.ext.vh hlt, fun σ2 H2 => ∃ ρ2 Hv2, SR X.K cl Hv0 H0 own ρ2 σ2 Hv2 H2 ∧ σ2.length = X.N.length ∧ Sam Hv' Hv2 ∧ PSO X W cl Hv0 H0 own Hv2 Dn (forGo pt f (ds.drop (i + 1)) ρ2),
      fun σ2 H2 ⟨ρ2, Hv2, s2, l2, sm2, p2⟩ => ⟨ds.length - (i + 1), by omega, ρ2, Hv2, s2, l2, sm2, rfl, hlt, p2⟩, fun x H2 y => ?_⟩
    obtain ⟨Hv2, e2, r2⟩ := hJ.yld i Hv1 H1 sm1 s1.ext.vh ds[i] (by simp [hlt]) x H2 y
    cases q : bindPat pt ds[i] ρ1 with
    | none => rw [q] at p1; exact p1.elim
    | some ρ' =>
      rw [q] at p1
      refine hg Hv2 H2 x ds[i] ρ1 ρ' σ1 _ e2.vh r2 q s1.len fun σ3 f3 g3 l3 m3 k3 => ?_
      have s3 := f3 own Hv0 H0 Hv2 H2 (s1.step e2) (Sam.refl _) (disj_mem hd)
      refine hb Hv0 H0 ρ' σ3 Hv2 H2 _ s3 (l3.trans l1) ?_
      have p1' : PSO X W cl Hv0 H0 own Hv2 Dn ((f ρ').seq (forGo pt f (ds.drop (i + 1)))) := p1.mono e2.vv
      cases w : f ρ' with
      | nx ρ4 =>
        rw [w] at p1'
        intro σ4 Hv4 H4 s4 sm4 l4
        exact ⟨ρ4, Hv4, s4, l4, (sm1.trans e2.vv).trans sm4, p1'.mono sm4⟩
      | ret d => rw [w] at p1'; exact p1'
      | err ρ4 c => rw [w] at p1'; exact p1'
      | bad => rw [w] at p1'; exact p1'
  · have ei : i = ds.length := by omega
    subst ei
    rw [List.drop_length] at p1
    exact .inl ⟨hJ.stop _ Hv1 H1 sm1 s1.ext.vh rfl, p1 σ1 Hv1 H1 s1 (Sam.refl _) l1⟩
def whileGo (t : DT) (f : DS) : Nat → DS
  | 0, _ => .bad
  | n + 1, ρ => (t ρ).to ρ fun k => match k with
    | true => (f ρ).seq (whileGo t f n)
    | false => .nx ρ
def dWhile (n : Env → Nat) (t : DT) (f : DS) : DS := fun ρ => whileGo t f (n ρ) ρ
theorem ss_while {t : DT} {f : DS} (n : Env → Nat) (gd : Gd X W) (hc : ST X W cl c t) (hb : SSs X W cl own own sts f) : SS X W cl own own (.While c sts [] pos) (dWhile n t f) := by
  obtain ⟨tc, pc, hc⟩ := hc
  obtain ⟨tb, pb, hb⟩ := hb
  refine ⟨_, ps_while gd.po pc pb, fun Hv0 H0 ρ σ Hv H Dn sr hl po => ?_⟩
  refine ⟨fun m σ1 H1 => ∃ ρ1 Hv1, SR X.K cl Hv0 H0 own ρ1 σ1 Hv1 H1 ∧ σ1.length = X.N.length ∧ PSO X W cl Hv0 H0 own Hv1 Dn (whileGo t f m ρ1), ⟨n ρ, ρ, Hv, sr, hl, po⟩, ?_⟩
  rintro m σ1 H1 ⟨ρ1, Hv1, s1, l1, p1⟩
  cases m with
  | zero => exact p1.elim
  | succ m =>
    obtain ⟨s2, sm2⟩ := s1.freeze (own' := []) (by simp)
    refine hc _ H1 σ1 ρ1 _ s2.ext.vh s2.er (use_full s1 l1 (show PSO X W cl Hv0 H0 own Hv1 Dn ((t ρ1).to ρ1 _) from p1) fun k Hv3 H' _ e sr1 sr2 sm po' => ?_)
    show if k = true then _ else _
    cases k with
    | false => rw [if_neg Bool.false_ne_true]; exact po' σ1 _ H' sr2 (Sam.refl _) l1
    | true =>
      rw [if_pos rfl]
      refine ⟨fun σ4 H4 => ∃ ρ4 Hv4, SR X.K cl Hv0 H0 own ρ4 σ4 Hv4 H4 ∧ σ4.length = X.N.length ∧ PSO X W cl Hv0 H0 own Hv4 Dn (whileGo t f m ρ4), fun σ4 H4 w => ⟨m, Nat.lt_succ_self m, w⟩, ?_⟩
      refine hb Hv0 H0 ρ1 σ1 _ H' _ sr2 l1 ?_
      have po2 : PSO X W cl Hv0 H0 own (lift Hv1 H1 H') Dn ((f ρ1).seq (whileGo t f m)) := po'
      cases w : f ρ1 with
      | nx ρ4 =>
        rw [w] at po2
        intro σ4 Hv4 H4 s4 sm4 l4
        exact ⟨ρ4, Hv4, s4, l4, po2.mono sm4⟩
      | ret d => rw [w] at po2; exact po2
      | err ρ4 c => rw [w] at po2; exact po2
      | bad => rw [w] at po2; exact po2
end
def outR : O → R D
  | .nx _ => .ok .non
  | .ret d => .ok d
  | .err _ c => .err c
  | .bad => .bad
def args (m : Nat) (ds : List D) : Env := ds.map some ++ List.replicate (m - ds.length) none
def defD (n m : Nat) (f : DS) : List D → R D := fun ds => if ds.length = n then outR (f (args m ds)) else .bad
theorem args_get {K : PySem.W.Frag} {cl : Glb} {H : Hp} {vs : List V} {ds : List D} {N : List Str} {i : Nat} {d : D} (r : Reps K cl H vs ds) (h : (args N.length ds)[i]? = some (some d)) : ∃ v, (start N vs)[i]? = some (some v) ∧ Rep K cl H v d := by
  unfold args at h
  unfold L2.start
  by_cases hi : i < ds.length
  · rw [List.getElem?_append_left (by simpa using hi), List.getElem?_map] at h
    rw [List.getElem?_append_left (by rw [List.length_map, r.length]; exact hi), List.getElem?_map]
    cases q : ds[i]? with
    | none => rw [q] at h; cases h
    | some d' =>
      rw [q] at h; cases h
      obtain ⟨v, h1, h2⟩ := r.get q
      exact ⟨v, by rw [h1]; rfl, h2⟩
  · rw [List.getElem?_append_right (by simpa using hi), List.getElem?_replicate] at h
    split at h <;> cases h
theorem fn_ok {P : Program} {w : World} {K : PySem.W.Frag} {mg : Str → Option Value} {base : Heap} {cl : Glb} {k n m : Nat} {x : Str} {st : Stmt} {f : Addr} {fd : FuncData} {N ps : List Str} {den : DS} {own : List Nat}
    (F : Fun K x x st f fd) (S : FnScope N ps (defScope st)) (hn : ps.length = n) (hN : N.length = m)
    (h : ∀ (cdv : Value) (A : Around) (outer : List PySem.Env) (s : Shared) (H : Hp) (E : XK), Gd (cxOf (L2.CX P w) P w K mg base N x (defScope st) f cdv A outer s H E) (fun cls d _ H => E cls d H) →
      Room k (A.deeper (PyProof.Rows.envOfC x (defScope st) s.heap.objs.size f cdv)) → SSs (cxOf (L2.CX P w) P w K mg base N x (defScope st) f cdv A outer s H E) (fun cls d _ H => E cls d H) cl [] own (defBody st) den) :
    FnOk P w K mg base (L2.CX P w) (k + 1) f fd ps (spF K cl n (defD n m den)) := by
  refine F.okX S (fun vs H Q E h => h.1.trans hn.symm) (fun cdv A outer s H vs Q E hr hsp => ?_)
  obtain ⟨hv, Hv, ds, vw, r, ps'⟩ := hsp
  have gd : Gd (cxOf (L2.CX P w) P w K mg base N x (defScope st) f cdv A outer s H E) (fun cls d _ H => E cls d H) := ⟨rfl, S.nd, takes_of rfl rfl rfl rfl, passes_of rfl⟩
  obtain ⟨t, pt, run⟩ := h cdv A outer s H E gd hr
  refine ⟨t, pt, run Hv H (args N.length ds) (start N vs) Hv H _ ⟨Ext.refl vw, ?_, fun i d _ e => args_get r e, fun i hi => absurd hi (by simp), fun i j p hi => absurd hi (by simp)⟩ ?_ ?_⟩
  · unfold args L2.start
    rw [List.length_append, List.length_append, List.length_map, List.length_map, List.length_replicate, List.length_replicate, r.length]
  · unfold L2.start
    have h1 : ps.length ≤ N.length := by have := congrArg List.length S.pre; rw [List.length_take] at this; omega
    show _ = N.length
    rw [List.length_append, List.length_map, List.length_replicate]
    omega
  · have hd : ds.length = n := by rw [← r.length]; exact hv
    unfold defD at ps'
    rw [if_pos hd] at ps'
    rw [hN]
    cases q : den (args m ds) with
    | nx ρ =>
      rw [q] at ps'
      exact fun σ' Hv' H' sr sm hl => ps' Hv' H' sr.ext .non .non
    | ret d =>
      rw [q] at ps'
      exact fun v Hv' H' e r' => ps' Hv' H' e v r'
    | err ρ c =>
      rw [q] at ps'
      exact fun σ' Hv' H' sr _ hl => ps' Hv' H' sr.ext
    | bad => rw [q] at ps'; exact ps'.elim
theorem fn_mk {P : Program} {w : World} {K : PySem.W.Frag} {mg : Str → Option Value} {base : Heap} {cl : Glb} {k n m : Nat} {x : Str} {st : Stmt} {f : Addr} {fd : FuncData} {N ps : List Str} {den : DS} {own : List Nat}
    (F : Fun K x x st f fd) (S : FnScope N ps (defScope st)) (hm : mg x = some (.ref f)) (hb : Binds K fd ps []) (hn : ps.length = n) (hN : N.length = m)
    (h : ∀ (cdv : Value) (A : Around) (outer : List PySem.Env) (s : Shared) (H : Hp) (E : XK), Gd (cxOf (L2.CX P w) P w K mg base N x (defScope st) f cdv A outer s H E) (fun cls d _ H => E cls d H) →
      Room k (A.deeper (PyProof.Rows.envOfC x (defScope st) s.heap.objs.size f cdv)) → SSs (cxOf (L2.CX P w) P w K mg base N x (defScope st) f cdv A outer s H E) (fun cls d _ H => E cls d H) cl [] own (defBody st) den) :
    Fn P w K mg base cl (k + 1) x n (defD n m den) := ⟨f, fd, ps, fn_ok F S hn hN h, hm, F.kp, hb, hn⟩
def spL (K : PySem.W.Frag) : Sp := fun vs H Q _ => ∃ (a : Addr) (ns : List Int), vs = [.ref a] ∧ SqL K H a (ns.map V.int) ∧ ns.length ≤ 63 ∧ ∀ H', Q (.bl true) H'
theorem law_by {P : Program} {w : World} {K : PySem.W.Frag} {mg : Str → Option Value} {base : Heap} {k : Nat} {f : Addr} {fd : FuncData} {ps : List Str} (hp : ps.length = 1) (c : Nat → Addr)
    (h : ∀ ns : List Int, ns.length ≤ 63 → ∃ F, F [.scr0] = .ok (.bl true) ∧ FnOk P w K mg base (L2.CX P w) k f fd ps (spF K (Glb.of c ns []) 1 F)) : FnOk P w K mg base (L2.CX P w) k f fd ps (spL K) := by
  refine ⟨fun vs H Q E ⟨a, ns, e, _⟩ => by rw [e, hp]; rfl, fun A outer s H args us vs Q E hr e0 hb hv hs => ?_⟩
  obtain ⟨a, ns, rfl, hq, hl, q⟩ := hs
  obtain ⟨F, hF, ok⟩ := h ns hl
  refine ok.run A outer s H args us _ Q E hr e0 hb hv ⟨rfl, H, [.scr0], Vw.refl (fun _ h => nomatch h), .cons (.scr0 (cl := Glb.of c ns []) hq (Nat.le_trans hl (by decide))) .nil, ?_⟩
  rw [hF]
  intro Hv' H' e v r
  cases r
  exact q H'
theorem Fn.imp {P : Program} {w : World} {K : PySem.W.Frag} {mg : Str → Option Value} {base : Heap} {cl : Glb} {k n : Nat} {x : Str} {F F' : List D → R D} (h : Fn P w K mg base cl k x n F)
    (hi : ∀ ds, F' ds = .bad ∨ ∃ es, F' ds = F es ∧ ∀ H vs, Reps K cl H vs ds → Reps K cl H vs es) : Fn P w K mg base cl k x n F' := by
  obtain ⟨f, fd, ps, h1, h2, h3, h4, h5⟩ := h
  refine ⟨f, fd, ps, h1.imp fun vs H Q E ⟨a1, Hv, ds, vw, r, p⟩ => ?_, h2, h3, h4, h5⟩
  rcases hi ds with z | ⟨es, e, hr⟩
  · rw [z] at p; exact p.elim
  · rw [e] at p
    exact ⟨a1, Hv, es, vw, hr Hv vs r, p⟩
theorem no_exc {P : Program} {w : World} {H : Hp} {s : Shared} {e : Value} {s' : Shared} (h : L2.CX P w [] H s (fun _ _ _ => False) e s') : False := by
  obtain ⟨_, _, _, _, _, _, _, _, _, _, _, _, z⟩ := h
  exact z
def fuelI (i : Nat) : Env → Nat := fun ρ => match ρ[i]? with | some (some (.int k)) => k.natAbs + 1 | _ => 0
end Sm
namespace Sm
open PySem PySem.Spec L2
def noErr {α : Type} : R α → R α
  | .err _ => .bad
  | r => r
def lcGo (pt : Pat) (t : DT) (f : DE) : List D → Env → R (List D)
  | [], _ => .ok []
  | d :: ds, ρ => match bindPat pt d ρ with
    | none => .bad
    | some ρ' => (noErr (t ρ')).bind fun k => match k with
      | true => (noErr (f ρ')).bind fun y => (lcGo pt t f ds ρ).bind fun ys => .ok (y :: ys)
      | false => lcGo pt t f ds ρ
def dLcs (vs : List Nat) (pt : Pat) (it : DI) (t : DT) (f : DE) : DA := fun ρ => (it ρ).bind fun ds => lcGo pt t f ds (mask vs ρ)
def dLc (vs : List Nat) (pt : Pat) (it : DI) (t : DT) (f : DE) : DE := fun ρ => (dLcs vs pt it t f ρ).bind fun ds => .ok (.lst ds)
def dYes : DT := fun _ => .ok true
def hideA (p : Addr) (H : Hp) : Hp := fun b => if b = p then none else H b
theorem hideA_ne {p b : Addr} {H : Hp} (h : b ≠ p) : hideA p H b = H b := if_neg h
theorem hideA_self {p : Addr} {H : Hp} : hideA p H p = none := if_pos rfl
theorem hideA_some {p b : Addr} {H : Hp} {o : HO} (h : hideA p H b = some o) : b ≠ p ∧ H b = some o := by
  unfold hideA at h
  split at h
  · cases h
  · exact ⟨by assumption, h⟩
theorem hideA_none {p b : Addr} {H : Hp} (h : hideA p H b = none) : b = p ∨ H b = none := by
  unfold hideA at h
  split at h
  · exact .inl (by assumption)
  · exact .inr h
theorem hideA_upd {p : Addr} {H : Hp} {o : HO} (h : H p = some o) : upd (hideA p H) p o = H := by
  funext b
  by_cases z : b = p
  · subst z; rw [upd_same, h]
  · rw [upd_ne z, hideA_ne z]
theorem upd_hideA {p : Addr} {H : Hp} {o : HO} : hideA p (upd H p o) = hideA p H := by
  funext b
  by_cases z : b = p
  · subst z; rw [hideA_self, hideA_self]
  · rw [hideA_ne z, hideA_ne z, upd_ne z]
theorem hideA_new {p : Addr} {H : Hp} (h : H p = none) : hideA p H = H := by
  funext b
  by_cases z : b = p
  · subst z; rw [hideA_self, h]
  · rw [hideA_ne z]
theorem tabs_put {T : List (Addr × Str)} {H : Hp} {p : Addr} {xs : List V} {o : HO} (t : LamX.Tabs T H) (hp : H p = some (.lst xs)) : LamX.Tabs T (upd H p o) := fun q hq => by
  obtain ⟨ps, g1, g2, g3⟩ := t q hq
  refine ⟨ps, ?_, g2, fun pos cv hc => ?_⟩
  · rw [upd_ne fun z => by rw [z, hp] at g1; cases g1]; exact g1
  · obtain ⟨c, ec, hc'⟩ := g3 pos cv hc
    exact ⟨c, ec, by rw [upd_ne fun z => by subst z; rw [hp] at hc'; cases hc']; exact hc'⟩
theorem Ext.hide {cl : Glb} {Hv H Hv' H' : Hp} {p : Addr} {xs : List V} (e : Ext cl Hv H Hv' H') (hp : H p = some (.lst xs)) (hv : Hv p = none) : Ext cl Hv (hideA p H) Hv' (hideA p H') := by
  have hv' : Hv' p = none := e.old p _ hp hv
  have hp' : H' p = some (.lst xs) := e.hh p _ hp rfl
  refine ⟨fun b o h n => ?_, e.vv, ⟨fun b o h n => ?_, fun b h => ?_, fun b xs h => ?_, fun b o u h => ?_, fun p' hT => ?_, fun b φ h => e.vh.x b φ (hideA_some h).2⟩, fun b o h n => e.old b o (hideA_some h).2 n, fun b h => ?_, fun b ps h => ?_⟩
  · obtain ⟨h1, h2⟩ := hideA_some h
    rw [hideA_ne h1]; exact e.hh b o h2 n
  · rw [hideA_ne fun z => by subst z; rw [hv'] at h; cases h]
    exact e.vh.s b o h n
  · rcases hideA_none h with z | z
    · rw [z]; exact hv'
    · exact e.vh.d b z
  · exact e.vh.t b xs (hideA_some h).2
  · exact e.vh.z b o u (hideA_some h).2
  · obtain ⟨ps', g1, g2, g3⟩ := e.vh.tab p' hT
    refine ⟨ps', ?_, g2, fun pos cv hc => ?_⟩
    · rw [hideA_ne fun z => by subst z; rw [hp'] at g1; cases g1]; exact g1
    · obtain ⟨c, ec, hc'⟩ := g3 pos cv hc
      exact ⟨c, ec, by rw [hideA_ne fun z => by subst z; rw [hp'] at hc'; cases hc']; exact hc'⟩
  · rcases hideA_none h with z | z
    · rw [z]; exact hideA_self
    · by_cases w : b = p
      · rw [w]; exact hideA_self
      · rw [hideA_ne w]; exact e.dom b z
  · obtain ⟨h1, h2⟩ := hideA_some h
    obtain ⟨ps', h'⟩ := e.tt b ps h2
    exact ⟨ps', by rw [hideA_ne h1]; exact h'⟩
theorem wipe_mask {σ : St} {i : Nat} : ∀ {vs : List Nat}, i ∉ vs → (wipe σ vs)[i]? = σ[i]?
  | [], _ => rfl
  | v :: vs, h => by
    simp only [List.mem_cons, not_or] at h
    unfold wipe
    rw [List.getElem?_set_ne (Ne.symm h.1), wipe_mask h.2]
theorem wipe_in {σ : St} {i : Nat} : ∀ {vs : List Nat}, i ∈ vs → i < σ.length → (wipe σ vs)[i]? = some none
  | v :: vs, h, hl => by
    unfold wipe
    by_cases e : v = i
    · subst e; rw [List.getElem?_set_self (by rw [wipe_length]; exact hl)]
    · rw [List.getElem?_set_ne e]
      rcases List.mem_cons.mp h with z | z
      · exact absurd z.symm e
      · exact wipe_in z hl
theorem er_wipe {K : PySem.W.Frag} {cl : Glb} {Hv : Hp} {ρ : Env} {σ : St} {vs : List Nat} (e : ER K cl Hv ρ σ) : ER K cl Hv (mask vs ρ) (wipe σ vs) := ⟨fun i d h => by
  obtain ⟨h1, h2⟩ := mask_get h
  rw [wipe_mask h1]
  exact e.get i d h2, by rw [mask_len, wipe_length]; exact e.len⟩
theorem wipe_eq {σ σ' : St} {vs : List Nat} {pt : Pat} (hl : σ'.length = σ.length) (hk : ∀ j, j ∉ patIx pt → σ'[j]? = (wipe σ vs)[j]?) (hp : sub (patIx pt) vs = true) : wipe σ' vs = wipe σ vs := by
  apply List.ext_getElem?
  intro i
  by_cases hi : i ∈ vs
  · by_cases h : i < σ.length
    · rw [wipe_in hi h, wipe_in hi (by rw [hl]; exact h)]
    · rw [List.getElem?_eq_none (by rw [wipe_length, hl]; omega), List.getElem?_eq_none (by rw [wipe_length]; omega)]
  · rw [wipe_mask hi, hk i fun z => hi (sub_mem hp i z)]
section
variable {X : Cx} {W : WX} {cl : Glb} {pos : Pos} {elt tg iter : Expr} {ifs : List Expr} {scope : Scope} {own : List (Str × Nat)} {pt : Pat} {it : DI} {t : DT} {f : DE}
def W0 : WX := fun _ _ _ _ => False
def STs (X : Cx) (W : WX) (cl : Glb) (ifs : List Expr) (f : DT) : Prop := ∃ t, PTs X ifs t ∧ RunT X W cl f t
theorem sts_nil : STs X W cl [] dYes := ⟨_, pts_nil, fun Hv H σ ρ Q vw er pv => pv _ _ (Ext.refl vw)⟩
theorem sts_one {c : Expr} (h : ST X W cl c t) : STs X W cl [c] t := by
  obtain ⟨u, pu, h⟩ := h
  exact ⟨u, pts_one pu, h⟩
theorem noErr_pst {α : Type} {β : Type} {r : R α} {k : α → R β} {b : β} {σ : St} {Hv H : Hp} {T : Hp → Hp → α → Prop} (e : (noErr r).bind k = .ok b) (h : ∀ a Hv' H', r = .ok a → k a = .ok b → Ext cl Hv H Hv' H' → T Hv' H' a) : Pst cl W0 σ Hv H T r := by
  cases r with
  | ok a => exact fun Hv' H' ex => h a Hv' H' rfl e ex
  | err c => cases e
  | bad => cases e
theorem lc_run1 {wi : TI} {gt : TG} {tt : TT} {te : TE}
    (hg : ∀ (Hv H : Hp) (v : V) (d : D) (ρ ρ' : Env) (σ : St) (Q : St → Hp → Prop), Vw cl Hv H → Rep X.K cl Hv v d → bindPat pt d ρ = some ρ' → ρ.length = σ.length →
      (∀ σ', (∀ Hv2, ER X.K cl Hv2 ρ σ → Sam Hv Hv2 → ER X.K cl Hv2 ρ' σ') → σ'.length = σ.length → (∀ j, j ∉ patIx pt → σ'[j]? = σ[j]?) → Q σ' H) → gt v σ H Q)
    (ht : RunT X W0 cl t tt) (he : RunE X W0 cl f te) (hp : sub (patIx pt) (own.map (·.2)) = true)
    (Hv H : Hp) (σ : St) (ρ : Env) (Q : VK) (hi : ∀ (Q : It → Hp → Prop), Pst cl W σ Hv H (TJ X.K cl Q) (it ρ) → wi σ H Q) (vw : Vw cl Hv H) (er : ER X.K cl Hv ρ σ) (pv : Pst cl W σ Hv H (TN X.K cl Q) (dLcs (own.map (·.2)) pt it t f ρ)) : tLc wi gt tt te (own.map (·.2)) σ H Q := by
  refine hi _ (bindP pv fun ds Hv1 H1 _ e1 pv1 hz J hJ => ?_)
  cases qf : lcGo pt t f ds (mask (own.map (·.2)) ρ) with
  | bad => rw [qf] at pv1; exact pv1.elim
  | err c =>
    exfalso
    have : ∀ (ds : List D) (ρ : Env), lcGo pt t f ds ρ ≠ .err c := by
      intro ds
      induction ds with
      | nil => intro ρ h; cases h
      | cons d ds ih =>
        intro ρ h
        unfold lcGo at h
        cases q : bindPat pt d ρ with
        | none => rw [q] at h; cases h
        | some ρ' =>
          rw [q] at h
          simp only at h
          cases q1 : t ρ' with
          | ok k =>
            rw [q1] at h
            cases k with
            | true =>
              simp only [noErr, R.bind] at h
              cases q2 : f ρ' with
              | ok y =>
                rw [q2] at h
                simp only [noErr, R.bind] at h
                cases q3 : lcGo pt t f ds ρ with
                | ok ys => rw [q3] at h; cases h
                | err c' => rw [q3] at h; cases h; exact ih ρ q3
                | bad => rw [q3] at h; cases h
              | err c' => rw [q2] at h; cases h
              | bad => rw [q2] at h; cases h
            | false => exact ih ρ h
          | err c' => rw [q1] at h; cases h
          | bad => rw [q1] at h; cases h
    exact this _ _ qf
  | ok full =>
    rw [qf] at pv1
    intro D hD
    refine ⟨fun i m H2 => ∃ Hv2 acc ys, Ext cl Hv1 H1 Hv2 (hideA D H2) ∧ Vw cl Hv2 H2 ∧ H2 D = some (.lst acc) ∧ Hv2 D = none ∧ Reps X.K cl Hv2 acc ys ∧ ys.length ≤ i ∧ i ≤ ds.length ∧ m = ds.length - i ∧ ∃ rest, lcGo pt t f (ds.drop i) (mask (own.map (·.2)) ρ) = .ok rest ∧ ys ++ rest = full,
      ⟨ds.length, Hv1, [], [], ?_, ?_, upd_same, e1.vh.d D hD, .nil, Nat.le_refl _, Nat.zero_le _, rfl, full, qf, rfl⟩, ?_⟩
    · rw [upd_hideA, hideA_new hD]; exact Ext.refl e1.vh
    · refine ⟨e1.vh.s.trans (.of (same_upd hD)), fun b h => e1.vh.d b (upd_none h).2, fun b xs h => ?_, fun b o u h => ?_, e1.vh.tab.ext (same_upd hD), fun b φ h => ?_⟩
      · by_cases z : b = D
        · subst z; rw [upd_same] at h; cases h
        · rw [upd_ne z] at h; exact e1.vh.t b xs h
      · by_cases z : b = D
        · subst z; rw [upd_same] at h; cases h
        · rw [upd_ne z] at h; exact e1.vh.z b o u h
      · by_cases z : b = D
        · subst z; rw [upd_same] at h; cases h
        · rw [upd_ne z] at h; exact e1.vh.x b φ h
    · rintro i m H2 ⟨Hv2, acc, ys, e2, vw2, hD2, hv2, ra, hy, hi2, rfl, rest, hr, hf⟩
      by_cases hlt : i < ds.length
      · refine .inr ⟨hJ.go i Hv2 H2 e2.vv vw2 hlt, fun H3 => ∃ Hv3 acc3 ys3, Ext cl Hv1 H1 Hv3 (hideA D H3) ∧ Vw cl Hv3 H3 ∧ H3 D = some (.lst acc3) ∧ Hv3 D = none ∧ Reps X.K cl Hv3 acc3 ys3 ∧ ys3.length ≤ i + 1 ∧ ∃ rest, lcGo pt t f (ds.drop (i + 1)) (mask (own.map (·.2)) ρ) = .ok rest ∧ ys3 ++ rest = full,
          fun H3 ⟨Hv3, acc3, ys3, a1, a2, a3, a4, a5, a6, a7⟩ => ⟨ds.length - (i + 1), by omega, Hv3, acc3, ys3, a1, a2, a3, a4, a5, a6, hlt, rfl, a7⟩, fun x H3 y => ?_⟩
        obtain ⟨Hv3, e3, r3⟩ := hJ.yld i Hv2 H2 e2.vv vw2 ds[i] (by simp [hlt]) x H3 y
        rw [List.drop_eq_getElem_cons hlt] at hr
        unfold lcGo at hr
        cases q : bindPat pt ds[i] (mask (own.map (·.2)) ρ) with
        | none => rw [q] at hr; cases hr
        | some ρ' =>
          rw [q] at hr
          simp only at hr
          refine hg Hv3 H3 x ds[i] _ ρ' (wipe σ (own.map (·.2))) _ e3.vh r3 q (by rw [wipe_length, mask_len]; exact er.len) fun σ' g' l' k' => ?_
          have er3 : ER X.K cl Hv3 ρ' σ' := g' Hv3 (er_wipe (((er.mono e1.vv).mono e2.vv).mono e3.vv)) (Sam.refl _)
          refine ⟨wipe_eq (l'.trans (wipe_length _ _)) k' hp, ?_⟩
          refine ht Hv3 H3 σ' ρ' _ e3.vh er3 (noErr_pst hr fun k Hv4 H4 qk hk e4 => ?_)
          have hD3 : H3 D = some (.lst acc) := e3.hh D _ hD2 rfl
          have hD4 : H4 D = some (.lst acc) := e4.hh D _ hD3 rfl
          have hv3 : Hv3 D = none := e3.old D _ hD2 hv2
          have hv4 : Hv4 D = none := e4.old D _ hD3 hv3
          have ext4 : Ext cl Hv1 H1 Hv4 (hideA D H4) := (e2.trans (e3.hide hD2 hv2)).trans (e4.hide hD3 hv3)
          show if k = true then _ else _
          cases k with
          | false =>
            rw [if_neg Bool.false_ne_true]
            exact ⟨Hv4, acc, ys, ext4, e4.vh, hD4, hv4, (ra.mono e3.vv).mono e4.vv, by omega, rest, hk, hf⟩
          | true =>
            rw [if_pos rfl]
            refine he Hv4 H4 σ' ρ' _ e4.vh (er3.mono e4.vv) (noErr_pst hk fun yd Hv5 H5 qy hy5 e5 v rv => ?_)
            have hD5 : H5 D = some (.lst acc) := e5.hh D _ hD4 rfl
            have hv5 : Hv5 D = none := e5.old D _ hD4 hv4
            have hla : acc.length = ys.length := ra.length
            refine ⟨acc, hD5, by omega, ?_⟩
            cases q5 : lcGo pt t f (ds.drop (i + 1)) (mask (own.map (·.2)) ρ) with
            | ok rest5 =>
              rw [q5] at hy5
              cases hy5
              have ra5 := (((ra.mono e3.vv).mono e4.vv).mono e5.vv).append (.cons rv .nil)
              refine ⟨Hv5, acc ++ [v], ys ++ [yd], ?_, ?_, upd_same, hv5, ra5, by rw [List.length_append, List.length_singleton]; omega, rest5, rfl, by rw [List.append_assoc]; exact hf⟩
              · rw [upd_hideA]; exact ext4.trans (e5.hide hD4 hv4)
              · refine ⟨fun b o h n => ?_, fun b h => e5.vh.d b (upd_none h).2, fun b xs h => ?_, fun b o u h => ?_, tabs_put e5.vh.tab hD5, fun b φ h => ?_⟩
                · rw [upd_ne fun z => by subst z; rw [hv5] at h; cases h]; exact e5.vh.s b o h n
                · by_cases z : b = D
                  · subst z; rw [upd_same] at h; cases h
                  · rw [upd_ne z] at h; exact e5.vh.t b xs h
                · by_cases z : b = D
                  · subst z; rw [upd_same] at h; cases h
                  · rw [upd_ne z] at h; exact e5.vh.z b o u h
                · by_cases z : b = D
                  · subst z; rw [upd_same] at h; cases h
                  · rw [upd_ne z] at h; exact e5.vh.x b φ h
            | err c => rw [q5] at hy5; cases hy5
            | bad => rw [q5] at hy5; cases hy5
      · have ei : i = ds.length := by omega
        subst ei
        rw [List.drop_length] at hr
        cases hr
        rw [List.append_nil] at hf
        subst hf
        refine .inl ⟨hJ.stop _ Hv2 H2 e2.vv vw2 rfl, ?_⟩
        have z : acc.length ≤ sizeLine := by rw [ra.length]; omega
        have := pv1 Hv2 (hideA D H2) e2 D acc hideA_self z ra
        rw [hideA_upd hD2] at this
        exact this
theorem lc_run {wi : TI} {gt : TG} {tt : TT} {te : TE}
    (hi : ∀ (Hv H : Hp) (σ : St) (ρ : Env) (Q : It → Hp → Prop), Vw cl Hv H → ER X.K cl Hv ρ σ → Pst cl W σ Hv H (TJ X.K cl Q) (it ρ) → wi σ H Q)
    (hg : ∀ (Hv H : Hp) (v : V) (d : D) (ρ ρ' : Env) (σ : St) (Q : St → Hp → Prop), Vw cl Hv H → Rep X.K cl Hv v d → bindPat pt d ρ = some ρ' → ρ.length = σ.length →
      (∀ σ', (∀ Hv2, ER X.K cl Hv2 ρ σ → Sam Hv Hv2 → ER X.K cl Hv2 ρ' σ') → σ'.length = σ.length → (∀ j, j ∉ patIx pt → σ'[j]? = σ[j]?) → Q σ' H) → gt v σ H Q)
    (ht : RunT X W0 cl t tt) (he : RunE X W0 cl f te) (hp : sub (patIx pt) (own.map (·.2)) = true)
    (Hv H : Hp) (σ : St) (ρ : Env) (Q : VK) (vw : Vw cl Hv H) (er : ER X.K cl Hv ρ σ) (pv : Pst cl W σ Hv H (TN X.K cl Q) (dLcs (own.map (·.2)) pt it t f ρ)) : tLc wi gt tt te (own.map (·.2)) σ H Q :=
  lc_run1 hg ht he hp Hv H σ ρ Q (fun Q => hi Hv H σ ρ Q vw er) vw er pv
end
end Sm
namespace Sm
open PySem PySem.Spec L2
section
variable {X : Cx} {W : WX} {cl : Glb} {pos : Pos} {e elt tg iter : Expr} {ifs : List Expr} {scope : Scope} {own : List (Str × Nat)} {pt : Pat} {it : DI} {t : DT} {f : DE} {ow ow1 : List Nat}
def tE (K : PySem.W.Frag) (cl : Glb) (W : WX) (f : DE) : TE := fun σ H Q => ∃ Hv ρ, Vw cl Hv H ∧ ER K cl Hv ρ σ ∧ Pst cl W σ Hv H (TV K cl Q) (f ρ)
def tT (K : PySem.W.Frag) (cl : Glb) (W : WX) (f : DT) : TT := fun σ H Q => ∃ Hv ρ, Vw cl Hv H ∧ ER K cl Hv ρ σ ∧ Pst cl W σ Hv H (TB Q) (f ρ)
def tG (K : PySem.W.Frag) (cl : Glb) (pt : Pat) : TG := fun v σ H Q => ∃ Hv d ρ ρ', Vw cl Hv H ∧ Rep K cl Hv v d ∧ bindPat pt d ρ = some ρ' ∧ ρ.length = σ.length ∧
  (∀ σ', (∀ Hv2, ER K cl Hv2 ρ σ → Sam Hv Hv2 → ER K cl Hv2 ρ' σ') → σ'.length = σ.length → (∀ j, j ∉ patIx pt → σ'[j]? = σ[j]?) → Q σ' H)
theorem SE.pe (h : SE X W cl e f) : PE X e (tE X.K cl W f) := by
  obtain ⟨u, pu, hu⟩ := h
  exact ⟨fun pins s σ H Q I ⟨Hv, ρ, vw, er, pv⟩ => pu.run pins s σ H Q I (hu Hv H σ ρ Q vw er pv)⟩
theorem STs.pts (h : STs X W cl ifs t) : PTs X ifs (tT X.K cl W t) := by
  obtain ⟨u, pu, hu⟩ := h
  exact ⟨fun pins s σ H Q I ⟨Hv, ρ, vw, er, pv⟩ => pu.run pins s σ H Q I (hu Hv H σ ρ Q vw er pv)⟩
theorem SG.pg (h : SG X cl tg pt) : PG X tg (tG X.K cl pt) := by
  obtain ⟨u, pu, hu⟩ := h
  exact ⟨fun pins s σ H v w Q I r ⟨Hv, d, ρ, ρ', vw, rv, eb, hl, q⟩ => pu.run pins s σ H v w Q I r (hu Hv H v d ρ ρ' σ Q vw rv eb hl fun σ' _ g' l' _ k' => q σ' g' l' k')⟩
theorem lc_runs {wi : TI} (hi : ∀ (Hv H : Hp) (σ : St) (ρ : Env) (Q : It → Hp → Prop), Vw cl Hv H → ER X.K cl Hv ρ σ → Pst cl W σ Hv H (TJ X.K cl Q) (it ρ) → wi σ H Q) (hp : sub (patIx pt) (own.map (·.2)) = true)
    (Hv H : Hp) (σ : St) (ρ : Env) (Q : VK) (vw : Vw cl Hv H) (er : ER X.K cl Hv ρ σ) (pv : Pst cl W σ Hv H (TN X.K cl Q) (dLcs (own.map (·.2)) pt it t f ρ)) : tLc wi (tG X.K cl pt) (tT X.K cl W0 t) (tE X.K cl W0 f) (own.map (·.2)) σ H Q :=
  lc_run hi (fun Hv H v d ρ ρ' σ Q vw r e hl q => ⟨Hv, d, ρ, ρ', vw, r, e, hl, q⟩) (fun Hv H σ ρ Q vw er pv => ⟨Hv, ρ, vw, er, pv⟩) (fun Hv H σ ρ Q vw er pv => ⟨Hv, ρ, vw, er, pv⟩) hp Hv H σ ρ Q vw er pv
theorem sn_lc (gd : X.calm = true) (nd : X.N.Nodup) (hi : SI X W cl tg iter it) (ok : BlkOk X.N X.env.scope scope own)
    (hg : ∀ (s : Shared) (H : Hp) (C : Addr) (cs : List (Str × Addr)) (fp : List Addr), SG (X.blk s H scope (compEnvC scope cs C X.env) fp) cl tg pt)
    (ht : ∀ (s : Shared) (H : Hp) (C : Addr) (cs : List (Str × Addr)) (fp : List Addr), STs (X.blk s H scope (compEnvC scope cs C X.env) fp) W0 cl ifs t)
    (he : ∀ (s : Shared) (H : Hp) (C : Addr) (cs : List (Str × Addr)) (fp : List Addr), SE (X.blk s H scope (compEnvC scope cs C X.env) fp) W0 cl elt f) (hp : sub (patIx pt) (own.map (·.2)) = true := by rfl) (hs : ∀ x, foldedSetIterable iter X.env x = pure x := by intro _; rfl) :
    SN X W cl (.ListComp elt [⟨tg, iter, ifs, 0⟩] scope pos) (dLcs (own.map (·.2)) pt it t f) := by
  obtain ⟨wi, pi, hi⟩ := hi
  exact ⟨_, pe_lc (te := tE X.K cl W0 f) (tt := tT X.K cl W0 t) (g := tG X.K cl pt) gd nd pi ok (fun s H C cs fp => (hg s H C cs fp).pg) (fun s H C cs fp => (ht s H C cs fp).pts) (fun s H C cs fp => (he s H C cs fp).pe) hs, lc_runs hi hp⟩
theorem SN.se {g : DA} (h : SN X W cl e g) : SE X W cl e (fun ρ => (g ρ).bind fun ds => .ok (.lst ds)) := by
  obtain ⟨u, pu, hu⟩ := h
  refine ⟨u, pu, fun Hv H σ ρ Q vw er pv => hu Hv H σ ρ Q vw er ?_⟩
  have pv : Pst cl W σ Hv H (TV X.K cl Q) ((g ρ).bind fun ds => .ok (.lst ds)) := pv
  cases q : g ρ with
  | ok ds =>
    rw [q] at pv
    exact fun Hv' H' ex p vs hp hz r => pv _ _ (ex.trans (Ext.new ex.vh hp)) _ (.lst upd_same hz (r.mono (Ext.new ex.vh hp).vv))
  | err c => rw [q] at pv; exact pv
  | bad => rw [q] at pv; exact pv
theorem se_lc (gd : X.calm = true) (nd : X.N.Nodup) (hi : SI X W cl tg iter it) (ok : BlkOk X.N X.env.scope scope own)
    (hg : ∀ (s : Shared) (H : Hp) (C : Addr) (cs : List (Str × Addr)) (fp : List Addr), SG (X.blk s H scope (compEnvC scope cs C X.env) fp) cl tg pt)
    (ht : ∀ (s : Shared) (H : Hp) (C : Addr) (cs : List (Str × Addr)) (fp : List Addr), STs (X.blk s H scope (compEnvC scope cs C X.env) fp) W0 cl ifs t)
    (he : ∀ (s : Shared) (H : Hp) (C : Addr) (cs : List (Str × Addr)) (fp : List Addr), SE (X.blk s H scope (compEnvC scope cs C X.env) fp) W0 cl elt f) (hp : sub (patIx pt) (own.map (·.2)) = true := by rfl) (hs : ∀ x, foldedSetIterable iter X.env x = pure x := by intro _; rfl) :
    SE X W cl (.ListComp elt [⟨tg, iter, ifs, 0⟩] scope pos) (dLc (own.map (·.2)) pt it t f) := (sn_lc gd nd hi ok hg ht he hp hs).se
theorem ss_setLc {i : Nat} {y : Str} {py spos : Pos} (gd : Gd X W) (hi : SI X W cl tg iter it) (ok : BlkOk X.N X.env.scope scope own)
    (hg : ∀ (s : Shared) (H : Hp) (C : Addr) (cs : List (Str × Addr)) (fp : List Addr), SG (X.blk s H scope (compEnvC scope cs C X.env) fp) cl tg pt)
    (ht : ∀ (s : Shared) (H : Hp) (C : Addr) (cs : List (Str × Addr)) (fp : List Addr), STs (X.blk s H scope (compEnvC scope cs C X.env) fp) W0 cl ifs t)
    (he : ∀ (s : Shared) (H : Hp) (C : Addr) (cs : List (Str × Addr)) (fp : List Addr), SE (X.blk s H scope (compEnvC scope cs C X.env) fp) W0 cl elt f) (hy : X.N[i]? = some y := by rfl) (hyl : X.env.scope.names.lookup y = some .local := by rfl)
    (hsw : swapsWith (.ListComp elt [⟨tg, iter, ifs, 0⟩] scope pos) (some (.Name y py)) spos.line X.env = pure true := by exact sw_true rfl rfl rfl (by decide +kernel))
    (hp : sub (patIx pt) (own.map (·.2)) = true := by rfl) (hs : ∀ x, foldedSetIterable iter X.env x = pure x := by intro _; rfl) :
    SS X W cl ow (i :: nots ow i) (.Assign [.Name y py] (.ListComp elt [⟨tg, iter, ifs, 0⟩] scope pos) spos) (dSetN ow i (dLcs (own.map (·.2)) pt it t f)) := by
  obtain ⟨wi, pi, hi⟩ := hi
  refine ⟨_, ps_setLc (te := tE X.K cl W0 f) (tt := tT X.K cl W0 t) (g := tG X.K cl pt) gd.calm gd.nd hy hyl hsw pi ok (fun s H C cs fp => (hg s H C cs fp).pg) (fun s H C cs fp => (ht s H C cs fp).pts) (fun s H C cs fp => (he s H C cs fp).pe) hs, fun Hv0 H0 ρ σ Hv H Dn sr hl po => ?_⟩
  refine lc_runs hi hp Hv H σ _ _ sr.ext.vh sr.er (use_mask sr hl po fun ds Hv' H' _ ex sr' po' p vs hp' hz r => ?_)
  exact po' _ Hv' _ (sr'.setOwn hp' hz r (ilt hy hl)) (Sam.refl _) (by rw [List.length_set]; exact hl)
end
end Sm
namespace Sm
open PySem PySem.Spec L2
theorem tuple_mul1W (l : Addr) (items : Array Value) (n : Nat) (dd : Option Addr) (sl : Array (Option Value)) (u : Tok) :
    Meets (Builtin.«tuple.__mul__» ⟨[.ref l, .int 1 u], []⟩) (fun _ R s => s.heap.get? l = some { cls := .type "tuple", dict := dd, data := .seq items n, slots := sl } ∧ R (.ok (.ret (Value.ref l))) s) :=
  .of_wp fun prog w A R s h => by
    obtain ⟨hp, g, d, tk, os⟩ := s
    obtain ⟨hl, h⟩ := h
    have f1 := AutoSeq1.idx_int
    wp_walk using wpAny_loadPart' hl
    repeat (first
      | (refine wpAny_ite_false (decide_eq_false (by decide)) ?_; wp_walk using wpAny_loadPart' hl)
      | (refine wpAny_ite_true (decide_eq_true (by simp)) ?_; wp_walk using wpAny_loadPart' hl))
    exact ⟨_, rfl, h⟩
def rRep1 (K : PySem.W.Frag) : R2 := fun x y H Q => ∃ l xs, x = .ref l ∧ y = .int 1 ∧ SqT K H l xs ∧ Q (.ref l) H
theorem op_rep1 {X : Cx} : OpR X (binaryOp .Mult) (rRep1 X.K) := by
  intro pins s σ H x y v u Q I rx ry h
  obtain ⟨l, xs, rfl, rfl, hT, q⟩ := h
  cases rx
  obtain ⟨t, rfl⟩ := ry
  obtain ⟨its, r, ⟨⟨cls, dd, data, sl⟩, ho, hc, n, hd⟩, hs⟩ := I.tuple hT
  simp only at hc hd
  subst hc hd
  refine wpAny_binaryOp_repeat_ref (T := "tuple") (U := "int") (by decide) ⟨_, ho, rfl⟩ (fun s' => typeIs_int s' 1 t) noFill_tuple_mul F.fills_int_mul F.slot_int_rmul repeat_tuple F.slot_int_index.lookup
    (call_meets F.slot_int_rmul (typeIs_int s 1 t) F.entry_int_rmul (F.args_int_rmul_2 _ _) (int_rmul_tuple 1 t l its.toArray n dd sl)
      ⟨ho, rfl, ⟨_, ho, rfl⟩, call_meets F.slot_tuple_mul ⟨_, ho, rfl⟩ F.entry_tuple_mul (F.args_tuple_mul_2 _ _) (tuple_mul1W l its.toArray n dd sl t) ⟨ho, ?_⟩⟩)
  exact ⟨.ref l, _, I, rfl, q⟩
section
variable {X : Cx} {W : WX} {cl : Glb}
def oRepL : D → D → Option D
  | .lst x, .int k => if -16777216 ≤ k ∧ k ≤ 16777216 ∧ x.length * k.toNat ≤ sizeLine then some (.lst (List.replicate k.toNat x).flatten) else none
  | _, _ => none
def oRepT : D → D → Option D
  | .tup x, .int k => if x ≠ [] ∧ 2 ≤ k ∧ k ≤ 1000 ∧ x.length ≤ 1000 then some (.tup (List.replicate k.toNat x).flatten) else none
  | _, _ => none
theorem flat_len {α : Type} (k : Nat) (x : List α) : ((List.replicate k x).flatten).length = x.length * k := by
  induction k with
  | zero => simp
  | succ k ih => rw [List.replicate_succ, List.flatten_cons, List.length_append, ih, Nat.mul_succ]; omega
theorem os_repL : OpS X cl (binaryOp .Mult) oRepL := by
  refine ⟨_, op_rep, fun Hv H x y a b d Q vw rx ry e q => ?_⟩
  cases a <;> cases b <;> simp [oRepL] at e
  obtain ⟨⟨h1, h2, h3⟩, rfl⟩ := e
  cases ry
  cases rx with
  | lst s1 z1 r1 =>
    have e1 := r1.length
    refine ⟨_, _, _, rfl, rfl, vw.s _ _ s1 rfl, by omega, by omega, by rw [e1]; exact h3, new_lst vw (r1.replicate _) ?_ q⟩
    rw [flat_len, e1]; exact h3
theorem os_repT : OpS X cl (binaryOp .Mult) oRepT := by
  refine ⟨_, op_repT, fun Hv H x y a b d Q vw rx ry e q => ?_⟩
  cases a <;> cases b <;> simp [oRepT] at e
  obtain ⟨⟨h0, h1, h2, h3⟩, rfl⟩ := e
  rename_i x0 k0
  cases ry
  cases rx with
  | tup s1 z1 r1 =>
    have e1 := r1.length
    refine ⟨_, _, _, rfl, rfl, vw.s.sqU s1, fun z => ?_, h1, h2, by omega, new_tup vw (r1.replicate _) ?_ q⟩
    · subst z; cases r1; exact h0 rfl
    · rw [flat_len, e1]
      have h4 : x0.length * k0.toNat ≤ 1000 * 1000 := Nat.mul_le_mul h3 (by omega)
      exact Nat.le_trans h4 (by decide)
def oRep1 : D → D → Option D
  | .tup x, .int k => if k = 1 then some (.tup x) else none
  | _, _ => none
theorem os_rep1 : OpS X cl (binaryOp .Mult) oRep1 := by
  refine ⟨_, op_rep1, fun Hv H x y a b d Q vw rx ry e q => ?_⟩
  cases a <;> cases b <;> simp [oRep1] at e
  obtain ⟨rfl, rfl⟩ := e
  cases ry
  cases rx with
  | tup s1 z1 r1 => exact ⟨_, _, rfl, rfl, vw.s.sqU s1, q _ _ _ (Ext.refl vw) (.tup s1 z1 r1)⟩
def oMul : D → D → Option D
  | .int i, .int j => if mulOk i j then some (.int (i * j)) else none
  | .lst x, .int k => if -16777216 ≤ k ∧ k ≤ 16777216 ∧ x.length * k.toNat ≤ sizeLine then some (.lst (List.replicate k.toNat x).flatten) else none
  | .tup x, .int k => if k = 1 then some (.tup x) else if x ≠ [] ∧ 2 ≤ k ∧ k ≤ 1000 ∧ x.length ≤ 1000 then some (.tup (List.replicate k.toNat x).flatten) else none
  | _, _ => none
theorem os_times : OpS X cl (binaryOp .Mult) oMul := (os_mul.or (os_repL.or (os_rep1.or os_repT))).imp fun a b d e => by
  unfold orO
  cases a <;> cases b <;> simp [oMul] at e <;> simp [oMulI, oRepL, oRepT, oRep1, e]
  rename_i k
  by_cases h : k = 1
  · rw [if_pos h] at e ⊢
    exact e
  · rw [if_neg h] at e ⊢
    exact e
end
theorem Fn.none {P : Program} {w : World} {K : PySem.W.Frag} {mg : Str → Option Value} {base : Heap} {cl : Glb} {k n : Nat} {x : Str} {st : Stmt} {f : Addr} {fd : FuncData} {ps : List Str} (F : Fun K x x st f fd) (hm : mg x = some (.ref f)) (hb : Binds K fd ps []) (hn : ps.length = n) :
    Fn P w K mg base cl k x n (fun _ => .bad) :=
  ⟨f, fd, ps, ⟨fun vs H Q E h => h.1.trans hn.symm, fun A outer s H args us vs Q E _ _ _ _ h => by obtain ⟨_, _, _, _, _, z⟩ := h; exact z.elim⟩, hm, F.kp, hb, hn⟩
end Sm
namespace Sm
open PySem PySem.Spec L2
section
variable {X : Cx} {W : WX} {cl : Glb} {pos p : Pos} {a b c e : Expr} {es : List Expr} {fa fb fc : DE} {g : DA}
def oIs : D → D → Option D
  | .bl i, .bl j => some (.bl (decide (i = j)))
  | .non, .non => some (.bl true)
  | _, .non => some (.bl false)
  | _, _ => none
theorem rep_non {K : PySem.W.Frag} {H : Hp} {v : V} {d : D} (r : Rep K cl H v d) : (d = .non → v = .non) ∧ (d ≠ .non → decide (v = .non) = false) := by
  cases r <;> simp
theorem os_is : OpS X cl (compareOp .Is) oIs := by
  refine ⟨_, OpR.or op_is_bl op_isN, fun Hv H x y a b d Q vw rx ry e q => ?_⟩
  cases b with
  | bl j =>
    cases ry
    cases a <;> simp [oIs] at e
    subst e
    cases rx
    exact .inl ⟨_, _, rfl, rfl, q _ _ _ (Ext.refl vw) (.bl _)⟩
  | non =>
    cases ry
    refine .inr ⟨rfl, ?_⟩
    obtain ⟨h1, h2⟩ := rep_non rx
    by_cases ha : a = .non
    · subst ha; cases e
      rw [h1 rfl]; exact q _ _ _ (Ext.refl vw) (.bl _)
    · rw [h2 ha]
      have : d = .bl false := by cases a <;> simp [oIs] at e ha <;> exact e.symm
      subst this
      exact q _ _ _ (Ext.refl vw) (.bl _)
  | _ => cases a <;> cases e
def SO (X : Cx) (W : WX) (cl : Glb) (e : Option Expr) (f : Env → R (Option Int)) : Prop := ∃ t, PO X e t ∧ ∀ (Hv H : Hp) (σ : St) (ρ : Env) (Q : Option Int → Hp → Prop), Vw cl Hv H → ER X.K cl Hv ρ σ → Pst cl W σ Hv H (fun _ H' i => Q i H') (f ρ) → t σ H Q
def dNo : Env → R (Option Int) := fun _ => .ok none
def dSo (f : DE) : Env → R (Option Int) := fun ρ => (f ρ).bind fun d => match d with | .int i => .ok (some i) | _ => .bad
theorem so_none : SO X W cl none dNo := ⟨_, po_none, fun Hv H σ ρ Q vw er pv => pv _ _ (Ext.refl vw)⟩
theorem so_some (ha : SE X W cl a fa) : SO X W cl (some a) (dSo fa) := by
  obtain ⟨ta, pa, ha⟩ := ha
  refine ⟨_, po_some pa, fun Hv H σ ρ Q vw er pv => ?_⟩
  refine ha Hv H σ ρ _ vw er (bindP pv fun x Hv1 H1 _ e1 pv1 v rv => ?_)
  cases x with
  | int i => cases rv; exact ⟨i, rfl, pv1 _ _ (Ext.refl e1.vh)⟩
  | _ => exact pv1.elim
def cutD {α : Type} (xs : List α) (lo hi : Option Int) : List α := (xs.drop (HT.sIx xs.length 0 lo)).take (HT.sIx xs.length xs.length hi - HT.sIx xs.length 0 lo)
def oSl (d : D) (lo hi : Option Int) : Option D := match d with
  | .lst ds => some (.lst (cutD ds lo hi))
  | .tup ds => some (.tup (cutD ds lo hi))
  | .str z => if z.length ≤ sizeLine then some (.str (cutS z lo hi)) else none
  | _ => none
theorem reps_cut {K : PySem.W.Frag} {H : Hp} {xs : List V} {ds : List D} (r : Reps K cl H xs ds) (lo hi : Option Int) : Reps K cl H (cutV xs lo hi) (cutD ds lo hi) := by
  unfold cutV cutD
  rw [r.length]
  exact (r.drop _).take _
theorem cutD_all {α : Type} {xs : List α} {lo hi : Option Int} (h1 : HT.sIx xs.length 0 lo = 0) (h2 : HT.sIx xs.length xs.length hi = xs.length) : cutD xs lo hi = xs := by
  unfold cutD
  rw [h1, h2]; simp
def dSl (f : DE) (lo hi : Env → R (Option Int)) : DE := fun ρ => (f ρ).bind fun d => (lo ρ).bind fun l => (hi ρ).bind fun h => ofO (oSl d l h)
theorem se_slice {lo hi : Option Expr} {fl fh : Env → R (Option Int)} {p2 : Pos} (ha : SE X W cl a fa) (hl : SO X W cl lo fl) (hh : SO X W cl hi fh) : SE X W cl (.Subscript a (.Slice lo hi none p2) pos) (dSl fa fl fh) := by
  obtain ⟨ta, pa, ha⟩ := ha
  obtain ⟨tl, pl, hl⟩ := hl
  obtain ⟨th, ph, hh⟩ := hh
  refine ⟨_, pe_slice (sl_list.or (sl_tupA.or sl_str)) pa pl ph, fun Hv H σ ρ Q vw er pv => ?_⟩
  refine ha Hv H σ ρ _ vw er (bindP pv fun x Hv1 H1 _ e1 pv1 v rv => ?_)
  refine hl Hv1 H1 σ ρ _ e1.vh (er.mono e1.vv) (bindP pv1 fun l Hv2 H2 _ e2 pv2 => ?_)
  refine hh Hv2 H2 σ ρ _ e2.vh ((er.mono e1.vv).mono e2.vv) (bindP pv2 fun h Hv3 H3 _ e3 pv3 => ?_)
  obtain ⟨d, ed, q⟩ := ofO_ok pv3
  have q : ∀ v Hv' H', Ext cl Hv3 H3 Hv' H' → Rep X.K cl Hv' v d → Q v H' := fun v Hv' H' ex r => q Hv' H' ex v r
  have rv := (rv.mono e2.vv).mono e3.vv
  have vw := e3.vh
  cases rv with
  | lst s z r =>
    cases ed
    exact .inl ⟨_, _, rfl, .inl (.inl (vw.s _ _ s rfl)), new_lst vw (reps_cut r l h) (Nat.le_trans (cutV_length _ _ _) z) q⟩
  | tup s z r =>
    cases ed
    refine .inr (.inl ⟨_, _, rfl, vw.s.sqU s, fun hw => ?_, fun _ => new_tup vw (reps_cut r l h) (Nat.le_trans (cutV_length _ _ _) z) q⟩)
    rw [r.length] at hw
    rw [cutD_all hw.1 hw.2] at q
    exact q _ _ _ (Ext.refl vw) (.tup s z r)
  | str z =>
    simp only [oSl] at ed
    split at ed
    · cases ed
      exact .inr (.inr ⟨_, rfl, by assumption, q _ _ _ (Ext.refl vw) (.str _)⟩)
    · cases ed
  | _ => cases ed
def intsOf : List D → Option (List Int)
  | [] => some []
  | .int i :: ds => (intsOf ds).map (i :: ·)
  | _ => none
def boolsOf : List D → Option (List Bool)
  | [] => some []
  | .bl i :: ds => (boolsOf ds).map (i :: ·)
  | _ => none
theorem reps_intsOf {K : PySem.W.Frag} {H : Hp} : ∀ {xs : List V} {ds : List D} {ns : List Int}, Reps K cl H xs ds → intsOf ds = some ns → xs = ns.map V.int
  | _, _, _, .nil, h => by cases h; rfl
  | _, _, _, .cons r t, h => by
    cases r with
    | int i =>
      simp only [intsOf, Option.map_eq_some_iff] at h
      obtain ⟨ns, h1, rfl⟩ := h
      rw [reps_intsOf t h1]; rfl
    | _ => cases h
theorem reps_boolsOf {K : PySem.W.Frag} {H : Hp} : ∀ {xs : List V} {ds : List D} {ns : List Bool}, Reps K cl H xs ds → boolsOf ds = some ns → xs = ns.map V.bl
  | _, _, _, .nil, h => by cases h; rfl
  | _, _, _, .cons r t, h => by
    cases r with
    | bl i =>
      simp only [boolsOf, Option.map_eq_some_iff] at h
      obtain ⟨ns, h1, rfl⟩ := h
      rw [reps_boolsOf t h1]; rfl
    | _ => cases h
theorem one_lst {K : PySem.W.Frag} {H : Hp} {xs : List V} {ds : List D} (r : Reps K cl H xs [.lst ds]) : ∃ l vs, xs = [.ref l] ∧ H l = some (.lst vs) ∧ vs.length ≤ sizeLine ∧ Reps K cl H vs ds := by
  cases r with
  | cons r t =>
    cases t
    cases r with
    | lst s z r => exact ⟨_, _, rfl, s, z, r⟩
def oSum : List D → Option D
  | [.lst ds] => (intsOf ds).map fun ns => .int ns.sum
  | _ => none
theorem cs_sum (hc : X.calm = true) : CallS X cl (.builtin "sum") oSum := by
  refine ⟨_, cr_sum hc, fun Hv H xs ds d Q vw r e q => ?_⟩
  unfold oSum at e
  split at e
  · obtain ⟨l, vs, rfl, h1, h2, h3⟩ := one_lst r
    rw [Option.map_eq_some_iff] at e
    obtain ⟨ns, e1, rfl⟩ := e
    have := reps_intsOf h3 e1
    subst this
    exact ⟨l, ns, rfl, .inl (.inl (vw.s _ _ h1 rfl)), q _ _ _ (Ext.refl vw) (.int _)⟩
  · cases e
def oAll : List D → Option D
  | [.lst ds] => (boolsOf ds).map fun ns => .bl (ns.all id)
  | _ => none
theorem cs_all (hc : X.calm = true) : CallS X cl (.builtin "all") oAll := by
  refine ⟨_, cr_all hc, fun Hv H xs ds d Q vw r e q => ?_⟩
  unfold oAll at e
  split at e
  · obtain ⟨l, vs, rfl, h1, h2, h3⟩ := one_lst r
    rw [Option.map_eq_some_iff] at e
    obtain ⟨ns, e1, rfl⟩ := e
    have := reps_boolsOf h3 e1
    subst this
    exact ⟨l, ns, rfl, .inl (.inl (vw.s _ _ h1 rfl)), q _ _ _ (Ext.refl vw) (.bl _)⟩
  · cases e
def maxI : List Int → Option Int
  | [] => none
  | x :: xs => some (xs.foldl max x)
def minI : List Int → Option Int
  | [] => none
  | x :: xs => some (xs.foldl min x)
theorem foldl_max (xs : List Int) : ∀ x : Int, (xs.foldl max x ∈ x :: xs) ∧ ∀ y ∈ x :: xs, y ≤ xs.foldl max x := by
  induction xs with
  | nil => intro x; simp
  | cons z xs ih =>
    intro x
    obtain ⟨h1, h2⟩ := ih (max x z)
    rw [List.foldl_cons]
    refine ⟨?_, fun y hy => ?_⟩
    · rcases List.mem_cons.mp h1 with h | h
      · rw [h]
        by_cases hz : x ≤ z
        · rw [Int.max_eq_right hz]; simp
        · rw [Int.max_eq_left (by omega)]; simp
      · simp [h]
    · have hm := h2 (max x z) (by simp)
      rcases List.mem_cons.mp hy with rfl | hy
      · omega
      · rcases List.mem_cons.mp hy with rfl | hy
        · omega
        · exact h2 y (by simp [hy])
theorem foldl_min (xs : List Int) : ∀ x : Int, (xs.foldl min x ∈ x :: xs) ∧ ∀ y ∈ x :: xs, xs.foldl min x ≤ y := by
  induction xs with
  | nil => intro x; simp
  | cons z xs ih =>
    intro x
    obtain ⟨h1, h2⟩ := ih (min x z)
    rw [List.foldl_cons]
    refine ⟨?_, fun y hy => ?_⟩
    · rcases List.mem_cons.mp h1 with h | h
      · rw [h]
        by_cases hz : x ≤ z
        · rw [Int.min_eq_left hz]; simp
        · rw [Int.min_eq_right (by omega)]; simp
      · simp [h]
    · have hm := h2 (min x z) (by simp)
      rcases List.mem_cons.mp hy with rfl | hy
      · omega
      · rcases List.mem_cons.mp hy with rfl | hy
        · omega
        · exact h2 y (by simp [hy])
def oMax : List D → Option D
  | [.lst ds] => (intsOf ds).bind fun ns => (maxI ns).map .int
  | _ => none
def oMin : List D → Option D
  | [.lst ds] => (intsOf ds).bind fun ns => (minI ns).map .int
  | _ => none
theorem cs_max (hc : X.calm = true) : CallS X cl (.builtin "max") oMax := by
  refine ⟨_, cr_max hc, fun Hv H xs ds d Q vw r e q => ?_⟩
  unfold oMax at e
  split at e
  · obtain ⟨l, vs, rfl, h1, h2, h3⟩ := one_lst r
    simp only [Option.bind_eq_some_iff, Option.map_eq_some_iff] at e
    obtain ⟨ns, e1, m, e2, rfl⟩ := e
    have := reps_intsOf h3 e1
    subst this
    cases ns with
    | nil => cases e2
    | cons x ns =>
      cases e2
      obtain ⟨g1, g2⟩ := foldl_max ns x
      refine ⟨l, _, rfl, .inl (.inl (vw.s _ _ h1 rfl)), by simp, fun m hm hle => ?_⟩
      have : m = ns.foldl max x := by
        have := hle _ g1
        have := g2 m hm
        omega
      subst this
      exact q _ _ _ (Ext.refl vw) (.int _)
  · cases e
theorem cs_min (hc : X.calm = true) : CallS X cl (.builtin "min") oMin := by
  refine ⟨_, cr_min hc, fun Hv H xs ds d Q vw r e q => ?_⟩
  unfold oMin at e
  split at e
  · obtain ⟨l, vs, rfl, h1, h2, h3⟩ := one_lst r
    simp only [Option.bind_eq_some_iff, Option.map_eq_some_iff] at e
    obtain ⟨ns, e1, m, e2, rfl⟩ := e
    have := reps_intsOf h3 e1
    subst this
    cases ns with
    | nil => cases e2
    | cons x ns =>
      cases e2
      obtain ⟨g1, g2⟩ := foldl_min ns x
      refine ⟨l, _, rfl, .inl (.inl (vw.s _ _ h1 rfl)), by simp, fun m hm hle => ?_⟩
      have : m = ns.foldl min x := by
        have := hle _ g1
        have := g2 m hm
        omega
      subst this
      exact q _ _ _ (Ext.refl vw) (.int _)
  · cases e
def oTuple : List D → Option D
  | [.lst ds] => some (.tup ds)
  | [.tup ds] => some (.tup ds)
  | _ => none
theorem one_tup {K : PySem.W.Frag} {H : Hp} {xs : List V} {ds : List D} (r : Reps K cl H xs [.tup ds]) : ∃ l vs, xs = [.ref l] ∧ H l = some (.tup vs) ∧ vs.length ≤ sizeLine ∧ Reps K cl H vs ds := by
  cases r with
  | cons r t =>
    cases t
    cases r with
    | tup s z r => exact ⟨_, _, rfl, s, z, r⟩
theorem cs_tuple : CallS X cl (.type "tuple") oTuple := by
  refine ⟨_, call_tuple_of, fun Hv H xs ds d Q vw r e q => ?_⟩
  unfold oTuple at e
  split at e
  · cases e
    obtain ⟨l, vs, rfl, h1, h2, h3⟩ := one_lst r
    exact ⟨l, vs, rfl, .inl ⟨.inl (.inl (vw.s _ _ h1 rfl)), new_tup vw h3 h2 q⟩⟩
  · cases e
    obtain ⟨l, vs, rfl, h1, h2, h3⟩ := one_tup r
    exact ⟨l, vs, rfl, .inr ⟨vw.s.sqU h1, q _ _ _ (Ext.refl vw) (.tup h1 h2 h3)⟩⟩
  · cases e
theorem CallR.or {f : Value} {r r' : List V → Hp → VK → Prop} (h : CallR X f r) (h' : CallR X f r') : CallR X f (fun xs H Q => r xs H Q ∨ r' xs H Q) := fun pins s σ H xs us Q I rv q =>
  q.elim (h pins s σ H xs us Q I rv) (h' pins s σ H xs us Q I rv)
end
end Sm
namespace Sm
open PySem PySem.Spec L2
section
variable {X : Cx} {W : WX} {cl : Glb} {pos p p1 p2 : Pos} {a b c e : Expr} {es : List Expr} {fa fb fc : DE} {g : DA}
def tyN : D → Option String
  | .non => some "NoneType"
  | .bl _ => some "bool"
  | .int _ => some "int"
  | .str _ => some "str"
  | .tup _ => some "tuple"
  | .lst _ => some "list"
  | _ => none
theorem tyN_ok {K : PySem.W.Frag} {Hv H : Hp} {v : V} {d : D} {t : String} (vw : Vw cl Hv H) (r : Rep K cl Hv v d) (h : tyN d = some t) : TyX K H v (.type t) := by
  cases r with
  | non => cases h; exact .base .non
  | bl b => cases h; exact .base (.bl b)
  | int b => cases h; exact .base (.int b)
  | str b => cases h; exact .base (.str b)
  | lst s z r => cases h; exact .base (.lst (vw.s _ _ s rfl))
  | tup s z r =>
    cases h
    exact .base (.tup (vw.s _ _ s rfl))
  | _ => cases h
def kitF (T : String) (d : D) : Option D := (tyN d).bind fun t => (kitB t T).map .bl
theorem se_isiT {T : String} {x : Str} {o : D → Option D} (ho : ∀ d r, o d = some r → kitF T d = some r) (hb : bootBuiltins x = some (.type T)) (ha : SE X W cl a fa) (hm : X.mg "isinstance" = none) (hT : X.mg x = none) (hg : Gl X "isinstance" := by rfl) (hgx : Gl X x := by rfl)
    (hn : x ≠ "__name__" := by decide) (hdb : (x == ("__debug__" : Str)) = false := by decide)
    (he : starEach [a, .Name x p1] X.env = (false, eval a X.env) :: starEach [.Name x p1] X.env := by rfl) (he2 : starEach [.Name x p1] X.env = [(false, eval (.Name x p1) X.env)] := by rfl) (hpl : (backTo pos (starEach [.Name x p1] X.env)).any (·.1) = false := by rfl) :
    SE X W cl (.Call (.Name "isinstance" p) [a, .Name x p1] [] pos) (dUn o fa) := by
  obtain ⟨ta, pa, ha⟩ := ha
  refine ⟨_, pe_callB call_isi hg hm (by decide +kernel) (pa_cons pa (pa_cons (pe_bltn (v := .ty T) hgx hT hb rfl hn hdb) pa_nil he2) he) (by decide) (by decide) he hpl, fun Hv H σ ρ Q vw er pv => ?_⟩
  refine ha Hv H σ ρ _ vw er (bindP pv fun x Hv1 H1 _ e1 pv1 v rv => ?_)
  obtain ⟨d, ed, q⟩ := ofO_ok pv1
  have := ho _ _ ed
  unfold kitF at this
  simp only [Option.bind_eq_some_iff, Option.map_eq_some_iff] at this
  obtain ⟨t, h1, r, h2, rfl⟩ := this
  exact ⟨v, .ty T, .type t, .type T, r, rfl, .ty T, tyN_ok e1.vh rv h1, kit_ty h2, q _ _ (Ext.refl e1.vh) _ (.bl _)⟩
def oIsInt : D → Option D
  | .int _ => some (.bl true) | .bl _ => some (.bl true) | .non => some (.bl false) | .str _ => some (.bl false) | .tup _ => some (.bl false) | .lst _ => some (.bl false) | _ => none
def oIsBool : D → Option D
  | .int _ => some (.bl false) | .bl _ => some (.bl true) | .non => some (.bl false) | .str _ => some (.bl false) | .tup _ => some (.bl false) | .lst _ => some (.bl false) | _ => none
def oIsTup : D → Option D
  | .int _ => some (.bl false) | .bl _ => some (.bl false) | .non => some (.bl false) | .str _ => some (.bl false) | .tup _ => some (.bl true) | .lst _ => some (.bl false) | _ => none
theorem kit_int : ∀ d r, oIsInt d = some r → kitF "int" d = some r := fun d r h => by
  cases d <;> first | cases h | skip
  all_goals (simp only [kitF, tyN, Option.bind_some]; first | rw [show kitB "int" "int" = some true by decide +kernel] | rw [show kitB "bool" "int" = some true by decide +kernel] | rw [show kitB "NoneType" "int" = some false by decide +kernel] | rw [show kitB "str" "int" = some false by decide +kernel] | rw [show kitB "tuple" "int" = some false by decide +kernel] | rw [show kitB "list" "int" = some false by decide +kernel])
  all_goals rfl
theorem kit_bool : ∀ d r, oIsBool d = some r → kitF "bool" d = some r := fun d r h => by
  cases d <;> first | cases h | skip
  all_goals (simp only [kitF, tyN, Option.bind_some]; first | rw [show kitB "int" "bool" = some false by decide +kernel] | rw [show kitB "bool" "bool" = some true by decide +kernel] | rw [show kitB "NoneType" "bool" = some false by decide +kernel] | rw [show kitB "str" "bool" = some false by decide +kernel] | rw [show kitB "tuple" "bool" = some false by decide +kernel] | rw [show kitB "list" "bool" = some false by decide +kernel])
  all_goals rfl
theorem kit_tup : ∀ d r, oIsTup d = some r → kitF "tuple" d = some r := fun d r h => by
  cases d <;> first | cases h | skip
  all_goals (simp only [kitF, tyN, Option.bind_some]; first | rw [show kitB "int" "tuple" = some false by decide +kernel] | rw [show kitB "bool" "tuple" = some false by decide +kernel] | rw [show kitB "NoneType" "tuple" = some false by decide +kernel] | rw [show kitB "str" "tuple" = some false by decide +kernel] | rw [show kitB "tuple" "tuple" = some true by decide +kernel] | rw [show kitB "list" "tuple" = some false by decide +kernel])
  all_goals rfl
end
section
variable {X : Cx} {W : WX} {cl : Glb} {Hv0 H0 Hv Hv1 H : Hp} {own own1 own2 own3 : List Nat} {Dn : Ends} {pos p : Pos} {a b c e tg iter : Expr} {es : List Expr} {fa fb : DE} {g : DA} {st : Stmt} {sts : List Stmt}
def dExt (own : List Nat) (i : Nat) (f : DE) : DS := fun ρ => if lstAt i ρ then (f (mask own ρ)).to ρ fun d => match d with | .lst ds => Sm.putIn i ρ ds | _ => .bad else .bad
theorem ss_ext {i : Nat} {x : Str} {apos npos : Pos} (ha : SE X W cl a fa) (ho : own.contains i = true := by rfl) (hN : X.N[i]? = some x := by rfl) (hv : Vis X.env.scope x := by first | exact Or.inl rfl | exact Or.inr (Or.inl rfl)) (hd : (x == ("__debug__" : Str)) = false := by decide)
    (hcd : (x == ("__classdict__" : Str)) = false := by decide) (hline : (apos.endLine == p.line) = true := by rfl) (hs1 : starEach [a] X.env = [(false, eval a X.env)] := by rfl)
    (hfew : ((backTo p (starEach [a] X.env)).all (fun x => !x.1) && (backToKw p (keywordEach [] X.env)).all (fun x => x.1.isSome) && decide ([a].length + ([] : List Keyword).length + (if ([] : List Keyword).isEmpty then 0 else 1) < 30)) = true := by rfl)
    (hs : swapsWith (.Call (.Attribute (.Name x npos) "extend" apos) [a] [] p) none pos.line X.env = pure false := by rfl) :
    SS X W cl own own (.Expr (.Call (.Attribute (.Name x npos) "extend" apos) [a] [] p) pos) (dExt own i fa) := by
  obtain ⟨ta, pa, ha⟩ := ha
  refine ⟨_, ps_expr (pe_bm PySem.F.plainAttrs_list PySem.F.slot_list_extend PySem.F.type_list_extend mt_extend (pe_var hN hv hd hcd) (pa_cons pa pa_nil hs1) rfl hfew hline hs1 rfl) hs, fun Hv0 H0 ρ σ Hv H Dn sr hl po => ?_⟩
  have hi : i ∈ own := by simpa using ho
  obtain ⟨q, d0, e1, e2, e3, e4, o, e6, eo⟩ := sr.ow i hi
  cases hla : lstAt i ρ with
  | false => simp only [dExt, hla] at po; exact po.elim
  | true => ?_
  obtain ⟨ds, h1⟩ := lstAt_ok hla
  rw [h1] at e1; cases e1
  obtain ⟨vs, rfl, e7, e8⟩ := eo.ofL
  simp only [dExt, hla, if_true] at po
  refine ⟨.ref q, e2, .inl ⟨rfl, vs, .inl (.inl e6)⟩, ?_⟩
  refine ha Hv H σ _ _ sr.ext.vh sr.er (use_mask sr hl po fun d Hv' H' _ e sr' po' v r => ?_)
  cases d with
  | lst zs =>
    cases r with
    | lst s z r =>
      obtain ⟨q', d0', g1, g2, g3, g4, o', g6, go⟩ := sr'.ow i hi
      rw [e2] at g2; cases g2
      rw [h1] at g1; cases g1
      have g1 := h1
      obtain ⟨vs', rfl, g7, g8⟩ := go.ofL
      unfold Sm.putIn at po'
      rw [g1] at po'
      simp only at po'
      split at po'
      · rename_i hz
        have hz : vs'.length + zs.length ≤ sizeLine := by rw [g8.length]; exact hz
        rw [← r.length] at hz
        refine ⟨q, _, vs', _, rfl, rfl, g6, sr'.ext.vh.s _ _ s rfl, hz, ?_⟩
        exact po' σ Hv' _ (sr'.write hi g1 e2 g6 (by rw [List.length_append]; exact hz) (g8.append r)) (Sam.refl _) hl
      · exact po'.elim
  | _ => exact po'.elim
end
end Sm
namespace Sm
open PySem PySem.Spec L2
def SqG (K : PySem.W.Frag) (H : Hp) (b : Bool) (a : Addr) (xs : List V) : Prop := match b with | true => SqL K H a xs | false => SqT K H a xs
def IterG (b : Bool) (h : Heap) (it a : Addr) (i : Nat) : Prop := match b with | true => h.IsListIter it a i | false => h.IsTupleIter it a i
def ContG (b : Bool) (h : Heap) (a : Addr) (items : Array Value) : Prop := match b with | true => h.IsList a items | false => h.IsTuple a items
def iterO (b : Bool) (a : Addr) : Obj := match b with
  | true => { cls := .type "list_iterator", data := .fields #[.ref a, .int 0 0] }
  | false => { cls := .type "tuple_iterator", data := .fields #[.ref a, .int 0 0] }
theorem beginsG (b : Bool) (a : Addr) (items : Array Value) : Begins (.ref a) (iterO b a) fun h => ContG b h a items := by
  cases b with
  | true => exact begins_list a items
  | false => exact begins_tuple a items
theorem drawsG {prog : Program} {w : World} {A : Around} (b : Bool) (hh : A.handled = none) (it a : Addr) (hne : a ≠ it) (items : Array Value) :
    Draws prog w A it [it, a] items.size (fun i v => items[i]? = some v) (fun i h => IterG b h it a i ∧ ContG b h a items) := by
  cases b with
  | true => exact Draws.list hh it a hne items
  | false => exact Draws.tuple hh it a hne items
theorem IterG.new {b : Bool} {h : Heap} {it a : Addr} (e : h.get? it = some (iterO b a)) : IterG b h it a 0 := by
  cases b with
  | true => exact ⟨_, e, rfl, rfl⟩
  | false => exact ⟨_, e, rfl, rfl⟩
theorem IterG.at' {b : Bool} {h h' : Heap} {it a : Addr} {i : Nat} (x : IterG b h it a i) (k : ∀ o, h.get? it = some o → h'.get? it = some o) : IterG b h' it a i := by
  cases b with
  | true => exact Heap.IsListIter.at x k
  | false => exact Heap.IsTupleIter.at x k
theorem IterG.obj {b : Bool} {h : Heap} {it a : Addr} {i : Nat} (x : IterG b h it a i) : ∃ o, h.get? it = some o ∧ ∀ v, o.data ≠ .cell v := by
  cases b with
  | true => obtain ⟨o, e, c, d⟩ := x; exact ⟨o, e, fun v z => by rw [d] at z; cases z⟩
  | false => obtain ⟨o, e, c, d⟩ := x; exact ⟨o, e, fun v z => by rw [d] at z; cases z⟩
section
variable {X : Cx} {pins : List (Addr × Obj)} {σ : St} {H : Hp} {s : Shared}
theorem contG {b : Bool} {a : Addr} {xs : List V} (I : Inv X pins σ H s) (h : SqG X.K H b a xs) : ∃ its : List Value, Vals xs its ∧ ContG b s.heap a its.toArray := by
  cases b with
  | true => obtain ⟨its, r, p, _⟩ := I.list h; exact ⟨its, r, p.isList⟩
  | false => obtain ⟨its, r, p, _⟩ := I.tuple h; exact ⟨its, r, p⟩
theorem sqG_inj {b : Bool} {a : Addr} {xs ys : List V} (I : Inv X pins σ H s) (h : SqG X.K H b a xs) (h' : SqG X.K H b a ys) : xs = ys := by
  cases b with
  | true => exact I.list_inj h h'
  | false => exact I.tuple_inj h h'
theorem contG_lt {b : Bool} {h : Heap} {a : Addr} {its : Array Value} (x : ContG b h a its) : a < h.objs.size := by
  cases b with
  | true => obtain ⟨o, e, _⟩ := x; exact Heap.lt_size e
  | false => obtain ⟨o, e, _⟩ := x; exact Heap.lt_size e
end
theorem enum1_meets {v : Value} {o : Obj} {H0 : Heap → Prop} (B : Begins v o H0) : Meets (Builtin.«enumerate.__new__» ⟨[.type "enumerate", v], []⟩)
    (fun _ R s => H0 s.heap ∧ R (.ok (.ret (.ref (s.heap.push o).objs.size))) { s with heap := (s.heap.push o).push { cls := .type "enumerate", data := .fields #[.none, .bool false, .ref s.heap.objs.size, rawInt 0, .none, .none] } }) := by
  refine Meets.of_wp fun prog w A R s h => ?_
  rcases s with ⟨hp, gn, dr, tk, os⟩
  rcases h with ⟨hb, h⟩
  have hsb := sub_enumerate
  have go : ∀ {A' : Around} {E : Value → Shared → Prop} {Q : Value → Shared → Prop}, Q (.ref hp.objs.size) ⟨hp.push o, gn, dr, tk, os⟩ → wpAny (model prog w) A' (pyIter v) Q E ⟨hp, gn, dr, tk, os⟩ :=
    fun hq => B.iter prog w _ _ ⟨hp, gn, dr, tk, os⟩ _ hb hq
  wp_walk using go
  refine wpAny_stack_any fun stk => ?_
  refine wpAny_pure ?_
  split
  · rename_i cc _ _ _ _ _
    cases (cc == Value.type "enumerate") <;> (wp_walk using go; exact ⟨_, rfl, h⟩)
  · wp_walk using go
    exact ⟨_, rfl, h⟩
theorem call_enum1 {prog : Program} {w : World} {A : Around} {E : Value → Shared → Prop} {s : Shared} {v : Value} {o : Obj} {H0 : Heap → Prop} {Q : Value → Shared → Prop} (B : Begins v o H0) (hb : H0 s.heap)
    (h : ∀ h', IsEnum h' (s.heap.objs.size + 1) s.heap.objs.size 0 .none → h'.get? s.heap.objs.size = some o → (∀ c u, s.heap.get? c = some u → h'.get? c = some u) → Q (.ref (s.heap.objs.size + 1)) { s with heap := h' }) :
    wpAny (model prog w) A (call (.type "enumerate") [v]) Q E s := by
  refine callType_new F.called_enumerate (by decide) (F.typeCall_enumerate_1 _) (F.newCall_enumerate_1 _) (fun ob => F.args_object_init_2 ob _) F.entry_enumerate_new (enum1_meets B) ⟨hb, ?_⟩
  have hz : (s.heap.push o).objs.size = s.heap.objs.size + 1 := Heap.size_push ..
  show _ ∧ _
  rw [hz]
  have he := Heap.get?_push_size (s.heap.push o) (o := { cls := .type "enumerate", data := .fields #[.none, .bool false, .ref s.heap.objs.size, rawInt 0, .none, .none] }) rfl
  rw [hz] at he
  exact ⟨⟨_, he, rfl⟩, h _ he (Heap.get?_push_of_some _ (Heap.get?_push_size _ B.free)) fun c u q => Heap.get?_push_of_some _ (Heap.get?_push_of_some _ q)⟩
def IteG (K : PySem.W.Frag) (b : Bool) (a : Addr) : It :=
  ⟨fun i H => ∃ (xs : List V) (x : V), SqG K H b a xs ∧ xs[i]? = some x, fun i H v H' => ∃ T x, v = .ref T ∧ H T = none ∧ H' = upd H T (.tup [.int (i : Nat), x]) ∧ ∀ xs, SqG K H b a xs → xs[i]? = some x, fun i H => ∃ xs : List V, SqG K H b a xs ∧ xs.length = i⟩
theorem turn_enumG {P : Program} {w : World} {K : PySem.W.Frag} {elts : List Expr} {kk : Nat} {tpos : Pos} (b : Bool) (a e it : Addr) :
    Turn P w K (.Tuple elts kk tpos) (IteG K b a) [e, it] e (fun i h => (∃ old, IsEnum h e it ((i : Nat) : Int) old) ∧ IterG b h it a i ∧ e ≠ it ∧ e ≠ a ∧ a ≠ it) where
  mem := by simp
  obj := fun i h ⟨⟨old, he⟩, hi, _⟩ c hc => by
    rcases List.mem_cons.mp hc with z | hc
    · rw [z]; exact ⟨_, he, fun v q => nomatch q⟩
    · rw [List.mem_singleton.mp hc]; exact hi.obj
  keep := fun i h h' ⟨⟨old, he⟩, hi, ne⟩ k => ⟨⟨old, k e (by simp) _ he⟩, hi.at' fun o q => k it (by simp) o q, ne⟩
  item := by
    intro X hP hw hK hc i pins s σ H E I hf st hg
    subst hP hw hK
    obtain ⟨⟨old, he⟩, hit, n1, n2, n3⟩ := st
    obtain ⟨xs, x, hq, hx⟩ := hg
    obtain ⟨its, rv, ct⟩ := contG I hq
    obtain ⟨u, hu, ru⟩ := rv.get hx
    have hA : X.A.in1.handled = none := I.ok.hd hc
    have Wk := WalksT.enumFrom (A := X.A) 0 (drawsG (prog := X.prog) (w := X.w) (A := X.A.in1) b hA it a n3 its.toArray) e n1 (by simp [n1, n2]) (by simp)
    have hi : i < its.toArray.size := by
      have := (List.getElem?_eq_some_iff.mp hu).1
      simpa using this
    refine Wk.item i s _ E hi ⟨⟨old, by rw [Int.zero_add]; exact he⟩, hit, ct⟩ fun T vals h' tk ⟨t, y, hy, ev⟩ hT0 hT hm hk => ?_
    subst ev
    have hy : y = u := by
      have h1 : its.toArray[i]? = some u := by simpa using hu
      rw [h1] at hy; exact (Option.some.inj hy).symm
    subst hy
    refine ⟨_, rfl, Wk.go elts kk tpos i T { s with heap := h', toks := tk } _ E hm fun h'' st2 hk2 => ?_⟩
    have ap := Wk.apart i T h' hm
    obtain ⟨oT, hoT, hcT, nT, hdT⟩ := hT
    have hT2 : h''.get? T = some oT := hk2 T oT ap hoT
    have new : ObjOk X.prog X.w (upd H T (.tup [.int (i : Nat), x])) h'' T (.tup [.int (i : Nat), x]) :=
      ⟨by show 2 ≤ sizeLine; decide, [.int (0 + (i : Int)) t, y], .cons ⟨t, by rw [Int.zero_add]⟩ (.cons ru .nil), ⟨oT, hT2, hcT, nT, hdT⟩⟩
    have I1 : Inv X pins σ (upd H T (.tup [.int (i : Nat), x])) { s with heap := h'', toks := tk } :=
      I.turnedNew (ch := [e, it]) (fun c ob hb q => hk2 c ob hb (hk c ob hb q)) hf hT0 new
    obtain ⟨⟨old2, he2⟩, hit2, _⟩ := st2
    refine ⟨.ref T, _, I1, rfl, ⟨T, x, rfl, I.hok.fresh hT0, rfl, fun ys hy => by rw [sqG_inj I hy hq]; exact hx⟩, ⟨⟨old2, ?_⟩, hit2, n1, n2, n3⟩, fun c hcm => ?_⟩
    · have : (0 : Int) + ((i + 1 : Nat) : Int) = ((i + 1 : Nat) : Int) := Int.zero_add _
      rw [this] at he2; exact he2
    · have hlt : c < s.heap.objs.size := by
        rcases List.mem_cons.mp hcm with z | z
        · rw [z]; exact Heap.lt_size he
        · rw [List.mem_singleton.mp z]; obtain ⟨o, ho, _⟩ := hit.obj; exact Heap.lt_size ho
      rw [upd_ne (Nat.ne_of_lt (Nat.lt_of_lt_of_le hlt hT0))]
      exact (hf c hcm).1
  done := by
    intro X hP hw hK hc i pins s σ H E I hf st hg
    subst hP hw hK
    obtain ⟨⟨old, he⟩, hit, n1, n2, n3⟩ := st
    obtain ⟨xs, hq, hx⟩ := hg
    obtain ⟨its, rv, ct⟩ := contG I hq
    have hA : X.A.in1.handled = none := I.ok.hd hc
    have Wk := WalksT.enumFrom (A := X.A) 0 (drawsG (prog := X.prog) (w := X.w) (A := X.A.in1) b hA it a n3 its.toArray) e n1 (by simp [n1, n2]) (by simp)
    have hl : its.toArray.size = i := by rw [List.size_toArray, ← rv.length]; exact hx
    refine Wk.done s _ E ?_ fun h' tk hk => ⟨rfl, I.turnedL (ch := [e, it]) (fun c o hb q => hk c o hb q) hf⟩
    rw [hl]
    exact ⟨⟨old, by rw [Int.zero_add]; exact he⟩, hit, ct⟩
  self := fun A i s Q E st h => by
    obtain ⟨⟨_, he⟩, _⟩ := st
    exact wpAny_pyIter_enum he h
def iEnumG (K : PySem.W.Frag) (ta : TA) : TI := fun σ H R => ta σ H fun vs H1 => ∃ b a xs, vs = [.ref a] ∧ SqG K H1 b a xs ∧ R (IteG K b a) H1
theorem pi_enumG {X : Cx} {e : Expr} {ta : TA} {p pos tpos : Pos} {elts : List Expr} {kk : Nat} (hg : Gl X "enumerate") (hm : X.mg "enumerate" = none) (ha : PA X [e] ta) (hs : starEach [e] X.env = [(false, eval e X.env)] := by rfl) :
    PI X (.Tuple elts kk tpos) (.Call (.Name "enumerate" p) [e] [] pos) (iEnumG X.K ta) := by
  constructor
  intro pins s σ H R I h
  refine PyProof.Rows.Call_ (ld_blt I hg hm PyProof.Rows.boot_enumerate (PyProof.Rows.callWith_type1 (thn (ha.run pos pins s σ H _ I h) fun us s1 ⟨vs, H1, I1, r1, b, a, xs, ev, hq, q⟩ => ?_) hs rfl))
  subst ev
  cases r1 with
  | cons r rr =>
    cases rr
    cases r
    obtain ⟨its, rv, ct⟩ := contG I1 hq
    have hlt := contG_lt ct
    refine call_enum1 (beginsG b a its.toArray) ct fun h' he hit hk => wpAny_pyIter_enum he ?_
    have I2 : Inv X pins σ H1 { s1 with heap := h' } := I1.kept (t' := s1.toks) hk
    refine ⟨s1.heap.objs.size + 1, [s1.heap.objs.size + 1, s1.heap.objs.size], _, _, H1, rfl, I2, turn_enumG b a (s1.heap.objs.size + 1) s1.heap.objs.size, ⟨⟨.none, he⟩, IterG.new hit, Nat.succ_ne_self _, Nat.ne_of_gt (Nat.lt_succ_of_lt hlt), Nat.ne_of_lt hlt⟩, fun c hc => ?_, q⟩
    have hle : s1.heap.objs.size ≤ c := by
      rcases List.mem_cons.mp hc with z | z
      · rw [z]; exact Nat.le_succ _
      · rw [List.mem_singleton.mp z]; exact Nat.le_refl _
    exact I1.fpOk hle (I1.hok.fresh hle)
def ItzG (K : PySem.W.Frag) (b1 b2 : Bool) (a c : Addr) : It :=
  ⟨fun i H => ∃ (xs ys : List V) (x y : V), SqG K H b1 a xs ∧ SqG K H b2 c ys ∧ xs[i]? = some x ∧ ys[i]? = some y,
    fun i H v H' => ∃ T x y, v = .ref T ∧ H T = none ∧ H' = upd H T (.tup [x, y]) ∧ (∀ xs, SqG K H b1 a xs → xs[i]? = some x) ∧ ∀ ys, SqG K H b2 c ys → ys[i]? = some y,
    fun i H => ∃ xs ys : List V, SqG K H b1 a xs ∧ SqG K H b2 c ys ∧ min xs.length ys.length = i⟩
theorem turn_zipG {P : Program} {w : World} {K : PySem.W.Frag} {elts : List Expr} {kk : Nat} {tpos : Pos} (b1 b2 : Bool) {a c z TI TO i1 i2 : Addr} (S : ZipSep2 z TI TO i1 i2 [i1, a] [i2, c]) (na : a ≠ i1) (nc : c ≠ i2) :
    Turn P w K (.Tuple elts kk tpos) (ItzG K b1 b2 a c) [z, TI, TO, i1, i2] z (fun i h => IsZip h z TI TO .none ∧ IsTupOf2 h TI (.ref i1) (.ref i2) ∧ (∃ x y, IsTupOf2 h TO x y) ∧ IterG b1 h i1 a i ∧ IterG b2 h i2 c i) where
  mem := by simp
  obj := fun i h ⟨hz, hTI, ⟨x, y, hTO⟩, h1, h2⟩ q hq => by
    simp only [List.mem_cons, List.not_mem_nil, or_false] at hq
    rcases hq with e | e | e | e | e
    · rw [e]; exact ⟨_, hz, fun v q => nomatch q⟩
    · rw [e]; exact ⟨_, hTI, fun v q => nomatch q⟩
    · rw [e]; exact ⟨_, hTO, fun v q => nomatch q⟩
    · rw [e]; exact h1.obj
    · rw [e]; exact h2.obj
  keep := fun i h h' ⟨hz, hTI, ⟨x, y, hTO⟩, h1, h2⟩ k => ⟨k z (by simp) _ hz, k TI (by simp) _ hTI, ⟨x, y, k TO (by simp) _ hTO⟩, h1.at' fun o q => k i1 (by simp) o q, h2.at' fun o q => k i2 (by simp) o q⟩
  item := by
    intro X hP hw hK hc i pins s σ H E I hf st hg
    subst hP hw hK
    obtain ⟨hz, hTI, hTO, h1, h2⟩ := st
    obtain ⟨xs, ys, x, y, hqx, hqy, hx, hy⟩ := hg
    obtain ⟨its, rv, ct⟩ := contG I hqx
    obtain ⟨its2, rv2, ct2⟩ := contG I hqy
    obtain ⟨u, hu, ru⟩ := rv.get hx
    obtain ⟨u2, hu2, ru2⟩ := rv2.get hy
    have hA : X.A.in1.handled = none := I.ok.hd hc
    have Wk := WalksT.zipD2 (prog := X.prog) (w := X.w) (A := X.A) S (drawsG (prog := X.prog) (w := X.w) (A := X.A.in1) b1 hA i1 a na its.toArray) (drawsG b2 hA i2 c nc its2.toArray)
    have g1 : i < its.toArray.size := by simpa using (List.getElem?_eq_some_iff.mp hu).1
    have g2 : i < its2.toArray.size := by simpa using (List.getElem?_eq_some_iff.mp hu2).1
    refine Wk.item i s _ E (by omega) ⟨hz, hTI, hTO, ⟨h1, ct⟩, ⟨h2, ct2⟩⟩ fun T vals h' tk ⟨y1, y2, hy1, hy2, ev⟩ hT0 hT hm hk => ?_
    subst ev
    have e1 : y1 = u := by
      have h1 : its.toArray[i]? = some u := by simpa using hu
      rw [h1] at hy1; exact (Option.some.inj hy1).symm
    have e2 : y2 = u2 := by
      have h1 : its2.toArray[i]? = some u2 := by simpa using hu2
      rw [h1] at hy2; exact (Option.some.inj hy2).symm
    subst e1 e2
    refine ⟨_, rfl, Wk.go elts kk tpos i T { s with heap := h', toks := tk } _ E hm fun h'' st2 hk2 => ?_⟩
    have ap := Wk.apart i T h' hm
    obtain ⟨oT, hoT, hcT, nT, hdT⟩ := hT
    have hT2 : h''.get? T = some oT := hk2 T oT ap hoT
    have new : ObjOk X.prog X.w (upd H T (.tup [x, y])) h'' T (.tup [x, y]) := ⟨by show 2 ≤ sizeLine; decide, [y1, y2], .cons ru (.cons ru2 .nil), ⟨oT, hT2, hcT, nT, hdT⟩⟩
    have sub : ∀ q : Addr, q ∉ [z, TI, TO, i1, i2] → q ∉ [z, TO, i1, i2] := fun q hq hq2 => hq (by simp only [List.mem_cons, List.not_mem_nil, or_false] at hq2 ⊢; rcases hq2 with e | e | e | e <;> simp [e])
    have I1 : Inv X pins σ (upd H T (.tup [x, y])) { s with heap := h'', toks := tk } :=
      I.turnedNew (ch := [z, TI, TO, i1, i2]) (fun q ob hb e => hk2 q ob (sub q hb) (hk q ob (sub q hb) e)) hf hT0 new
    obtain ⟨z2, TI2, TO2, ⟨k1, _⟩, ⟨k2, _⟩⟩ := st2
    refine ⟨.ref T, _, I1, rfl, ⟨T, x, y, rfl, I.hok.fresh hT0, rfl, fun l hl => by rw [sqG_inj I hl hqx]; exact hx, fun l hl => by rw [sqG_inj I hl hqy]; exact hy⟩, ⟨z2, TI2, TO2, k1, k2⟩, fun q hcm => ?_⟩
    have hlt : q < s.heap.objs.size := by
      obtain ⟨x0, y0, hTO⟩ := hTO
      simp only [List.mem_cons, List.not_mem_nil, or_false] at hcm
      rcases hcm with e | e | e | e | e
      · rw [e]; exact Heap.lt_size hz
      · rw [e]; exact Heap.lt_size hTI
      · rw [e]; exact Heap.lt_size hTO
      · rw [e]; obtain ⟨o, ho, _⟩ := h1.obj; exact Heap.lt_size ho
      · rw [e]; obtain ⟨o, ho, _⟩ := h2.obj; exact Heap.lt_size ho
    rw [upd_ne (Nat.ne_of_lt (Nat.lt_of_lt_of_le hlt hT0))]
    exact (hf q hcm).1
  done := by
    intro X hP hw hK hc i pins s σ H E I hf st hg
    subst hP hw hK
    obtain ⟨hz, hTI, hTO, h1, h2⟩ := st
    obtain ⟨xs, ys, hqx, hqy, hend⟩ := hg
    obtain ⟨its, rv, ct⟩ := contG I hqx
    obtain ⟨its2, rv2, ct2⟩ := contG I hqy
    have hA : X.A.in1.handled = none := I.ok.hd hc
    have Wk := WalksT.zipD2 (prog := X.prog) (w := X.w) (A := X.A) S (drawsG (prog := X.prog) (w := X.w) (A := X.A.in1) b1 hA i1 a na its.toArray) (drawsG b2 hA i2 c nc its2.toArray)
    have hl : min its.toArray.size its2.toArray.size = i := by
      rw [List.size_toArray, List.size_toArray, ← rv.length, ← rv2.length]; exact hend
    have sub : ∀ q : Addr, q ∉ [z, TI, TO, i1, i2] → q ∉ [z, TO, i1, i2] := fun q hq hq2 => hq (by simp only [List.mem_cons, List.not_mem_nil, or_false] at hq2 ⊢; rcases hq2 with e | e | e | e <;> simp [e])
    refine Wk.done s _ E ?_ fun h' tk hk => ⟨rfl, I.turnedL (ch := [z, TI, TO, i1, i2]) (fun q o hb e => hk q o (sub q hb) e) hf⟩
    rw [hl]
    exact ⟨hz, hTI, hTO, ⟨h1, ct⟩, ⟨h2, ct2⟩⟩
  self := fun A i s Q E st h => wpAny_pyIter_zip st.1 h
def iZipG (K : PySem.W.Frag) (ta : TA) : TI := fun σ H R => ta σ H fun vs H1 => ∃ b1 b2 a c xs ys, vs = [.ref a, .ref c] ∧ SqG K H1 b1 a xs ∧ SqG K H1 b2 c ys ∧ R (ItzG K b1 b2 a c) H1
theorem pi_zipG {X : Cx} {e e2 : Expr} {ta : TA} {p pos tpos : Pos} {elts : List Expr} {kk : Nat} (hg : Gl X "zip") (hm : X.mg "zip" = none) (ha : PA X [e, e2] ta)
    (hs : starEach [e, e2] X.env = (false, eval e X.env) :: starEach [e2] X.env := by rfl) (hpl : (backTo pos (starEach [e2] X.env)).any (·.1) = false := by rfl) :
    PI X (.Tuple elts kk tpos) (.Call (.Name "zip" p) [e, e2] [] pos) (iZipG X.K ta) := by
  constructor
  intro pins s σ H R I h
  refine PyProof.Rows.Call_ (ld_blt I hg hm PyProof.Rows.boot_zip (PyProof.Rows.callWith_type1 (thn (ha.run pos pins s σ H _ I h) fun us s1 ⟨vs, H1, I1, r1, b1, b2, a, c, xs, ys, ev, hqx, hqy, q⟩ => ?_) hs hpl))
  subst ev
  cases r1 with
  | cons r rr =>
    cases rr with
    | cons r' rr =>
      cases rr; cases r; cases r'
      obtain ⟨its, rv, ct⟩ := contG I1 hqx
      obtain ⟨its2, rv2, ct2⟩ := contG I1 hqy
      have la := contG_lt ct
      have lc := contG_lt ct2
      refine zip_begins2 (beginsG b1 a its.toArray) (beginsG b2 c its2.toArray) ct ct2 fun h' hz hTI hTO h1 h2 hsz hk => wpAny_pyIter_zip hz ?_
      have I2 : Inv X pins σ H1 { s1 with heap := h' } := I1.kept (t' := s1.toks) hk
      have S : ZipSep2 (s1.heap.objs.size + 4) (s1.heap.objs.size + 2) (s1.heap.objs.size + 3) s1.heap.objs.size (s1.heap.objs.size + 1) [s1.heap.objs.size, a] [s1.heap.objs.size + 1, c] :=
        zip_sep2 (fp1 := [a]) (fp2 := [c]) (by simpa using la) (by simpa using lc)
      refine ⟨s1.heap.objs.size + 4, [s1.heap.objs.size + 4, s1.heap.objs.size + 2, s1.heap.objs.size + 3, s1.heap.objs.size, s1.heap.objs.size + 1], _, _, H1, rfl, I2, turn_zipG b1 b2 S (Nat.ne_of_lt la) (Nat.ne_of_lt (Nat.lt_succ_of_lt lc)), ⟨hz, hTI, ⟨_, _, hTO⟩, IterG.new h1, IterG.new h2⟩, fun q hcm => ?_, q⟩
      have hle : s1.heap.objs.size ≤ q := by
        simp only [List.mem_cons, List.not_mem_nil, or_false] at hcm
        rcases hcm with e | e | e | e | e <;> rw [e] <;> first | exact Nat.le_add_right _ _ | exact Nat.le_refl _
      exact I1.fpOk hle (I1.hok.fresh hle)
section
variable {X : Cx} {W : WX} {cl : Glb} {pos p tpos : Pos} {a b c e : Expr} {es elts : List Expr} {fa fb fc : DE} {g : DA} {kk : Nat}
theorem Sam.sqG {K : PySem.W.Frag} {H H' : Hp} {b : Bool} {a : Addr} {xs : List V} (e : Sam H H') (h : SqG K H b a xs) : SqG K H' b a xs := by
  cases b with
  | true => exact e.sqL h
  | false => exact e.sqT h
theorem rep_items {K : PySem.W.Frag} {H : Hp} {v : V} {d : D} {ds : List D} (r : Rep K cl H v d) (h : itemsOf d = some ds) : ∃ b a xs, v = .ref a ∧ SqG K H b a xs ∧ Reps K cl H xs ds ∧ ds.length ≤ sizeLine := by
  cases r with
  | lst s z r => cases h; exact ⟨true, _, _, rfl, .inl (.inl s), r, by rw [← r.length]; exact z⟩
  | tup s z r => cases h; exact ⟨false, _, _, rfl, sqT_of s, r, by rw [← r.length]; exact z⟩
  | scr s z => cases h; exact ⟨true, _, _, rfl, s, reps_ints _, by rw [List.length_map]; exact z⟩
  | _ => cases h
def enumFrom (k : Nat) : List D → List D
  | [] => []
  | d :: ds => .tup [.int (k : Nat), d] :: enumFrom (k + 1) ds
theorem enumFrom_len : ∀ (ds : List D) (k : Nat), (enumFrom k ds).length = ds.length
  | [], _ => rfl
  | _ :: ds, k => by simp only [enumFrom, List.length_cons]; rw [enumFrom_len ds]
theorem enumFrom_get : ∀ (ds : List D) (k i : Nat), (enumFrom k ds)[i]? = (ds[i]?).map fun d => .tup [.int ((k + i : Nat) : Int), d]
  | [], _, _ => by simp [enumFrom]
  | d :: ds, k, 0 => by simp [enumFrom]
  | d :: ds, k, i + 1 => by
    simp only [enumFrom, List.getElem?_cons_succ]
    rw [enumFrom_get ds (k + 1) i, show k + 1 + i = k + (i + 1) by omega]
def enumD : List D → Option (List D)
  | [d] => (itemsOf d).map (enumFrom 0)
  | _ => none
theorem it_enum {K : PySem.W.Frag} {Hv : Hp} {b : Bool} {l : Addr} {xs : List V} {ds : List D} (s : SqG K Hv b l xs) (r : Reps K cl Hv xs ds) : ItOk K cl (IteG K b l) Hv (enumFrom 0 ds) where
  go := fun i Hv' H sm vw h => by
    rw [enumFrom_len] at h
    obtain ⟨v, h1, _⟩ := r.get (i := i) (d := ds[i]) (by simp [h])
    exact ⟨xs, v, vw.s.sqG (sm.sqG s), h1⟩
  stop := fun i Hv' H sm vw h => ⟨xs, vw.s.sqG (sm.sqG s), by rw [enumFrom_len] at h; rw [r.length]; omega⟩
  yld := fun i Hv' H sm vw d h x H' ⟨T, y, e1, e2, e3, e4⟩ => by
    subst e1 e3
    rw [enumFrom_get, Option.map_eq_some_iff] at h
    obtain ⟨d', h1, rfl⟩ := h
    obtain ⟨v, g1, g2⟩ := r.get h1
    have := e4 xs (vw.s.sqG (sm.sqG s))
    rw [g1] at this; cases this
    refine ⟨_, Ext.new vw e2, .tup upd_same (by show 2 ≤ sizeLine; decide) (.cons ?_ (.cons ((g2.mono sm).mono (Ext.new vw e2).vv) .nil))⟩
    rw [Nat.zero_add]
    exact .int _
theorem si_enum (ha : SA X W cl [a] g) (hm : X.mg "enumerate" = none) (hg : Gl X "enumerate" := by rfl) (hs : starEach [a] X.env = [(false, eval a X.env)] := by rfl) : SI X W cl (.Tuple elts kk tpos) (.Call (.Name "enumerate" p) [a] [] pos) (dRng enumD g) := by
  obtain ⟨ta, pa, ha, hl⟩ := ha
  refine ⟨_, pi_enumG hg hm pa hs, fun Hv H σ ρ Q vw er pv => ?_⟩
  refine ha Hv H σ ρ _ vw er (bindP pv fun x Hv1 H1 ex e1 pv1 v rv => ?_)
  obtain ⟨ds, ed, q⟩ := ofO_ok pv1
  unfold enumD at ed
  split at ed
  · rw [Option.map_eq_some_iff] at ed
    obtain ⟨its, h1, rfl⟩ := ed
    cases rv with
    | cons r t =>
      cases t
      obtain ⟨b, l, xs, rfl, s, r2, z⟩ := rep_items r h1
      exact ⟨b, l, xs, rfl, e1.vh.s.sqG s, q Hv1 H1 (Ext.refl e1.vh) (by rw [enumFrom_len]; exact z) _ (it_enum s r2)⟩
  · cases ed
def zipL : List D → List D → List D
  | x :: xs, y :: ys => .tup [x, y] :: zipL xs ys
  | _, _ => []
theorem zipL_len : ∀ xs ys : List D, (zipL xs ys).length = min xs.length ys.length
  | [], _ => by simp [zipL]
  | _ :: _, [] => by simp [zipL]
  | x :: xs, y :: ys => by simp only [zipL, List.length_cons]; rw [zipL_len xs ys]; omega
theorem zipL_get : ∀ (xs ys : List D) (i : Nat) (d : D), (zipL xs ys)[i]? = some d → ∃ x y, xs[i]? = some x ∧ ys[i]? = some y ∧ d = .tup [x, y]
  | [], _, _, _, h => by simp [zipL] at h
  | _ :: _, [], _, _, h => by simp [zipL] at h
  | x :: xs, y :: ys, 0, d, h => by simp [zipL] at h; exact ⟨x, y, rfl, rfl, h.symm⟩
  | x :: xs, y :: ys, i + 1, d, h => by
    simp only [zipL, List.getElem?_cons_succ] at h
    obtain ⟨x', y', h1, h2, h3⟩ := zipL_get xs ys i d h
    exact ⟨x', y', by simpa using h1, by simpa using h2, h3⟩
def zipD : List D → Option (List D)
  | [a, b] => (itemsOf a).bind fun xs => (itemsOf b).map fun ys => zipL xs ys
  | _ => none
theorem it_zip {K : PySem.W.Frag} {Hv : Hp} {b1 b2 : Bool} {l m : Addr} {xs ys : List V} {ds es : List D} (s : SqG K Hv b1 l xs) (s2 : SqG K Hv b2 m ys) (r : Reps K cl Hv xs ds) (r2 : Reps K cl Hv ys es) : ItOk K cl (ItzG K b1 b2 l m) Hv (zipL ds es) where
  go := fun i Hv' H sm vw h => by
    rw [zipL_len] at h
    obtain ⟨v, h1, _⟩ := r.get (i := i) (d := ds[i]'(by omega)) (by simp)
    obtain ⟨v2, h2, _⟩ := r2.get (i := i) (d := es[i]'(by omega)) (by simp)
    exact ⟨xs, ys, v, v2, vw.s.sqG (sm.sqG s), vw.s.sqG (sm.sqG s2), h1, h2⟩
  stop := fun i Hv' H sm vw h => ⟨xs, ys, vw.s.sqG (sm.sqG s), vw.s.sqG (sm.sqG s2), by rw [zipL_len] at h; rw [r.length, r2.length]; omega⟩
  yld := fun i Hv' H sm vw d h x H' ⟨T, y1, y2, e1, e2, e3, e4, e5⟩ => by
    subst e1 e3
    obtain ⟨d1, d2, h1, h2, rfl⟩ := zipL_get _ _ _ _ h
    obtain ⟨v, g1, g2⟩ := r.get h1
    obtain ⟨v', g3, g4⟩ := r2.get h2
    have t1 := e4 xs (vw.s.sqG (sm.sqG s))
    rw [g1] at t1; cases t1
    have t2 := e5 ys (vw.s.sqG (sm.sqG s2))
    rw [g3] at t2; cases t2
    exact ⟨_, Ext.new vw e2, .tup upd_same (by show 2 ≤ sizeLine; decide) (.cons ((g2.mono sm).mono (Ext.new vw e2).vv) (.cons ((g4.mono sm).mono (Ext.new vw e2).vv) .nil))⟩
theorem si_zip (ha : SA X W cl [a, b] g) (hm : X.mg "zip" = none) (hg : Gl X "zip" := by rfl) (hs : starEach [a, b] X.env = (false, eval a X.env) :: starEach [b] X.env := by rfl) (hpl : (backTo pos (starEach [b] X.env)).any (·.1) = false := by rfl) :
    SI X W cl (.Tuple elts kk tpos) (.Call (.Name "zip" p) [a, b] [] pos) (dRng zipD g) := by
  obtain ⟨ta, pa, ha, hl⟩ := ha
  refine ⟨_, pi_zipG hg hm pa hs hpl, fun Hv H σ ρ Q vw er pv => ?_⟩
  refine ha Hv H σ ρ _ vw er (bindP pv fun x Hv1 H1 ex e1 pv1 v rv => ?_)
  obtain ⟨ds, ed, q⟩ := ofO_ok pv1
  unfold zipD at ed
  split at ed
  · simp only [Option.bind_eq_some_iff, Option.map_eq_some_iff] at ed
    obtain ⟨i1, h1, i2, h2, rfl⟩ := ed
    cases rv with
    | cons r t =>
      cases t with
      | cons r' t =>
        cases t
        obtain ⟨b1, l, xs, rfl, s, r2, z⟩ := rep_items r h1
        obtain ⟨b2, m, ys, rfl, s2, r3, z2⟩ := rep_items r' h2
        exact ⟨b1, b2, l, m, xs, ys, rfl, e1.vh.s.sqG s, e1.vh.s.sqG s2, q Hv1 H1 (Ext.refl e1.vh) (by rw [zipL_len]; omega) _ (it_zip s s2 r2 r3)⟩
  · cases ed
end
end Sm
namespace Sm
open PySem PySem.Spec L2
abbrev veB : List Value := [.type "ValueError", .type "Exception", .type "BaseException", .type "object"]
structure XC (K : PySem.W.Frag) (mg : Str → Option Value) (x : Str) (C : Addr) : Prop where
  g : mg x = some (.ref C)
  x : PySem.W.excIn K C veB "ValueError.__new__" = true
  k : PySem.W.keepIn K (.ref C) = true
  b : PySem.W.subIn K (.ref C) (.type "BaseException") = some true
  t : PySem.W.typeIn K (.ref C) = some (.type "type")
section
variable {X : Cx} {W : WX} {cl : Glb} {own own1 : List Nat} {pos p p2 pos' : Pos}
def dRaise (c : Nat) : DS := fun ρ => .err ρ c
theorem ss_raise {c j : Nat} {x m : Str} (gd : Gd X W) (F : XC X.K X.mg x (cl.c c)) (hg : Gl X x := by rfl) (hdb : (x == ("__debug__" : Str)) = false := by decide) :
    SS X W cl own own1 (.Raise (some (.Call (.Name x p) [.Constant (.str m) j p2] [] pos)) none pos') (dRaise c) := by
  refine ⟨_, ps_raise gd.calm gd.tk (pmk_own PySem.F.excBase_ValueError F.x F.g F.k (raises_own F.b F.t) hg hdb), fun Hv0 H0 ρ σ Hv H Dn sr hl po => ?_⟩
  obtain ⟨s1, s2⟩ := sr.freeze (own' := []) (by simp)
  exact po σ _ H s1 s2 hl
end
def dPick (pk : Nat → Int → Int) : List D → R D
  | [.scr0, .int k, .int m] => if 0 ≤ k ∧ 0 < m then .ok (.int (pk k.toNat m)) else .bad
  | [.scr1, .int k, .int m] => if 0 ≤ k ∧ 0 < m then .ok (.int (if 0 ≤ pk k.toNat (-m) ∧ pk k.toNat (-m) < m then pk k.toNat (-m) else 0)) else .bad
  | _ => .bad
end Sm
namespace Sm
open PySem PySem.Spec L2
section
variable {X : Cx} {W : WX} {cl : Glb} {pos p : Pos} {a b c e : Expr} {es : List Expr} {fa fb : DE} {g : DA} {own : List Nat}
end
end Sm
namespace Sm
open PySem PySem.Spec L2
section
variable {X : Cx} {pins : List (Addr × Obj)} {σ : St} {H : Hp} {s : Shared}
theorem excO_ok {P : Program} {w : World} {h : Heap} {a C : Addr} {oe : Obj} {vs : Array Value} (e : h.get? a = some oe) (z : Zc (.ref C) none oe) (d : oe.data = .fields vs) : ObjOk P w H h a (ExcO a C) :=
  ⟨⟨oe, vs, e, z, d⟩, ⟨oe, e⟩, fun _ _ ⟨o, v, q, r⟩ k => ⟨o, v, k o q, r⟩⟩
theorem inv_track {a C : Addr} {oe : Obj} {vs : Array Value} (I : Inv X pins σ H s) (na : H a = none) (he : s.heap.get? a = some oe) (hz : Zc (.ref C) none oe) (hd : oe.data = .fields vs) (n0 : X.s_0.heap.get? a = none) (nL : a ≠ X.env.locals)
    (nP : ∀ p ∈ X.pn ++ pins, p.1 ≠ a) : Inv X pins σ (upd H a (ExcO a C)) s := by
  refine ⟨I.ok, I.os, I.bare, ⟨I.base.keep, I.base.slot, fun b u q n hx => ?_, I.base.there, fun b xs q => ?_, fun b u xs q => ?_, fun b ps q => ?_⟩, I.loc, I.cell, ?_, fun x c q => ?_, fun p hp => ?_, I.hok.laidN (fun _ _ k => k) na (excO_ok he hz hd), I.len⟩
  · have nb : b ≠ a := fun y => by rw [y, n0] at q; cases q
    rw [upd_ne nb]; exact I.base.free b u q n hx
  · have z := I.base.tups b xs q
    rw [upd_ne (ne_of_none z na)]; exact z
  · have z := I.base.frzs b u xs q
    rw [upd_ne (ne_of_none z na)]; exact z
  · obtain ⟨more, z⟩ := I.base.tbls b ps q
    exact ⟨more, by rw [upd_ne (ne_of_none z na)]; exact z⟩
  · rw [upd_ne (Ne.symm nL)]; exact I.free
  · have nc : c ≠ a := fun y => by
      obtain ⟨v, o, d1, d2⟩ := I.cell x c q
      rw [y, he] at d1; cases d1
      rw [hd] at d2; cases d2
    rw [upd_ne nc]; exact I.freeC x c q
  · obtain ⟨g1, g2, g3, g4, g5⟩ := I.pin p hp
    exact ⟨g1, by rw [upd_ne (nP p hp)]; exact g2, g3, g4, g5⟩
abbrev cxS (X : Cx) (a : Addr) (pn : List (Addr × Obj)) : Cx := { X with A := X.A.mark (some (.ref a)), calm := false, pn := pn, xe := fun _ _ => False }
theorem inv_in {a : Addr} (I : Inv X pins σ H s) : Inv (cxS X a (X.pn ++ pins)) [] σ H s := by
  have ok := I.ok
  exact ⟨⟨ok.mod, ok.kind, ok.glob, ok.blt, ok.above, ok.inj, ok.has, ok.cab, fun y => Bool.noConfusion (show false = true from y), ok.frames, ok.stk, ok.exf, ok.bs, ok.bsz, ok.noex, ok.exfs, ok.funs, ok.frf⟩, I.os, I.bare, I.base, I.loc, I.cell, I.free, I.freeC,
    fun p hp => I.pin p (by rw [List.append_nil] at hp; exact hp), I.hok, I.len⟩
theorem inv_back {a : Addr} {q : List (Addr × Obj)} (I : Inv (cxS X a (X.pn ++ pins)) q σ H s) (ok : X.Ok) : Inv X pins σ H s :=
  ⟨ok, I.os, I.bare, I.base, I.loc, I.cell, I.free, I.freeC, fun p hp => I.pin p (List.mem_append_left _ hp), I.hok, I.len⟩
def wX (K : PySem.W.Frag) (c : Value) (i : Nat) (ts : Addr → TS) (Wo : WX) (D : Ends) : WX := fun cls d σ H =>
  ∃ b, PySem.W.exmOne K cls c = some b ∧ (b = true → ∃ C, cls = .ref C ∧ d = none ∧ ∀ a, H a = none →
    ts a { nx := fun σ' H' => D.nx (σ'.set i none) H', rt := D.rt, bk := fun σ' H' => D.bk (σ'.set i none) H', ct := fun σ' H' => D.ct (σ'.set i none) H' } (σ.set i (some (.ref a))) (upd H a (ExcO a C))) ∧ (b = false → Wo cls d σ H)
end
section
variable {X : Cx} {x n : Str} {c : Value} {i : Nat} {body suite : List Stmt} {b₀ : Stmt} {np pos pos' : Pos} {tb : WX → TS} {ts : Addr → TS} {Wo : WX}
theorem ps_try_x (hs : X.stack = X.env :: X.outer) (hf : X.env.frame = some X.env.locals) (hx : X.ex = []) (nd : X.N.Nodup) (hi : X.N[i]? = some n) (hln : X.env.kindOf n = some .local) (hc : Names X x c) (tk : Takes X Wo)
    (hb : ∀ (W : WX) (pn : List (Addr × Obj)) (xe : Value → Shared → Prop), Takes (X.tr pn xe) W → PassesOwn (model X.prog X.w) X.A X.env xe → PSs (X.tr pn xe) body (tb W))
    (hsu : ∀ (a : Addr) (pn : List (Addr × Obj)), PSs (cxS X a pn) (b₀ :: suite) (ts a)) :
    PS X (.Try body [.ExceptHandler (some (.Name x np)) (some n) (b₀ :: suite) pos'] [] [] pos) (fun D σ H => tb (wX X.K c i ts Wo D) D σ H) := by
  refine ⟨fun pins s σ H D I hw => ?_⟩
  have ok := I.ok
  have fr0 : X.A.frames = some (X.env :: X.outer) := by rw [ok.frames, hs]
  have hl0 : Loc X.env.scope n := .inl hln
  refine wpAny_Try_except (wpAny_mono ((hb (wX X.K c i ts Wo D) (X.pn ++ pins) (fun e t1 => wpAny (model X.prog X.w) X.A (noteFrame e X.env) (fun _ t2 => wpAny (model X.prog X.w) X.A (setFlight e none) (fun _ t3 =>
    wpAny (model X.prog X.w) X.A (handleBy e X.env [.ExceptHandler (some (.Name x np)) (some n) (b₀ :: suite) pos']) (SP X pins D) X.xe t3) X.xe t2) X.xe t1) (fun u s' air => ?_) PassesOwn.looking).run [] s σ H D (I.toTry _) hw) (fun f s1 fin => ?_) (fun e s1 z => z))
  · obtain ⟨a, B, sI, pins', σ', H', cls, d, rfl, J', nb, up, sky, na, os, ag, b, hm, yes, no⟩ := air
    have J : Inv X pins σ' H' sI := J'.ofTry ok
    have sky1 : Sky B (X.env :: X.outer) a (Zc cls d) X.env.locals s'.heap := by rw [← hs]; exact sky
    show wpAny (model X.prog X.w) X.A (noteFrame (.ref a) X.env) _ _ _
    refine Sky.land Zc.steady fr0 hf sky1 fun h3 fl up3 => ?_
    have J3 : Inv X pins σ' H' { s' with heap := h3 } := J.landed nb fl.1 (up.trans up3) os ag
    obtain ⟨o3, v3, g3, z3, d3⟩ := fl.there
    have off : a ∉ frs (X.env :: X.outer) := fun hm => by
      obtain ⟨_, o', q', bad⟩ := fl.2.2.1.mem hm
      rw [g3] at q'; cases q'
      exact bad _ d3
    have nL : a ≠ X.env.locals := fun z => off (List.mem_filterMap.mpr ⟨X.env, List.mem_cons_self, by rw [hf, z]⟩)
    have nI : sI.heap.get? a = none := by
      cases q : sI.heap.get? a with
      | none => rfl
      | some o =>
        have := nb a o q (by rw [hs]; exact off)
        rw [fl.2.1] at this; cases this
    have n0 : X.s_0.heap.get? a = none := by
      cases q : X.s_0.heap.get? a with
      | none => rfl
      | some o =>
        obtain ⟨o', q'⟩ := J.base.there a o q (by rw [hx]; simp)
        rw [nI] at q'; cases q'
    have nP : ∀ p ∈ X.pn ++ pins, p.1 ≠ a := fun p hp z => by
      have := (J.pin p hp).1
      rw [z, nI] at this; cases this
    refine wpAny_handleBy_cons (codeAny_handlers_test ?_) (by intro q; cases q)
    have ty : PySem.W.Looks (model X.prog X.w) h3 (typeOf (.ref a)) cls := fun A Q E t k q => wpAny_typeOf_ref (k _ _ g3) (by rw [z3.1]; exact q)
    have mt := PySem.W.exm_one (M := model X.prog X.w) J3.kIn ty hm
    have S3 := inv_in (a := a) J3
    have test : ∀ {Q : Value → Shared → Prop} {E : Value → Shared → Prop}, Q c { s' with heap := h3 } → wpAny (model X.prog X.w) (X.A.mark (some (.ref a))) (eval (.Name x np) X.env) Q E { s' with heap := h3 } := fun {Q E} q => by
      obtain ⟨hg, hdb, h1 | ⟨h1, h2, h4⟩⟩ := hc
      · exact ld_glob (X := cxS X a (X.pn ++ pins)) S3 hg h1 q hdb
      · exact ld_blt (X := cxS X a (X.pn ++ pins)) S3 hg h1 h2 q h4 hdb
    refine test (mt.here ?_)
    cases b with
    | true =>
      obtain ⟨C, rfl, rfl, go⟩ := yes rfl
      refine codeAny_handlers_suite_as (HandSPX.lands_againZ fl fun h4 fl4 up4 => ?_)
      have J4 : Inv X pins σ' H' { s' with heap := h4 } := J.landed nb fl4.1 ((up.trans up3).trans up4) os ag
      obtain ⟨o4, v4, g4, z4, d4⟩ := fl4.there
      have S4 := inv_in (a := a) (inv_track J4 na g4 z4 d4 n0 nL nP)
      refine store_ok (X := cxS X a (X.pn ++ pins)) (v := .ref a) S4 nd hi hl0 rfl (fun s5 S5 => ?_) (.inr hln)
      refine wpAny_mono ((hsu a (X.pn ++ pins)).run [] s5 _ _ _ S5 (go a na)) (fun f s6 fin => ?_) (fun _ _ z => False.elim z)
      have away : ∀ {σ6 : St} {H6 : Hp} {Q : Shared → Prop}, Inv (cxS X a (X.pn ++ pins)) [] σ6 H6 s6 → (∀ s7, Inv X pins (σ6.set i none) H6 s7 → Q s7) →
          wpAny (model X.prog X.w) X.A (do bindName X.env n .none; unbindBehindTheSuite X.env n pos') (fun _ s7 => Q s7) X.xe s6 := fun {σ6 H6 Q} S6 k => gone_ok (inv_back S6 ok) nd hi hln k
      cases f with
      | next => obtain ⟨σ6, H6, S6, q6⟩ := fin; exact away S6 fun s7 J7 => ⟨_, _, J7, q6⟩
      | brk => obtain ⟨σ6, H6, S6, q6⟩ := fin; exact away S6 fun s7 J7 => ⟨_, _, J7, q6⟩
      | cont => obtain ⟨σ6, H6, S6, q6⟩ := fin; exact away S6 fun s7 J7 => ⟨_, _, J7, q6⟩
      | ret u => obtain ⟨v6, σ6, H6, S6, r6, q6⟩ := fin; exact away S6 fun s7 J7 => ⟨_, _, _, J7, r6, q6⟩
    | false =>
      show wpAny _ X.A (handleBy (.ref a) X.env []) _ _ _
      refine wpAny_handleBy_nil ?_
      obtain ⟨_, _, _, oe, vs, T, oT, ts', q1, q2, q3, q4, _⟩ := id fl
      unfold PySem.passOn
      refine wpAny_bind (wpAny_field q1 q3 q4 ?_)
      rw [if_neg (show ¬ ((Value.ref T == Value.none) = true) by simp)]
      have off2 : wpAny (model X.prog X.w) X.A (setFlight (.ref a) X.env.frame) (fun _ s4 => wpAny (model X.prog X.w) X.A (throw (.ref a) : Sem Flow) (SP X pins D) X.xe s4) X.xe { s' with heap := h3 } := by
        rw [hf]
        exact HandSPX.setFlight_upZ fl fun h4 hh up4 => wpAny_throw (tk _ _ ⟨a, B, sI, pins, σ', H', cls, d, rfl, J, nb, (up.trans up3).trans up4, .inr (.inr (by rw [hs]; exact hh)), na, os, ag, no rfl⟩)
      first
        | exact wpAny_bind (wpAny_pure (wpAny_bind off2))
        | exact wpAny_bind off2
  · cases f with
    | next => obtain ⟨σ', H', J', q⟩ := fin; exact wpAny_execs_nil ⟨σ', H', J'.ofTry ok, q⟩
    | brk => obtain ⟨σ', H', J', q⟩ := fin; exact ⟨σ', H', J'.ofTry ok, q⟩
    | cont => obtain ⟨σ', H', J', q⟩ := fin; exact ⟨σ', H', J'.ofTry ok, q⟩
    | ret u => obtain ⟨v, σ', H', J', r, q⟩ := fin; exact ⟨v, σ', H', J'.ofTry ok, r, q⟩
end
end Sm
namespace Sm
open PySem PySem.Spec L2
section
variable {X : Cx} {W : WX} {cl : Glb} {pos p apos cpos : Pos} {a b c e o : Expr} {es : List Expr} {fa fb : DE} {g : DA} {own : List Nat}
theorem toPys_get : ∀ (ds : List D) (i : Nat), (toPys ds)[i]? = (ds[i]?).map toPy
  | [], i => by simp [toPys]
  | d :: ds, 0 => by simp [toPys]
  | d :: ds, i + 1 => by simpa [toPys] using toPys_get ds i
theorem toPys_count (k : D) : ∀ ds : List D, ((toPys ds).countP fun z => PyData.eqv z (toPy k)) = ds.countP fun z => deq z k
  | [] => by simp [toPys]
  | d :: ds => by simp only [toPys, List.countP_cons]; rw [deq_py, toPys_count k ds]
def rCntD (K : PySem.W.Frag) : V → List V → Hp → VK → Prop := fun x xs H Q => ∃ (a : Addr) (y : V) (d : PyData) (ds : List PyData), x = V.ref a ∧ xs = [y] ∧ Dp K H (V.ref a) (.list ds) ∧ Dp K H y d ∧
  SeqAt.shaped (.list ds) = true ∧ SeqAt.shaped d = true ∧ Q (.int (ds.countP fun z => PyData.eqv z d : Nat)) H
theorem mt_cntD (hu : X.A.units + 65 < cLine) : MtR X "list.count" (rCntD X.K) := by
  intro pins s σ H x xs v us Q I rx rxs h
  obtain ⟨a, y, d, ds, rfl, rfl, hl, hy, sl, sd, q⟩ := h
  cases rx
  cases rxs with
  | cons ry rt =>
    rename_i uy ut
    cases rt
    obtain ⟨bs, rb⟩ := Dp.reads I d y uy hy ry
    have lay : PyData.canLayAll0 ds = true := SeqAt.canLay_of_shaped sl
    have room : X.A.units + 1 + min (PyData.depthAll ds) d.depth < cLine := PyProof.Rows.room_in_shaped sd hu
    cases hl with
    | lst hs ha =>
      obtain ⟨its, rv, ⟨⟨cls, dd, data, sls⟩, n, ho, hc, hdn, hdt⟩, hlen⟩ := I.list hs
      simp only at hc hdt
      subst hc hdt
      obtain ⟨as, all⟩ := Dp.readsAll I ds _ its ha rv
      have same : its.map (SeqAt.readOf s.heap) = ds := SeqAt.readsAll_map ds its as lay all
      refine call_meets PySem.F.slot_list_count ⟨_, ho, rfl⟩ PySem.F.entry_list_count (PySem.F.args_list_count_2 _ _)
        (SeqAt.list_countAt a its.toArray n dd sls uy (fun u => PyData.eqv (SeqAt.readOf s.heap u) d)) ⟨ho, SeqAt.items_eqAt (vs := its.toArray) (show ReadsAll s.heap its.toArray.toList ds as from all) rb lay (SeqAt.canLay_of_shaped sd) room, ?_⟩
      have cnt : its.toArray.toList.countP (fun u => PyData.eqv (SeqAt.readOf s.heap u) d) = ds.countP fun z => PyData.eqv z d := by
        rw [← same, List.countP_map]; rfl
      rw [cnt]
      exact ⟨.int (ds.countP fun z => PyData.eqv z d : Nat), H, I.tok _, ⟨_, rfl⟩, q⟩
def dMeth (o : List D → D → Option D) (f g : DE) : DE := fun ρ => (f ρ).bind fun a => match a with | .lst ds => (g ρ).bind fun b => ofO (o ds b) | _ => .bad
def oCount (ds : List D) (b : D) : Option D := if pln 64 b && pln 64 (.lst ds) then some (.int (ds.countP fun z => deq z b : Nat)) else none
def oIndex (ds : List D) (b : D) : Option D := if pln 64 b && pln 64 (.lst ds) then (ds.findIdx? fun z => deq z b).map fun j => .int (j : Nat) else none
theorem meth_run {K : PySem.W.Frag} {om : List D → D → Option D} {r : V → List V → Hp → VK → Prop} {ta tb : TE} (hK : K = X.K) (ha : RunE X W cl fa ta) (hb : RunE X W cl fb tb)
    (hr : ∀ (Hv H : Hp) (l : Addr) (vs : List V) (ds : List D) (u : V) (b d : D) (Q : VK), Vw cl Hv H → Hv l = some (.lst vs) → Rep X.K cl Hv (.ref l) (.lst ds) → Rep X.K cl Hv u b → om ds b = some d → (∀ v, Rep X.K cl Hv v d → Q v H) → r (.ref l) [u] H Q) : RunE X W cl (dMeth om fa fb) (tBM K "list" r ta (tCons tb tNil)) := by
  subst hK
  intro Hv H σ ρ Q vw er pv
  refine ha Hv H σ ρ _ vw er (bindP pv fun x Hv1 H1 _ e1 pv1 v rv => ?_)
  cases x with
  | lst ds =>
    cases rv with
    | lst s z r =>
      refine ⟨.inl ⟨rfl, _, .inl (.inl (e1.vh.s _ _ s rfl))⟩, ?_⟩
      refine hb Hv1 H1 σ ρ _ e1.vh (er.mono e1.vv) (bindP pv1 fun y Hv2 H2 _ e2 pv2 u ru => ?_)
      obtain ⟨d, ed, q⟩ := ofO_ok pv2
      exact hr Hv2 H2 _ _ ds u y d Q e2.vh (e2.vv _ _ s rfl) (.lst (e2.vv _ _ s rfl) z (r.mono e2.vv)) ru ed fun v' r' => q _ _ (Ext.refl e2.vh) v' r'
  | _ => exact pv1.elim
theorem se_count (hu : X.A.units + 65 < cLine) (ha : SE X W cl o fa) (hb : SE X W cl e fb) (hbase : attributeBase o "count" X.env (eval o X.env) = eval o X.env := by rfl)
    (hfew : ((backTo cpos (starEach [e] X.env)).all (fun x => !x.1) && (backToKw cpos (keywordEach [] X.env)).all (fun x => x.1.isSome) && decide ([e].length + ([] : List Keyword).length + (if ([] : List Keyword).isEmpty then 0 else 1) < 30)) = true := by rfl)
    (hline : (apos.endLine == cpos.line) = true := by rfl) (hs : starEach [e] X.env = [(false, eval e X.env)] := by rfl) : SE X W cl (.Call (.Attribute o "count" apos) [e] [] cpos) (dMeth oCount fa fb) := by
  obtain ⟨ta, pa, ha⟩ := ha
  obtain ⟨tb, pb, hb⟩ := hb
  refine ⟨_, pe_bm PySem.F.plainAttrs_list PySem.F.slot_list_count PySem.F.type_list_count (mt_cntD hu) pa (pa_cons pb pa_nil hs) hbase hfew hline hs rfl, meth_run rfl ha hb fun Hv H l vs ds u b d Q vw hl rl ru ed q => ?_⟩
  unfold oCount at ed
  split at ed
  · rename_i hp
    cases ed
    simp only [Bool.and_eq_true] at hp
    have d2 := (rl.mono vw.s).dp hp.2
    rw [toPy] at d2
    have sh := pln_shaped hp.2
    rw [toPy] at sh
    refine ⟨_, _, _, _, rfl, rfl, d2, (ru.mono vw.s).dp hp.1, sh, pln_shaped hp.1, ?_⟩
    rw [toPys_count]
    exact q _ (.int _)
  · cases ed
theorem se_index (hu : X.A.units + 65 < cLine) (ha : SE X W cl o fa) (hb : SE X W cl e fb) (hbase : attributeBase o "index" X.env (eval o X.env) = eval o X.env := by rfl)
    (hfew : ((backTo cpos (starEach [e] X.env)).all (fun x => !x.1) && (backToKw cpos (keywordEach [] X.env)).all (fun x => x.1.isSome) && decide ([e].length + ([] : List Keyword).length + (if ([] : List Keyword).isEmpty then 0 else 1) < 30)) = true := by rfl)
    (hline : (apos.endLine == cpos.line) = true := by rfl) (hs : starEach [e] X.env = [(false, eval e X.env)] := by rfl) : SE X W cl (.Call (.Attribute o "index" apos) [e] [] cpos) (dMeth oIndex fa fb) := by
  obtain ⟨ta, pa, ha⟩ := ha
  obtain ⟨tb, pb, hb⟩ := hb
  refine ⟨_, pe_bm PySem.F.plainAttrs_list PySem.F.slot_list_index PySem.F.type_list_index (mt_indexD hu) pa (pa_cons pb pa_nil hs) hbase hfew hline hs rfl, meth_run rfl ha hb fun Hv H l vs ds u b d Q vw hl rl ru ed q => ?_⟩
  unfold oIndex at ed
  split at ed
  · rename_i hp
    simp only [Bool.and_eq_true] at hp
    rw [Option.map_eq_some_iff] at ed
    obtain ⟨j, hj, rfl⟩ := ed
    rw [List.findIdx?_eq_some_iff_getElem] at hj
    obtain ⟨h1, h2, h3⟩ := hj
    have d2 := (rl.mono vw.s).dp hp.2
    rw [toPy] at d2
    have sh := pln_shaped hp.2
    rw [toPy] at sh
    refine ⟨_, _, _, _, j, toPy ds[j], rfl, rfl, d2, (ru.mono vw.s).dp hp.1, sh, pln_shaped hp.1, ?_, ?_, fun m z hm hz => ?_, q _ (.int _)⟩
    · rw [toPys_get, List.getElem?_eq_getElem h1]; rfl
    · rw [deq_py]; exact h2
    · rw [toPys_get, List.getElem?_eq_getElem (show m < ds.length by omega)] at hz
      cases hz
      rw [deq_py]
      simpa using h3 m hm
  · cases ed
end
end Sm
namespace Sm
open PySem PySem.Spec L2
theorem u65 {k : Nat} {A : Around} (r : Room k A) : A.units + 65 < cLine := by have := r.un; omega
structure XT (K : PySem.W.Frag) (c : Nat → Addr) (codes : List Nat) : Prop where
  ex : ∀ k ∈ codes, ExcC K (c k)
section
variable {X : Cx} {W : WX} {cl : Glb} {pos p p1 apos cpos : Pos} {a b c e o : Expr} {es : List Expr} {fa fb : DE} {g : DA} {own own1 : List Nat}
def rIsX (K : PySem.W.Frag) : List V → Hp → VK → Prop := fun xs H Q => ∃ (a C : Addr) (c : V) (cv : Value) (b : Bool), xs = [.ref a, c] ∧ H a = some (ExcO a C) ∧ ExcC K C ∧ (∀ u, RelV c u → u = cv) ∧ PySem.W.kitOne K (.ref C) cv = some b ∧ Q (.bl b) H
theorem call_isX : CallR X (.builtin "isinstance") (rIsX X.K) := by
  intro pins s σ H xs us Q I r h
  obtain ⟨a, C, c, cv, b, rfl, hH, ec, hcv, e, q⟩ := h
  cases r with
  | cons rx rr =>
    cases rr with
    | cons rt rr =>
      cases rr
      cases rx
      have := hcv _ rt
      subst this
      obtain ⟨⟨oe, vs, g1, g2, g3⟩, _⟩ := I.hok a _ hH
      have J : PySem.W.InstAt s.heap a oe C none := by
        obtain ⟨oc, od, oda, osl⟩ := oe
        obtain ⟨h1, h2⟩ := g2
        dsimp only at h1 h2 g3
        subst h1 h2 g3
        exact ⟨g1, rfl, rfl, trivial⟩
      exact PySem.W.kia_one (PySem.W.handS_kitx_exc ec.hg ec.hk ec.hs ec.hd ec.ha ec.hn ec.ht ec.hm) I.kIn J e (fun z => nomatch z) fun tk => ⟨.bl b, H, I.kept (t' := tk) fun _ _ z => z, rfl, q⟩
def oIsX (codes : List Nat) (t : Nat → Bool) : D → Option D
  | .exc c => if codes.contains c then some (.bl (t c)) else none
  | _ => none
theorem isX_run {codes : List Nat} {t : Nat → Bool} {u : V} {cv : Value} {ta : TE} {tc : TE} (T : XT X.K cl.c codes) (ht : ∀ k ∈ codes, PySem.W.kitOne X.K (.ref (cl.c k)) cv = some (t k)) (hcv : ∀ w, RelV u w → w = cv) (htc : tc = tC u)
    (ha : RunE X W cl fa ta) : RunE X W cl (dUn (oIsX codes t) fa) (tCB (rIsX X.K) (tCons ta (tCons tc tNil))) := by
  subst htc
  intro Hv H σ ρ Q vw er pv
  refine ha Hv H σ ρ _ vw er (bindP pv fun x Hv1 H1 _ e1 pv1 v rv => ?_)
  obtain ⟨d, ed, q⟩ := ofO_ok pv1
  cases x with
  | exc k =>
    simp only [oIsX] at ed
    split at ed
    · rename_i hk
      cases ed
      have hk : k ∈ codes := by simpa using hk
      cases rv with
      | exc h => exact ⟨_, _, u, cv, _, rfl, e1.vh.s _ _ h rfl, T.ex k hk, hcv, ht k hk, q _ _ (Ext.refl e1.vh) _ (.bl _)⟩
    · cases ed
  | _ => cases ed
theorem se_isiC {codes : List Nat} {t : Nat → Bool} {x : Str} {C : Addr} (T : XT X.K cl.c codes) (ht : ∀ k ∈ codes, PySem.W.kitOne X.K (.ref (cl.c k)) (.ref C) = some (t k)) (hC : X.mg x = some (.ref C)) (ha : SE X W cl a fa) (hm : X.mg "isinstance" = none) (hg : Gl X "isinstance" := by rfl) (hgx : Gl X x := by rfl)
    (hdb : (x == ("__debug__" : Str)) = false := by decide)
    (he : starEach [a, .Name x p1] X.env = (false, eval a X.env) :: starEach [.Name x p1] X.env := by rfl) (he2 : starEach [.Name x p1] X.env = [(false, eval (.Name x p1) X.env)] := by rfl) (hpl : (backTo pos (starEach [.Name x p1] X.env)).any (·.1) = false := by rfl) :
    SE X W cl (.Call (.Name "isinstance" p) [a, .Name x p1] [] pos) (dUn (oIsX codes t) fa) := by
  obtain ⟨ta, pa, ha⟩ := ha
  exact ⟨_, pe_callB call_isX hg hm (by decide +kernel) (pa_cons pa (pa_cons (pe_glob (v := .ref C) hgx hC rfl hdb) pa_nil he2) he) (by decide) (by decide) he hpl, isX_run (u := .ref C) T ht (fun w h => h) rfl ha⟩
theorem se_isiB {codes : List Nat} {t : Nat → Bool} {x : Str} {S : String} (T : XT X.K cl.c codes) (ht : ∀ k ∈ codes, PySem.W.kitOne X.K (.ref (cl.c k)) (.type S) = some (t k)) (hb : bootBuiltins x = some (.type S)) (ha : SE X W cl a fa) (hm : X.mg "isinstance" = none) (hT : X.mg x = none) (hg : Gl X "isinstance" := by rfl) (hgx : Gl X x := by rfl)
    (hn : x ≠ "__name__" := by decide) (hdb : (x == ("__debug__" : Str)) = false := by decide)
    (he : starEach [a, .Name x p1] X.env = (false, eval a X.env) :: starEach [.Name x p1] X.env := by rfl) (he2 : starEach [.Name x p1] X.env = [(false, eval (.Name x p1) X.env)] := by rfl) (hpl : (backTo pos (starEach [.Name x p1] X.env)).any (·.1) = false := by rfl) :
    SE X W cl (.Call (.Name "isinstance" p) [a, .Name x p1] [] pos) (dUn (oIsX codes t) fa) := by
  obtain ⟨ta, pa, ha⟩ := ha
  exact ⟨_, pe_callB call_isX hg hm (by decide +kernel) (pa_cons pa (pa_cons (pe_bltn (v := .ty S) hgx hT hb rfl hn hdb) pa_nil he2) he) (by decide) (by decide) he hpl, isX_run (u := .ty S) T ht (fun w h => h) rfl ha⟩
def tS (K : PySem.W.Frag) (N : List Str) (W : WX) (cl : Glb) (own own' : List Nat) (f : DS) : TS := fun Dn σ H => ∃ Hv0 H0 ρ Hv, SR K cl Hv0 H0 own ρ σ Hv H ∧ σ.length = N.length ∧
  (match f ρ with
  | .nx ρ' => ∀ σ' Hv' H', SR K cl Hv0 H0 own' ρ' σ' Hv' H' → Sam Hv Hv' → σ'.length = N.length → Dn.nx σ' H'
  | .ret d => ∀ v Hv' H', Ext cl Hv0 H0 Hv' H' → Rep K cl Hv' v d → Dn.rt v H'
  | .err ρ' c => ∀ σ' Hv' H', SR K cl Hv0 H0 [] ρ' σ' Hv' H' → Sam Hv Hv' → σ'.length = N.length → W (.ref (cl.c c)) none σ' H'
  | .bad => False)
theorem SSs.pss {sts : List Stmt} {f : DS} (h : SSs X W cl own own1 sts f) : PSs X sts (tS X.K X.N W cl own own1 f) := by
  obtain ⟨t, pt, hr⟩ := h
  refine ⟨fun pins s σ H D I ⟨Hv0, H0, ρ, Hv, sr, hl, po⟩ => pt.run pins s σ H D I (hr Hv0 H0 ρ σ Hv H D sr hl ?_)⟩
  cases q : f ρ with
  | nx ρ' => rw [q] at po; exact po
  | ret d => rw [q] at po; exact po
  | err ρ' c => rw [q] at po; exact po
  | bad => rw [q] at po; exact po
theorem SR.setNone {K : PySem.W.Frag} {Hv0 H0 Hv H : Hp} {ρ : Env} {σ : St} {i : Nat} (s : SR K cl Hv0 H0 [] ρ σ Hv H) : SR K cl Hv0 H0 [] (ρ.set i none) (σ.set i none) Hv H where
  ext := s.ext
  len := by rw [List.length_set, List.length_set]; exact s.len
  sh := fun j d h1 h2 => by
    by_cases hj : j = i
    · subst hj
      by_cases hi : j < ρ.length
      · rw [List.getElem?_set_self hi] at h2; cases h2
      · rw [List.getElem?_eq_none (by rw [List.length_set]; omega)] at h2; cases h2
    · rw [List.getElem?_set_ne (Ne.symm hj)] at h2 ⊢
      exact s.sh j d h1 h2
  ow := fun j hj => absurd hj (by simp)
  ap := fun j k p hj => absurd hj (by simp)
def dTryK (codes : List Nat) (k j : Nat) (f : DS) : DS := fun ρ => match f ρ with
  | .err ρ' c => if codes.contains c then .nx ((ρ'.set k (some (.exc c))).set j none) else .bad
  | r => r
theorem ss_tryK {body : List Stmt} {f : DS} {codes : List Nat} {k j : Nat} {x n y : Str} {CS : Addr} {np pos pos' p2 p3 pos2 : Pos} (gd : Gd X W) (hs : X.stack = X.env :: X.outer) (hf : X.env.frame = some X.env.locals) (hx : X.ex = []) (hm : X.mg x = some (.ref CS))
    (hsub : ∀ c ∈ codes, PySem.W.exmOne X.K (.ref (cl.c c)) (.ref CS) = some true)
    (hb : ∀ (W' : WX) (pn : List (Addr × Obj)) (xe : Value → Shared → Prop), Gd (X.tr pn xe) W' → SSs (X.tr pn xe) W' cl own own1 body f)
    (hj : X.N[j]? = some n := by rfl) (hk : X.N[k]? = some y := by rfl) (hkj : k ≠ j := by decide) (hln : X.env.kindOf n = some .local := by rfl) (hly : X.env.scope.names.lookup y = some .local := by rfl) (hg : Gl X x := by rfl) (hdb : (x == ("__debug__" : Str)) = false := by decide)
    (hd : (n == ("__debug__" : Str)) = false := by decide) (hcd : (n == ("__classdict__" : Str)) = false := by decide)
    (hsw : ∀ (a : Addr) (pn : List (Addr × Obj)), swapsWith (.Name n p3) (some (.Name y p2)) pos2.line (cxS X a pn).env = pure false := by intro _ _; rfl) :
    SS X W cl own [] (.Try body [.ExceptHandler (some (.Name x np)) (some n) [.Assign [.Name y p2] (.Name n p3) pos2] pos'] [] [] pos) (dTryK codes k j f) := by
  refine ⟨_, ps_try_x (i := j) (ts := fun a => _) (tb := fun W' => tS X.K X.N W' cl own own1 f) hs hf hx gd.nd hj hln ⟨hg, hdb, .inl hm⟩ gd.tk (fun W' pn xe tk po => (hb W' pn xe ⟨gd.calm, gd.nd, tk, po⟩).pss)
    (fun a pn => pss_one (ps_set (X := cxS X a pn) (i := k) gd.nd hk (Or.inl hly) (pe_var (i := j) hj (Or.inl hln) hd hcd) (hsw a pn) (.inr hly))), fun Hv0 H0 ρ σ Hv H Dn sr hl po => ?_⟩
  refine ⟨Hv0, H0, ρ, Hv, sr, hl, ?_⟩
  unfold dTryK at po
  cases q : f ρ with
  | nx ρ' =>
    rw [q] at po
    intro σ' Hv' H' s1 sm l1
    obtain ⟨s2, sm2⟩ := s1.freeze (own' := []) (by simp)
    exact po σ' _ H' s2 (sm.trans sm2) l1
  | ret d => rw [q] at po; exact po
  | bad => rw [q] at po; exact po.elim
  | err ρ' c =>
    rw [q] at po
    simp only at po
    split at po
    · rename_i hc
      intro σ' Hv' H' s1 sm1 l1
      refine ⟨true, hsub c (by simpa using hc), fun _ => ⟨_, rfl, rfl, fun a na => ?_⟩, fun z => nomatch z⟩
      have jl := ilt hj l1
      have ex := Ext.new (o := ExcO a (cl.c c)) s1.ext.vh na
      have s2 := s1.step ex
      refine ⟨.ref a, List.getElem?_set_self jl, ?_⟩
      have s3 := s2.set (own' := []) (i := k) (v := .ref a) (d := .exc c) (by simp) (.exc upd_same) (by simp)
      have s4 := s3.setNone (i := j)
      have e1 : (((σ'.set j (some (V.ref a))).set k (some (V.ref a))).set j none) = (σ'.set k (some (V.ref a))).set j none := by
        rw [List.set_comm _ _ hkj.symm, List.set_set]
      show Dn.nx (((σ'.set j (some (V.ref a))).set k (some (V.ref a))).set j none) _
      rw [e1]
      exact po _ _ _ s4 (sm1.trans ex.vv) (by rw [List.length_set, List.length_set]; exact l1)
    · exact po.elim
end
end Sm
namespace Sm
open PySem PySem.Spec L2
section
variable {α : Type} (le : α → α → Bool)
end
section
variable {prog : Program} {w : World} {A : Around} {s : Shared} {h : Heap}
open PySem.W PyProof.Rows
section
variable {E : Value → Shared → Prop} {β : Type} {vs : List Value} {bs : List β} {enc : β → PyData} {R : Value → β → Prop}
end
end
section
variable {X : Cx} {W : WX} {cl : Glb}
open PySem.W PyProof.Rows
theorem CallS.or {f : Value} {o o' : List D → Option D} (h : CallS X cl f o) (h' : CallS X cl f o') : CallS X cl f (fun ds => match o ds with | some d => some d | none => o' ds) := by
  obtain ⟨r, hr, hs⟩ := h
  obtain ⟨r', hr', hs'⟩ := h'
  refine ⟨_, CallR.or hr hr', fun Hv H xs ds d Q vw rr e q => ?_⟩
  simp only at e
  cases ho : o ds with
  | some d' =>
    rw [ho] at e
    cases e
    exact .inl (hs Hv H xs ds _ Q vw rr ho q)
  | none =>
    rw [ho] at e
    exact .inr (hs' Hv H xs ds d Q vw rr e q)
end
end Sm
namespace Sm
open PySem PySem.Spec L2
section
variable {X : Cx} {W : WX} {cl : Glb} {pos p apos npos : Pos} {tg : Expr} {own : List Nat}
def dPop (i : Nat) (pt : Pat) : DS := fun ρ => match ρ[i]? with
  | some (some (.lst ds)) => match ds.getLast? with
    | some d => match bindPat pt d (ρ.set i (some (.lst ds.dropLast))) with
      | some ρ' => .nx ρ'
      | none => .bad
    | none => .bad
  | _ => .bad
end
end Sm
set_option maxHeartbeats 3200000
namespace Sm
open PySem PySem.Spec L2 PyProof.Rows
section
variable {P : Program} {w : World} {A : Around} {E : Value → Shared → Prop} {s : Shared}
end
end Sm
namespace Sm
open PySem PySem.Spec L2
abbrev tI (k : List Int) : D := .tup (k.map .int)
def dd : List (List Int) → List (List Int)
  | [] => []
  | x :: l => if x ∈ dd l then dd l else x :: dd l
section
variable {P : Program} {w : World} {A : Around} {E : Value → Shared → Prop} {s : Shared}
open PySem.W PyProof.Rows
end
end Sm
namespace Sm
open PySem PySem.Spec L2
section
variable {X : Cx} {W : WX} {cl : Glb}
end
end Sm
namespace Sm
open PySem PySem.Spec L2
def putE (t : D → Bool) (k v : D) (es : List (D × D)) : List (D × D) :=
  if es.any fun e => t e.1 then es.map fun e => if t e.1 then (e.1, v) else e else es ++ [(k, v)]
section
variable {K : PySem.W.Frag} {cl : Glb} {H : Hp}
theorem inl_inj {k a : List Int} (h : k.map (Sum.inl (β := Str)) = a.map Sum.inl) : k = a := by
  induction k generalizing a with
  | nil => cases a with
    | nil => rfl
    | cons _ _ => cases h
  | cons x k ih =>
    cases a with
    | nil => cases h
    | cons y a =>
      rw [List.map_cons, List.map_cons] at h
      injection h with h1 h2
      injection h1 with h1
      rw [h1, ih h2]
theorem isKT_iff {k a : List Int} : isKT a (.tup (k.map .int)) = decide (k = a) := by
  simp only [isKT, intsD_map]
  by_cases h : k = a
  · subst h; simp
  · simp [h]
theorem RepsK.val {i : Int} : ∀ {kvs : List (L2.Key × V)} {es : List (D × D)}, RepsK K cl H kvs es → (match findE (isKI i) es with
    | some d => ∃ v, valV kvs (Sum.inl i) = some v ∧ Rep K cl H v d
    | none => valV kvs (Sum.inl i) = none)
  | _, _, .nil => rfl
  | _, _, .cons (i := j) (v := v) (d := d) (r := r) (es := es) hv t => by
    have ih := RepsK.val (i := i) t
    by_cases h : j = i
    · subst h
      have e1 : findE (isKI j) ((D.int j, d) :: es) = some d := by simp [findE, isKI]
      rw [e1]
      exact ⟨v, valV_pos rfl, hv⟩
    · have e1 : findE (isKI i) ((D.int j, d) :: es) = findE (isKI i) es := by simp [findE, isKI, h]
      rw [e1, valV_neg (p := (Sum.inl j, v)) (k := Sum.inl i) (fun e => h (Sum.inl.inj e))]
      exact ih
theorem RepsT.val {i : List Int} : ∀ {kvs : List (List L2.Key × V)} {es : List (D × D)}, RepsT K cl H kvs es → (match findE (isKT i) es with
    | some d => ∃ v, valV kvs (i.map Sum.inl) = some v ∧ Rep K cl H v d
    | none => valV kvs (i.map Sum.inl) = none)
  | _, _, .nil => rfl
  | _, _, .cons (k := j) (v := v) (d := d) (r := r) (es := es) hv t => by
    have ih := RepsT.val (i := i) t
    by_cases h : j = i
    · subst h
      have e1 : findE (isKT j) ((D.tup (j.map .int), d) :: es) = some d := by simp [findE, isKT_iff]
      rw [e1]
      exact ⟨v, valV_pos rfl, hv⟩
    · have e1 : findE (isKT i) ((D.tup (j.map .int), d) :: es) = findE (isKT i) es := by simp [findE, isKT_iff, h]
      rw [e1, valV_neg (p := (j.map Sum.inl, v)) (k := i.map Sum.inl) (fun e => h (inl_inj e))]
      exact ih
theorem RepsK.anyE {i : Int} : ∀ {kvs : List (L2.Key × V)} {es : List (D × D)}, RepsK K cl H kvs es → (kvs.any fun kv => decide (kv.1 = Sum.inl i)) = es.any fun e => isKI i e.1
  | _, _, .nil => rfl
  | _, _, .cons (i := j) hv t => by
    rw [List.any_cons, List.any_cons, RepsK.anyE t]
    congr 1
    show decide ((Sum.inl j : L2.Key) = Sum.inl i) = (j == i)
    by_cases h : j = i
    · subst h; simp
    · rw [decide_eq_false (fun q => h (Sum.inl.inj q))]; simp [h]
theorem RepsT.anyE {i : List Int} : ∀ {kvs : List (List L2.Key × V)} {es : List (D × D)}, RepsT K cl H kvs es → (kvs.any fun kv => decide (kv.1 = i.map Sum.inl)) = es.any fun e => isKT i e.1
  | _, _, .nil => rfl
  | _, _, .cons (k := j) hv t => by
    rw [List.any_cons, List.any_cons, RepsT.anyE t]
    congr 1
    rw [isKT_iff, Bool.eq_iff_iff, decide_eq_true_eq, decide_eq_true_eq]
    exact ⟨inl_inj, fun e => by rw [e]⟩
theorem RepsK.snoc {i : Int} {v : V} {d : D} (hv : Rep K cl H v d) : ∀ {kvs : List (L2.Key × V)} {es : List (D × D)}, RepsK K cl H kvs es → RepsK K cl H (kvs ++ [(Sum.inl i, v)]) (es ++ [(.int i, d)])
  | _, _, .nil => .cons hv .nil
  | _, _, .cons h t => .cons h (RepsK.snoc hv t)
theorem RepsT.snoc {i : List Int} {v : V} {d : D} (hv : Rep K cl H v d) : ∀ {kvs : List (List L2.Key × V)} {es : List (D × D)}, RepsT K cl H kvs es → RepsT K cl H (kvs ++ [(i.map Sum.inl, v)]) (es ++ [(.tup (i.map .int), d)])
  | _, _, .nil => .cons hv .nil
  | _, _, .cons h t => .cons h (RepsT.snoc hv t)
theorem RepsK.repl {i : Int} {v : V} {d : D} (hv : Rep K cl H v d) : ∀ {kvs : List (L2.Key × V)} {es : List (D × D)}, RepsK K cl H kvs es → RepsK K cl H (kvs.map fun kv => if kv.1 = Sum.inl i then (kv.1, v) else kv) (es.map fun e => if isKI i e.1 then (e.1, d) else e)
  | _, _, .nil => .nil
  | _, _, .cons (i := j) h t => by
    have ih := RepsK.repl (i := i) hv t
    rw [List.map_cons, List.map_cons]
    by_cases e : j = i
    · subst e
      rw [if_pos rfl, if_pos (by simp [isKI])]
      exact .cons hv ih
    · rw [if_neg (fun q => e (Sum.inl.inj q)), if_neg (by simp [isKI, e])]
      exact .cons h ih
theorem RepsT.repl {i : List Int} {v : V} {d : D} (hv : Rep K cl H v d) : ∀ {kvs : List (List L2.Key × V)} {es : List (D × D)}, RepsT K cl H kvs es → RepsT K cl H (kvs.map fun kv => if kv.1 = i.map Sum.inl then (kv.1, v) else kv) (es.map fun e => if isKT i e.1 then (e.1, d) else e)
  | _, _, .nil => .nil
  | _, _, .cons (k := j) h t => by
    have ih := RepsT.repl (i := i) hv t
    rw [List.map_cons, List.map_cons]
    by_cases e : j = i
    · subst e
      rw [if_pos rfl, if_pos (by simp [isKT_iff])]
      exact .cons hv ih
    · rw [if_neg (fun q => e (inl_inj q)), if_neg (by simp [isKT_iff, e])]
      exact .cons h ih
theorem RepsK.put {i : Int} {v : V} {d : D} {kvs : List (L2.Key × V)} {es : List (D × D)} (r : RepsK K cl H kvs es) (hv : Rep K cl H v d) : RepsK K cl H (putK kvs (Sum.inl i) v) (putE (isKI i) (.int i) d es) := by
  unfold putK putE
  rw [r.anyE]
  split
  · exact r.repl hv
  · exact r.snoc hv
theorem RepsT.put {i : List Int} {v : V} {d : D} {kvs : List (List L2.Key × V)} {es : List (D × D)} (r : RepsT K cl H kvs es) (hv : Rep K cl H v d) : RepsT K cl H (putK kvs (i.map Sum.inl) v) (putE (isKT i) (.tup (i.map .int)) d es) := by
  unfold putK putE
  rw [r.anyE]
  split
  · exact r.repl hv
  · exact r.snoc hv
theorem rep_dctI {v : V} {es : List (D × D)} (r : Rep K cl H v (.dct es)) (h : (es.all fun e => kInt e.1) = true) : ∃ a kvs, v = .ref a ∧ H a = some (.dK kvs) ∧ RepsK K cl H kvs es := by
  cases r with
  | dctK h1 h2 => exact ⟨_, _, rfl, h1, h2⟩
  | dctT h1 h0 h2 =>
    cases h2 with
    | nil => exact (h0 rfl).elim
    | cons _ _ => simp [kInt] at h
theorem rep_dctT {v : V} {es : List (D × D)} (r : Rep K cl H v (.dct es)) (h0 : es ≠ []) (h : (es.all fun e => kTup e.1) = true) : ∃ a kvs, v = .ref a ∧ H a = some (.dT kvs) ∧ RepsT K cl H kvs es := by
  cases r with
  | dctT h1 h0 h2 => exact ⟨_, _, rfl, h1, h2⟩
  | dctK h1 h2 =>
    cases h2 with
    | nil => exact (h0 rfl).elim
    | cons _ _ => simp [kTup] at h
theorem rep_dclI {v : V} {es : List (D × D)} (r : Rep K cl H v (.dcl es)) (h : (es.all fun e => kInt e.1) = true) : ∃ a o kvs, v = .ref a ∧ H a = some (.frz o (.dK kvs)) ∧ RepsK K cl H kvs es := by
  cases r with
  | dclK h1 h2 => exact ⟨_, _, _, rfl, h1, h2⟩
  | dclT h1 h0 h2 =>
    cases h2 with
    | nil => exact (h0 rfl).elim
    | cons _ _ => simp [kInt] at h
theorem rep_dclT {v : V} {es : List (D × D)} (r : Rep K cl H v (.dcl es)) (h0 : es ≠ []) (h : (es.all fun e => kTup e.1) = true) : ∃ a o kvs, v = .ref a ∧ H a = some (.frz o (.dT kvs)) ∧ RepsT K cl H kvs es := by
  cases r with
  | dclT h1 h0 h2 => exact ⟨_, _, _, rfl, h1, h2⟩
  | dclK h1 h2 =>
    cases h2 with
    | nil => exact (h0 rfl).elim
    | cons _ _ => simp [kTup] at h
theorem reps_ints_eq : ∀ {k : List Int} {xs : List V}, Reps K cl H xs (k.map .int) → xs = k.map V.int
  | [], _, .nil => rfl
  | i :: k, _, .cons r t => by
    cases r; rw [reps_ints_eq t]; rfl
theorem kV_ints (k : List Int) : (k.map Sum.inl).map kV = k.map V.int := by rw [List.map_map]; rfl
theorem rep_key {v : V} {k : List Int} (r : Rep K cl H v (.tup (k.map .int))) : ∃ b, v = .ref b ∧ H b = some (.tup ((k.map Sum.inl).map kV)) := by
  cases r with
  | tup s z rs => rw [reps_ints_eq rs] at s; exact ⟨_, rfl, by rw [kV_ints]; exact s⟩
def DGo (K : PySem.W.Frag) (cl : Glb) (Hv H : Hp) (a : Addr) (y : V) : Option D → Prop
  | some d => ∃ v, DGet H a y (some v) ∧ Rep K cl Hv v d
  | none => DGet H a y none
theorem dget_of {Hv : Hp} {x y : V} {es : List (D × D)} {k : D} {o : Option D} (vw : Vw cl Hv H) (rx : Rep K cl Hv x (.dct es)) (ry : Rep K cl Hv y k) (h : oGetK es k = some o) : ∃ a, x = .ref a ∧ DGo K cl Hv H a y o := by
  cases k with
  | int i =>
    simp only [oGetK] at h
    split at h
    · rename_i hal
      cases h
      obtain ⟨a, kvs, rfl, h1, h2⟩ := rep_dctI rx hal
      refine ⟨a, rfl, ?_⟩
      cases ry
      have hv := h2.val (i := i)
      have g := DGet.k (k := Sum.inl i) (vw.s _ _ h1 rfl)
      cases e : findE (isKI i) es with
      | none => rw [e] at hv; rw [show valV kvs (Sum.inl i) = none from hv] at g; exact g
      | some d =>
        rw [e] at hv
        obtain ⟨v, hv1, hv2⟩ := hv
        rw [hv1] at g
        exact ⟨v, g, hv2⟩
    · cases h
  | tup xs =>
    simp only [oGetK] at h
    split at h
    · rename_i k hk
      split at h
      · rename_i hal
        cases h
        have ek := intsD_eq hk
        subst ek
        obtain ⟨a, kvs, rfl, h1, h2⟩ := rep_dctT rx hal.1 hal.2
        obtain ⟨b, rfl, hb⟩ := rep_key ry
        refine ⟨a, rfl, ?_⟩
        have hv := h2.val (i := k)
        have g := DGet.t (vw.s _ _ h1 rfl) (vw.s _ _ hb rfl)
        cases e : findE (isKT k) es with
        | none => rw [e] at hv; rw [show valV kvs (k.map Sum.inl) = none from hv] at g; exact g
        | some d =>
          rw [e] at hv
          obtain ⟨v, hv1, hv2⟩ := hv
          rw [hv1] at g
          exact ⟨v, g, hv2⟩
      · cases h
    · cases h
  | _ => cases h
theorem dgel_of {Hv : Hp} {x y : V} {es : List (D × D)} {k : D} {o : Option D} (vw : Vw cl Hv H) (rx : Rep K cl Hv x (.dcl es)) (ry : Rep K cl Hv y k) (h : oGetK es k = some o) : ∃ a, x = .ref a ∧ DGo K cl Hv H a y o := by
  cases k with
  | int i =>
    simp only [oGetK] at h
    split at h
    · rename_i hal
      cases h
      obtain ⟨a, oo, kvs, rfl, h1, h2⟩ := rep_dclI rx hal
      refine ⟨a, rfl, ?_⟩
      cases ry
      have hv := h2.val (i := i)
      have g : DGet H a (kV (Sum.inl i)) (valV kvs (Sum.inl i)) := .inl ⟨kvs, Sum.inl i, .inr ⟨oo, vw.s _ _ h1 rfl⟩, rfl, rfl⟩
      cases e : findE (isKI i) es with
      | none => rw [e] at hv; rw [show valV kvs (Sum.inl i) = none from hv] at g; exact g
      | some d =>
        rw [e] at hv
        obtain ⟨v, hv1, hv2⟩ := hv
        rw [hv1] at g
        exact ⟨v, g, hv2⟩
    · cases h
  | tup xs =>
    simp only [oGetK] at h
    split at h
    · rename_i k hk
      split at h
      · rename_i hal
        cases h
        have ek := intsD_eq hk
        subst ek
        obtain ⟨a, oo, kvs, rfl, h1, h2⟩ := rep_dclT rx hal.1 hal.2
        obtain ⟨b, rfl, hb⟩ := rep_key ry
        refine ⟨a, rfl, ?_⟩
        have hv := h2.val (i := k)
        have g : DGet H a (.ref b) (valV kvs (k.map Sum.inl)) := .inr ⟨kvs, k.map Sum.inl, b, .inr ⟨oo, vw.s _ _ h1 rfl⟩, rfl, vw.s _ _ hb rfl, rfl⟩
        cases e : findE (isKT k) es with
        | none => rw [e] at hv; rw [show valV kvs (k.map Sum.inl) = none from hv] at g; exact g
        | some d =>
          rw [e] at hv
          obtain ⟨v, hv1, hv2⟩ := hv
          rw [hv1] at g
          exact ⟨v, g, hv2⟩
      · cases h
    · cases h
  | _ => cases h
end
section
variable {X : Cx} {W : WX} {cl : Glb} {a b : Expr} {fa fb : DE} {pos : Pos}
theorem PE.or {e : Expr} {t1 t2 : TE} (h1 : PE X e t1) (h2 : PE X e t2) : PE X e (fun σ H Q => t1 σ H Q ∨ t2 σ H Q) :=
  ⟨fun pins s σ H Q I h => h.elim (fun h => h1.run pins s σ H Q I h) fun h => h2.run pins s σ H Q I h⟩
theorem oIx_not {a b : D} (h : ∀ es, a ≠ .dct es) (h' : ∀ es, a ≠ .dcl es) : oIx a b = oIxS a b := by
  cases a <;> first | exact (h _ rfl).elim | exact (h' _ rfl).elim | (cases b <;> rfl)
theorem se_ixD (hu : X.A.units + 65 < cLine) (ha : SE X W cl a fa) (hb : SE X W cl b fb) (hs : PlainIx b := by intro _ _; rfl) : SE X W cl (.Subscript a b pos) (dBin oIx fa fb) := by
  obtain ⟨t1, p1, r1⟩ := se_ix (pos := pos) ha hb hs
  obtain ⟨ta, pa, ha⟩ := ha
  obtain ⟨tb, pb, hb⟩ := hb
  refine ⟨_, PE.or p1 (pe_dget (by omega) pa pb hs), fun Hv H σ ρ Q vw er pv => ?_⟩
  by_cases hd : ∃ es, fa ρ = .ok (.dct es)
  · obtain ⟨es, hd⟩ := hd
    right
    refine ha Hv H σ ρ _ vw er (bindP pv fun x Hv1 H1 ex e1 pv1 v rv => ?_)
    rw [hd] at ex
    cases ex
    refine hb Hv1 H1 σ ρ _ e1.vh (er.mono e1.vv) (bindP pv1 fun y Hv2 H2 _ e2 pv2 u ru => ?_)
    obtain ⟨d, ed, q⟩ := ofO_ok pv2
    simp only [oIx, Option.bind_eq_some_iff, id_eq] at ed
    obtain ⟨o, h1, rfl⟩ := ed
    obtain ⟨ad, rfl, v', g, rv'⟩ := dget_of e2.vh (rv.mono e2.vv) ru h1
    exact ⟨ad, v', rfl, g, q _ _ (Ext.refl e2.vh) v' rv'⟩
  by_cases hd' : ∃ es, fa ρ = .ok (.dcl es)
  · obtain ⟨es, hd⟩ := hd'
    right
    refine ha Hv H σ ρ _ vw er (bindP pv fun x Hv1 H1 ex e1 pv1 v rv => ?_)
    rw [hd] at ex
    cases ex
    refine hb Hv1 H1 σ ρ _ e1.vh (er.mono e1.vv) (bindP pv1 fun y Hv2 H2 _ e2 pv2 u ru => ?_)
    obtain ⟨d, ed, q⟩ := ofO_ok pv2
    simp only [oIx, Option.bind_eq_some_iff, id_eq] at ed
    obtain ⟨o, h1, rfl⟩ := ed
    obtain ⟨ad, rfl, v', g, rv'⟩ := dgel_of e2.vh (rv.mono e2.vv) ru h1
    exact ⟨ad, v', rfl, g, q _ _ (Ext.refl e2.vh) v' rv'⟩
  · left
    refine r1 Hv H σ ρ Q vw er ?_
    have e : dBin oIx fa fb ρ = dBin oIxS fa fb ρ := by
      unfold dBin
      cases h : fa ρ with
      | err c => rfl
      | bad => rfl
      | ok x =>
        show ((fb ρ).bind fun b => ofO (oIx x b)) = (fb ρ).bind fun b => ofO (oIxS x b)
        congr 1
        funext y
        rw [oIx_not (fun es e => hd ⟨es, by rw [h, e]⟩) fun es e => hd' ⟨es, by rw [h, e]⟩]
    rw [← e]
    exact pv
end
end Sm
namespace Sm
open PySem PySem.Spec L2
def pairsI : List D → Option (List (Int × D))
  | [] => some []
  | .tup [.int i, d] :: r => (pairsI r).map ((i, d) :: ·)
  | _ => none
def pairsT : List D → Option (List (List Int × D))
  | [] => some []
  | .tup [.tup xs, d] :: r => match intsD xs with
    | some k => (pairsT r).map ((k, d) :: ·)
    | none => none
  | _ => none
def mkI (l : List (Int × D)) : List (D × D) := l.foldl (fun es p => putE (isKI p.1) (.int p.1) p.2 es) []
def mkT (l : List (List Int × D)) : List (D × D) := l.foldl (fun es p => putE (isKT p.1) (tI p.1) p.2 es) []
def oDict : List D → Option D
  | [.lst ds] => match pairsI ds with
    | some l => some (.dct (mkI l))
    | none => match pairsT ds with
      | some l => if l ≠ [] then some (.dct (mkT l)) else none
      | none => none
  | _ => none
theorem pairsI_eq : ∀ {ds : List D} {l : List (Int × D)}, pairsI ds = some l → ds = l.map fun p => .tup [.int p.1, p.2]
  | [], l, h => by cases h; rfl
  | d :: r, l, h => by
    unfold pairsI at h
    split at h
    · rename_i e; cases e
    · rename_i i d0 r0 e
      cases e
      simp only [Option.map_eq_some_iff] at h
      obtain ⟨l', h1, rfl⟩ := h
      rw [pairsI_eq h1]; rfl
    · cases h
theorem pairsT_eq : ∀ {ds : List D} {l : List (List Int × D)}, pairsT ds = some l → ds = l.map fun p => .tup [tI p.1, p.2]
  | [], l, h => by cases h; rfl
  | d :: r, l, h => by
    unfold pairsT at h
    split at h
    · rename_i e; cases e
    · rename_i xs d0 r0 e
      cases e
      split at h
      · rename_i k hk
        simp only [Option.map_eq_some_iff] at h
        obtain ⟨l', h1, rfl⟩ := h
        rw [pairsT_eq h1, intsD_eq hk]; rfl
      · cases h
    · cases h
theorem putE_ne {t : D → Bool} {k v : D} {es : List (D × D)} : putE t k v es ≠ [] := by
  unfold putE
  split
  · rename_i h
    intro e
    rw [List.map_eq_nil_iff] at e
    subst e
    simp at h
  · simp
section
variable {X : Cx} {W : WX} {cl : Glb}
theorem prd_get {α β : Type} {F : α → β → Prop} : ∀ {l : List α} {m : List β} {j : Nat} {x : β}, Paired F l m → m[j]? = some x → ∃ y, l[j]? = some y ∧ F y x
  | _, _, _, _, .nil, e => by simp at e
  | _, _, 0, _, .cons h _, e => by simp at e; subst e; exact ⟨_, rfl, h⟩
  | _, _, j + 1, _, .cons _ t, e => by
    obtain ⟨y, h1, h2⟩ := prd_get (j := j) t (by simpa using e)
    exact ⟨y, by simpa using h1, h2⟩
theorem foldT_ne : ∀ (l : List (List Int × D)) (es : List (D × D)), es ≠ [] → l.foldl (fun es p => putE (isKT p.1) (tI p.1) p.2 es) es ≠ []
  | [], es, h => h
  | p :: l, es, h => foldT_ne l _ putE_ne
abbrev PT (K : PySem.W.Frag) (H : Hp) : List Addr → List (List Key × Addr × V) → Prop := Paired fun p kv => SqT K H p [.ref kv.2.1, kv.2.2] ∧ H kv.2.1 = some (.tup (kv.1.map kV))
theorem pairsT_of {pins : List (Addr × Obj)} {σ : St} {H : Hp} {s : Shared} (I : Inv X pins σ H s) : ∀ {ps : List Addr} {kvs : List (List Key × Addr × V)}, PT X.K H ps kvs →
    ∃ prs : List (List Key × Addr × Value), Paired (fun (a : List Key × Addr × V) (b : List Key × Addr × Value) => a.1 = b.1 ∧ a.2.1 = b.2.1 ∧ H b.2.1 = some (.tup (b.1.map kV)) ∧ RelV a.2.2 b.2.2) kvs prs ∧ prs.length = ps.length ∧
      ∀ (j : Nat) (q : List Key × Addr × Value), prs[j]? = some q → ∃ b : Addr, ps[j]? = some b ∧ s.heap.IsTuple b #[.ref q.2.1, q.2.2]
  | _, _, .nil => ⟨[], .nil, rfl, fun j q e => by simp at e⟩
  | _, _, .cons (a := p) (b := kv) h t => by
    obtain ⟨prs, r, hl, hp⟩ := pairsT_of I t
    obtain ⟨its, rv, ht, _⟩ := I.tuple h.1
    obtain ⟨u, y, ei, ru, ry⟩ := vals2 rv
    subst ei
    cases ru
    refine ⟨(kv.1, kv.2.1, y) :: prs, .cons ⟨rfl, rfl, h.2, ry⟩ r, by rw [List.length_cons, List.length_cons, hl], fun j q e => ?_⟩
    cases j with
    | zero =>
      have e' : (kv.1, kv.2.1, y) = q := Option.some.inj e
      subst e'
      exact ⟨p, rfl, ht⟩
    | succ j =>
      obtain ⟨b, e1, e2⟩ := hp j q (by simpa using e)
      exact ⟨b, by simpa using e1, e2⟩
theorem KT_all {H : Hp} : ∀ {kvs : List (List Key × Addr × V)} {prs : List (List Key × Addr × Value)}, Paired (fun (a : List Key × Addr × V) (b : List Key × Addr × Value) => a.1 = b.1 ∧ a.2.1 = b.2.1 ∧ H b.2.1 = some (.tup (b.1.map kV)) ∧ RelV a.2.2 b.2.2) kvs prs →
    ∀ {acc : List (List Key × V)} {ac : List (List Key × Addr × Value)}, KT H acc ac → KT H (kvs.foldl (fun acc kv => putK acc kv.1 kv.2.2) acc) (PySem.storedAllH ac prs)
  | _, _, .nil, _, _, r => r
  | _, _, .cons (a := a) (b := b) h t, acc, ac, r => by
    obtain ⟨h1, h2, h3, h4⟩ := h
    have := KT_all t (KT.put r a.1 (b := b.2.1) (by rw [h1]; exact h3) h4)
    rw [List.foldl_cons]
    unfold PySem.storedAllH at this ⊢
    rw [List.foldl_cons, ← h1]
    exact this
theorem foldT_len (kvs : List (List Key × Addr × V)) : ∀ acc : List (List Key × V), (kvs.foldl (fun acc kv => putK acc kv.1 kv.2.2) acc).length ≤ acc.length + kvs.length := by
  induction kvs with
  | nil => intro acc; exact Nat.le_refl _
  | cons kv kvs ih =>
    intro acc
    rw [List.foldl_cons, List.length_cons]
    have := ih (putK acc kv.1 kv.2.2)
    have := length_putK acc kv.1 kv.2.2
    omega
def rDictT (K : PySem.W.Frag) : List V → Hp → VK → Prop := fun xs H Q => ∃ (a : Addr) (ps : List Addr) (kvs : List (List Key × Addr × V)), xs = [.ref a] ∧ SqL K H a (ps.map V.ref) ∧ PT K H ps kvs ∧
    ∀ p, H p = none → Q (.ref p) (upd H p (.dT (kvs.foldl (fun acc kv => putK acc kv.1 kv.2.2) [])))
theorem cr_dictT (hcalm : X.calm = true) (hu : X.A.units + 65 < cLine) : CallR X (.type "dict") (rDictT X.K) := by
  intro pins s σ H xs us Q I r q
  obtain ⟨a, ps, kvs, ex, hq, hp, q⟩ := q
  subst ex
  rw [Vals.ref1 r]
  obtain ⟨its, rv, pl, hz⟩ := I.list hq
  have ei := refs_at rv
  subst ei
  rw [List.length_map] at hz
  obtain ⟨prs, rel, hl, hpr⟩ := pairsT_of I hp
  obtain ⟨o, n, ho, hc, hd, hdat⟩ := pl
  have hrl := rel.length
  have item : ∀ j k v, (prs.map fun q => (Value.ref q.2.1, q.2.2))[j]? = some (k, v) → ((ps.map Value.ref).toArray)[j]? = some (.ref (ps.getD j 0)) ∧ PairAt s.heap (ps.getD j 0) k v := by
    intro j k v e
    rw [List.getElem?_map, Option.map_eq_some_iff] at e
    obtain ⟨q, e1, e2⟩ := e
    obtain ⟨b, e3, e4⟩ := hpr j q e1
    cases e2
    have eb : ps.getD j 0 = b := by simp [e3]
    rw [eb]
    exact ⟨by simp [e3], .inl e4⟩
  have keyis : ∀ h' : Heap, (∀ b o, s.heap.get? b = some o → h'.get? b = some o) → ∀ x ∈ prs, (tupleKind (mixKind X.prog X.w)).is h' x.1 x.2.1 := by
    intro h' hk x hx
    obtain ⟨y, hy⟩ : ∃ y : List Key × Addr × V, H x.2.1 = some (.tup (x.1.map kV)) := by
      obtain ⟨j, hj⟩ := List.getElem?_of_mem hx
      obtain ⟨y, _, h2⟩ := prd_get rel hj
      exact ⟨y, h2.2.2.1⟩
    obtain ⟨o, items, n, ho, r⟩ := key_of I.hok hy
    exact ⟨o, items, n, hk _ _ ho, r⟩
  refine call_dict_pairsH (knd := tupleKind (mixKind X.prog X.w)) (ps := prs) (PairArg.list a (ps.map Value.ref).toArray (fun j => ps.getD j 0) (prs.map fun q => (Value.ref q.2.1, q.2.2))) (I.ok.hd hcalm) (tupleKind_room_in1 (A := X.A.in1) (by show X.A.units + 1 + 1 < cLine; omega)) ⟨⟨o, n, ho, hc, hd, hdat⟩, by simp [hl], item⟩ ⟨by simp, fun i key v hr => ?_⟩ (fun h' hk => keyis h' fun b o e => hk b o (Nat.ne_of_lt (Heap.lt_size e)) (by simp) e) (by rw [List.length_map, hl]; exact hz) fun h' tk hd' k => ?_
  · have hr : (prs.map fun q => (Value.ref q.2.1, q.2.2))[i]? = some (key, v) := hr
    rw [List.getElem?_map, Option.map_eq_some_iff] at hr
    obtain ⟨q, e1, e2⟩ := hr
    cases e2
    exact ⟨q.1, q.2.1, e1, rfl⟩
  · have hm : (s.heap.objs.size == sysModules) = false := beq_eq_false_iff_ne.mpr (Nat.ne_of_gt I.big)
    have hlen : (kvs.foldl (fun acc kv => putK acc kv.1 kv.2.2) ([] : List (List Key × V))).length ≤ sizeLine := by
      refine Nat.le_trans (foldT_len kvs []) ?_
      rw [List.length_nil, Nat.zero_add, hrl, hl]
      exact hz
    obtain ⟨o', es', ep', g1, g2, g3, g4, g5, g6⟩ := hd'
    have hn := I.hok.fresh (Nat.le_refl s.heap.objs.size)
    have kt : KT (upd H s.heap.objs.size (.dT (kvs.foldl (fun acc kv => putK acc kv.1 kv.2.2) []))) (kvs.foldl (fun acc kv => putK acc kv.1 kv.2.2) []) (PySem.storedAllH [] prs) := (KT_all rel .nil).keeps fun b ys e => by rw [upd_ne (ne_of_none e hn)]; exact e
    exact ⟨.ref s.heap.objs.size, upd H s.heap.objs.size (.dT (kvs.foldl (fun acc kv => putK acc kv.1 kv.2.2) [])), I.laid (t' := tk) (fun b o e => k b o (by simp) e) (Nat.le_refl _) (show ObjOk X.prog X.w _ _ _ (.dT _) from ⟨hlen, hm, PySem.storedAllH [] prs, kt, o', es', ep', g1, g2, g3, g4, g6⟩), rfl, q _ hn⟩
theorem reps_pairI {K : PySem.W.Frag} {Hv H : Hp} (vw : Vw cl Hv H) : ∀ {l : List (Int × D)} {vs : List V}, Reps K cl Hv vs (l.map fun p => .tup [.int p.1, p.2]) → ∃ (ps : List Addr) (kvs : List (Key × V)), vs = ps.map V.ref ∧ Paired (fun p kv => SqT K H p [kV kv.1, kv.2]) ps kvs ∧
    ∀ {acc : List (Key × V)} {es : List (D × D)}, RepsK K cl Hv acc es → RepsK K cl Hv (kvs.foldl (fun acc kv => putK acc kv.1 kv.2) acc) (l.foldl (fun es p => putE (isKI p.1) (.int p.1) p.2 es) es)
  | [], _, .nil => ⟨[], [], rfl, .nil, fun r => r⟩
  | p :: l, _, .cons r t => by
    obtain ⟨ps, kvs, rfl, h1, h2⟩ := reps_pairI vw t
    cases r with
    | tup s z rs =>
      cases rs with
      | cons r1 rs =>
        cases rs with
        | cons r2 rs =>
          cases rs
          cases r1
          refine ⟨_ :: ps, (Sum.inl p.1, _) :: kvs, rfl, .cons (vw.s.sqU s) h1, fun r => ?_⟩
          rw [List.foldl_cons, List.foldl_cons]
          exact h2 (r.put r2)
theorem reps_pairT {K : PySem.W.Frag} {Hv H : Hp} (vw : Vw cl Hv H) : ∀ {l : List (List Int × D)} {vs : List V}, Reps K cl Hv vs (l.map fun p => .tup [tI p.1, p.2]) → ∃ (ps : List Addr) (kvs : List (List Key × Addr × V)), vs = ps.map V.ref ∧ PT K H ps kvs ∧
    ∀ {acc : List (List Key × V)} {es : List (D × D)}, RepsT K cl Hv acc es → RepsT K cl Hv (kvs.foldl (fun acc kv => putK acc kv.1 kv.2.2) acc) (l.foldl (fun es p => putE (isKT p.1) (tI p.1) p.2 es) es)
  | [], _, .nil => ⟨[], [], rfl, .nil, fun r => r⟩
  | p :: l, _, .cons r t => by
    obtain ⟨ps, kvs, rfl, h1, h2⟩ := reps_pairT vw t
    cases r with
    | tup s z rs =>
      cases rs with
      | cons r1 rs =>
        cases rs with
        | cons r2 rs =>
          cases rs
          obtain ⟨b, rfl, hb⟩ := rep_key r1
          refine ⟨_ :: ps, (p.1.map Sum.inl, b, _) :: kvs, rfl, .cons ⟨vw.s.sqU s, vw.s _ _ hb rfl⟩ h1, fun r => ?_⟩
          rw [List.foldl_cons, List.foldl_cons]
          exact h2 (r.put r2)
theorem cs_dict (hcalm : X.calm = true) (hu : X.A.units + 65 < cLine) : CallS X cl (.type "dict") oDict := by
  refine ⟨_, CallR.or (call_dictP hcalm) (cr_dictT hcalm hu), fun Hv H xs ds d Q vw r e q => ?_⟩
  unfold oDict at e
  split at e
  · rename_i ds0
    obtain ⟨l, vs, rfl, h1, h2, h3⟩ := one_lst r
    split at e
    · rename_i lp hp
      cases e
      left
      rw [pairsI_eq hp] at h3
      obtain ⟨ps, kvs, rfl, g1, g2⟩ := reps_pairI vw h3
      refine ⟨l, ps, kvs, rfl, .inl (.inl (vw.s _ _ h1 rfl)), g1, fun p hp => ?_⟩
      have x1 := Ext.new (o := .dK (mergeK [] kvs)) vw hp
      exact q _ _ _ x1 (.dctK upd_same ((g2 .nil).mono x1.vv))
    · split at e
      · rename_i lp hp
        split at e
        · rename_i hne
          cases e
          right
          rw [pairsT_eq hp] at h3
          obtain ⟨ps, kvs, rfl, g1, g2⟩ := reps_pairT vw h3
          refine ⟨l, ps, kvs, rfl, .inl (.inl (vw.s _ _ h1 rfl)), g1, fun p hp => ?_⟩
          have x1 := Ext.new (o := .dT (kvs.foldl (fun acc kv => putK acc kv.1 kv.2.2) [])) vw hp
          refine q _ _ _ x1 (.dctT upd_same ?_ ((g2 .nil).mono x1.vv))
          cases lp with
          | nil => exact (hne rfl).elim
          | cons p0 lp => exact foldT_ne lp _ putE_ne
        · cases e
      · cases e
  · cases e
end
end Sm
namespace Sm
open PySem PySem.Spec L2
section
variable {X : Cx} {W : WX} {cl : Glb} {Hv0 H0 Hv Hv1 H : Hp} {own own1 : List Nat} {Dn : Ends} {pos p apos npos spos cpos : Pos} {a b c e f o : Expr} {es : List Expr} {fa fb fc : DE} {g : DA}
theorem RepsK.length {K : PySem.W.Frag} {H : Hp} : ∀ {kvs : List (L2.Key × V)} {es : List (D × D)}, RepsK K cl H kvs es → kvs.length = es.length
  | _, _, .nil => rfl
  | _, _, .cons _ t => by rw [List.length_cons, List.length_cons, RepsK.length t]
end
end Sm
namespace Sm
open PySem PySem.Spec L2
section
variable {X : Cx} {W : WX} {cl : Glb}
open PySem.W PyProof.Rows
end
end Sm
namespace Sm
open PySem PySem.Spec L2
section
variable {X : Cx} {W : WX} {cl : Glb} {pos p p1 p2 : Pos} {a b c e i fe : Expr} {es ns : List Expr} {fi : DE} {g : DA} {k n : Nat}
def Keeps (X : Cx) (k : Nat) (f : Addr) (sp : Sp) : Prop := ∃ fd ps, FnOk X.prog X.w X.K X.mg X.base (L2.CX X.prog X.w) k f fd ps sp ∧ PySem.W.keepIn X.K (.ref f) = true ∧ Binds X.K fd ps []
def tCallE (X : Cx) (k : Nat) (E : St → XK) (tf : TE) (t : TA) : TE := fun σ H Q => tf σ H fun v H1 => ∃ f sp, v = .ref f ∧ Keeps X k f sp ∧ t σ H1 fun vs H2 => sp vs H2 Q (E σ)
theorem pe_callE {tf : TE} {t : TA} {E : St → XK} (hr : Room k X.A) (hf : PE X fe tf) (hx : ∀ σ, PassesAt (L2.CX X.prog X.w) X σ (E σ)) (ha : PA X (e :: es) t)
    (hev : eval (.Call fe (e :: es) [] pos) X.env = (do callWith pos (← eval fe X.env) [] (backTo pos (starEach (e :: es) X.env)) (backToKw pos (keywordEach [] X.env))) := by rfl)
    (he : starEach (e :: es) X.env = (false, eval e X.env) :: starEach es X.env := by rfl) (hpl : (backTo pos (starEach es X.env)).any (·.1) = false := by rfl) :
    PE X (.Call fe (e :: es) [] pos) (tCallE X k E tf t) := by
  refine ⟨fun pins s σ H Q I h => ?_⟩
  rw [hev]
  refine wpAny_bind (thn (hf.run pins s σ H _ I h) fun u s1 ⟨v, H1, I1, r1, f, sp, ev, ok, ht⟩ => ?_)
  subst ev
  cases r1
  obtain ⟨fd, ps, F, hk, hb⟩ := ok
  refine PySem.W.callWith_K (h₀ := X.base) I1.ok.mod.kin hk (thn (ha.run pos pins s1 σ H1 _ I1 ht) fun us s2 ⟨vs, H2, I2, r, q⟩ => ⟨I2.kIn, ?_⟩) he hpl
  exact run_fnS F hr hb (hx σ) I2 r q
def FL (X : Cx) (cl : Glb) (k n : Nat) (es : List Expr) (Fs : List (List D → R D)) : Prop := ∃ (as : List Addr) (t : TA), PA X es t ∧ (∀ σ H Q, Q (as.map V.ref) H → t σ H Q) ∧ as.length = Fs.length ∧
  ∀ (j : Nat) f F, as[j]? = some f → Fs[j]? = some F → Keeps X k f (spF X.K cl n F)
theorem fl_nil : FL X cl k n [] [] := ⟨[], _, pa_nil, fun σ H Q h => h, rfl, fun j f F h => by simp at h⟩
theorem fl_cons {k' : Nat} {x : Str} {F : List D → R D} {Fs : List (List D → R D)} (G : Fn X.prog X.w X.K X.mg X.base cl k' x n F) (hk : k' ≤ k) (h : FL X cl k n ns Fs) (hg : Gl X x := by rfl) (hdb : (x == ("__debug__" : Str)) = false := by decide)
    (hs : starEach (.Name x p :: ns) X.env = (false, eval (.Name x p) X.env) :: starEach ns X.env := by rfl) : FL X cl k n (.Name x p :: ns) (F :: Fs) := by
  obtain ⟨f, fd, ps, h1, h2, h3, h4, h5⟩ := G.mono hk
  obtain ⟨as, t, pt, ht, hl, ho⟩ := h
  refine ⟨f :: as, _, pa_cons (pe_glob hg h2 (v := .ref f) rfl hdb) pt hs, fun σ H Q q => ht σ H _ q, by rw [List.length_cons, List.length_cons, hl], fun j f' F' e1 e2 => ?_⟩
  cases j with
  | zero => cases e1; cases e2; exact ⟨fd, ps, h1, h3, h4⟩
  | succ j => exact ho j f' F' (by simpa using e1) (by simpa using e2)
def dCallIx (Fs : List (List D → R D)) (fi : DE) (g : DA) : DE := fun ρ => (fi ρ).bind fun k => match k with
  | .int j => if 0 ≤ j then match Fs[j.toNat]? with
    | some F => (g ρ).bind F
    | none => .bad else .bad
  | _ => .bad
theorem se_callIx {Fs : List (List D → R D)} (hF : FL X cl k n ns Fs) (hi : SE X W cl i fi) (hr : Room k X.A) (tk : Takes X W) (ha : SA X W cl (e :: es) g) (hn : (e :: es).length = n := by rfl) (hs : PlainIx i := by intro _ _; rfl) (hln : decide (Fs.length ≤ 1000) = true := by rfl)
    (hev : eval (.Call (.Subscript (.List ns p1) i p2) (e :: es) [] pos) X.env = (do callWith pos (← eval (.Subscript (.List ns p1) i p2) X.env) [] (backTo pos (starEach (e :: es) X.env)) (backToKw pos (keywordEach [] X.env))) := by rfl)
    (he : starEach (e :: es) X.env = (false, eval e X.env) :: starEach es X.env := by rfl) (hpl : (backTo pos (starEach es X.env)).any (·.1) = false := by rfl) :
    SE X W cl (.Call (.Subscript (.List ns p1) i p2) (e :: es) [] pos) (dCallIx Fs fi g) := by
  obtain ⟨as, tn, pn, hn1, hn2, hn3⟩ := hF
  obtain ⟨ti, pi, hi⟩ := hi
  obtain ⟨ta, pa, ha, hl⟩ := ha
  refine ⟨_, pe_callE hr (pe_ix ix_seq (pe_lst pn) pi hs) (fun σ => passAt tk σ) pa hev he hpl, fun Hv H σ ρ Q vw er pv => ?_⟩
  refine hn1 σ H _ ⟨by rw [List.length_map, hn2]; exact small_line hln, fun q hq => ?_⟩
  have x0 := Ext.new (o := .lst (as.map V.ref)) vw hq
  refine hi _ _ σ ρ _ x0.vh (er.mono x0.vv) (bindP (Pst.ext (r := dCallIx Fs fi g ρ) pv x0) fun kd Hv1 H1 _ e1 pv1 v rv => ?_)
  cases kd with
  | int j => ?_
  | _ => exact pv1.elim
  simp only at pv1
  split at pv1
  · rename_i hj
    cases hF : Fs[j.toNat]? with
    | none => rw [hF] at pv1; exact pv1.elim
    | some F =>
      rw [hF] at pv1
      have hjl : j.toNat < as.length := by rw [hn2]; exact (List.getElem?_eq_some_iff.mp hF).1
      have hf : as[j.toNat]? = some as[j.toNat] := List.getElem?_eq_getElem hjl
      cases rv
      have h1 : H1 q = some (.lst (as.map V.ref)) := e1.hh _ _ upd_same rfl
      refine .inl ⟨q, as.map V.ref, j, .ref as[j.toNat], rfl, rfl, .inl (.inl h1), ?_, as[j.toNat], _, rfl, hn3 _ _ _ hf hF, ?_⟩
      · have : atI (as.map V.ref) ((j.toNat : Nat) : Int) = some (.ref as[j.toNat]) := atI_nat (by rw [List.getElem?_map, hf]; rfl)
        rwa [Int.toNat_of_nonneg hj] at this
      · refine ha Hv1 H1 σ ρ _ e1.vh ((er.mono x0.vv).mono e1.vv) (bindP pv1 fun x Hv2 H2 ex e2 pv2 v rv => ?_)
        refine ⟨?_, Hv2, x, e2.vh, rv, ?_⟩
        · rw [rv.length, hl ρ x ex]; exact hn
        · cases q : F x with
          | ok d => rw [q] at pv2; exact pv2
          | err c => rw [q] at pv2; exact pv2
          | bad => rw [q] at pv2; exact pv2.elim
  · exact pv1.elim
end
theorem exm_of {K : PySem.W.Frag} {C Ck : Addr} (h1 : PySem.W.subIn K (.ref C) (.type "BaseException") = some true) (h2 : (PySem.W.clsIn K C).isSome = true) (h3 : PySem.W.typeIn K (.ref C) = some (.type "type")) (h4 : PySem.W.subIn K (.ref Ck) (.ref C) = some true) :
    PySem.W.exmOne K (.ref Ck) (.ref C) = some true := by
  unfold PySem.W.exmOne PySem.W.kitCls
  rw [h1]
  simp only [h2, h3, h4, beq_self_eq_true, Bool.and_self, if_true]
end Sm
namespace Sm
open PySem PySem.Spec L2 PyProof.Rows
theorem rev_pick (xs : Array Value) : ((List.range xs.size).filterMap fun (k : Nat) => xs[((xs.size : Int) - 1 + (k : Int) * (-1)).toNat]?) = xs.toList.reverse := by
  have gen : ∀ (l : List Nat), (∀ k ∈ l, k < xs.size) → (l.filterMap fun (k : Nat) => xs[((xs.size : Int) - 1 + (k : Int) * (-1)).toNat]?) = l.map fun k => xs.toList.reverse.getD k .none := by
    intro l
    induction l with
    | nil => intro _; rfl
    | cons k l ih =>
      intro hl
      have hk := hl k (by simp)
      have e : ((xs.size : Int) - 1 + (k : Int) * (-1)).toNat = xs.size - 1 - k := by omega
      have hk2 : k < xs.toList.reverse.length := by simpa using hk
      have e2 : xs[((xs.size : Int) - 1 + (k : Int) * (-1)).toNat]? = some (xs.toList.reverse.getD k .none) := by
        rw [e, List.getD_eq_getElem?_getD, List.getElem?_eq_getElem hk2, Option.getD_some, List.getElem_reverse]
        rw [Array.getElem?_eq_getElem (by omega)]
        simp
      rw [List.filterMap_cons, e2, List.map_cons, ih fun j hj => hl j (by simp [hj])]
  have h := gen (List.range xs.size) fun k hk => List.mem_range.mp hk
  rw [h]
  apply List.ext_getElem?
  intro i
  rw [List.getElem?_map]
  by_cases hi : i < xs.size
  · rw [List.getElem?_range hi]
    have : i < xs.toList.reverse.length := by simpa using hi
    rw [List.getElem?_eq_getElem this]
    simp [List.getD_eq_getElem?_getD, List.getElem?_eq_getElem this]
  · rw [List.getElem?_eq_none (by simpa using hi), List.getElem?_eq_none (by simpa using hi)]
    rfl
section
variable {prog : Program} {w : World} {A : Around} {E : Value → Shared → Prop} {s : Shared}
theorem getItem_tuple_rev {t sl : Addr} {items : Array Value} {vl vu vs : Value} {Q : Value → Shared → Prop} (ht : IsTup s.heap t items) (hs : s.heap.IsSliceOf sl vl vu vs) (pl : IsPart vl none) (pu : IsPart vu none) (ps : IsPart vs (some (-1)))
    (h : Q (.ref s.heap.objs.size) { s with heap := s.heap.push { cls := .type "tuple", data := .seq items.toList.reverse.toArray } }) (hsz : items.size ≤ sizeLine) : wpAny (model prog w) A (getItem (.ref t) (.ref sl)) Q E s := by
  have htake : sizeOk (.seq items.toList.reverse.toArray) := by
    show items.toList.reverse.toArray.size ≤ sizeLine
    simpa using hsz
  obtain ⟨os, hos, hcs, hds⟩ := id hs
  have hTs : s.TypeIs (.ref sl) "slice" := ⟨os, hos, hcs⟩
  unfold getItem
  try with_reducible refine wpAny_holding ?_
  first | refine wpAny_bind (wpAny_pure ?_) | skip
  refine wpAny_bind (wpAny_sequenceKey ht.typeIs (by decide) ?_)
  refine wpAny_bind (wpAny_callSpecial?_slot (name := Str.ofString "__getitem__") ht.typeIs PyProof.Rows.slot_tuple_getitem
    (wpAny_call_entry PyProof.Rows.slot_tuple_getitem ht.typeIs entry_tuple_getitem ?_ (args_tuple_getitem _ _)))
  show wpAny _ _ (Builtin.Tuple.tupleItemsOf (.ref t) >>= _) _ _ s
  refine wpAny_bind (tupleItemsOf_ ht ?_)
  refine wpAny_bind (wpAny_typeOf hTs ?_)
  rw [if_pos (by decide)]
  have ap : ∀ {R : Int × Int × Nat → Shared → Prop}, R ((items.size : Int) - 1, -1, items.size) s → wpAny (model prog w) A.in1 (Builtin.Slice.sliceApplied (.ref sl) (pure (items.size : Int))) R E s := fun {R} hr => by
    unfold Builtin.Slice.sliceApplied Builtin.Slice.sliceFields
    refine wpAny_bind (wpAny_bind (wpAny_field hos hds (x := vl) rfl (wpAny_bind (wpAny_field hos hds (x := vu) rfl (wpAny_bind (wpAny_field hos hds (x := vs) rfl (wpAny_pure ?_)))))))
    refine wpAny_bind (HT.slicePart_ ps ?_)
    show wpAny _ _ (if ((-1 : Int) == 0) = true then _ else _) _ _ s
    rw [if_neg (by decide)]
    refine wpAny_bind (HT.slicePart_ pl (wpAny_bind (HT.slicePart_ pu (wpAny_bind (wpAny_pure ?_)))))
    have e1 : Builtin.Slice.sliceAdjust none none (-1) (items.size : Int) = ((items.size : Int) - 1, -1) := rfl
    have e2 : Builtin.Slice.slicePlaces ((items.size : Int) - 1) (-1) (-1) = items.size := by
      unfold Builtin.Slice.slicePlaces
      rw [if_neg (by decide), show (-(-1) : Int) = 1 by decide, Int.ediv_one]
      split <;> omega
    show wpAny _ _ (match Builtin.Slice.sliceAdjust none none (-1) (items.size : Int) with | (lo, hi) => pure (lo, (-1 : Int), Builtin.Slice.slicePlaces lo hi (-1))) _ _ s
    rw [e1]
    show wpAny _ _ (pure ((items.size : Int) - 1, (-1 : Int), Builtin.Slice.slicePlaces ((items.size : Int) - 1) (-1) (-1))) _ _ s
    rw [e2]
    exact wpAny_pure hr
  refine wpAny_bind (ap ?_)
  show wpAny _ _ (if ((((items.size : Int) - 1) == 0 && (-1 : Int) == 1 && items.size == items.size) = true) then _ else _) _ _ s
  rw [if_neg (by simp), rev_pick]
  first
    | exact wpAny_bind (m := Builtin.Tuple.tupleExact _) (wpAny_newObj_type (wpAny_pure ⟨_, rfl, wpAny_pure h⟩) htake)
    | exact wpAny_bind (m := Builtin.Tuple.tupleExact _) (wpAny_newObj_type (wpAny_bind (wpAny_pure (wpAny_pure ⟨_, rfl, wpAny_pure h⟩))) htake)
    | exact wpAny_bind (wpAny_bind (m := Builtin.Tuple.tupleExact _) (wpAny_newObj_type (wpAny_pure (wpAny_pure ⟨_, rfl, wpAny_pure h⟩)) htake))
    | exact wpAny_bind (wpAny_bind (m := Builtin.Tuple.tupleExact _) (wpAny_newObj_type (wpAny_pure ⟨_, rfl, wpAny_pure h⟩) htake))
end
section
variable {X : Cx} {W : WX} {cl : Glb} {a : Expr} {fa : DE} {pos : Pos}
def tRevT (K : PySem.W.Frag) (te : TE) : TE := fun σ H Q => te σ H fun x H1 => ∃ a xs, x = .ref a ∧ SqT K H1 a xs ∧ ∀ p, H1 p = none → Q (.ref p) (upd H1 p (.tup xs.reverse))
theorem pe_revT {e : Expr} {te : TE} {k : Nat} {p1 p2 p3 : Pos} (he : PE X e te) : PE X (.Subscript e (.Slice none none (some (.UnaryOp .USub (.Constant (.int 1) k p1) p2)) p3) pos) (tRevT X.K te) := by
  refine ⟨fun pins s σ H Q I h => ?_⟩
  refine Subscript_ (thn (he.run pins s σ H _ I h) fun v s1 ⟨x, H1, I1, r1, q1⟩ => ?_)
  obtain ⟨a, xs, ex, hx, q⟩ := q1
  subst ex
  cases r1
  have hst : PO X (some (.UnaryOp .USub (.Constant (.int 1) k p1) p2)) (tPart (tUn (rU fun i => .int (-i)) (tC (.int 1)))) := po_some (pe_un un_neg pe_int)
  refine wpAny_Slice (thn (po_none.run pins s1 σ H1 (fun o H2 => o = none ∧ H2 = H1) I1 ⟨rfl, rfl⟩) fun vl s2 ⟨l, H2, I2, pl, el, e2⟩ => ?_)
  subst el e2
  refine thn (po_none.run pins s2 σ H2 (fun o H3 => o = none ∧ H3 = H2) I2 ⟨rfl, rfl⟩) fun vu s3 ⟨u, H3, I3, pu, eu, e3⟩ => ?_
  subst eu e3
  refine thn (hst.run pins s3 σ H3 (fun o H4 => o = some (-1) ∧ H4 = H3) I3 ⟨1, rfl, -1, rfl, rfl, rfl⟩) fun vs s4 ⟨o, H4, I4, ps, eo, e4⟩ => ?_
  subst eo e4
  have I5 : Inv X pins σ H4 { s4 with heap := s4.heap.push { cls := .type "slice", data := .fields #[vl, vu, vs] } } := I4.kept (t' := s4.toks) fun b ob q => Heap.get?_push_of_some _ q
  obtain ⟨its, r, ht, hz⟩ := I5.tuple hx
  have hlen := r.length
  show wpAny (model X.prog X.w) X.A (subscriptTail e (.Slice none none (some (.UnaryOp .USub (.Constant (.int 1) k p1) p2)) p3) (.ref a) (.ref s4.heap.objs.size)) (EP X pins σ Q) X.xe { s4 with heap := s4.heap.push { cls := .type "slice", data := .fields #[vl, vu, vs] } }
  refine tail_any (ops := [.ref a, .ref s4.heap.objs.size]) ht.typeIs (PyProof.Rows.slot_tuple_getitem.lookup) ?_ (by with_unfolding_all rfl)
  refine getItem_tuple_rev ht (Heap.IsSliceOf.new _ vl vu vs) pl pu ps ?_ (by rw [List.size_toArray]; omega)
  refine ⟨.ref _, _, I5.laid (t' := s4.toks) (o := .tup xs.reverse) (fun b ob q => Heap.get?_push_of_some _ q) (Nat.le_refl _) ?_, rfl, q _ (I5.hok.fresh (Nat.le_refl _))⟩
  exact ⟨by rw [List.length_reverse]; exact hz, _, by simpa using r.reverse, IsTup.new _ _⟩
def oRevA : D → Option D
  | .lst ds => some (.lst ds.reverse)
  | .tup ds => some (.tup ds.reverse)
  | _ => none
theorem se_revA {k : Nat} {p1 p2 p3 : Pos} (ha : SE X W cl a fa) : SE X W cl (.Subscript a (.Slice none none (some (.UnaryOp .USub (.Constant (.int 1) k p1) p2)) p3) pos) (dUn oRevA fa) := by
  obtain ⟨ta, pa, ha⟩ := ha
  refine ⟨_, PE.or (pe_revL pa) (pe_revT pa), fun Hv H σ ρ Q vw er pv => ?_⟩
  by_cases hd : ∃ ds, fa ρ = .ok (.tup ds)
  · obtain ⟨ds, hd⟩ := hd
    right
    refine ha Hv H σ ρ _ vw er (bindP pv fun x Hv1 H1 ex e1 pv1 v rv => ?_)
    rw [hd] at ex
    cases ex
    cases rv with
    | tup s z r => exact ⟨_, _, rfl, e1.vh.s.sqU s, new_tup e1.vh r.reverse (by rw [List.length_reverse]; exact z) fun v Hv' H' ex r => pv1 Hv' H' ex v r⟩
  · left
    refine ha Hv H σ ρ _ vw er (bindP pv fun x Hv1 H1 ex e1 pv1 v rv => ?_)
    obtain ⟨d, ed, q⟩ := ofO_ok pv1
    cases rv with
    | lst s z r =>
      cases ed
      exact ⟨_, _, rfl, .inl (.inl (e1.vh.s _ _ s rfl)), new_lst e1.vh r.reverse (by rw [List.length_reverse]; exact z) fun v Hv' H' ex r => q Hv' H' ex v r⟩
    | tup s z r => exact (hd ⟨_, ex⟩).elim
    | _ => cases ed
end
end Sm
namespace Sm
open PySem PySem.Spec L2
abbrev Zf := Addr → Option Obj
def Fz (o : Obj) : HO := .frz o (.own 0)
section
variable {Z : Zf} {H H' : Hp} {b : Addr} {o : Obj} {u : HO}
def Hld (Z : Zf) (H : Hp) : Prop := ∀ b o, Z b = some o → H b = some (Fz o)
theorem Hld.mono (f : Hld Z H) (s : Sam H H') : Hld Z H' := fun b o h => s b _ (f b o h) rfl
end
section
variable {Z : Zf} {H H' : Hp} {P : Program} {w : World} {outer : List PySem.Env} {s s' : Shared} {Q Q' : VK} {E E' : XK} {r : Result}
end
section
variable {Z : Zf} {cl cl' : Glb} {Hv H Hv' H' : Hp}
end
section
variable {Z : Zf} {K : PySem.W.Frag} {cl cl' : Glb} {Hv : Hp}
end
end Sm
namespace Sm
open PySem PySem.Spec L2
structure Gro (H H1 : Hp) : Prop where
  get : ∀ b o, H b = some o → isTbl o = false → H1 b = some o
  dom : ∀ b, H1 b = none → H b = none
  tt : ∀ b ps, H b = some (.tbl ps) → ∃ ps', H1 b = some (.tbl ps')
theorem Gro.ext {cl : Glb} {Hv H H1 : Hp} (g : Gro H H1) (vw : Vw cl Hv H) (t : LamX.Tabs cl.T H1) : Ext cl Hv H (lift Hv H H1) H1 := by
  refine ext_lift vw (Hv' := H1) ⟨g.get, g.get, Vw.refl t, fun b o h n => ?_, g.dom, g.tt⟩
  rw [h] at n; cases n
theorem Gro.new {H : Hp} {a : Addr} {o : HO} (n : H a = none) : Gro H (upd H a o) where
  get := fun b u e _ => (upd_ne (ne_of_none e n)).trans e
  dom := fun b e => (upd_none e).2
  tt := fun b ps e => ⟨ps, (upd_ne (ne_of_none e n)).trans e⟩
theorem Gro.tbl {H : Hp} {a : Addr} {ps ps' : Array Value} (h : H a = some (.tbl ps)) : Gro H (upd H a (.tbl ps')) where
  get := fun b u e n => by
    by_cases z : b = a
    · rw [z, h] at e; cases e; cases n
    · exact (upd_ne z).trans e
  dom := fun b e => (upd_none e).2
  tt := fun b qs e => by
    by_cases z : b = a
    · exact ⟨ps', by rw [z]; exact upd_same⟩
    · exact ⟨qs, (upd_ne z).trans e⟩
theorem Gro.trans {H H1 H2 : Hp} (a : Gro H H1) (b : Gro H1 H2) : Gro H H2 where
  get := fun c o e n => b.get c o (a.get c o e n) n
  dom := fun c e => a.dom c (b.dom c e)
  tt := fun c ps e => let ⟨_, e'⟩ := a.tt c ps e; b.tt c _ e'
abbrev lobj (F : NdefX.NF) (body : Expr) (pm ctv : Value) : Obj := PySem.W.kla_obj F.name F.qual F.params body F.scope F.cl pm F.c ctv
abbrev lamF (X : Cx) (params : Arguments) (scope : Scope) (c : Addr) : NdefX.NF := ⟨"<lambda>", X.env.qual ++ "<lambda>", params, [], scope, cloFrom X.env.cells scope.names [], c⟩
section
variable {X : Cx} {pins : List (Addr × Obj)} {σ : St} {H : Hp} {s : Shared}
end
def SL (X : Cx) (W : WX) (cl : Glb) (params : Arguments) (body : Expr) (scope : Scope) (es : List Expr) (g : DA) : Prop := ∃ t, PA X es t ∧ (∀ ρ ds, g ρ = .ok ds → ds.length + 1 = es.length) ∧
  ∀ (Hv H : Hp) (σ : St) (ρ : Env) (Q : List V → Hp → Prop), Vw cl Hv H → ER X.K cl Hv ρ σ →
    Pst cl W σ Hv H (fun Hv' H' ds => ∀ vs f c' pm ctv, Reps X.K cl Hv' vs ds → Hv' f = some (Fz (lobj (lamF X params scope c') body pm ctv)) → Hv' c' = some (LamX.CodeO c' (X.env.qual ++ "<lambda>")) → Q (vs ++ [.ref f]) H') (g ρ) → t σ H Q
section
variable {X : Cx} {W : WX} {cl : Glb} {params : Arguments} {body e : Expr} {scope : Scope} {lpos : Pos} {es : List Expr} {fa : DE} {g : DA}
end
end Sm
namespace Sm
open PySem PySem.Spec L2
section
variable {X : Cx} {W : WX} {cl : Glb} {pos p : Pos} {e : Expr} {es : List Expr} {g : DA} {k n i : Nat} {x : Str} {F : List D → R D} {t : TA}
end
end Sm
namespace Sm
open PySem PySem.Spec L2
section
variable {X : Cx} {W : WX} {cl : Glb} {params : Arguments} {body e : Expr} {scope : Scope} {pos p : Pos} {es : List Expr} {g : DA} {k kb m : Nat} {x : Str} {gA : Addr} {fr ps : List Str} {js : List Nat} {t : TA} {fb : DE} {FF : (List D → R D) → List D → R D}
end
end Sm
namespace Sm
open PySem PySem.Spec L2
end Sm
namespace Sm
open PySem PySem.Spec L2
structure RoomN (k : Nat) (A : Around) : Prop where
  dp : A.depth + 3 * k + 5 < recursionLimit
  un : A.units + 16 * k + 200 < cLine
theorem RoomN.of {k : Nat} {A : Around} (r : Room k A) : RoomN k A := ⟨r.dp, r.un⟩
theorem RoomN.mono {j k : Nat} {A : Around} (r : RoomN k A) (h : j ≤ k) : RoomN j A := ⟨by have := r.dp; omega, by have := r.un; omega⟩
theorem RoomN.u65 {k : Nat} {A : Around} (r : RoomN k A) : A.units + 65 < cLine := by have := r.un; omega
theorem RoomN.units {k : Nat} {A : Around} (r : RoomN k A) : A.units + 64 < cLine := by have := r.un; omega
theorem RoomN.mark {k : Nat} {A : Around} {v : Option Value} (r : RoomN k A) : RoomN k (A.mark v) := ⟨r.dp, r.un⟩
theorem RoomN.deeper {k : Nat} {A : Around} (r : RoomN (k + 1) A) (env : PySem.Env) : RoomN k (A.deeper env) :=
  ⟨by have := r.dp; show A.depth + 1 + 3 * k + 5 < _; omega, by have := r.un; show A.units + 3 + 16 * k + 200 < _; omega⟩
section
variable {X : Cx} {W : WX} {cl : Glb} {pos p : Pos} {a e e1 e2 : Expr} {es : List Expr} {g : DA} {k n i : Nat} {x : Str} {F : List D → R D} {fa f1 f2 : DE} {own : List Nat}
end
end Sm
namespace Sm
open PySem PySem.Spec L2
section
variable {X : Cx} {W : WX} {cl : Glb} {pos p : Pos} {a b c e : Expr} {es : List Expr} {fa fb : DE} {g : DA} {own : List Nat}
end
section
variable {K : PySem.W.Frag} {cl : Glb} {Hv0 H0 Hv H Hv' H' : Hp} {own : List Nat} {ρ : Env} {σ : St}
theorem ext_hid {p : Addr} {o : HO} {d : D} (vw : Vw cl Hv H) (hp : H p = none) (r : OwnO K cl Hv o d) : Ext cl Hv H Hv (upd H p o) := by
  have smh : Sam H (upd H p o) := .of (same_upd hp)
  have vw' : Vw cl Hv (upd H p o) := ⟨vw.s.trans smh, fun b h => vw.d b (upd_none h).2, fun b xs h => by
    by_cases z : b = p
    · subst z; rw [upd_same] at h; cases h; exact (r.noT.1 _ rfl).elim
    · rw [upd_ne z] at h; exact vw.t b xs h, fun b o' u h => by
    by_cases z : b = p
    · subst z; rw [upd_same] at h; cases h; exact (r.noT.2.1 _ _ rfl).elim
    · rw [upd_ne z] at h; exact vw.z b o' u h, vw.tab.ext (same_upd hp), fun b φ h => by
    by_cases z : b = p
    · subst z; rw [upd_same] at h; cases h; cases r
    · rw [upd_ne z] at h; exact vw.x b φ h⟩
  exact ⟨smh, Sam.refl _, vw', fun b o h n => n, fun b h => (upd_none h).2, fun b ps h => ⟨ps, by rw [upd_ne (ne_of_none h hp)]; exact h⟩⟩
theorem SR.hid {i : Nat} {p : Addr} {o : HO} {d : D} (s : SR K cl Hv0 H0 own ρ σ Hv H) (hp : H p = some o) (hv : Hv p = none) (h0 : H0 p = none) (r : OwnO K cl Hv o d) (hi : i < σ.length) (hq : ∀ j ∈ own, σ[j]? ≠ some (some (.ref p))) :
    SR K cl Hv0 H0 (i :: nots own i) (ρ.set i (some d)) (σ.set i (some (.ref p))) Hv H := by
  have mem : ∀ j, j ∈ i :: nots own i → j ≠ i → j ∈ own := fun j h n => by
    rcases List.mem_cons.mp h with z | z
    · exact absurd z n
    · exact (nots_mem j z).1
  refine ⟨s.ext, ?_, fun j d h1 h2 => ?_, fun j hj => ?_, fun j k q h1 h2 e1 e2 => ?_⟩
  · rw [List.length_set, List.length_set]; exact s.len
  · have hj : j ≠ i := fun z => h1 (by rw [z]; exact List.mem_cons_self)
    rw [List.getElem?_set_ne (Ne.symm hj)] at h2 ⊢
    exact s.sh j d (fun z => h1 (List.mem_cons_of_mem _ ((nots_or j z).resolve_right hj))) h2
  · by_cases hji : j = i
    · subst hji
      exact ⟨p, d, List.getElem?_set_self (by rw [s.len]; exact hi), List.getElem?_set_self hi, hv, h0, o, hp, r⟩
    · rw [List.getElem?_set_ne (Ne.symm hji), List.getElem?_set_ne (Ne.symm hji)]
      exact s.ow j (mem j hj hji)
  · have key : ∀ m, m ∈ i :: nots own i → m ≠ i → (σ.set i (some (.ref p)))[m]? = some (some (.ref p)) → False := fun m hm n e => by
      rw [List.getElem?_set_ne (Ne.symm n)] at e
      exact hq m (mem m hm n) e
    have self : (σ.set i (some (.ref p)))[i]? = some (some (.ref p)) := List.getElem?_set_self hi
    by_cases hj : j = i
    · by_cases hk : k = i
      · rw [hj, hk]
      · rw [hj, self] at e1
        cases e1
        exact (key k h2 hk e2).elim
    · by_cases hk : k = i
      · rw [hk, self] at e2
        cases e2
        exact (key j h1 hj e1).elim
      · rw [List.getElem?_set_ne (Ne.symm hj)] at e1
        rw [List.getElem?_set_ne (Ne.symm hk)] at e2
        exact s.ap j k q (mem j h1 hj) (mem k h2 hk) e1 e2
def RO (K : PySem.W.Frag) (cl : Glb) (Hv H : Hp) : List Bool → Hp → List V → List D → Prop
  | [], _, [], [] => True
  | false :: bs, H0, v :: vs, d :: ds => Rep K cl Hv v d ∧ RO K cl Hv H bs H0 vs ds
  | true :: bs, H0, v :: vs, d :: ds => ∃ p o H1, v = .ref p ∧ H0 p = none ∧ H1 p = some o ∧ (∀ b, H1 b = none → H0 b = none) ∧ Hv p = none ∧ H p = some o ∧ OwnO K cl Hv o d ∧ RO K cl Hv H bs H1 vs ds
  | _, _, _, _ => False
end
section
variable {X : Cx} {W : WX} {cl : Glb} {pos p : Pos} {a b c e : Expr} {es : List Expr} {fa fb : DE} {g g1 : DA} {own : List Nat} {fl : List Bool}
def SAo (X : Cx) (W : WX) (cl : Glb) (es : List Expr) (f : DA) (fl : List Bool) : Prop := ∃ t, PA X es t ∧ ∀ (Hv H : Hp) (σ : St) (ρ : Env) (Q : List V → Hp → Prop), Vw cl Hv H → ER X.K cl Hv ρ σ →
  Pst cl W σ Hv H (fun Hv' H' ds => ∀ vs, RO X.K cl Hv' H' fl H vs ds → Q vs H') (f ρ) → t σ H Q
theorem SAo.len : ∀ {fl : List Bool} {K : PySem.W.Frag} {Hv H H0 : Hp} {vs : List V} {ds : List D}, RO K cl Hv H fl H0 vs ds → vs.length = fl.length ∧ ds.length = fl.length
  | [], _, _, _, _, [], [], _ => ⟨rfl, rfl⟩
  | false :: fl, _, _, _, _, v :: vs, d :: ds, h => by have := SAo.len h.2; simp [this.1, this.2]
  | true :: fl, _, _, _, _, v :: vs, d :: ds, ⟨_, _, _, _, _, _, _, _, _, _, h⟩ => by have := SAo.len h; simp [this.1, this.2]
  | [], _, _, _, _, _ :: _, _, h => h.elim
  | [], _, _, _, _, [], _ :: _, h => h.elim
  | true :: _, _, _, _, _, [], _, h => h.elim
  | true :: _, _, _, _, _, _ :: _, [], h => h.elim
  | false :: _, _, _, _, _, [], _, h => h.elim
  | false :: _, _, _, _, _, _ :: _, [], h => h.elim
end
end Sm
namespace Sm
open PySem PySem.Spec L2
mutual
def cln : D → Bool
  | .fnv => false
  | .dct _ => false
  | .dcl _ => false
  | .tup xs => clns xs
  | .lst xs => clns xs
  | _ => true
def clns : List D → Bool
  | [] => true
  | x :: xs => cln x && clns xs
end
def IsDc : HO → Prop
  | .dK _ => True
  | .dT _ => True
  | .frz _ (.dK _) => True
  | .frz _ (.dT _) => True
  | _ => False
section
variable {K : PySem.W.Frag} {cl : Glb} {H Hv : Hp} {a : Addr} {x y : HO}
theorem sqL_tog {b : Addr} {xs : List V} (hy : H a = some y) (dy : IsDc y) (h : SqL K H b xs) : SqL K (upd H a x) b xs := by
  rcases h with (h | ⟨o, h⟩) | h
  · exact .inl (.inl (by rw [upd_ne fun z => by subst z; rw [hy] at h; cases h; exact dy]; exact h))
  · exact .inl (.inr ⟨o, by rw [upd_ne fun z => by subst z; rw [hy] at h; cases h; exact dy]; exact h⟩)
  · exact .inr h
mutual
theorem rep_tog (hy : H a = some y) (dy : IsDc y) : ∀ {v : V} {d : D}, Rep K cl H v d → cln d = true → Rep K cl (upd H a x) v d
  | _, _, .non, _ => .non
  | _, _, .bl b, _ => .bl b
  | _, _, .int b, _ => .int b
  | _, _, .str b, _ => .str b
  | _, _, .lst h n r, q => .lst (by rw [upd_ne fun z => by subst z; rw [hy] at h; cases h; exact dy]; exact h) n (reps_tog hy dy r (by simpa [cln] using q))
  | _, _, .tup h n r, q => .tup (by rw [upd_ne fun z => by subst z; rw [hy] at h; cases h; exact dy]; exact h) n (reps_tog hy dy r (by simpa [cln] using q))
  | _, _, .dctK h r, q => by simp [cln] at q
  | _, _, .dctT h n r, q => by simp [cln] at q
  | _, _, .dclK h r, q => by simp [cln] at q
  | _, _, .dclT h n r, q => by simp [cln] at q
  | _, _, .scr h n, _ => .scr (sqL_tog hy dy h) n
  | _, _, .scr0 h n, _ => .scr0 (sqL_tog hy dy h) n
  | _, _, .scr1 h n, _ => .scr1 (sqL_tog hy dy h) n
  | _, _, .exc h, _ => .exc (by rw [upd_ne fun z => by subst z; rw [hy] at h; cases h; exact dy]; exact h)
  | _, _, .fnv h, q => by simp [cln] at q
  | _, _, .obj h, _ => .obj h
theorem reps_tog (hy : H a = some y) (dy : IsDc y) : ∀ {v : List V} {d : List D}, Reps K cl H v d → clns d = true → Reps K cl (upd H a x) v d
  | _, _, .nil, _ => .nil
  | _, _, .cons r t, q => by
    simp only [clns, Bool.and_eq_true] at q
    exact .cons (rep_tog hy dy r q.1) (reps_tog hy dy t q.2)
end
def clnp (es : List (D × D)) : Bool := es.all fun e => cln e.2
theorem repsK_tog (hy : H a = some y) (dy : IsDc y) : ∀ {v : List (L2.Key × V)} {d : List (D × D)}, RepsK K cl H v d → clnp d = true → RepsK K cl (upd H a x) v d
  | _, _, .nil, _ => .nil
  | _, _, .cons r t, q => by
    simp only [clnp, List.all_cons, Bool.and_eq_true] at q
    exact .cons (rep_tog hy dy r q.1) (repsK_tog hy dy t q.2)
theorem repsT_tog (hy : H a = some y) (dy : IsDc y) : ∀ {v : List (List L2.Key × V)} {d : List (D × D)}, RepsT K cl H v d → clnp d = true → RepsT K cl (upd H a x) v d
  | _, _, .nil, _ => .nil
  | _, _, .cons r t, q => by
    simp only [clnp, List.all_cons, Bool.and_eq_true] at q
    exact .cons (rep_tog hy dy r q.1) (repsT_tog hy dy t q.2)
theorem tabs_tog {T : List (Addr × Str)} (t : LamX.Tabs T H) (hy : H a = some y) (dy : IsDc y) : LamX.Tabs T (upd H a x) := fun q hq => by
  obtain ⟨ps, g1, g2, g3⟩ := t q hq
  refine ⟨ps, ?_, g2, fun pos cv hc => ?_⟩
  · rw [upd_ne fun z => by rw [z, hy] at g1; cases g1; exact dy]; exact g1
  · obtain ⟨c, ec, hc'⟩ := g3 pos cv hc
    exact ⟨c, ec, by rw [upd_ne fun z => by subst z; rw [hy] at hc'; cases hc'; exact dy]; exact hc'⟩
theorem vw_tog (vw : Vw cl Hv H) (hy : H a = some y) (hv : Hv a = some y) (dy : IsDc y) (dx : IsDc x) : Vw cl (upd Hv a x) (upd H a x) := by
  refine ⟨fun b o h n => ?_, fun b h => ?_, fun b xs h => ?_, fun b o u h => ?_, tabs_tog vw.tab hy dy, fun b φ h => ?_⟩
  · by_cases z : b = a
    · subst z; rw [upd_same] at h ⊢; exact h
    · rw [upd_ne z] at h ⊢; exact vw.s b o h n
  · obtain ⟨z, h⟩ := upd_none h
    rw [upd_ne z]; exact vw.d b h
  · by_cases z : b = a
    · subst z; rw [upd_same] at h ⊢; exact h
    · rw [upd_ne z] at h ⊢; exact vw.t b xs h
  · by_cases z : b = a
    · subst z; rw [upd_same] at h ⊢; exact h
    · rw [upd_ne z] at h ⊢; exact vw.z b o u h
  · by_cases z : b = a
    · subst z; rw [upd_same] at h ⊢; exact h
    · rw [upd_ne z] at h ⊢; exact vw.x b φ h
theorem ext_tog {Hv' H' : Hp} (vw : Vw cl Hv H) (hy : H a = some y) (hv : Hv a = some y) (ty : isTbl x = false) (dy : IsDc y) (dx : IsDc x) (e : Ext cl (upd Hv a x) (upd H a x) Hv' H') : Ext cl Hv H (upd Hv' a y) (upd H' a y) := by
  have h1 : H' a = some x := e.hh a _ upd_same ty
  have h2 : Hv' a = some x := e.vv a _ upd_same ty
  refine ⟨fun b o h n => ?_, fun b o h n => ?_, vw_tog e.vh h1 h2 dx dy, fun b o h n => ?_, fun b h => ?_, fun b ps h => ?_⟩
  · by_cases z : b = a
    · subst z; rw [hy] at h; rw [upd_same]; exact h
    · rw [upd_ne z]; exact e.hh b o (by rw [upd_ne z]; exact h) n
  · by_cases z : b = a
    · subst z; rw [hv] at h; rw [upd_same]; exact h
    · rw [upd_ne z]; exact e.vv b o (by rw [upd_ne z]; exact h) n
  · have z : b ≠ a := fun z => by subst z; rw [hv] at n; cases n
    rw [upd_ne z]; exact e.old b o (by rw [upd_ne z]; exact h) (by rw [upd_ne z]; exact n)
  · obtain ⟨z, h⟩ := upd_none h
    have := e.dom b h
    rw [upd_ne z] at this; exact this
  · have z : b ≠ a := fun z => by subst z; rw [hy] at h; cases h; exact dy
    rw [upd_ne z]; exact e.tt b ps (by rw [upd_ne z]; exact h)
end
def keepC (o : Option D) : Option D := match o with | some d => if cln d then some d else none | none => none
def lockE (i : Nat) (es : List (D × D)) (ρ : Env) : Env := (ρ.map keepC).set i (some (.dcl es))
def dLock (i : Nat) (f : DE) : DE := fun ρ => match ρ[i]? with
  | some (some (.dct es)) => if clnp es then match f (lockE i es ρ) with
    | .ok d => if cln d then .ok d else .bad
    | _ => .bad else .bad
  | _ => .bad
section
variable {X : Cx} {W : WX} {cl : Glb} {pos p : Pos} {a b c e tg : Expr} {es : List Expr} {fa fb f : DE}
theorem keepC_get {ρ : Env} {j : Nat} {d : D} (h : (ρ.map keepC)[j]? = some (some d)) : ρ[j]? = some (some d) ∧ cln d = true := by
  rw [List.getElem?_map, Option.map_eq_some_iff] at h
  obtain ⟨o, h1, h2⟩ := h
  cases o with
  | none => simp [keepC] at h2
  | some d' =>
    simp only [keepC] at h2
    split at h2
    · cases h2; exact ⟨h1, by assumption⟩
    · cases h2
theorem lock_run (i : Nat) {t : TE} (ht : RunE X W cl f t) : RunE X W cl (dLock i f) (tLockE t) := by
  intro Hv H σ ρ Q vw er pv
  unfold dLock at pv
  split at pv
  · rename_i es hi
    split at pv
    · rename_i hc
      split at pv
      · rename_i d hd
        split at pv
        · rename_i hcd
          obtain ⟨v, hs, rv⟩ := er.get i _ hi
          have hil : i < (ρ.map keepC).length := by rw [List.length_map]; exact (List.getElem?_eq_some_iff.mp hi).1
          have main : ∀ (ad : Addr) (u : HO), v = .ref ad → Hv ad = some u → Mut (some u) → IsDc u → isTbl u = false → (∀ od, IsDc (.frz od u)) → (∀ od, Rep X.K cl (upd Hv ad (.frz od u)) (.ref ad) (.dcl es)) → tLockE t σ H Q := by
            intro ad u ev hv mu du tu df rl
            subst ev
            have hH := vw.s _ _ hv tu
            refine ⟨ad, u, hH, mu, fun od => ?_⟩
            have vw1 := vw_tog (x := .frz od u) vw hH hv du (df od)
            have er1 : ER X.K cl (upd Hv ad (.frz od u)) (lockE i es ρ) σ := ⟨fun j dj hj => by
              unfold lockE at hj
              by_cases hji : j = i
              · subst hji
                rw [List.getElem?_set_self hil] at hj
                cases hj
                exact ⟨_, hs, rl od⟩
              · rw [List.getElem?_set_ne (Ne.symm hji)] at hj
                obtain ⟨h1, h2⟩ := keepC_get hj
                obtain ⟨w, h3, h4⟩ := er.get j dj h1
                exact ⟨w, h3, rep_tog hv du h4 h2⟩, by unfold lockE; rw [List.length_set, List.length_map]; exact er.len⟩
            refine ht _ _ σ _ _ vw1 er1 ?_
            rw [hd]
            intro Hv' H' ex w rw'
            have hv' : Hv' ad = some (.frz od u) := ex.vv ad _ upd_same rfl
            refine ⟨ex.hh ad _ upd_same rfl, ?_⟩
            exact pv _ _ (ext_tog vw hH hv rfl du (df od) ex) w (rep_tog hv' (df od) rw' hcd)
          cases rv with
          | dctK h r => exact main _ _ rfl h trivial trivial rfl (fun _ => trivial) fun od => .dclK upd_same (repsK_tog h trivial r hc)
          | dctT h n r => exact main _ _ rfl h trivial trivial rfl (fun _ => trivial) fun od => .dclT upd_same n (repsT_tog h trivial r hc)
        · exact pv.elim
      · exact pv.elim
    · exact pv.elim
  · exact pv.elim
theorem se_lock (i : Nat) (h : SE X W cl e f) : SE X W cl e (dLock i f) := by
  obtain ⟨t, pt, ht⟩ := h
  exact ⟨_, pe_lock pt, lock_run i ht⟩
def kLen : D → Bool | .tup ks => decide (ks.length ≤ 1000) | _ => true
def itemsL : D → Option (List D)
  | .dcl es => if es.length ≤ 1000 ∧ es.all (fun e => kLen e.1) = true then some (es.map (·.1)) else none
  | _ => none
def dItemsL (f : DE) : DI := fun ρ => (f ρ).bind fun d => ofO (itemsL d)
theorem repsK_key {K : PySem.W.Frag} {H : Hp} : ∀ {kvs : List (L2.Key × V)} {es : List (D × D)} {i : Nat} {k : L2.Key} {v : V} {d : D}, RepsK K cl H kvs es → kvs[i]? = some (k, v) → (es.map (·.1))[i]? = some d → Rep K cl H (kV k) d
  | _, _, _, _, _, _, .nil, h, _ => by simp at h
  | _, _, 0, _, _, _, .cons r t, h, h2 => by
    simp at h h2
    rw [← h.1, ← h2]; exact .int _
  | _, _, i + 1, k, v, d, .cons r t, h, h2 => repsK_key (i := i) t (by simpa using h) (by simpa using h2)
theorem repsT_key {K : PySem.W.Frag} {H : Hp} : ∀ {kvs : List (List L2.Key × V)} {es : List (D × D)} {i : Nat} {k : List L2.Key} {v : V} {d : D}, RepsT K cl H kvs es → kvs[i]? = some (k, v) → (es.map (·.1))[i]? = some d → ∃ j : List Int, k = j.map Sum.inl ∧ d = .tup (j.map D.int)
  | _, _, _, _, _, _, .nil, h, _ => by simp at h
  | _, _, 0, _, _, _, .cons r t, h, h2 => by
    simp at h h2
    exact ⟨_, h.1.symm, h2.symm⟩
  | _, _, i + 1, k, v, d, .cons r t, h, h2 => repsT_key (i := i) t (by simpa using h) (by simpa using h2)
theorem RepsT.length {K : PySem.W.Frag} {H : Hp} : ∀ {kvs : List (List L2.Key × V)} {es : List (D × D)}, RepsT K cl H kvs es → kvs.length = es.length
  | _, _, .nil => rfl
  | _, _, .cons _ t => by rw [List.length_cons, List.length_cons, RepsT.length t]
theorem it_keysK {K : PySem.W.Frag} {Hv : Hp} {d : Addr} {o : Obj} {kvs : List (L2.Key × V)} {es : List (D × D)} (h : Hv d = some (.frz o (.dK kvs))) (r : RepsK K cl Hv kvs es) : ItOk K cl (Itk d o kvs) Hv (es.map (·.1)) where
  go := fun i Hv' H sm vw hi => ⟨vw.s _ _ (sm _ _ h rfl) rfl, by rw [r.length]; simpa using hi⟩
  stop := fun i Hv' H sm vw hi => ⟨vw.s _ _ (sm _ _ h rfl) rfl, by rw [r.length, hi]; simp⟩
  yld := fun i Hv' H sm vw dd hi x H' ⟨e1, k, v, e2, e3⟩ => by
    subst e1 e3
    exact ⟨Hv', Ext.refl vw, (repsK_key r e2 hi).mono sm⟩
theorem it_keysT {K : PySem.W.Frag} {Hv : Hp} {d : Addr} {o : Obj} {kvs : List (List L2.Key × V)} {es : List (D × D)} (h : Hv d = some (.frz o (.dT kvs))) (hk : es.all (fun e => kLen e.1) = true) (r : RepsT K cl Hv kvs es) : ItOk K cl (Itkt d o kvs) Hv (es.map (·.1)) where
  go := fun i Hv' H sm vw hi => ⟨vw.s _ _ (sm _ _ h rfl) rfl, by rw [r.length]; simpa using hi⟩
  stop := fun i Hv' H sm vw hi => ⟨vw.s _ _ (sm _ _ h rfl) rfl, by rw [r.length, hi]; simp⟩
  yld := fun i Hv' H sm vw dd hi x H' ⟨e1, k, v, q, e2, e3, e4⟩ => by
    subst e1 e3
    obtain ⟨j, rfl, rfl⟩ := repsT_key r e2 hi
    refine ⟨Hv', Ext.refl vw, .tup (vw.t _ _ e4) ?_ (by rw [kV_ints]; exact reps_ints j)⟩
    have hm := List.mem_of_getElem? hi
    obtain ⟨e, he, ee⟩ := List.mem_map.mp hm
    have := List.all_eq_true.mp hk e he
    rw [ee] at this
    simp only [kLen, List.length_map, decide_eq_true_eq] at this
    rw [List.length_map, List.length_map]
    exact Nat.le_of_lt (small1000 this)
theorem si_dictL (ha : SE X W cl a fa) : SI X W cl tg a (dItemsL fa) := by
  obtain ⟨ta, pa, ha⟩ := ha
  refine ⟨_, pi_keys pa, fun Hv H σ ρ Q vw er pv => ?_⟩
  refine ha Hv H σ ρ _ vw er (bindP pv fun x Hv1 H1 ex e1 pv1 v rv => ?_)
  obtain ⟨ds, ed, q⟩ := ofO_ok pv1
  cases x with
  | dcl es => ?_
  | _ => cases ed
  simp only [itemsL] at ed
  split at ed
  · rename_i hok
    cases ed
    have z : (es.map (·.1)).length ≤ sizeLine := by rw [List.length_map]; exact Nat.le_of_lt (small1000 hok.1)
    cases rv with
    | dclK h r => exact ⟨_, _, rfl, .inl ⟨_, e1.vh.s _ _ h rfl, q _ _ (Ext.refl e1.vh) z _ (it_keysK h r)⟩⟩
    | dclT h n r => exact ⟨_, _, rfl, .inr ⟨_, e1.vh.s _ _ h rfl, q _ _ (Ext.refl e1.vh) z _ (it_keysT h hok.2 r)⟩⟩
  · cases ed
end
end Sm
namespace Sm
open PySem PySem.Spec L2
section
variable {X : Cx} {W : WX} {cl : Glb} {pos : Pos} {e elt tg iter : Expr} {ifs : List Expr} {scope : Scope} {own : List (Str × Nat)} {pt : Pat} {it : DI} {t : DT} {f : DE} {ow ow1 : List Nat}
end
end Sm
namespace Sm
open PySem PySem.Spec L2
structure Pl where
  own : D
  now : D
  past : List D
  later : List D
abbrev PLS := List Pl
inductive RP (α : Type) where
  | ok (a : α) (ps : PLS) | err (c : Nat) (ps : PLS) | bad
def RP.bind {α β : Type} : RP α → (α → PLS → RP β) → RP β
  | .ok a ps, k => k a ps
  | .err c ps, _ => .err c ps
  | .bad, _ => .bad
def R.up {α : Type} (ps : PLS) : R α → RP α
  | .ok a => .ok a ps
  | .err c => .err c ps
  | .bad => .bad
structure Ft where
  x : Addr
  dx : Addr
  p : Addr
  l : Addr
def Ft.all (f : Ft) : List Addr := [f.x, f.dx, f.p, f.l]
def feet (F : List Ft) : List Addr := F.flatMap Ft.all
def obA (F : List Ft) : Nat → Addr → Prop := fun k a => (F[k]?).map Ft.x = some a
def Glb.at (cl : Glb) (F : List Ft) : Glb := { cl with ob := obA F }
theorem mem_feet {F : List Ft} {b : Addr} : b ∈ feet F ↔ ∃ f ∈ F, b ∈ f.all := by unfold feet; exact List.mem_flatMap
section
variable {K : PySem.W.Frag} {cl : Glb} {F F' : List Ft}
theorem Vw.to {cl' : Glb} {Hv H : Hp} (v : Vw cl Hv H) (h : cl'.T = cl.T) : Vw cl' Hv H := ⟨v.s, v.d, v.t, v.z, by rw [h]; exact v.tab, v.x⟩
theorem Vw.at {Hv H : Hp} (v : Vw cl Hv H) : Vw (cl.at F) Hv H := v.to rfl
theorem Vw.un {Hv H : Hp} (v : Vw (cl.at F) Hv H) : Vw cl Hv H := v.to rfl
mutual
theorem Rep.ob {H : Hp} (h : ∀ k a, obA F k a → obA F' k a) : ∀ {v : V} {d : D}, Rep K (cl.at F) H v d → Rep K (cl.at F') H v d
  | _, _, .non => .non
  | _, _, .bl b => .bl b
  | _, _, .int i => .int i
  | _, _, .str x => .str x
  | _, _, .lst e n r => .lst e n (Reps.ob h r)
  | _, _, .scr e n => .scr e n
  | _, _, .scr0 e n => .scr0 e n
  | _, _, .tup e n r => .tup e n (Reps.ob h r)
  | _, _, .dctK e r => .dctK e (RepsK.ob h r)
  | _, _, .dctT e n r => .dctT e n (RepsT.ob h r)
  | _, _, .exc e => .exc e
  | _, _, .fnv e => .fnv e
  | _, _, .obj e => .obj (h _ _ e)
  | _, _, .dclK e r => .dclK e (RepsK.ob h r)
  | _, _, .dclT e n r => .dclT e n (RepsT.ob h r)
  | _, _, .scr1 e n => .scr1 e n
theorem Reps.ob {H : Hp} (h : ∀ k a, obA F k a → obA F' k a) : ∀ {v : List V} {d : List D}, Reps K (cl.at F) H v d → Reps K (cl.at F') H v d
  | _, _, .nil => .nil
  | _, _, .cons r t => .cons (Rep.ob h r) (Reps.ob h t)
theorem RepsK.ob {H : Hp} (h : ∀ k a, obA F k a → obA F' k a) : ∀ {v : List (L2.Key × V)} {d : List (D × D)}, RepsK K (cl.at F) H v d → RepsK K (cl.at F') H v d
  | _, _, .nil => .nil
  | _, _, .cons r t => .cons (Rep.ob h r) (RepsK.ob h t)
theorem RepsT.ob {H : Hp} (h : ∀ k a, obA F k a → obA F' k a) : ∀ {v : List (List L2.Key × V)} {d : List (D × D)}, RepsT K (cl.at F) H v d → RepsT K (cl.at F') H v d
  | _, _, .nil => .nil
  | _, _, .cons r t => .cons (Rep.ob h r) (RepsT.ob h t)
end
end
structure ExtE (cl : Glb) (F : List Ft) (Hv H : Hp) (F' : List Ft) (Hv' H' : Hp) : Prop where
  hh : ∀ b o, H b = some o → isTbl o = false → b ∉ feet F → H' b = some o
  vv : Sam Hv Hv'
  vh : Vw cl Hv' H'
  old : ∀ b o, H b = some o → Hv b = none → Hv' b = none
  dom : ∀ b, H' b = none → H b = none
  tt : ∀ b ps, H b = some (.tbl ps) → ∃ ps', H' b = some (.tbl ps')
  ob : ∀ k a, obA F k a → obA F' k a
  ft : ∀ b, b ∈ feet F' → b ∈ feet F ∨ H b = none
section
variable {K : PySem.W.Frag} {cl : Glb} {F F1 F2 F' : List Ft} {Hv H Hv1 H1 Hv2 H2 Hv' H' : Hp}
theorem ExtE.refl (v : Vw cl Hv H) : ExtE cl F Hv H F Hv H := ⟨fun _ _ h _ _ => h, Sam.refl _, v, fun _ _ _ h => h, fun _ h => h, fun _ ps h => ⟨ps, h⟩, fun _ _ h => h, fun _ h => .inl h⟩
theorem ExtE.trans (a : ExtE cl F Hv H F1 Hv1 H1) (b : ExtE cl F1 Hv1 H1 F2 Hv2 H2) : ExtE cl F Hv H F2 Hv2 H2 where
  hh := fun c o h n hf => b.hh c o (a.hh c o h n hf) n fun z => (a.ft c z).elim hf fun y => by rw [h] at y; cases y
  vv := a.vv.trans b.vv
  vh := b.vh
  old := fun c o h n => by
    cases q : H1 c with
    | none => rw [a.dom c q] at h; cases h
    | some u => exact b.old c u q (a.old c o h n)
  dom := fun c h => a.dom c (b.dom c h)
  tt := fun c ps h => let ⟨ps', h'⟩ := a.tt c ps h; b.tt c ps' h'
  ob := fun k x h => b.ob k x (a.ob k x h)
  ft := fun c h => by
    rcases b.ft c h with h | h
    · exact a.ft c h
    · exact .inr (a.dom c h)
theorem ExtE.of (e : Ext (cl.at F) Hv H Hv' H') : ExtE cl F Hv H F Hv' H' := ⟨fun b o h n _ => e.hh b o h n, e.vv, e.vh.un, e.old, e.dom, e.tt, fun _ _ h => h, fun _ h => .inl h⟩
theorem Rep.ee {v : V} {d : D} (r : Rep K (cl.at F) Hv v d) (e : ExtE cl F Hv H F' Hv' H') : Rep K (cl.at F') Hv' v d := (r.ob e.ob).mono e.vv
theorem Reps.ee {v : List V} {d : List D} (r : Reps K (cl.at F) Hv v d) (e : ExtE cl F Hv H F' Hv' H') : Reps K (cl.at F') Hv' v d := (r.ob e.ob).mono e.vv
theorem ER.ee {ρ : Env} {σ : St} (r : ER K (cl.at F) Hv ρ σ) (e : ExtE cl F Hv H F' Hv' H') : ER K (cl.at F') Hv' ρ σ := ⟨fun i d h => let ⟨v, h1, h2⟩ := r.get i d h; ⟨v, h1, h2.ee e⟩, r.len⟩
end
structure PlAt (K : PySem.W.Frag) (cl : Glb) (C : Addr) (Hv H : Hp) (f : Ft) (pl : Pl) : Prop where
  ins : ∃ vo vn, H f.x = some (.ins C f.dx [("own", vo), ("now", vn), ("past", .ref f.p), ("later", .ref f.l)]) ∧ Rep K cl Hv vo pl.own ∧ Rep K cl Hv vn pl.now
  own : H f.dx = some (.own f.x)
  past : ∃ vs, H f.p = some (.lst vs) ∧ vs.length ≤ sizeLine ∧ Reps K cl Hv vs pl.past
  later : ∃ vs, H f.l = some (.lst vs) ∧ vs.length ≤ sizeLine ∧ Reps K cl Hv vs pl.later
  hid : ∀ a ∈ f.all, Hv a = none
structure Pls (K : PySem.W.Frag) (cl : Glb) (C : Addr) (F : List Ft) (ps : PLS) (Hv H : Hp) : Prop where
  len : F.length = ps.length
  pl : ∀ (k : Nat) f q, F[k]? = some f → ps[k]? = some q → PlAt K (cl.at F) C Hv H f q
  nd : (feet F).Nodup
  ob0 : ∀ k a, cl.ob k a → obA F k a
section
variable {K : PySem.W.Frag} {cl : Glb} {C : Addr} {F F1 F2 F' : List Ft} {Hv H Hv1 H1 Hv2 H2 Hv' H' : Hp} {ps : PLS}
theorem PlAt.full {f : Ft} {q : Pl} (h : PlAt K cl C Hv H f q) : ∀ a ∈ f.all, ∃ o, H a = some o ∧ isTbl o = false := fun a ha => by
  obtain ⟨vo, vn, h1, _⟩ := h.ins
  obtain ⟨vs, h2, _⟩ := h.past
  obtain ⟨us, h3, _⟩ := h.later
  simp only [Ft.all, List.mem_cons, List.not_mem_nil, or_false] at ha
  rcases ha with rfl | rfl | rfl | rfl
  · exact ⟨_, h1, rfl⟩
  · exact ⟨_, h.own, rfl⟩
  · exact ⟨_, h2, rfl⟩
  · exact ⟨_, h3, rfl⟩
theorem PlAt.mono {f : Ft} {q : Pl} (h : PlAt K cl C Hv H f q) (hs : ∀ a ∈ f.all, ∀ o, H a = some o → isTbl o = false → H' a = some o) (hv : Sam Hv Hv') (hn : ∀ a ∈ f.all, Hv' a = none) : PlAt K cl C Hv' H' f q := by
  obtain ⟨vo, vn, h1, r1, r2⟩ := h.ins
  obtain ⟨vs, h2, z2, r3⟩ := h.past
  obtain ⟨us, h3, z3, r4⟩ := h.later
  exact ⟨⟨vo, vn, hs f.x (by simp [Ft.all]) _ h1 rfl, r1.mono hv, r2.mono hv⟩, hs f.dx (by simp [Ft.all]) _ h.own rfl, ⟨vs, hs f.p (by simp [Ft.all]) _ h2 rfl, z2, r3.mono hv⟩, ⟨us, hs f.l (by simp [Ft.all]) _ h3 rfl, z3, r4.mono hv⟩, hn⟩
theorem Pls.get (h : Pls K cl C F ps Hv H) {k : Nat} {f : Ft} (hf : F[k]? = some f) : ∃ q, ps[k]? = some q ∧ PlAt K (cl.at F) C Hv H f q := by
  have hk := (List.getElem?_eq_some_iff.mp hf).1
  have hk2 : k < ps.length := by rw [← h.len]; exact hk
  have : ps[k]? = some ps[k] := by simp [hk2]
  exact ⟨_, this, h.pl k f _ hf this⟩
theorem Pls.foot (h : Pls K cl C F ps Hv H) {b : Addr} (hb : b ∈ feet F) : Hv b = none ∧ ∃ o, H b = some o ∧ isTbl o = false := by
  obtain ⟨f, hf, hb⟩ := mem_feet.mp hb
  obtain ⟨k, hk⟩ := List.getElem?_of_mem hf
  obtain ⟨q, _, hp⟩ := h.get hk
  exact ⟨hp.hid b hb, hp.full b hb⟩
theorem Pls.ext (h : Pls K cl C F ps Hv H) (e : Ext (cl.at F) Hv H Hv' H') : Pls K cl C F ps Hv' H' := ⟨h.len, fun k f q hf hq => (h.pl k f q hf hq).mono (fun a _ o ha n => e.hh a o ha n) e.vv (fun a ha => by
  obtain ⟨o, ho, _⟩ := (h.pl k f q hf hq).full a ha
  exact e.old a o ho ((h.pl k f q hf hq).hid a ha)), h.nd, h.ob0⟩
theorem Pls.at_obj (h : Pls K cl C F ps Hv H) {k : Nat} {a : Addr} (ho : (cl.at F).ob k a) : ∃ f q, F[k]? = some f ∧ f.x = a ∧ ps[k]? = some q ∧ PlAt K (cl.at F) C Hv H f q := by
  have ho : (F[k]?).map Ft.x = some a := ho
  rw [Option.map_eq_some_iff] at ho
  obtain ⟨f, hf, hx⟩ := ho
  obtain ⟨q, hq, hp⟩ := h.get hf
  exact ⟨f, q, hf, hx, hq, hp⟩
end
section
variable (K : PySem.W.Frag) (cl : Glb) (C : Addr) (W : WX) (σ : St)
def PstE {α : Type} (F : List Ft) (Hv H : Hp) (T : List Ft → Hp → Hp → α → Prop) : RP α → Prop
  | .ok a ps => ∀ F' Hv' H', ExtE cl F Hv H F' Hv' H' → Pls K cl C F' ps Hv' H' → T F' Hv' H' a
  | .err c ps => ∀ F' Hv' H', ExtE cl F Hv H F' Hv' H' → Pls K cl C F' ps Hv' H' → W (.ref (cl.c c)) none σ H'
  | .bad => False
end
section
variable {K : PySem.W.Frag} {cl : Glb} {C : Addr} {W : WX} {σ : St} {F F1 : List Ft} {Hv H Hv1 H1 : Hp} {α β : Type}
theorem PstE.ext {T : List Ft → Hp → Hp → α → Prop} {r : RP α} (h : PstE K cl C W σ F Hv H T r) (e : ExtE cl F Hv H F1 Hv1 H1) : PstE K cl C W σ F1 Hv1 H1 T r := by
  cases r with
  | ok d ps => exact fun F' Hv' H' e' => h F' Hv' H' (e.trans e')
  | err c ps => exact fun F' Hv' H' e' => h F' Hv' H' (e.trans e')
  | bad => exact h
theorem up_pst {T : List Ft → Hp → Hp → α → Prop} {r : R α} {ps : PLS} (pl : Pls K cl C F ps Hv H) (h : PstE K cl C W σ F Hv H T (r.up ps)) : Pst (cl.at F) W σ Hv H (fun Hv' H' a => T F Hv' H' a) r := by
  cases r with
  | ok d => exact fun Hv' H' e => h F Hv' H' (.of e) (pl.ext e)
  | err c => exact fun Hv' H' e => h F Hv' H' (.of e) (pl.ext e)
  | bad => exact h
end
def TVe (K : PySem.W.Frag) (cl : Glb) (Q : VK) : List Ft → Hp → Hp → D → Prop := fun F Hv H d => ∀ v, Rep K (cl.at F) Hv v d → Q v H
def TBe (Q : Bool → Hp → Prop) : List Ft → Hp → Hp → Bool → Prop := fun _ _ H b => Q b H
abbrev EE := Env → PLS → RP D
abbrev EA := Env → PLS → RP (List D)
abbrev ET := Env → PLS → RP Bool
section
variable (X : Cx) (W : WX) (cl : Glb) (C : Addr)
def RunEe (f : EE) (t : TE) : Prop := ∀ (F : List Ft) (Hv H : Hp) (σ : St) (ρ : Env) (ps : PLS) (Q : VK), Vw cl Hv H → Pls X.K cl C F ps Hv H → ER X.K (cl.at F) Hv ρ σ → PstE X.K cl C W σ F Hv H (TVe X.K cl Q) (f ρ ps) → t σ H Q
def RunTe (f : ET) (t : TT) : Prop := ∀ (F : List Ft) (Hv H : Hp) (σ : St) (ρ : Env) (ps : PLS) (Q : Bool → Hp → Prop), Vw cl Hv H → Pls X.K cl C F ps Hv H → ER X.K (cl.at F) Hv ρ σ → PstE X.K cl C W σ F Hv H (TBe Q) (f ρ ps) → t σ H Q
def SEe (e : Expr) (f : EE) : Prop := ∃ t, PE X e t ∧ RunEe X W cl C f t
def STe (e : Expr) (f : ET) : Prop := ∃ t, L2.PT X e t ∧ RunTe X W cl C f t
def SWe (e : Expr) (f : ET) : Prop := ∃ t, PW X e t ∧ RunTe X W cl C f t
end
section
variable {X : Cx} {W : WX} {cl : Glb} {C : Addr} {pos p : Pos} {a b c e : Expr} {es : List Expr} {fa fb fc : EE} {g : EA}
theorem SWe.st {f : ET} (h : SWe X W cl C e f) : STe X W cl C e f := by
  obtain ⟨t, pt, h⟩ := h
  exact ⟨t, pt.pt, h⟩
end
end Sm
namespace Sm
open PySem PySem.Spec L2
inductive OE where
  | nx (ρ : Env) (ps : PLS) | ret (d : D) (ps : PLS) | err (ρ : Env) (c : Nat) (ps : PLS) | bad
abbrev DSe := Env → PLS → OE
def OE.seq : OE → DSe → OE
  | .nx ρ ps, k => k ρ ps
  | .ret d ps, _ => .ret d ps
  | .err ρ c ps, _ => .err ρ c ps
  | .bad, _ => .bad
def RP.to {α : Type} (ρ : Env) : RP α → (α → PLS → OE) → OE
  | .ok a ps, k => k a ps
  | .err c ps, _ => .err ρ c ps
  | .bad, _ => .bad
def O.up (ps : PLS) : O → OE
  | .nx ρ => .nx ρ ps
  | .ret d => .ret d ps
  | .err ρ c => .err ρ c ps
  | .bad => .bad
structure SRe (K : PySem.W.Frag) (cl : Glb) (C : Addr) (F0 : List Ft) (Hv0 H0 : Hp) (own : List Nat) (ρ : Env) (σ : St) (ps : PLS) (F : List Ft) (Hv H : Hp) : Prop where
  ext : ExtE cl F0 Hv0 H0 F Hv H
  pls : Pls K cl C F ps Hv H
  len : ρ.length = σ.length
  sh : ∀ (i : Nat) d, i ∉ own → ρ[i]? = some (some d) → ∃ v, σ[i]? = some (some v) ∧ Rep K (cl.at F) Hv v d
  ow : ∀ i, i ∈ own → ∃ p d, ρ[i]? = some (some d) ∧ σ[i]? = some (some (.ref p)) ∧ Hv p = none ∧ H0 p = none ∧ p ∉ feet F ∧ OwnR K (cl.at F) Hv H p d
  ap : ∀ (i j : Nat) p, i ∈ own → j ∈ own → σ[i]? = some (some (.ref p)) → σ[j]? = some (some (.ref p)) → i = j
def IsOw (own : List Nat) (σ : St) (b : Addr) : Prop := ∃ i, i ∈ own ∧ σ[i]? = some (some (.ref b))
open Classical in
noncomputable def lessH (own : List Nat) (σ : St) (H : Hp) : Hp := fun b => if IsOw own σ b then none else H b
section
variable {K : PySem.W.Frag} {cl : Glb} {C : Addr} {F0 F F' : List Ft} {Hv0 H0 Hv H Hv' H' : Hp} {own own' : List Nat} {ρ ρ' : Env} {σ σ' : St} {ps ps' : PLS}
theorem less_ow {b : Addr} (h : IsOw own σ b) : lessH own σ H b = none := if_pos h
theorem less_no {b : Addr} (h : ¬ IsOw own σ b) : lessH own σ H b = H b := if_neg h
theorem less_some {b : Addr} {o : HO} (h : lessH own σ H b = some o) : ¬ IsOw own σ b ∧ H b = some o := by
  by_cases z : IsOw own σ b
  · rw [less_ow z] at h; cases h
  · rw [less_no z] at h; exact ⟨z, h⟩
theorem SRe.isOw (s : SRe K cl C F0 Hv0 H0 own ρ σ ps F Hv H) {b : Addr} (h : IsOw own σ b) : Hv b = none ∧ H0 b = none ∧ b ∉ feet F := by
  obtain ⟨i, hi, e⟩ := h
  obtain ⟨p, d, _, e2, e3, e4, e5, _⟩ := s.ow i hi
  rw [e] at e2; cases e2
  exact ⟨e3, e4, e5⟩
theorem SRe.sr (s : SRe K cl C F0 Hv0 H0 own ρ σ ps F Hv H) : SR K (cl.at F) Hv (lessH own σ H) own ρ σ Hv H where
  ext := ⟨fun b o h _ => (less_some h).2, Sam.refl _, s.ext.vh.at, fun b o h n => n, fun b h => by
    by_cases z : IsOw own σ b
    · exact less_ow z
    · rw [less_no z]; exact h, fun b ps h => ⟨ps, (less_some h).2⟩⟩
  len := s.len
  sh := s.sh
  ow := fun i hi => by
    obtain ⟨p, d, e1, e2, e3, e4, e5, e6⟩ := s.ow i hi
    exact ⟨p, d, e1, e2, e3, less_ow ⟨i, hi, e2⟩, e6⟩
  ap := s.ap
theorem SRe.backX (s : SRe K cl C F0 Hv0 H0 own ρ σ ps F Hv H) (e : Ext (cl.at F) Hv (lessH own σ H) Hv' H') : ExtE cl F0 Hv0 H0 F Hv' H' ∧ Pls K cl C F ps Hv' H' := by
  have no : ∀ {b o}, H0 b = some o → ¬ IsOw own σ b := fun {b o} h z => by rw [(s.isOw z).2.1] at h; cases h
  have fo : ∀ {b}, b ∈ feet F → ¬ IsOw own σ b := fun {b} h z => (s.isOw z).2.2 h
  refine ⟨⟨fun b o h n hf => ?_, s.ext.vv.trans e.vv, e.vh.un, fun b o h n => ?_, fun b h => ?_, fun b ps h => ?_, s.ext.ob, s.ext.ft⟩, ⟨s.pls.len, fun k f q hf hq => ?_, s.pls.nd, s.pls.ob0⟩⟩
  · exact e.hh b o (by rw [less_no (no h)]; exact s.ext.hh b o h n hf) n
  · cases q : H b with
    | none => rw [s.ext.dom b q] at h; cases h
    | some u => exact e.old b u (by rw [less_no (no h)]; exact q) (s.ext.old b o h n)
  · have := e.dom b h
    by_cases z : IsOw own σ b
    · exact (s.isOw z).2.1
    · rw [less_no z] at this
      exact s.ext.dom b this
  · obtain ⟨ps', h'⟩ := s.ext.tt b ps h
    exact e.tt b ps' (by rw [less_no (no h)]; exact h')
  · have mf : ∀ a ∈ f.all, a ∈ feet F := fun a ha => mem_feet.mpr ⟨f, List.mem_of_getElem? hf, ha⟩
    refine (s.pls.pl k f q hf hq).mono (fun a ha o h n => e.hh a o (by rw [less_no (fo (mf a ha))]; exact h) n) e.vv fun a ha => ?_
    obtain ⟨hv, o, ho, _⟩ := s.pls.foot (mf a ha)
    exact e.old a o (by rw [less_no (fo (mf a ha))]; exact ho) hv
theorem SRe.back (s : SRe K cl C F0 Hv0 H0 own ρ σ ps F Hv H) (r : SR K (cl.at F) Hv (lessH own σ H) own' ρ' σ' Hv' H') : SRe K cl C F0 Hv0 H0 own' ρ' σ' ps F Hv' H' := by
  obtain ⟨e1, e2⟩ := s.backX r.ext
  refine ⟨e1, e2, r.len, r.sh, fun i hi => ?_, r.ap⟩
  obtain ⟨p, d, a1, a2, a3, a4, a5⟩ := r.ow i hi
  refine ⟨p, d, a1, a2, a3, ?_, fun hf => ?_, a5⟩
  · by_cases z : IsOw own σ p
    · exact (s.isOw z).2.1
    · rw [less_no z] at a4
      exact s.ext.dom p a4
  · obtain ⟨_, o, ho, _⟩ := s.pls.foot hf
    rw [less_no fun z => (s.isOw z).2.2 hf, ho] at a4
    cases a4
theorem SRe.er (s : SRe K cl C F0 Hv0 H0 own ρ σ ps F Hv H) : ER K (cl.at F) Hv (mask own ρ) σ := s.sr.er
theorem SRe.step (s : SRe K cl C F0 Hv0 H0 own ρ σ ps F Hv H) (e : ExtE cl F Hv H F' Hv' H') (pl : Pls K cl C F' ps' Hv' H') : SRe K cl C F0 Hv0 H0 own ρ σ ps' F' Hv' H' where
  ext := s.ext.trans e
  pls := pl
  len := s.len
  sh := fun i d h1 h2 => let ⟨v, h3, h4⟩ := s.sh i d h1 h2; ⟨v, h3, h4.ee e⟩
  ow := fun i hi => by
    obtain ⟨p, d, h1, h2, h3, h4, h5, o, h6, h7⟩ := s.ow i hi
    refine ⟨p, d, h1, h2, e.old p _ h6 h3, h4, fun hf => (e.ft p hf).elim h5 fun z => (by rw [h6] at z; cases z), o, e.hh _ _ h6 h7.tbl h5, ?_⟩
    cases h7 with
    | lst z r => exact .lst z (r.ee e)
    | dct z r => exact .dct z ((r.ob e.ob).mono e.vv)
  ap := s.ap
theorem SRe.freeze (s : SRe K cl C F0 Hv0 H0 own ρ σ ps F Hv H) (hs : ∀ i ∈ own', i ∈ own) : SRe K cl C F0 Hv0 H0 own' ρ σ ps F (thaw own own' σ Hv H) H ∧ Sam Hv (thaw own own' σ Hv H) := by
  obtain ⟨h1, h2⟩ := s.sr.freeze hs
  exact ⟨s.back h1, h2⟩
end
section
variable (X : Cx) (W : WX) (cl : Glb) (C : Addr)
def PSOe (F0 : List Ft) (Hv0 H0 : Hp) (own : List Nat) (F : List Ft) (Hv : Hp) (Dn : Ends) : OE → Prop
  | .nx ρ' ps' => ∀ σ' F' Hv' H', SRe X.K cl C F0 Hv0 H0 own ρ' σ' ps' F' Hv' H' → Sam Hv Hv' → (∀ k a, obA F k a → obA F' k a) → σ'.length = X.N.length → Dn.nx σ' H'
  | .ret d ps' => ∀ v F' Hv' H', ExtE cl F0 Hv0 H0 F' Hv' H' → Pls X.K cl C F' ps' Hv' H' → Rep X.K (cl.at F') Hv' v d → Dn.rt v H'
  | .err ρ' c ps' => ∀ σ' F' Hv' H', SRe X.K cl C F0 Hv0 H0 [] ρ' σ' ps' F' Hv' H' → Sam Hv Hv' → (∀ k a, obA F k a → obA F' k a) → σ'.length = X.N.length → W (.ref (cl.c c)) none σ' H'
  | .bad => False
def RunSe (own own' : List Nat) (f : DSe) (t : TS) : Prop := ∀ (F0 : List Ft) (Hv0 H0 : Hp) (ρ : Env) (σ : St) (ps : PLS) (F : List Ft) (Hv H : Hp) (Dn : Ends), SRe X.K cl C F0 Hv0 H0 own ρ σ ps F Hv H → σ.length = X.N.length → PSOe X W cl C F0 Hv0 H0 own' F Hv Dn (f ρ ps) → t Dn σ H
def SSe (own own' : List Nat) (st : Stmt) (f : DSe) : Prop := ∃ t, PS X st t ∧ RunSe X W cl C own own' f t
def SSes (own own' : List Nat) (st : List Stmt) (f : DSe) : Prop := ∃ t, PSs X st t ∧ RunSe X W cl C own own' f t
end
section
variable {X : Cx} {W : WX} {cl : Glb} {C : Addr} {F0 F F1 : List Ft} {Hv0 H0 Hv Hv1 H : Hp} {own own1 own2 own3 : List Nat} {Dn : Ends} {pos p : Pos} {a b c e tg iter : Expr} {es : List Expr} {fa fb : EE} {g : EA} {st : Stmt} {sts : List Stmt}
theorem PSOe.mono {r : OE} (h : PSOe X W cl C F0 Hv0 H0 own F Hv Dn r) (s : Sam Hv Hv1) (so : ∀ k a, obA F k a → obA F1 k a) : PSOe X W cl C F0 Hv0 H0 own F1 Hv1 Dn r := by
  cases r with
  | nx ρ ps => exact fun σ' F' Hv' H' sr sm ob hl => h σ' F' Hv' H' sr (s.trans sm) (fun k a z => ob k a (so k a z)) hl
  | ret d ps => exact h
  | err ρ c ps => exact fun σ' F' Hv' H' sr sm ob hl => h σ' F' Hv' H' sr (s.trans sm) (fun k a z => ob k a (so k a z)) hl
  | bad => exact h
theorem PSOe.less {r : OE} (h : PSOe X W cl C F0 Hv0 H0 own2 F Hv Dn r) (hs : ∀ i ∈ own2, i ∈ own1) : PSOe X W cl C F0 Hv0 H0 own1 F Hv Dn r := by
  cases r with
  | nx ρ ps =>
    intro σ' F' Hv' H' sr sm ob hl
    obtain ⟨s1, s2⟩ := sr.freeze hs
    exact h σ' F' _ H' s1 (sm.trans s2) ob hl
  | ret d ps => exact h
  | err ρ c ps => exact h
  | bad => exact h
theorem SSe.pre {f : DSe} (h : SSe X W cl C own1 own2 st f) (hs : sub own1 own = true := by rfl) : SSe X W cl C own own2 st f := by
  obtain ⟨t, pt, h⟩ := h
  refine ⟨t, pt, fun F0 Hv0 H0 ρ σ ps F Hv H Dn sr hl po => ?_⟩
  obtain ⟨s1, s2⟩ := sr.freeze (sub_mem hs)
  exact h F0 Hv0 H0 ρ σ ps F _ H Dn s1 hl (po.mono s2 fun _ _ z => z)
theorem SSes.post {f : DSe} (h : SSes X W cl C own own1 sts f) (hs : sub own2 own1 = true := by rfl) : SSes X W cl C own own2 sts f := by
  obtain ⟨t, pt, h⟩ := h
  exact ⟨t, pt, fun F0 Hv0 H0 ρ σ ps F Hv H Dn sr hl po => h F0 Hv0 H0 ρ σ ps F Hv H Dn sr hl (po.less (sub_mem hs))⟩
theorem SS.ps {f : DS} (h : SS X W cl own own1 st f) : PS X st (tS X.K X.N W cl own own1 f) := by
  obtain ⟨t, pt, hr⟩ := h
  refine ⟨fun pins s σ H D I ⟨Hv0, H0, ρ, Hv, sr, hl, po⟩ => pt.run pins s σ H D I (hr Hv0 H0 ρ σ Hv H D sr hl ?_)⟩
  cases q : f ρ with
  | nx ρ' => rw [q] at po; exact po
  | ret d => rw [q] at po; exact po
  | err ρ' c => rw [q] at po; exact po
  | bad => rw [q] at po; exact po
end
end Sm
namespace Sm
open PySem PySem.Spec L2
section
variable {X : Cx} {W : WX} {cl : Glb} {C : Addr} {F0 F F1 : List Ft} {Hv0 H0 Hv Hv1 H : Hp} {own own1 own2 own3 : List Nat} {Dn : Ends} {pos p : Pos} {a b c e o tg iter : Expr} {es : List Expr} {fa fb : EE} {g : EA} {st : Stmt} {sts : List Stmt}
theorem ItOk.at {K : PySem.W.Frag} {J : It} {ds : List D} (h : ItOk K (cl.at F) J Hv ds) (ho : ∀ k a, obA F k a → obA F1 k a) : ItOk K (cl.at F1) J Hv ds where
  go := fun i Hv' H' sm vw hi => h.go i Hv' H' sm vw.un.at hi
  stop := fun i Hv' H' sm vw hi => h.stop i Hv' H' sm vw.un.at hi
  yld := fun i Hv' H' sm vw d hd x H2 y => by
    obtain ⟨Hv2, e, r⟩ := h.yld i Hv' H' sm vw.un.at d hd x H2 y
    exact ⟨Hv2, ⟨e.hh, e.vv, e.vh.un.at, e.old, e.dom, e.tt⟩, r.ob ho⟩
end
def spE (K : PySem.W.Frag) (cl : Glb) (C : Addr) (n : Nat) (Fd : List D → PLS → RP D) : Sp := fun vs H Q E => vs.length = n ∧ ∃ F Hv ds ps, Vw cl Hv H ∧ Pls K cl C F ps Hv H ∧ Reps K (cl.at F) Hv vs ds ∧ PstE K cl C (fun c d _ H => E c d H) [] F Hv H (TVe K cl Q) (Fd ds ps)
section
variable {P : Program} {w : World} {K : PySem.W.Frag} {mg : Str → Option Value} {base : Heap} {cl : Glb} {C : Addr}
end
structure FnA (P : Program) (w : World) (K : PySem.W.Frag) (mg : Str → Option Value) (base : Heap) (cl : Glb) (C : Addr) (k : Nat) (x : Str) (n : Nat) (Fd : List D → PLS → RP D) : Prop where
  ex : ∃ f, FnR P w K mg base (L2.CX P w) k f (spE K cl C n Fd) ∧ mg x = some (.ref f) ∧ PySem.W.keepIn K (.ref f) = true
structure FnM (P : Program) (w : World) (K : PySem.W.Frag) (mg : Str → Option Value) (base : Heap) (cl : Glb) (C : Addr) (k : Nat) (m : Str) (n : Nat) (Fd : List D → PLS → RP D) : Prop where
  ex : ∃ f, FnR P w K mg base (L2.CX P w) k f (spE K cl C n Fd) ∧ Meth K C m f
section
variable {P : Program} {w : World} {K : PySem.W.Frag} {mg : Str → Option Value} {base : Heap} {cl : Glb} {C : Addr} {k n m : Nat} {x q : Str}
theorem FnOk.rawN {f : Addr} {fd : FuncData} {ps : List Str} {sp : Sp} {CX : CXT} (F : FnOk P w K mg base CX k f fd ps sp) (hb : Binds K fd ps []) : FnR P w K mg base CX k f sp := (F.raw hb .nil).imp fun vs H Q E h => by rw [List.append_nil]; exact h
theorem FnA.mono {k' : Nat} {Fd : List D → PLS → RP D} (h : FnA P w K mg base cl C k x n Fd) (hk : k ≤ k') : FnA P w K mg base cl C k' x n Fd := let ⟨f, h1, h2, h3⟩ := h.ex; ⟨f, h1.mono hk, h2, h3⟩
theorem FnM.mono {k' : Nat} {Fd : List D → PLS → RP D} (h : FnM P w K mg base cl C k x n Fd) (hk : k ≤ k') : FnM P w K mg base cl C k' x n Fd := let ⟨f, h1, h2⟩ := h.ex; ⟨f, h1.mono hk, h2⟩
def upF (Fp : List D → R D) : List D → PLS → RP D := fun ds ps => (Fp ds).up ps
theorem FnA.of {Fp : List D → R D} (G : ∀ F, Fn P w K mg base (cl.at F) k x n Fp) : FnA P w K mg base cl C k x n (upF Fp) := by
  obtain ⟨f, fd, ps, h1, h2, h3, h4, h5⟩ := G []
  refine ⟨f, ?_, h2, h3⟩
  intro A outer s H us vs Q E hr e0 r ⟨hl, F, Hv, ds, ps', vw, pl, rs, pv⟩
  obtain ⟨f', fd', ps'', g1, g2, g3, g4, g5⟩ := G F
  rw [h2] at g2; cases g2
  exact FnOk.rawN g1 g4 A outer s H us vs Q E hr e0 r ⟨hl, Hv, ds, vw.at, rs, up_pst pl pv⟩
end
section
variable {X : Cx} {CX : CXT} {k : Nat} {f C : Addr} {sp : Sp} {E : St → XK} {x m : Str} {p pos apos : Pos} {e o : Expr} {es : List Expr} {ta : TE} {t : TA}
end
section
variable {X : Cx} {W : WX} {cl : Glb} {C : Addr} {pos p apos : Pos} {a b c e o : Expr} {es : List Expr} {fa fb : EE} {g : EA}
end
end Sm
namespace Sm
open PySem PySem.Spec L2
def Pl.get (q : Pl) : Bool → List D | true => q.past | false => q.later
def Pl.put (q : Pl) : Bool → List D → Pl | true, ds => { q with past := ds } | false, ds => { q with later := ds }
def Ft.at (f : Ft) : Bool → Addr | true => f.p | false => f.l
section
variable {K : PySem.W.Frag} {cl : Glb} {C : Addr} {F F' : List Ft} {Hv H Hv' H' : Hp} {ps : PLS}
theorem PlAt.lst {f : Ft} {q : Pl} (h : PlAt K cl C Hv H f q) (b : Bool) : ∃ vs, H (f.at b) = some (.lst vs) ∧ vs.length ≤ sizeLine ∧ Reps K cl Hv vs (q.get b) := by
  cases b
  · exact h.later
  · exact h.past
theorem PlAt.off {f : Ft} {q : Pl} {a : Addr} {o : HO} (h : PlAt K cl C Hv H f q) (ha : a ∉ f.all) : PlAt K cl C Hv (upd H a o) f q := h.mono (fun b hb u hu _ => by rw [upd_ne (show b ≠ a from fun z => ha (by rw [← z]; exact hb))]; exact hu) (Sam.refl _) h.hid
theorem Pls.set (h : Pls K cl C F ps Hv H) {k : Nat} {f : Ft} {q : Pl} (hf : F[k]? = some f) (hs : ∀ (j : Nat) g u, j ≠ k → F[j]? = some g → PlAt K (cl.at F) C Hv H g u → PlAt K (cl.at F) C Hv H' g u) (hp : PlAt K (cl.at F) C Hv H' f q) : Pls K cl C F (ps.set k q) Hv H' := by
  refine ⟨by rw [List.length_set]; exact h.len, fun j g u hg hu => ?_, h.nd, h.ob0⟩
  by_cases z : j = k
  · subst z
    rw [hf] at hg; cases hg
    have : j < ps.length := by rw [← h.len]; exact (List.getElem?_eq_some_iff.mp hf).1
    rw [List.getElem?_set_self this] at hu; cases hu
    exact hp
  · rw [List.getElem?_set_ne (Ne.symm z)] at hu
    exact hs j g u z hg (h.pl j g u hg hu)
theorem PlAt.ob {f : Ft} {q : Pl} (h : PlAt K (cl.at F) C Hv H f q) (ho : ∀ k a, obA F k a → obA F' k a) : PlAt K (cl.at F') C Hv H f q := by
  obtain ⟨vo, vn, h1, r1, r2⟩ := h.ins
  obtain ⟨vp, h2, z2, r3⟩ := h.past
  obtain ⟨vl, h3, z3, r4⟩ := h.later
  exact ⟨⟨vo, vn, h1, r1.ob ho, r2.ob ho⟩, h.own, ⟨vp, h2, z2, r3.ob ho⟩, ⟨vl, h3, z3, r4.ob ho⟩, h.hid⟩
end
end Sm
namespace Sm
open PySem PySem.Spec L2
section
variable {X : Cx} {W : WX} {cl : Glb} {C : Addr} {F0 F F1 : List Ft} {Hv0 H0 Hv Hv1 H : Hp} {own own1 own2 own3 : List Nat} {Dn : Ends} {pos pos' p p1 p2 p3 p4 apos : Pos} {a b c e o tg iter : Expr} {es : List Expr} {fa fb : EE} {g : EA} {st : Stmt} {sts : List Stmt} {ρ : Env} {σ : St} {ps : PLS}
end
end Sm
namespace Sm
open PySem PySem.Spec L2
section
variable {X : Cx} {W : WX} {cl : Glb} {C : Addr} {F0 F F1 : List Ft} {Hv0 H0 Hv Hv1 H : Hp} {own own1 own2 own3 : List Nat} {Dn : Ends} {pos pos' p p1 p2 p3 p4 apos : Pos} {a b c e o tg iter : Expr} {es : List Expr} {fa fb : EE} {g : EA} {st : Stmt} {sts : List Stmt} {ρ : Env} {σ : St} {ps : PLS}
end
end Sm
namespace Sm
open PySem PySem.Spec L2
section
variable {X : Cx} {CX : CXT} {k i : Nat} {f C : Addr} {sp : Sp} {E : St → XK} {x : Str} {e fe : Expr} {es : List Expr} {te tf : TE} {t : TA} {p pos : Pos}
end
section
variable {X : Cx} {W : WX} {cl : Glb} {C : Addr} {pos p : Pos} {e : Expr} {fa : EE}
end
section
variable {K : PySem.W.Frag} {cl : Glb} {C : Addr} {F0 F : List Ft} {Hv0 H0 Hv H H' : Hp} {ps : PLS}
end
end Sm
namespace Sm
open PySem PySem.Spec L2
section
variable {X : Cx} {W : WX} {cl : Glb} {C : Addr} {pos p : Pos}
end
end Sm
namespace Sm
open PySem PySem.Spec L2
section
variable {Z : Zf} {K : PySem.W.Frag} {cl cl' : Glb} {C : Addr} {F F' : List Ft} {Hv H Hv' H' : Hp} {ps : PLS}
end
section
variable {X : Cx} {W : WX} {cl : Glb} {C : Addr} {pos p : Pos} {k i : Nat} {x : Str} {Fd : PLS → RP D}
end
end Sm
namespace Sm
open PySem PySem.Spec L2
section
variable {X : Cx} {W : WX} {cl : Glb} {C : Addr} {params : Arguments} {body e : Expr} {scope : Scope} {pos p lpos : Pos} {es : List Expr} {k kb m : Nat} {x : Str} {gA : Addr} {fr : List Str} {js : List Nat} {t : TA} {fb : EE} {FF : (PLS → RP D) → List D → PLS → RP D}
end
section
variable {X : Cx} {W : WX} {cl : Glb} {C : Addr} {pos p : Pos} {a e e1 e2 : Expr} {es : List Expr} {k n i : Nat} {x : Str} {own : List Nat}
def tEe (K : PySem.W.Frag) (cl : Glb) (C : Addr) (W : WX) (f : EE) : TE := fun σ H Q => ∃ F Hv ρ ps, Vw cl Hv H ∧ Pls K cl C F ps Hv H ∧ ER K (cl.at F) Hv ρ σ ∧ PstE K cl C W σ F Hv H (TVe K cl Q) (f ρ ps)
theorem SEe.pe {f : EE} (h : SEe X W cl C e f) : PE X e (tEe X.K cl C W f) := by
  obtain ⟨t, pt, h⟩ := h
  exact ⟨fun pins s σ H Q I ⟨F, Hv, ρ, ps, vw, pl, er, pv⟩ => pt.run pins s σ H Q I (h F Hv H σ ρ ps Q vw pl er pv)⟩
end
end Sm
namespace Sm
open PySem PySem.Spec L2
section
variable {X : Cx} {W : WX} {cl : Glb} {C : Addr} {F0 F F1 : List Ft} {Hv0 H0 Hv Hv1 H : Hp} {own own1 own2 own3 : List Nat} {Dn : Ends} {pos pos' p lp : Pos} {a b c e : Expr} {es : List Expr} {fa fb : EE} {g : EA} {st : Stmt} {sts : List Stmt}
end
end Sm
namespace Sm
open PySem PySem.Spec L2
def TVle (K : PySem.W.Frag) (cl : Glb) (H0 : Hp) (Q : VK) : List Ft → Hp → Hp → D → Prop := fun F Hv H d => match d with
  | .lst es => ∀ p vs, Hv p = none → H0 p = none → p ∉ feet F → H p = some (.lst vs) → vs.length ≤ sizeLine → Reps K (cl.at F) Hv vs es → Q (.ref p) H
  | _ => False
theorem TVle.mono {K : PySem.W.Frag} {cl : Glb} {H0 H1 : Hp} {Q : VK} {F : List Ft} {Hv H : Hp} {d : D} (h : TVle K cl H0 Q F Hv H d) (hs : ∀ b, H1 b = none → H0 b = none) : TVle K cl H1 Q F Hv H d := by
  cases d with
  | lst es => exact fun p vs a b c d e f => h p vs a (hs p b) c d e f
  | _ => exact h
def SNe (X : Cx) (W : WX) (cl : Glb) (C : Addr) (e : Expr) (f : EE) : Prop := ∃ t, PE X e t ∧ ∀ (F : List Ft) (Hv H : Hp) (σ : St) (ρ : Env) (ps : PLS) (Q : VK), Vw cl Hv H → Pls X.K cl C F ps Hv H → ER X.K (cl.at F) Hv ρ σ → PstE X.K cl C W σ F Hv H (TVle X.K cl H Q) (f ρ ps) → t σ H Q
section
variable {K : PySem.W.Frag} {cl : Glb} {C : Addr} {F : List Ft} {Hv H : Hp} {ps : PLS}
end
section
variable {X : Cx} {W : WX} {cl : Glb} {C : Addr} {pos p : Pos} {a b c e : Expr} {es : List Expr} {fa fb : EE} {g : EA}
theorem SNe.ee {f : EE} (h : SNe X W cl C e f) (hl : ∀ ρ ps d ps', f ρ ps = .ok d ps' → ∃ es, d = .lst es) : SEe X W cl C e f := by
  obtain ⟨t, pt, h⟩ := h
  refine ⟨t, pt, fun F Hv H σ ρ ps Q vw pl er pv => h F Hv H σ ρ ps Q vw pl er ?_⟩
  cases q : f ρ ps with
  | bad => rw [q] at pv; exact pv
  | err c ps' => rw [q] at pv; exact pv
  | ok d ps' =>
    rw [q] at pv
    obtain ⟨es, rfl⟩ := hl ρ ps d ps' q
    intro F' Hv' H' ex pl' p vs h1 h2 h3 h4 h5 h6
    have sm : Sam Hv' (upd Hv' p (.lst vs)) := .of (same_upd h1)
    have vw' : Vw cl (upd Hv' p (.lst vs)) H' := by
      have v := ex.vh
      refine ⟨fun b o hb n => ?_, fun b hb => ?_, fun b xs hb => ?_, fun b o u hb => ?_, v.tab, fun b φ hb => ?_⟩
      · by_cases z : b = p
        · subst z; rw [upd_same] at hb; cases hb; exact h4
        · rw [upd_ne z] at hb; exact v.s b o hb n
      · by_cases z : b = p
        · subst z; rw [h4] at hb; cases hb
        · rw [upd_ne z]; exact v.d b hb
      · rw [upd_ne (show b ≠ p from fun z => by rw [z, h4] at hb; cases hb)]; exact v.t b xs hb
      · rw [upd_ne (show b ≠ p from fun z => by rw [z, h4] at hb; cases hb)]; exact v.z b o u hb
      · rw [upd_ne (show b ≠ p from fun z => by rw [z, h4] at hb; cases hb)]; exact v.x b φ hb
    have ex2 : ExtE cl F Hv H F' (upd Hv' p (.lst vs)) H' := ⟨ex.hh, ex.vv.trans sm, vw', fun b o hb n => by
      rw [upd_ne (show b ≠ p from fun z => by rw [z, h2] at hb; cases hb)]; exact ex.old b o hb n, ex.dom, ex.tt, ex.ob, ex.ft⟩
    have pl2 : Pls X.K cl C F' ps' (upd Hv' p (.lst vs)) H' := ⟨pl'.len, fun k f q hf hq => (pl'.pl k f q hf hq).mono (fun a _ o ha _ => ha) sm (fun a ha => by
      rw [upd_ne (show a ≠ p from fun z => h3 (z ▸ mem_feet.mpr ⟨f, List.mem_of_getElem? hf, ha⟩))]; exact (pl'.pl k f q hf hq).hid a ha), pl'.nd, pl'.ob0⟩
    exact pv F' _ H' ex2 pl2 (.ref p) (.lst upd_same h5 (h6.mono sm))
end
section
variable {X : Cx} {W : WX} {cl : Glb} {C : Addr} {pos p apos : Pos} {a b c e o : Expr} {es : List Expr} {fa fb : EE} {g : EA}
theorem PstE.wk {K : PySem.W.Frag} {σ : St} {F : List Ft} {Hv H H1 : Hp} {Q : VK} {r : RP D} (h : PstE K cl C W σ F Hv H1 (TVle K cl H Q) r) (hs : ∀ b, H1 b = none → H b = none) : PstE K cl C W σ F Hv H1 (TVle K cl H1 Q) r := by
  cases r with
  | ok d ps => exact fun F' Hv' H' e pl => (h F' Hv' H' e pl).mono hs
  | err c ps => exact h
  | bad => exact h
end
end Sm
namespace Sm
open PySem PySem.Spec L2
def PSOl (X : Cx) (W : WX) (cl : Glb) (C : Addr) (F0 : List Ft) (Hv0 H0 : Hp) (F : List Ft) (Hv : Hp) (Dn : Ends) : OE → Prop
  | .nx ρ' ps' => ∀ σ' F' Hv' H', SRe X.K cl C F0 Hv0 H0 [] ρ' σ' ps' F' Hv' H' → False
  | .ret d ps' => ∀ F' Hv' H', ExtE cl F0 Hv0 H0 F' Hv' H' → Pls X.K cl C F' ps' Hv' H' → TVle X.K cl H0 Dn.rt F' Hv' H' d
  | .err ρ' c ps' => ∀ σ' F' Hv' H', SRe X.K cl C F0 Hv0 H0 [] ρ' σ' ps' F' Hv' H' → Sam Hv Hv' → (∀ k a, obA F k a → obA F' k a) → σ'.length = X.N.length → W (.ref (cl.c c)) none σ' H'
  | .bad => False
section
variable {X : Cx} {W : WX} {cl : Glb} {C : Addr} {F0 F F1 : List Ft} {Hv0 H0 Hv Hv1 H : Hp} {own own1 own2 own3 : List Nat} {Dn : Ends} {pos p : Pos} {a b c e tg iter : Expr} {es : List Expr} {fa fb : EE} {g : EA} {st : Stmt} {sts : List Stmt}
theorem PSOl.mono {r : OE} (h : PSOl X W cl C F0 Hv0 H0 F Hv Dn r) (s : Sam Hv Hv1) (so : ∀ k a, obA F k a → obA F1 k a) : PSOl X W cl C F0 Hv0 H0 F1 Hv1 Dn r := by
  cases r with
  | nx ρ ps => exact h
  | ret d ps => exact h
  | err ρ c ps => exact fun σ' F' Hv' H' sr sm ob hl => h σ' F' Hv' H' sr (s.trans sm) (fun k a z => ob k a (so k a z)) hl
  | bad => exact h
end
section
variable {P : Program} {w : World} {K : PySem.W.Frag} {mg : Str → Option Value} {base : Heap} {cl : Glb} {C : Addr} {k n m : Nat} {x q : Str}
end
end Sm
namespace Sm
open PySem PySem.Spec L2
section
variable {X : Cx} {W : WX} {cl : Glb} {C : Addr} {pos p : Pos} {k i : Nat} {x : Str} {Fd : PLS → RP D}
end
section
variable {X : Cx} {W : WX} {cl : Glb} {C : Addr} {params : Arguments} {body e : Expr} {scope : Scope} {pos p lpos : Pos} {es : List Expr} {k kb m : Nat} {x : Str} {gA : Addr} {fr : List Str} {js : List Nat} {t : TA} {fb : EE} {FF : (PLS → RP D) → List D → PLS → RP D}
end
section
variable {X : Cx} {W : WX} {cl : Glb} {C : Addr} {F0 F F1 : List Ft} {Hv0 H0 Hv Hv1 H : Hp} {own own1 own2 own3 : List Nat} {Dn : Ends} {pos p p1 p2 p3 : Pos} {a b c e tg iter : Expr} {es : List Expr} {fa fb : EE} {g : EA} {st : Stmt} {sts : List Stmt}
end
end Sm
namespace Sm
open PySem PySem.Spec L2
section
variable {X : Cx} {W : WX} {cl : Glb} {C : Addr} {own : List Nat} {pos p p1 p2 p3 apos cpos : Pos} {a e o : Expr} {fa : DE}
end
section
variable {X : Cx} {W : WX} {cl : Glb} {C : Addr} {own : List Nat} {pos p p1 p2 p3 apos cpos : Pos} {a e o : Expr} {fa : DE}
end
section
variable {X : Cx} {W : WX} {cl : Glb} {C : Addr} {F0 F F1 : List Ft} {Hv0 H0 Hv Hv1 H : Hp} {own own1 own2 own3 : List Nat} {Dn : Ends} {pos pos' p p1 p2 p3 p4 apos : Pos} {a b c e o tg iter : Expr} {es : List Expr} {fa fb : EE} {g : EA} {st : Stmt} {sts : List Stmt} {ρ : Env} {σ : St} {ps : PLS}
end
end Sm
namespace Sm
open PySem PySem.Spec L2
section
variable {K : PySem.W.Frag} {cl : Glb} {Hv0 H0 Hv H Hv' H' : Hp}
theorem RO.ext : ∀ {bs : List Bool} {H0 : Hp} {vs : List V} {ds : List D}, RO K cl Hv H bs H0 vs ds → Ext cl Hv H Hv' H' → RO K cl Hv' H' bs H0 vs ds
  | [], _, [], [], _, _ => trivial
  | false :: bs, _, v :: vs, d :: ds, h, e => ⟨h.1.mono e.vv, RO.ext h.2 e⟩
  | true :: bs, _, v :: vs, d :: ds, ⟨p, o, H2, e0, h1, h2, h3, h4, h5, h6, h7⟩, e => ⟨p, o, H2, e0, h1, h2, h3, e.old p o h5 h4, e.hh p o h5 h6.tbl, h6.mono e.vv, RO.ext h7 e⟩
  | [], _, _ :: _, _, h, _ => h.elim
  | [], _, [], _ :: _, h, _ => h.elim
  | true :: _, _, [], _, h, _ => h.elim
  | true :: _, _, _ :: _, [], h, _ => h.elim
  | false :: _, _, [], _, h, _ => h.elim
  | false :: _, _, _ :: _, [], h, _ => h.elim
end
section
variable {X : Cx} {W : WX} {cl : Glb} {pos p : Pos} {a b c e : Expr} {es : List Expr} {fa fb : DE} {g g1 : DA} {own : List Nat} {fl : List Bool}
end
end Sm
namespace Sm
open PySem PySem.Spec L2
section
variable {K : PySem.W.Frag} {cl : Glb} {H Hv : Hp} {a : Addr} {x y : HO}
end
section
variable {X : Cx} {W : WX} {cl : Glb} {st : Stmt} {f : DS} {own : List Nat}
end
end Sm
namespace Sm
open PySem PySem.Spec L2 PyProof.Rows
section
variable {P : Program} {w : World} {A : Around} {E : Value → Shared → Prop} {z : Shared}
end
section
variable {X : Cx} {W : WX} {cl : Glb}
end
end Sm
namespace Sm
open PySem PySem.Spec L2
abbrev PLB := List D
def Ft.one (f : Ft) : List Addr := [f.x]
def feetB (F : List Ft) : List Addr := F.flatMap Ft.one
theorem mem_feetB {F : List Ft} {b : Addr} : b ∈ feetB F ↔ ∃ f ∈ F, b ∈ f.one := by unfold feetB; exact List.mem_flatMap
structure BxAt (K : PySem.W.Frag) (cl : Glb) (C : Addr) (Hv H : Hp) (f : Ft) (d : D) : Prop where
  own : ∃ o, H f.x = some o ∧ OwnO K cl Hv o d
  hid : ∀ a ∈ f.one, Hv a = none
section
variable {K : PySem.W.Frag} {cl : Glb} {C : Addr} {Hv H Hv' H' : Hp}
theorem BxAt.full {f : Ft} {q : D} (h : BxAt K cl C Hv H f q) : ∀ a ∈ f.one, ∃ o, H a = some o ∧ isTbl o = false := fun a ha => by
  obtain ⟨o, h1, h2⟩ := h.own
  rw [List.mem_singleton.mp ha]
  exact ⟨o, h1, h2.tbl⟩
theorem BxAt.mono {f : Ft} {q : D} (h : BxAt K cl C Hv H f q) (hs : ∀ a ∈ f.one, ∀ o, H a = some o → isTbl o = false → H' a = some o) (hv : Sam Hv Hv') (hn : ∀ a ∈ f.one, Hv' a = none) : BxAt K cl C Hv' H' f q := by
  obtain ⟨o, h1, h2⟩ := h.own
  exact ⟨⟨o, hs f.x (by simp [Ft.one]) _ h1 h2.tbl, h2.mono hv⟩, hn⟩
end
inductive RPB (α : Type) where
  | ok (a : α) (ps : PLB) | err (c : Nat) (ps : PLB) | bad
def RPB.bind {α β : Type} : RPB α → (α → PLB → RPB β) → RPB β
  | .ok a ps, k => k a ps
  | .err c ps, _ => .err c ps
  | .bad, _ => .bad
def R.upB {α : Type} (ps : PLB) : R α → RPB α
  | .ok a => .ok a ps
  | .err c => .err c ps
  | .bad => .bad
section
variable {K : PySem.W.Frag} {cl : Glb} {F F' : List Ft}
end
structure ExtEB (cl : Glb) (F : List Ft) (Hv H : Hp) (F' : List Ft) (Hv' H' : Hp) : Prop where
  hh : ∀ b o, H b = some o → isTbl o = false → b ∉ feetB F → H' b = some o
  vv : Sam Hv Hv'
  vh : Vw cl Hv' H'
  old : ∀ b o, H b = some o → Hv b = none → Hv' b = none
  dom : ∀ b, H' b = none → H b = none
  tt : ∀ b ps, H b = some (.tbl ps) → ∃ ps', H' b = some (.tbl ps')
  ob : ∀ k a, obA F k a → obA F' k a
  ft : ∀ b, b ∈ feetB F' → b ∈ feetB F ∨ H b = none
section
variable {K : PySem.W.Frag} {cl : Glb} {F F1 F2 F' : List Ft} {Hv H Hv1 H1 Hv2 H2 Hv' H' : Hp}
theorem ExtEB.refl (v : Vw cl Hv H) : ExtEB cl F Hv H F Hv H := ⟨fun _ _ h _ _ => h, Sam.refl _, v, fun _ _ _ h => h, fun _ h => h, fun _ ps h => ⟨ps, h⟩, fun _ _ h => h, fun _ h => .inl h⟩
theorem ExtEB.trans (a : ExtEB cl F Hv H F1 Hv1 H1) (b : ExtEB cl F1 Hv1 H1 F2 Hv2 H2) : ExtEB cl F Hv H F2 Hv2 H2 where
  hh := fun c o h n hf => b.hh c o (a.hh c o h n hf) n fun z => (a.ft c z).elim hf fun y => by rw [h] at y; cases y
  vv := a.vv.trans b.vv
  vh := b.vh
  old := fun c o h n => by
    cases q : H1 c with
    | none => rw [a.dom c q] at h; cases h
    | some u => exact b.old c u q (a.old c o h n)
  dom := fun c h => a.dom c (b.dom c h)
  tt := fun c ps h => let ⟨ps', h'⟩ := a.tt c ps h; b.tt c ps' h'
  ob := fun k x h => b.ob k x (a.ob k x h)
  ft := fun c h => by
    rcases b.ft c h with h | h
    · exact a.ft c h
    · exact .inr (a.dom c h)
theorem ExtEB.of (e : Ext (cl.at F) Hv H Hv' H') : ExtEB cl F Hv H F Hv' H' := ⟨fun b o h n _ => e.hh b o h n, e.vv, e.vh.un, e.old, e.dom, e.tt, fun _ _ h => h, fun _ h => .inl h⟩
theorem Rep.eb {v : V} {d : D} (r : Rep K (cl.at F) Hv v d) (e : ExtEB cl F Hv H F' Hv' H') : Rep K (cl.at F') Hv' v d := (r.ob e.ob).mono e.vv
theorem Reps.eb {v : List V} {d : List D} (r : Reps K (cl.at F) Hv v d) (e : ExtEB cl F Hv H F' Hv' H') : Reps K (cl.at F') Hv' v d := (r.ob e.ob).mono e.vv
theorem ER.eb {ρ : Env} {σ : St} (r : ER K (cl.at F) Hv ρ σ) (e : ExtEB cl F Hv H F' Hv' H') : ER K (cl.at F') Hv' ρ σ := ⟨fun i d h => let ⟨v, h1, h2⟩ := r.get i d h; ⟨v, h1, h2.eb e⟩, r.len⟩
end
structure PlsB (K : PySem.W.Frag) (cl : Glb) (C : Addr) (F : List Ft) (ps : PLB) (Hv H : Hp) : Prop where
  len : F.length = ps.length
  pl : ∀ (k : Nat) f q, F[k]? = some f → ps[k]? = some q → BxAt K (cl.at F) C Hv H f q
  nd : (feetB F).Nodup
  ob0 : ∀ k a, cl.ob k a → obA F k a
section
variable {K : PySem.W.Frag} {cl : Glb} {C : Addr} {F F1 F2 F' : List Ft} {Hv H Hv1 H1 Hv2 H2 Hv' H' : Hp} {ps : PLB}
theorem PlsB.get (h : PlsB K cl C F ps Hv H) {k : Nat} {f : Ft} (hf : F[k]? = some f) : ∃ q, ps[k]? = some q ∧ BxAt K (cl.at F) C Hv H f q := by
  have hk := (List.getElem?_eq_some_iff.mp hf).1
  have hk2 : k < ps.length := by rw [← h.len]; exact hk
  have : ps[k]? = some ps[k] := by simp [hk2]
  exact ⟨_, this, h.pl k f _ hf this⟩
theorem PlsB.foot (h : PlsB K cl C F ps Hv H) {b : Addr} (hb : b ∈ feetB F) : Hv b = none ∧ ∃ o, H b = some o ∧ isTbl o = false := by
  obtain ⟨f, hf, hb⟩ := mem_feetB.mp hb
  obtain ⟨k, hk⟩ := List.getElem?_of_mem hf
  obtain ⟨q, _, hp⟩ := h.get hk
  exact ⟨hp.hid b hb, hp.full b hb⟩
theorem PlsB.ext (h : PlsB K cl C F ps Hv H) (e : Ext (cl.at F) Hv H Hv' H') : PlsB K cl C F ps Hv' H' := ⟨h.len, fun k f q hf hq => (h.pl k f q hf hq).mono (fun a _ o ha n => e.hh a o ha n) e.vv (fun a ha => by
  obtain ⟨o, ho, _⟩ := (h.pl k f q hf hq).full a ha
  exact e.old a o ho ((h.pl k f q hf hq).hid a ha)), h.nd, h.ob0⟩
theorem PlsB.at_obj (h : PlsB K cl C F ps Hv H) {k : Nat} {a : Addr} (ho : (cl.at F).ob k a) : ∃ f q, F[k]? = some f ∧ f.x = a ∧ ps[k]? = some q ∧ BxAt K (cl.at F) C Hv H f q := by
  have ho : (F[k]?).map Ft.x = some a := ho
  rw [Option.map_eq_some_iff] at ho
  obtain ⟨f, hf, hx⟩ := ho
  obtain ⟨q, hq, hp⟩ := h.get hf
  exact ⟨f, q, hf, hx, hq, hp⟩
end
section
variable (K : PySem.W.Frag) (cl : Glb) (C : Addr) (W : WX) (σ : St)
def PstEB {α : Type} (F : List Ft) (Hv H : Hp) (T : List Ft → Hp → Hp → α → Prop) : RPB α → Prop
  | .ok a ps => ∀ F' Hv' H', ExtEB cl F Hv H F' Hv' H' → PlsB K cl C F' ps Hv' H' → T F' Hv' H' a
  | .err c ps => ∀ F' Hv' H', ExtEB cl F Hv H F' Hv' H' → PlsB K cl C F' ps Hv' H' → W (.ref (cl.c c)) none σ H'
  | .bad => False
end
section
variable {K : PySem.W.Frag} {cl : Glb} {C : Addr} {W : WX} {σ : St} {F F1 : List Ft} {Hv H Hv1 H1 : Hp} {α β : Type}
theorem PstEB.ext {T : List Ft → Hp → Hp → α → Prop} {r : RPB α} (h : PstEB K cl C W σ F Hv H T r) (e : ExtEB cl F Hv H F1 Hv1 H1) : PstEB K cl C W σ F1 Hv1 H1 T r := by
  cases r with
  | ok d ps => exact fun F' Hv' H' e' => h F' Hv' H' (e.trans e')
  | err c ps => exact fun F' Hv' H' e' => h F' Hv' H' (e.trans e')
  | bad => exact h
theorem up_pstB {T : List Ft → Hp → Hp → α → Prop} {r : R α} {ps : PLB} (pl : PlsB K cl C F ps Hv H) (h : PstEB K cl C W σ F Hv H T (r.upB ps)) : Pst (cl.at F) W σ Hv H (fun Hv' H' a => T F Hv' H' a) r := by
  cases r with
  | ok d => exact fun Hv' H' e => h F Hv' H' (.of e) (pl.ext e)
  | err c => exact fun Hv' H' e => h F Hv' H' (.of e) (pl.ext e)
  | bad => exact h
end
def TVeB (K : PySem.W.Frag) (cl : Glb) (Q : VK) : List Ft → Hp → Hp → D → Prop := fun F Hv H d => ∀ v, Rep K (cl.at F) Hv v d → Q v H
def TBeB (Q : Bool → Hp → Prop) : List Ft → Hp → Hp → Bool → Prop := fun _ _ H b => Q b H
abbrev EEB := Env → PLB → RPB D
abbrev EAB := Env → PLB → RPB (List D)
abbrev ETB := Env → PLB → RPB Bool
section
variable (X : Cx) (W : WX) (cl : Glb) (C : Addr)
def RunEeB (f : EEB) (t : TE) : Prop := ∀ (F : List Ft) (Hv H : Hp) (σ : St) (ρ : Env) (ps : PLB) (Q : VK), Vw cl Hv H → PlsB X.K cl C F ps Hv H → ER X.K (cl.at F) Hv ρ σ → PstEB X.K cl C W σ F Hv H (TVeB X.K cl Q) (f ρ ps) → t σ H Q
def RunTeB (f : ETB) (t : TT) : Prop := ∀ (F : List Ft) (Hv H : Hp) (σ : St) (ρ : Env) (ps : PLB) (Q : Bool → Hp → Prop), Vw cl Hv H → PlsB X.K cl C F ps Hv H → ER X.K (cl.at F) Hv ρ σ → PstEB X.K cl C W σ F Hv H (TBeB Q) (f ρ ps) → t σ H Q
def SEeB (e : Expr) (f : EEB) : Prop := ∃ t, PE X e t ∧ RunEeB X W cl C f t
def STeB (e : Expr) (f : ETB) : Prop := ∃ t, L2.PT X e t ∧ RunTeB X W cl C f t
def SWeB (e : Expr) (f : ETB) : Prop := ∃ t, PW X e t ∧ RunTeB X W cl C f t
end
section
variable {X : Cx} {W : WX} {cl : Glb} {C : Addr} {pos p : Pos} {a b c e : Expr} {es : List Expr} {fa fb fc : EEB} {g : EAB}
def ePB (f : DE) : EEB := fun ρ ps => (f ρ).upB ps
def eTB (f : DT) : ETB := fun ρ ps => (f ρ).upB ps
theorem ee_pureB {f : DE} (h : ∀ F, SE X W (cl.at F) e f) : SEeB X W cl C e (ePB f) :=
  ⟨fun σ H Q => ∃ F, tE X.K (cl.at F) W f σ H Q, ⟨fun pins s σ H Q I ⟨F, q⟩ => (h F).pe.run pins s σ H Q I q⟩, fun F Hv H σ ρ ps Q vw pl er pv => ⟨F, Hv, ρ, vw.at, er, up_pstB pl pv⟩⟩
theorem te_pureB {f : DT} (h : ∀ F, ST X W (cl.at F) e f) : STeB X W cl C e (eTB f) := by
  refine ⟨fun σ H Q => ∃ F, tT X.K (cl.at F) W f σ H Q, ⟨fun pins s σ H Q I ⟨F, q⟩ => ?_⟩, fun F Hv H σ ρ ps Q vw pl er pv => ⟨F, Hv, ρ, vw.at, er, up_pstB pl pv⟩⟩
  obtain ⟨Hv, ρ, vw, er, pv⟩ := q
  obtain ⟨t, pt, ht⟩ := h F
  exact pt.run pins s σ H Q I (ht Hv H σ ρ Q vw er pv)
theorem SWeB.st {f : ETB} (h : SWeB X W cl C e f) : STeB X W cl C e f := by
  obtain ⟨t, pt, h⟩ := h
  exact ⟨t, pt.pt, h⟩
end
inductive OEB where
  | nx (ρ : Env) (ps : PLB) | ret (d : D) (ps : PLB) | err (ρ : Env) (c : Nat) (ps : PLB) | bad
abbrev DSeB := Env → PLB → OEB
def OEB.seq : OEB → DSeB → OEB
  | .nx ρ ps, k => k ρ ps
  | .ret d ps, _ => .ret d ps
  | .err ρ c ps, _ => .err ρ c ps
  | .bad, _ => .bad
def RPB.to {α : Type} (ρ : Env) : RPB α → (α → PLB → OEB) → OEB
  | .ok a ps, k => k a ps
  | .err c ps, _ => .err ρ c ps
  | .bad, _ => .bad
def O.upB (ps : PLB) : O → OEB
  | .nx ρ => .nx ρ ps
  | .ret d => .ret d ps
  | .err ρ c => .err ρ c ps
  | .bad => .bad
structure SReB (K : PySem.W.Frag) (cl : Glb) (C : Addr) (F0 : List Ft) (Hv0 H0 : Hp) (own : List Nat) (ρ : Env) (σ : St) (ps : PLB) (F : List Ft) (Hv H : Hp) : Prop where
  ext : ExtEB cl F0 Hv0 H0 F Hv H
  pls : PlsB K cl C F ps Hv H
  len : ρ.length = σ.length
  sh : ∀ (i : Nat) d, i ∉ own → ρ[i]? = some (some d) → ∃ v, σ[i]? = some (some v) ∧ Rep K (cl.at F) Hv v d
  ow : ∀ i, i ∈ own → ∃ p d, ρ[i]? = some (some d) ∧ σ[i]? = some (some (.ref p)) ∧ Hv p = none ∧ H0 p = none ∧ p ∉ feetB F ∧ OwnR K (cl.at F) Hv H p d
  ap : ∀ (i j : Nat) p, i ∈ own → j ∈ own → σ[i]? = some (some (.ref p)) → σ[j]? = some (some (.ref p)) → i = j
section
variable {K : PySem.W.Frag} {cl : Glb} {C : Addr} {F0 F F' : List Ft} {Hv0 H0 Hv H Hv' H' : Hp} {own own' : List Nat} {ρ ρ' : Env} {σ σ' : St} {ps ps' : PLB}
theorem SReB.isOw (s : SReB K cl C F0 Hv0 H0 own ρ σ ps F Hv H) {b : Addr} (h : IsOw own σ b) : Hv b = none ∧ H0 b = none ∧ b ∉ feetB F := by
  obtain ⟨i, hi, e⟩ := h
  obtain ⟨p, d, _, e2, e3, e4, e5, _⟩ := s.ow i hi
  rw [e] at e2; cases e2
  exact ⟨e3, e4, e5⟩
theorem SReB.sr (s : SReB K cl C F0 Hv0 H0 own ρ σ ps F Hv H) : SR K (cl.at F) Hv (lessH own σ H) own ρ σ Hv H where
  ext := ⟨fun b o h _ => (less_some h).2, Sam.refl _, s.ext.vh.at, fun b o h n => n, fun b h => by
    by_cases z : IsOw own σ b
    · exact less_ow z
    · rw [less_no z]; exact h, fun b ps h => ⟨ps, (less_some h).2⟩⟩
  len := s.len
  sh := s.sh
  ow := fun i hi => by
    obtain ⟨p, d, e1, e2, e3, e4, e5, e6⟩ := s.ow i hi
    exact ⟨p, d, e1, e2, e3, less_ow ⟨i, hi, e2⟩, e6⟩
  ap := s.ap
theorem SReB.backX (s : SReB K cl C F0 Hv0 H0 own ρ σ ps F Hv H) (e : Ext (cl.at F) Hv (lessH own σ H) Hv' H') : ExtEB cl F0 Hv0 H0 F Hv' H' ∧ PlsB K cl C F ps Hv' H' := by
  have no : ∀ {b o}, H0 b = some o → ¬ IsOw own σ b := fun {b o} h z => by rw [(s.isOw z).2.1] at h; cases h
  have fo : ∀ {b}, b ∈ feetB F → ¬ IsOw own σ b := fun {b} h z => (s.isOw z).2.2 h
  refine ⟨⟨fun b o h n hf => ?_, s.ext.vv.trans e.vv, e.vh.un, fun b o h n => ?_, fun b h => ?_, fun b ps h => ?_, s.ext.ob, s.ext.ft⟩, ⟨s.pls.len, fun k f q hf hq => ?_, s.pls.nd, s.pls.ob0⟩⟩
  · exact e.hh b o (by rw [less_no (no h)]; exact s.ext.hh b o h n hf) n
  · cases q : H b with
    | none => rw [s.ext.dom b q] at h; cases h
    | some u => exact e.old b u (by rw [less_no (no h)]; exact q) (s.ext.old b o h n)
  · have := e.dom b h
    by_cases z : IsOw own σ b
    · exact (s.isOw z).2.1
    · rw [less_no z] at this
      exact s.ext.dom b this
  · obtain ⟨ps', h'⟩ := s.ext.tt b ps h
    exact e.tt b ps' (by rw [less_no (no h)]; exact h')
  · have mf : ∀ a ∈ f.one, a ∈ feetB F := fun a ha => mem_feetB.mpr ⟨f, List.mem_of_getElem? hf, ha⟩
    refine (s.pls.pl k f q hf hq).mono (fun a ha o h n => e.hh a o (by rw [less_no (fo (mf a ha))]; exact h) n) e.vv fun a ha => ?_
    obtain ⟨hv, o, ho, _⟩ := s.pls.foot (mf a ha)
    exact e.old a o (by rw [less_no (fo (mf a ha))]; exact ho) hv
theorem SReB.back (s : SReB K cl C F0 Hv0 H0 own ρ σ ps F Hv H) (r : SR K (cl.at F) Hv (lessH own σ H) own' ρ' σ' Hv' H') : SReB K cl C F0 Hv0 H0 own' ρ' σ' ps F Hv' H' := by
  obtain ⟨e1, e2⟩ := s.backX r.ext
  refine ⟨e1, e2, r.len, r.sh, fun i hi => ?_, r.ap⟩
  obtain ⟨p, d, a1, a2, a3, a4, a5⟩ := r.ow i hi
  refine ⟨p, d, a1, a2, a3, ?_, fun hf => ?_, a5⟩
  · by_cases z : IsOw own σ p
    · exact (s.isOw z).2.1
    · rw [less_no z] at a4
      exact s.ext.dom p a4
  · obtain ⟨_, o, ho, _⟩ := s.pls.foot hf
    rw [less_no fun z => (s.isOw z).2.2 hf, ho] at a4
    cases a4
theorem SReB.er (s : SReB K cl C F0 Hv0 H0 own ρ σ ps F Hv H) : ER K (cl.at F) Hv (mask own ρ) σ := s.sr.er
theorem SReB.step (s : SReB K cl C F0 Hv0 H0 own ρ σ ps F Hv H) (e : ExtEB cl F Hv H F' Hv' H') (pl : PlsB K cl C F' ps' Hv' H') : SReB K cl C F0 Hv0 H0 own ρ σ ps' F' Hv' H' where
  ext := s.ext.trans e
  pls := pl
  len := s.len
  sh := fun i d h1 h2 => let ⟨v, h3, h4⟩ := s.sh i d h1 h2; ⟨v, h3, h4.eb e⟩
  ow := fun i hi => by
    obtain ⟨p, d, h1, h2, h3, h4, h5, o, h6, h7⟩ := s.ow i hi
    refine ⟨p, d, h1, h2, e.old p _ h6 h3, h4, fun hf => (e.ft p hf).elim h5 fun z => (by rw [h6] at z; cases z), o, e.hh _ _ h6 h7.tbl h5, ?_⟩
    cases h7 with
    | lst z r => exact .lst z (r.eb e)
    | dct z r => exact .dct z ((r.ob e.ob).mono e.vv)
  ap := s.ap
theorem SReB.freeze (s : SReB K cl C F0 Hv0 H0 own ρ σ ps F Hv H) (hs : ∀ i ∈ own', i ∈ own) : SReB K cl C F0 Hv0 H0 own' ρ σ ps F (thaw own own' σ Hv H) H ∧ Sam Hv (thaw own own' σ Hv H) := by
  obtain ⟨h1, h2⟩ := s.sr.freeze hs
  exact ⟨s.back h1, h2⟩
end
section
variable (X : Cx) (W : WX) (cl : Glb) (C : Addr)
def PSOeB (F0 : List Ft) (Hv0 H0 : Hp) (own : List Nat) (F : List Ft) (Hv : Hp) (Dn : Ends) : OEB → Prop
  | .nx ρ' ps' => ∀ σ' F' Hv' H', SReB X.K cl C F0 Hv0 H0 own ρ' σ' ps' F' Hv' H' → Sam Hv Hv' → (∀ k a, obA F k a → obA F' k a) → σ'.length = X.N.length → Dn.nx σ' H'
  | .ret d ps' => ∀ v F' Hv' H', ExtEB cl F0 Hv0 H0 F' Hv' H' → PlsB X.K cl C F' ps' Hv' H' → Rep X.K (cl.at F') Hv' v d → Dn.rt v H'
  | .err ρ' c ps' => ∀ σ' F' Hv' H', SReB X.K cl C F0 Hv0 H0 [] ρ' σ' ps' F' Hv' H' → Sam Hv Hv' → (∀ k a, obA F k a → obA F' k a) → σ'.length = X.N.length → W (.ref (cl.c c)) none σ' H'
  | .bad => False
def RunSeB (own own' : List Nat) (f : DSeB) (t : TS) : Prop := ∀ (F0 : List Ft) (Hv0 H0 : Hp) (ρ : Env) (σ : St) (ps : PLB) (F : List Ft) (Hv H : Hp) (Dn : Ends), SReB X.K cl C F0 Hv0 H0 own ρ σ ps F Hv H → σ.length = X.N.length → PSOeB X W cl C F0 Hv0 H0 own' F Hv Dn (f ρ ps) → t Dn σ H
def SSeB (own own' : List Nat) (st : Stmt) (f : DSeB) : Prop := ∃ t, PS X st t ∧ RunSeB X W cl C own own' f t
def SSesB (own own' : List Nat) (st : List Stmt) (f : DSeB) : Prop := ∃ t, PSs X st t ∧ RunSeB X W cl C own own' f t
end
section
variable {X : Cx} {W : WX} {cl : Glb} {C : Addr} {F0 F F1 : List Ft} {Hv0 H0 Hv Hv1 H : Hp} {own own1 own2 own3 : List Nat} {Dn : Ends} {pos p : Pos} {a b c e tg iter : Expr} {es : List Expr} {fa fb : EEB} {g : EAB} {st : Stmt} {sts : List Stmt}
theorem PSOeB.mono {r : OEB} (h : PSOeB X W cl C F0 Hv0 H0 own F Hv Dn r) (s : Sam Hv Hv1) (so : ∀ k a, obA F k a → obA F1 k a) : PSOeB X W cl C F0 Hv0 H0 own F1 Hv1 Dn r := by
  cases r with
  | nx ρ ps => exact fun σ' F' Hv' H' sr sm ob hl => h σ' F' Hv' H' sr (s.trans sm) (fun k a z => ob k a (so k a z)) hl
  | ret d ps => exact h
  | err ρ c ps => exact fun σ' F' Hv' H' sr sm ob hl => h σ' F' Hv' H' sr (s.trans sm) (fun k a z => ob k a (so k a z)) hl
  | bad => exact h
theorem PSOeB.less {r : OEB} (h : PSOeB X W cl C F0 Hv0 H0 own2 F Hv Dn r) (hs : ∀ i ∈ own2, i ∈ own1) : PSOeB X W cl C F0 Hv0 H0 own1 F Hv Dn r := by
  cases r with
  | nx ρ ps =>
    intro σ' F' Hv' H' sr sm ob hl
    obtain ⟨s1, s2⟩ := sr.freeze hs
    exact h σ' F' _ H' s1 (sm.trans s2) ob hl
  | ret d ps => exact h
  | err ρ c ps => exact h
  | bad => exact h
theorem SSeB.pre {f : DSeB} (h : SSeB X W cl C own1 own2 st f) (hs : sub own1 own = true := by rfl) : SSeB X W cl C own own2 st f := by
  obtain ⟨t, pt, h⟩ := h
  refine ⟨t, pt, fun F0 Hv0 H0 ρ σ ps F Hv H Dn sr hl po => ?_⟩
  obtain ⟨s1, s2⟩ := sr.freeze (sub_mem hs)
  exact h F0 Hv0 H0 ρ σ ps F _ H Dn s1 hl (po.mono s2 fun _ _ z => z)
theorem SSesB.post {f : DSeB} (h : SSesB X W cl C own own1 sts f) (hs : sub own2 own1 = true := by rfl) : SSesB X W cl C own own2 sts f := by
  obtain ⟨t, pt, h⟩ := h
  exact ⟨t, pt, fun F0 Hv0 H0 ρ σ ps F Hv H Dn sr hl po => h F0 Hv0 H0 ρ σ ps F Hv H Dn sr hl (po.less (sub_mem hs))⟩
def sPB (f : DS) : DSeB := fun ρ ps => (f ρ).upB ps
theorem es_pureB {f : DS} (h : ∀ F, SS X W (cl.at F) own own1 st f) : SSeB X W cl C own own1 st (sPB f) := by
  refine ⟨fun Dn σ H => ∃ F, tS X.K X.N W (cl.at F) own own1 f Dn σ H, ⟨fun pins s σ H D I ⟨F, q⟩ => (h F).ps.run pins s σ H D I q⟩, fun F0 Hv0 H0 ρ σ ps F Hv H Dn sr hl po => ⟨F, Hv, lessH own σ H, ρ, Hv, sr.sr, hl, ?_⟩⟩
  unfold sPB at po
  cases q : f ρ with
  | nx ρ' =>
    rw [q] at po
    exact fun σ' Hv' H' r sm l => po σ' F Hv' H' (sr.back r) sm (fun _ _ z => z) l
  | ret d =>
    rw [q] at po
    exact fun v Hv' H' e r => po v F Hv' H' (sr.backX e).1 (sr.backX e).2 r
  | err ρ' c =>
    rw [q] at po
    exact fun σ' Hv' H' r sm l => po σ' F Hv' H' (sr.back r) sm (fun _ _ z => z) l
  | bad => rw [q] at po; exact po
theorem es_nilB : SSesB X W cl C own own [] .nx := ⟨_, pss_nil, fun F0 Hv0 H0 ρ σ ps F Hv H Dn sr hl po => po σ F Hv H sr (Sam.refl _) (fun _ _ z => z) hl⟩
def eSeqB (f g : DSeB) : DSeB := fun ρ ps => (f ρ ps).seq g
theorem es_consB {f g : DSeB} (h1 : SSeB X W cl C own own1 st f) (h2 : SSesB X W cl C own2 own3 sts g) (hs : sub own2 own1 = true := by rfl) : SSesB X W cl C own own3 (st :: sts) (eSeqB f g) := by
  obtain ⟨t, pt, h1⟩ := h1
  obtain ⟨u, pu, h2⟩ := h2
  refine ⟨_, pss_cons pt pu, fun F0 Hv0 H0 ρ σ ps F Hv H Dn sr hl po => ?_⟩
  refine h1 F0 Hv0 H0 ρ σ ps F Hv H _ sr hl ?_
  unfold eSeqB at po
  cases q : f ρ ps with
  | nx ρ' ps' =>
    rw [q] at po
    intro σ' F' Hv' H' sr' sm ob hl'
    obtain ⟨s1, s2⟩ := sr'.freeze (sub_mem hs)
    exact h2 F0 Hv0 H0 ρ' σ' ps' F' _ H' Dn s1 hl' (PSOeB.mono (r := g ρ' ps') po (sm.trans s2) ob)
  | ret d ps' => rw [q] at po; exact po
  | err ρ c ps' => rw [q] at po; exact po
  | bad => rw [q] at po; exact po
theorem es_oneB {f : DSeB} (h1 : SSeB X W cl C own own1 st f) : SSesB X W cl C own own1 [st] f := by
  obtain ⟨t, pt, h1⟩ := h1
  exact ⟨_, pss_one pt, h1⟩
theorem use_maskEB {α : Type} {ρ : Env} {σ : St} {ps : PLB} {T : List Ft → Hp → Hp → α → Prop} {r : RPB α} {k : α → PLB → OEB} (sr : SReB X.K cl C F0 Hv0 H0 own ρ σ ps F Hv H) (hl : σ.length = X.N.length) (po : PSOeB X W cl C F0 Hv0 H0 own1 F Hv Dn (r.to ρ k))
    (h : ∀ a ps' F' Hv' H', r = .ok a ps' → ExtEB cl F Hv H F' Hv' H' → SReB X.K cl C F0 Hv0 H0 own ρ σ ps' F' Hv' H' → PSOeB X W cl C F0 Hv0 H0 own1 F' Hv' Dn (k a ps') → T F' Hv' H' a) : PstEB X.K cl C W σ F Hv H T r := by
  cases r with
  | ok a ps' => exact fun F' Hv' H' e pl => h a ps' F' Hv' H' rfl e (sr.step e pl) (PSOeB.mono (r := k a ps') po e.vv e.ob)
  | err c ps' =>
    intro F' Hv' H' e pl
    obtain ⟨s1, s2⟩ := (sr.step e pl).freeze (own' := []) (by simp)
    exact po σ F' _ H' s1 (e.vv.trans s2) e.ob hl
  | bad => exact po
def eIfSB (own : List Nat) (t : ETB) (f g : DSeB) : DSeB := fun ρ ps => (t (mask own ρ) ps).to ρ fun k ps => match k with | true => f ρ ps | false => g ρ ps
theorem es_ifB {t : ETB} {f g : DSeB} {s1 s2 : List Stmt} (hc : STeB X W cl C c t) (ha : SSesB X W cl C own own1 s1 f) (hb : SSesB X W cl C own own1 s2 g) : SSeB X W cl C own own1 (.If c s1 s2 pos) (eIfSB own t f g) := by
  obtain ⟨tc, pc, hc⟩ := hc
  obtain ⟨ta, pa, ha⟩ := ha
  obtain ⟨tb, pb, hb⟩ := hb
  refine ⟨_, ps_if pc pa pb, fun F0 Hv0 H0 ρ σ ps F Hv H Dn sr hl po => ?_⟩
  refine hc F Hv H σ _ ps _ sr.ext.vh sr.pls sr.er (use_maskEB sr hl po fun k ps' F' Hv' H' _ e sr' po' => ?_)
  show if k = true then ta Dn σ H' else tb Dn σ H'
  cases k with
  | true => rw [if_pos rfl]; exact ha F0 Hv0 H0 ρ σ ps' F' Hv' H' Dn sr' hl po'
  | false => rw [if_neg Bool.false_ne_true]; exact hb F0 Hv0 H0 ρ σ ps' F' Hv' H' Dn sr' hl po'
def eSetB (own : List Nat) (i : Nat) (f : EEB) : DSeB := fun ρ ps => (f (mask own ρ) ps).to ρ fun d ps => .nx (ρ.set i (some d)) ps
theorem es_setB {i : Nat} {x : Str} {p' : Pos} (gd : Gd X W) (ha : SEeB X W cl C a fa) (hi : X.N[i]? = some x := by rfl) (hx : Loc X.env.scope x := by first | exact Or.inl rfl | exact Or.inr rfl) (hs : swapsWith a (some (.Name x p')) pos.line X.env = pure false := by rfl)
    (hf : X.fn x = true ∨ X.env.scope.names.lookup x = some .local := by first | exact .inl rfl | exact .inr rfl | assumption) : SSeB X W cl C own (nots own i) (.Assign [.Name x p'] a pos) (eSetB own i fa) := by
  obtain ⟨ta, pa, ha⟩ := ha
  refine ⟨_, ps_set gd.nd hi hx pa hs hf, fun F0 Hv0 H0 ρ σ ps F Hv H Dn sr hl po => ?_⟩
  refine ha F Hv H σ _ ps _ sr.ext.vh sr.pls sr.er (use_maskEB sr hl po fun d ps' F' Hv' H' _ e sr' po' v r => ?_)
  exact po' _ F' Hv' H' (sr'.back (sr'.sr.set nots_mem r nots_or)) (Sam.refl _) (fun _ _ z => z) (by rw [List.length_set]; exact hl)
theorem sgEB {pt : Pat} (h : ∀ F, SG X (cl.at F) tg pt) : ∃ t, PG X tg t ∧ ∀ (F : List Ft) (Hv H : Hp) (v : V) (d : D) (ρ ρ' : Env) (σ : St) (Q : St → Hp → Prop), Vw (cl.at F) Hv H → Rep X.K (cl.at F) Hv v d → bindPat pt d ρ = some ρ' → ρ.length = σ.length →
    (∀ σ', (∀ (own : List Nat) (Hv0 H0 Hv1 H1 : Hp), SR X.K (cl.at F) Hv0 H0 own ρ σ Hv1 H1 → Sam Hv Hv1 → (∀ i ∈ patIx pt, i ∉ own) → SR X.K (cl.at F) Hv0 H0 own ρ' σ' Hv1 H1) → σ'.length = σ.length → (∀ j, j ∉ patIx pt → σ'[j]? = σ[j]?) → Q σ' H) → t v σ H Q :=
  ⟨fun v σ H Q => ∃ F, (h F).choose v σ H Q, ⟨fun pins s σ H v u Q I r ⟨F, q⟩ => (h F).choose_spec.1.run pins s σ H v u Q I r q⟩, fun F Hv H v d ρ ρ' σ Q vw r e hl q => ⟨F, (h F).choose_spec.2 Hv H v d ρ ρ' σ Q vw r e hl fun σ' f1 g1 l1 m1 k1 => q σ' f1 l1 k1⟩⟩
end
section
variable {X : Cx} {W : WX} {cl : Glb} {C : Addr} {F0 F F1 : List Ft} {Hv0 H0 Hv Hv1 H : Hp} {own own1 own2 own3 : List Nat} {Dn : Ends} {pos p : Pos} {a b c e o tg iter : Expr} {es : List Expr} {fa fb : EEB} {g : EAB} {st : Stmt} {sts : List Stmt}
abbrev EIB := Env → PLB → RPB (List D)
def TJeB (K : PySem.W.Frag) (cl : Glb) (Q : It → Hp → Prop) : List Ft → Hp → Hp → List D → Prop := fun F Hv H ds => ds.length ≤ sizeLine → ∀ J, ItOk K (cl.at F) J Hv ds → Q J H
def SIeB (X : Cx) (W : WX) (cl : Glb) (C : Addr) (tg iter : Expr) (f : EIB) : Prop := ∃ wi, PI X tg iter wi ∧ ∀ (F : List Ft) (Hv H : Hp) (σ : St) (ρ : Env) (ps : PLB) (Q : It → Hp → Prop), Vw cl Hv H → PlsB X.K cl C F ps Hv H → ER X.K (cl.at F) Hv ρ σ → PstEB X.K cl C W σ F Hv H (TJeB X.K cl Q) (f ρ ps) → wi σ H Q
def eIB (f : DI) : EIB := fun ρ ps => (f ρ).upB ps
theorem ie_pureB {f : DI} (h : ∀ F, SI X W (cl.at F) tg iter f) : SIeB X W cl C tg iter (eIB f) :=
  ⟨fun σ H Q => ∃ F, (h F).choose σ H Q, ⟨fun pins s σ H R I ⟨F, q⟩ => (h F).choose_spec.1.run pins s σ H R I q⟩, fun F Hv H σ ρ ps Q vw pl er pv => ⟨F, (h F).choose_spec.2 Hv H σ ρ Q vw.at er (up_pstB pl pv)⟩⟩
def forGoEB (pt : Pat) (f : DSeB) : List D → DSeB
  | [], ρ, ps => .nx ρ ps
  | d :: ds, ρ, ps => match bindPat pt d ρ with
    | some ρ' => (f ρ' ps).seq (forGoEB pt f ds)
    | none => .bad
def eForB (own : List Nat) (pt : Pat) (it : EIB) (f : DSeB) : DSeB := fun ρ ps => (it (mask own ρ) ps).to ρ fun ds ps => forGoEB pt f ds ρ ps
theorem es_forB {pt : Pat} {it : EIB} {f : DSeB} (gd : Gd X W) (hi : SIeB X W cl C tg iter it) (hg : ∀ F, SG X (cl.at F) tg pt) (hb : SSesB X W cl C own own sts f) (hd : disj (patIx pt) own = true := by rfl) (hs : ∀ x, foldedSetIterable iter X.env x = pure x := by intro _; rfl) :
    SSeB X W cl C own own (.For tg iter sts [] pos) (eForB own pt it f) := by
  obtain ⟨wi, pi, hi⟩ := hi
  obtain ⟨tg1, pg, hg⟩ := sgEB hg
  obtain ⟨tb, pb, hb⟩ := hb
  refine ⟨_, ps_for gd.po gd.calm pi pg pb hs, fun F0 Hv0 H0 ρ σ ps F Hv H Dn sr hl po => ?_⟩
  refine hi F Hv H σ _ ps _ sr.ext.vh sr.pls sr.er (use_maskEB sr hl po fun ds ps' F' Hv' H' _ e sr' po' z J hJ => ?_)
  refine ⟨fun i m σ1 H1 => ∃ ρ1 ps1 F1 Hv1, SReB X.K cl C F0 Hv0 H0 own ρ1 σ1 ps1 F1 Hv1 H1 ∧ σ1.length = X.N.length ∧ Sam Hv' Hv1 ∧ (∀ k a, obA F' k a → obA F1 k a) ∧ m = ds.length - i ∧ i ≤ ds.length ∧ PSOeB X W cl C F0 Hv0 H0 own F1 Hv1 Dn (forGoEB pt f (ds.drop i) ρ1 ps1),
    ⟨ds.length, ρ, ps', F', Hv', sr', hl, Sam.refl _, fun _ _ z => z, rfl, Nat.zero_le _, po'⟩, ?_⟩
  rintro i m σ1 H1 ⟨ρ1, ps1, F1, Hv1, s1, l1, sm1, ob1, rfl, hi1, p1⟩
  have hJ := hJ.at ob1
  by_cases hlt : i < ds.length
  · rw [List.drop_eq_getElem_cons hlt] at p1
    unfold forGoEB at p1
    refine .inr ⟨hJ.go i Hv1 H1 sm1 s1.ext.vh.at hlt, fun σ2 H2 => ∃ ρ2 ps2 F2 Hv2, SReB X.K cl C F0 Hv0 H0 own ρ2 σ2 ps2 F2 Hv2 H2 ∧ σ2.length = X.N.length ∧ Sam Hv' Hv2 ∧ (∀ k a, obA F' k a → obA F2 k a) ∧ PSOeB X W cl C F0 Hv0 H0 own F2 Hv2 Dn (forGoEB pt f (ds.drop (i + 1)) ρ2 ps2),
      fun σ2 H2 ⟨ρ2, ps2, F2, Hv2, s2, l2, sm2, ob2, p2⟩ => ⟨ds.length - (i + 1), by omega, ρ2, ps2, F2, Hv2, s2, l2, sm2, ob2, rfl, hlt, p2⟩, fun x H2 y => ?_⟩
    obtain ⟨Hv2, e2, r2⟩ := hJ.yld i Hv1 H1 sm1 s1.ext.vh.at ds[i] (by simp [hlt]) x H2 y
    cases q : bindPat pt ds[i] ρ1 with
    | none => rw [q] at p1; exact p1.elim
    | some ρ' =>
      rw [q] at p1
      have s2 := s1.step (ExtEB.of e2) (s1.pls.ext e2)
      refine hg F1 Hv2 H2 x ds[i] ρ1 ρ' σ1 _ e2.vh r2 q s1.len fun σ3 f3 l3 k3 => ?_
      have s3 := s2.back (f3 own Hv2 _ Hv2 H2 s2.sr (Sam.refl _) (disj_mem hd))
      refine hb F0 Hv0 H0 ρ' σ3 ps1 F1 Hv2 H2 _ s3 (l3.trans l1) ?_
      have p1' : PSOeB X W cl C F0 Hv0 H0 own F1 Hv2 Dn ((f ρ' ps1).seq (forGoEB pt f (ds.drop (i + 1)))) := p1.mono e2.vv fun _ _ z => z
      cases w : f ρ' ps1 with
      | nx ρ4 ps4 =>
        rw [w] at p1'
        intro σ4 F4 Hv4 H4 s4 sm4 ob4 l4
        exact ⟨ρ4, ps4, F4, Hv4, s4, l4, (sm1.trans e2.vv).trans sm4, fun k a z => ob4 k a (ob1 k a z), p1'.mono sm4 ob4⟩
      | ret d ps4 => rw [w] at p1'; exact p1'
      | err ρ4 c ps4 => rw [w] at p1'; exact p1'
      | bad => rw [w] at p1'; exact p1'
  · have ei : i = ds.length := by omega
    subst ei
    rw [List.drop_length] at p1
    exact .inl ⟨hJ.stop _ Hv1 H1 sm1 s1.ext.vh.at rfl, p1 σ1 F1 Hv1 H1 s1 (Sam.refl _) (fun _ _ z => z) l1⟩
end
def spEB (K : PySem.W.Frag) (cl : Glb) (C : Addr) (n : Nat) (Fd : List D → PLB → RPB D) : Sp := fun vs H Q E => vs.length = n ∧ ∃ F Hv ds ps, Vw cl Hv H ∧ PlsB K cl C F ps Hv H ∧ Reps K (cl.at F) Hv vs ds ∧ PstEB K cl C (fun c d _ H => E c d H) [] F Hv H (TVeB K cl Q) (Fd ds ps)
section
variable {P : Program} {w : World} {K : PySem.W.Frag} {mg : Str → Option Value} {base : Heap} {cl : Glb} {C : Addr}
end
structure FnAB (P : Program) (w : World) (K : PySem.W.Frag) (mg : Str → Option Value) (base : Heap) (cl : Glb) (C : Addr) (k : Nat) (x : Str) (n : Nat) (Fd : List D → PLB → RPB D) : Prop where
  ex : ∃ f, FnR P w K mg base (L2.CX P w) k f (spEB K cl C n Fd) ∧ mg x = some (.ref f) ∧ PySem.W.keepIn K (.ref f) = true
section
variable {P : Program} {w : World} {K : PySem.W.Frag} {mg : Str → Option Value} {base : Heap} {cl : Glb} {C : Addr} {k n m : Nat} {x q : Str}
theorem FnAB.mono {k' : Nat} {Fd : List D → PLB → RPB D} (h : FnAB P w K mg base cl C k x n Fd) (hk : k ≤ k') : FnAB P w K mg base cl C k' x n Fd := let ⟨f, h1, h2, h3⟩ := h.ex; ⟨f, h1.mono hk, h2, h3⟩
def upFB (Fp : List D → R D) : List D → PLB → RPB D := fun ds ps => (Fp ds).upB ps
theorem FnAB.of {Fp : List D → R D} (G : ∀ F, Fn P w K mg base (cl.at F) k x n Fp) : FnAB P w K mg base cl C k x n (upFB Fp) := by
  obtain ⟨f, fd, ps, h1, h2, h3, h4, h5⟩ := G []
  refine ⟨f, ?_, h2, h3⟩
  intro A outer s H us vs Q E hr e0 r ⟨hl, F, Hv, ds, ps', vw, pl, rs, pv⟩
  obtain ⟨f', fd', ps'', g1, g2, g3, g4, g5⟩ := G F
  rw [h2] at g2; cases g2
  exact FnOk.rawN g1 g4 A outer s H us vs Q E hr e0 r ⟨hl, Hv, ds, vw.at, rs, up_pstB pl pv⟩
end
section
variable {X : Cx} {CX : CXT} {k : Nat} {f C : Addr} {sp : Sp} {E : St → XK} {x m : Str} {p pos apos : Pos} {e o : Expr} {es : List Expr} {ta : TE} {t : TA}
end
section
variable {X : Cx} {W : WX} {cl : Glb} {C : Addr} {pos p apos : Pos} {a b c e o : Expr} {es : List Expr} {fa fb : EEB} {g : EAB}
end
section
variable {X : Cx} {W : WX} {cl : Glb} {C : Addr} {F0 F F1 : List Ft} {Hv0 H0 Hv Hv1 H : Hp} {own own1 own2 own3 : List Nat} {Dn : Ends} {pos pos' p lp : Pos} {a b c e : Expr} {es : List Expr} {fa fb : EEB} {g : EAB} {st : Stmt} {sts : List Stmt}
end
end Sm
namespace Sm
open PySem PySem.Spec L2
def ft1 (p : Addr) : Ft := ⟨p, p, p, p⟩
theorem feetB_map (F : List Ft) : feetB F = F.map Ft.x := by
  unfold feetB Ft.one
  induction F with
  | nil => rfl
  | cons f F ih => rw [List.flatMap_cons, ih]; rfl
theorem obA_push {F : List Ft} {f : Ft} : ∀ k a, obA F k a → obA (F ++ [f]) k a := fun k a h => by
  have h : (F[k]?).map Ft.x = some a := h
  show ((F ++ [f])[k]?).map Ft.x = some a
  rw [Option.map_eq_some_iff] at h
  obtain ⟨g, h1, h2⟩ := h
  rw [List.getElem?_append_left (List.getElem?_eq_some_iff.mp h1).1, h1]
  exact congrArg some h2
section
variable {K : PySem.W.Frag} {cl : Glb} {C : Addr} {F F' : List Ft} {Hv H Hv' H' : Hp} {ps : PLB} {o o' : HO} {d d' : D} {p : Addr}
theorem own_ob (h : ∀ k a, obA F k a → obA F' k a) (r : OwnO K (cl.at F) Hv o d) : OwnO K (cl.at F') Hv o d := by
  cases r with
  | lst z r => exact .lst z (r.ob h)
  | dct z r => exact .dct z (r.ob h)
theorem new_box (vw : Vw cl Hv H) (pl : PlsB K cl C F ps Hv H) (hp : H p = none) (r : OwnO K (cl.at F) Hv o d) :
    ExtEB cl F Hv H (F ++ [ft1 p]) Hv (upd H p o) ∧ PlsB K cl C (F ++ [ft1 p]) (ps ++ [d]) Hv (upd H p o) := by
  have ex := ext_hid vw.at hp r
  refine ⟨⟨fun b u h n _ => ex.hh b u h n, Sam.refl _, ex.vh.un, fun _ _ _ h => h, ex.dom, ex.tt, obA_push, fun b hb => ?_⟩, ⟨by simp [pl.len], fun k f q hf hq => ?_, ?_, fun k a h => obA_push k a (pl.ob0 k a h)⟩⟩
  · rw [feetB_map, List.map_append, List.mem_append] at hb
    rcases hb with hb | hb
    · exact .inl (by rw [feetB_map]; exact hb)
    · rw [List.mem_singleton.mp hb]; exact .inr hp
  · by_cases hk : k < F.length
    · rw [List.getElem?_append_left hk] at hf
      rw [List.getElem?_append_left (by rw [← pl.len]; exact hk)] at hq
      obtain ⟨⟨u, h1, h2⟩, hid⟩ := pl.pl k f q hf hq
      exact ⟨⟨u, by rw [upd_ne (ne_of_none h1 hp)]; exact h1, own_ob obA_push h2⟩, hid⟩
    · have : k < (F ++ [ft1 p]).length := (List.getElem?_eq_some_iff.mp hf).1
      have : k = F.length := by rw [List.length_append, List.length_singleton] at this; omega
      subst this
      rw [List.getElem?_append_right (Nat.le_refl _), Nat.sub_self] at hf
      rw [pl.len, List.getElem?_append_right (Nat.le_refl _), Nat.sub_self] at hq
      cases hf; cases hq
      refine ⟨⟨o, upd_same, own_ob obA_push r⟩, fun a ha => ?_⟩
      rw [List.mem_singleton.mp ha]
      exact vw.d p hp
  · have nd := pl.nd
    rw [feetB_map] at nd ⊢
    rw [List.map_append, List.nodup_append]
    refine ⟨nd, by simp, fun a ha b hb => ?_⟩
    rw [List.mem_singleton.mp hb]
    intro z
    obtain ⟨_, u, hu, _⟩ := pl.foot (b := a) (by rw [feetB_map]; exact ha)
    rw [z] at hu
    have : H p = some u := hu
    rw [hp] at this; cases this
theorem vw_write {cl' : Glb} {d0 : D} (vw : Vw cl Hv H) (hp : Hv p = none) (e6 : H p = some o) (ro : OwnO K cl' Hv o d0) (r : OwnO K cl' Hv o' d') : Vw cl Hv (upd H p o') := by
  have ne : ∀ b u, H b = some u → (∃ ps, u = .tbl ps) → b ≠ p := fun b u h n z => by
    subst z; rw [e6] at h; cases h
    obtain ⟨ps, n⟩ := n
    exact ro.noT.2.2 _ n
  have neV : ∀ b o, Hv b = some o → b ≠ p := fun b o h z => by subst z; rw [hp] at h; cases h
  refine ⟨fun b o h n => ?_, fun b h => vw.d b (upd_none h).2, fun b xs h => ?_, fun b o u h => ?_, fun q hq => ?_, fun b φ h => ?_⟩
  · rw [upd_ne (neV b o h)]; exact vw.s b o h n
  · by_cases z : b = p
    · subst z; rw [upd_same] at h; cases h; exact (r.noT.1 _ rfl).elim
    · rw [upd_ne z] at h; exact vw.t b xs h
  · by_cases z : b = p
    · subst z; rw [upd_same] at h; cases h; exact (r.noT.2.1 _ _ rfl).elim
    · rw [upd_ne z] at h; exact vw.z b o u h
  · obtain ⟨ps, h1, h2, h3⟩ := vw.tab q hq
    refine ⟨ps, by rw [upd_ne (ne q.1 _ h1 ⟨_, rfl⟩)]; exact h1, h2, fun pos cv hc => ?_⟩
    obtain ⟨c, e, hc'⟩ := h3 pos cv hc
    exact ⟨c, e, by rw [upd_ne fun z => ?_]; exact hc'; subst z; rw [e6] at hc'; cases hc'; cases ro⟩
  · by_cases z : b = p
    · subst z; rw [upd_same] at h; cases h; cases r
    · rw [upd_ne z] at h; exact vw.x b φ h
theorem write_box {k : Nat} {f : Ft} (vw : Vw cl Hv H) (pl : PlsB K cl C F ps Hv H) (hk : F[k]? = some f) (r : OwnO K (cl.at F) Hv o' d') :
    ExtEB cl F Hv H F Hv (upd H f.x o') ∧ PlsB K cl C F (ps.set k d') Hv (upd H f.x o') := by
  obtain ⟨q0, hq0, ⟨o, h1, h2⟩, hid⟩ := pl.get hk
  have hf : f.x ∈ feetB F := mem_feetB.mpr ⟨f, List.mem_of_getElem? hk, by simp [Ft.one]⟩
  have hv : Hv f.x = none := hid _ (by simp [Ft.one])
  have vw' : Vw cl Hv (upd H f.x o') := vw_write vw hv h1 h2 r
  refine ⟨⟨fun b u h n hb => ?_, Sam.refl _, vw', fun _ _ _ h => h, fun b h => (upd_none h).2, fun b ps h => ⟨ps, ?_⟩, fun _ _ h => h, fun _ h => .inl h⟩, ⟨by rw [List.length_set]; exact pl.len, fun j g q hj hq => ?_, pl.nd, pl.ob0⟩⟩
  · have hb : b ∉ feetB F := hb
    have hne : b ≠ f.x := fun z => hb (by rw [z]; exact hf)
    rw [upd_ne hne]; exact h
  · rw [upd_ne fun z => ?_]
    · exact h
    · rw [z, h1] at h; cases h; exact h2.noT.2.2 _ rfl
  · by_cases z : j = k
    · subst z
      rw [hk] at hj; cases hj
      rw [List.getElem?_set_self (by rw [← pl.len]; exact (List.getElem?_eq_some_iff.mp hk).1)] at hq
      cases hq
      exact ⟨⟨o', upd_same, r⟩, hid⟩
    · rw [List.getElem?_set_ne (Ne.symm z)] at hq
      obtain ⟨⟨u, g1, g2⟩, gid⟩ := pl.pl j g q hj hq
      refine ⟨⟨u, ?_, g2⟩, gid⟩
      rw [upd_ne fun y => ?_]
      · exact g1
      · have nd := pl.nd
        rw [feetB_map] at nd
        refine z ((List.getElem?_inj (l := F.map Ft.x) (by rw [List.length_map]; exact (List.getElem?_eq_some_iff.mp hj).1) nd).mp ?_)
        rw [List.getElem?_map, List.getElem?_map, hj, hk]
        exact congrArg some y
end
def objs : Nat → Nat → List D
  | _, 0 => []
  | m, n + 1 => .obj m :: objs (m + 1) n
section
variable {X : Cx} {W : WX} {cl : Glb} {C : Addr} {pos p lp apos : Pos} {a o e : Expr} {es : List Expr} {own : List Nat} {fo : DE} {fa : EEB}
def SXB (X : Cx) (W : WX) (cl : Glb) (C : Addr) (es : List Expr) (n : Nat) : Prop := es.length = n ∧ ∃ t, PA X es t ∧ ∀ (F : List Ft) (Hv H : Hp) (σ : St) (ps : PLB) (Q : List V → Hp → Prop), Vw cl Hv H → PlsB X.K cl C F ps Hv H →
  (∀ F' Hv' H' vs, ExtEB cl F Hv H F' Hv' H' → PlsB X.K cl C F' (ps ++ List.replicate n (.lst [])) Hv' H' → Reps X.K (cl.at F') Hv' vs (objs ps.length n) → Q vs H') → t σ H Q
theorem sx_nilB : SXB X W cl C [] 0 := ⟨rfl, _, pa_nil, fun F Hv H σ ps Q vw pl q => q F Hv H [] (ExtEB.refl vw) (by rw [List.replicate_zero, List.append_nil]; exact pl) .nil⟩
theorem sx_consB {n : Nat} (hr : SXB X W cl C es n) (hs : starEach (.List [] lp :: es) X.env = (false, eval (.List [] lp) X.env) :: starEach es X.env := by rfl) : SXB X W cl C (.List [] lp :: es) (n + 1) := by
  obtain ⟨hn, t, pt, ht⟩ := hr
  refine ⟨by rw [List.length_cons, hn], _, pa_cons (pe_lst pa_nil) pt hs, fun F Hv H σ ps Q vw pl q => ?_⟩
  refine ⟨Nat.zero_le _, fun p hp => ?_⟩
  obtain ⟨e1, pl1⟩ := new_box (C := C) (o := .lst []) (d := .lst []) vw pl hp (.lst (Nat.zero_le _) .nil)
  refine ht _ Hv _ σ _ _ e1.vh pl1 fun F' Hv' H' vs e2 pl2 rs => ?_
  refine q F' Hv' H' _ (e1.trans e2) (by rw [List.append_assoc] at pl2; exact pl2) (.cons (.obj (e2.ob _ _ ?_)) (by rw [List.length_append] at rs; exact rs))
  show ((F ++ [ft1 p])[ps.length]?).map Ft.x = some p
  rw [← pl.len, List.getElem?_append_right (Nat.le_refl _), Nat.sub_self]
  rfl
theorem objs_len : ∀ n m, (objs m n).length = n
  | 0, _ => rfl
  | n + 1, m => by rw [objs, List.length_cons, objs_len n]
def eRowsB (n : Nat) : EEB := fun _ ps => .ok (.lst (objs ps.length n)) (ps ++ List.replicate n (.lst []))
theorem ee_rowsB {n : Nat} (h : SXB X W cl C es n) (hn : decide (es.length ≤ 1000) = true := by rfl) : SEeB X W cl C (.List es pos) (eRowsB n) := by
  obtain ⟨hl, t, pt, ht⟩ := h
  refine ⟨_, pe_lst pt, fun F Hv H σ ρ ps Q vw pl er pv => ?_⟩
  refine ht F Hv H σ ps _ vw pl fun F1 Hv1 H1 vs e1 pl1 rs => ?_
  have z : vs.length ≤ sizeLine := by rw [rs.length, objs_len, ← hl]; exact small_line hn
  exact ⟨z, new_lst e1.vh.at rs z fun v' Hv' H' e' r' => pv F1 Hv' H' (e1.trans (.of e')) (pl1.ext e') v' r'⟩
def pshB (k : Nat) (d : D) (ρ : Env) (ps : PLB) : OEB := match ps[k]? with
  | some (.lst ds) => if ds.length + 1 ≤ sizeLine then .nx ρ (ps.set k (.lst (ds ++ [d]))) else .bad
  | _ => .bad
def isLB (k : Nat) (ps : PLB) : Bool := match ps[k]? with | some (.lst _) => true | _ => false
def ePushB (own : List Nat) (fo : DE) (fa : EEB) : DSeB := fun ρ ps => ((fo (mask own ρ)).upB ps).to ρ fun o ps => match o with
  | .obj k => if isLB k ps then (fa (mask own ρ) ps).to ρ fun d ps => pshB k d ρ ps else .bad
  | _ => .bad
theorem es_pushB (hro : ∀ F, SE X W (cl.at F) o fo) (ha : SEeB X W cl C a fa) (hbase : attributeBase o "append" X.env (eval o X.env) = eval o X.env := by rfl) (hline : (apos.endLine == p.line) = true := by rfl) (hs1 : starEach [a] X.env = [(false, eval a X.env)] := by rfl)
    (hfew : ((backTo p (starEach [a] X.env)).all (fun x => !x.1) && (backToKw p (keywordEach [] X.env)).all (fun x => x.1.isSome) && decide ([a].length + ([] : List Keyword).length + (if ([] : List Keyword).isEmpty then 0 else 1) < 30)) = true := by rfl)
    (hs : swapsWith (.Call (.Attribute o "append" apos) [a] [] p) none pos.line X.env = pure false := by rfl) :
    SSeB X W cl C own own (.Expr (.Call (.Attribute o "append" apos) [a] [] p) pos) (ePushB own fo fa) := by
  obtain ⟨to, po1, ho⟩ := ee_pureB (C := C) hro
  obtain ⟨ta, pa, ha⟩ := ha
  refine ⟨_, ps_expr (pe_bm PySem.F.plainAttrs_list PySem.F.slot_list_append PySem.F.type_list_append mt_append po1 (pa_cons pa pa_nil hs1) hbase hfew hline hs1 rfl) hs, fun F0 Hv0 H0 ρ σ ps F Hv H Dn sr hl po => ?_⟩
  refine ho F Hv H σ _ ps _ sr.ext.vh sr.pls sr.er (use_maskEB sr hl po fun d ps1 F1 Hv1 H1 _ e1 sr1 po1 v r => ?_)
  cases d with
  | obj k => ?_
  | _ => exact po1.elim
  simp only at po1
  cases hla : isLB k ps1 with
  | false => rw [hla] at po1; exact po1.elim
  | true => ?_
  rw [hla, if_pos rfl] at po1
  cases r with
  | obj hk => ?_
  obtain ⟨f, q, hf, hx, hq, ⟨o1, h1, h2⟩, hid⟩ := sr1.pls.at_obj hk
  subst hx
  unfold isLB at hla
  rw [hq] at hla
  cases q with
  | lst ds => ?_
  | _ => cases hla
  obtain ⟨vs, rfl, e7, e8⟩ := h2.ofL
  refine ⟨.inl ⟨rfl, vs, .inl (.inl h1)⟩, ?_⟩
  refine ha F1 Hv1 H1 σ _ ps1 _ sr1.ext.vh sr1.pls sr1.er (use_maskEB sr1 hl po1 fun d ps2 F2 Hv2 H2 _ e2 sr2 po2 u ru => ?_)
  have hk2 : (cl.at F2).ob k f.x := e2.ob k _ hk
  obtain ⟨f2, q2, hf2, hx2, hq2, ⟨o2, g1, g2⟩, gid⟩ := sr2.pls.at_obj hk2
  unfold pshB at po2
  rw [hq2] at po2
  cases q2 with
  | lst ds2 => ?_
  | _ => exact po2.elim
  obtain ⟨vs2, rfl, z7, z8⟩ := g2.ofL
  simp only at po2
  split at po2
  · rename_i hz
    have hz : vs2.length + 1 ≤ sizeLine := by rw [z8.length]; exact hz
    obtain ⟨e3, pl3⟩ := write_box (C := C) sr2.ext.vh sr2.pls hf2 (o' := .lst (vs2 ++ [u])) (d' := .lst (ds2 ++ [d])) (.lst (by rw [List.length_append]; exact hz) (z8.append (.cons ru .nil)))
    rw [hx2] at g1 e3 pl3
    exact ⟨f.x, vs2, u, rfl, rfl, g1, hz, po2 σ F2 Hv2 _ (sr2.step e3 pl3) (Sam.refl _) (fun _ _ z => z) hl⟩
  · exact po2.elim
end
mutual
def noOb : D → Bool
  | .obj _ => false
  | .tup xs => noObs xs
  | .lst xs => noObs xs
  | .dct es => noObp es
  | .dcl es => noObp es
  | _ => true
def noObs : List D → Bool
  | [] => true
  | x :: xs => noOb x && noObs xs
def noObp : List (D × D) → Bool
  | [] => true
  | (_, x) :: xs => noOb x && noObp xs
end
section
variable {K : PySem.W.Frag} {cl : Glb} {F : List Ft}
mutual
theorem Rep.no {H : Hp} : ∀ {v : V} {d : D}, Rep K (cl.at F) H v d → noOb d = true → Rep K cl H v d
  | _, _, .non, _ => .non
  | _, _, .bl b, _ => .bl b
  | _, _, .int i, _ => .int i
  | _, _, .str x, _ => .str x
  | _, _, .lst e n r, h => .lst e n (Reps.no r (by rw [noOb] at h; exact h))
  | _, _, .scr e n, _ => .scr e n
  | _, _, .scr0 e n, _ => .scr0 e n
  | _, _, .tup e n r, h => .tup e n (Reps.no r (by rw [noOb] at h; exact h))
  | _, _, .dctK e r, h => .dctK e (RepsK.no r (by rw [noOb] at h; exact h))
  | _, _, .dctT e n r, h => .dctT e n (RepsT.no r (by rw [noOb] at h; exact h))
  | _, _, .exc e, _ => .exc e
  | _, _, .fnv e, _ => .fnv e
  | _, _, .obj e, h => by rw [noOb] at h; cases h
  | _, _, .dclK e r, h => .dclK e (RepsK.no r (by rw [noOb] at h; exact h))
  | _, _, .dclT e n r, h => .dclT e n (RepsT.no r (by rw [noOb] at h; exact h))
  | _, _, .scr1 e n, _ => .scr1 e n
theorem Reps.no {H : Hp} : ∀ {v : List V} {d : List D}, Reps K (cl.at F) H v d → noObs d = true → Reps K cl H v d
  | _, _, .nil, _ => .nil
  | _, _, .cons r t, h => by
    rw [noObs, Bool.and_eq_true] at h
    exact .cons (Rep.no r h.1) (Reps.no t h.2)
theorem RepsK.no {H : Hp} : ∀ {v : List (L2.Key × V)} {d : List (D × D)}, RepsK K (cl.at F) H v d → noObp d = true → RepsK K cl H v d
  | _, _, .nil, _ => .nil
  | _, _, .cons r t, h => by
    rw [noObp, Bool.and_eq_true] at h
    exact .cons (Rep.no r h.1) (RepsK.no t h.2)
theorem RepsT.no {H : Hp} : ∀ {v : List (List L2.Key × V)} {d : List (D × D)}, RepsT K (cl.at F) H v d → noObp d = true → RepsT K cl H v d
  | _, _, .nil, _ => .nil
  | _, _, .cons r t, h => by
    rw [noObp, Bool.and_eq_true] at h
    exact .cons (Rep.no r h.1) (RepsT.no t h.2)
end
theorem OwnO.no {Hv : Hp} {o : HO} {d : D} (r : OwnO K (cl.at F) Hv o d) (h : noOb d = true) : OwnO K cl Hv o d := by
  cases r with
  | lst z r => exact .lst z (r.no (by rw [noOb] at h; exact h))
  | dct z r => exact .dct z (r.no (by rw [noOb] at h; exact h))
end
def opns (ps : PLB) : List D → Option (List D)
  | [] => some []
  | .obj k :: ds => match ps[k]?, opns ps ds with
    | some d, some r => if noOb d then some (d :: r) else none
    | _, _ => none
  | _ => none
def opn (ps : PLB) (d : D) : Option D := if noOb d then some d else match d with
  | .lst ds => (opns ps ds).map .lst
  | _ => none
def opnE (ps : PLB) (ρ : Env) : Env := ρ.map fun o => o.bind (opn ps)
open Classical in
noncomputable def shB (F : List Ft) (Hv H : Hp) : Hp := fun b => if b ∈ feetB F then H b else Hv b
theorem shB_in {F : List Ft} {Hv H : Hp} {b : Addr} (h : b ∈ feetB F) : shB F Hv H b = H b := if_pos h
theorem shB_no {F : List Ft} {Hv H : Hp} {b : Addr} (h : b ∉ feetB F) : shB F Hv H b = Hv b := if_neg h
section
variable {K : PySem.W.Frag} {cl : Glb} {C : Addr} {F : List Ft} {Hv0 H0 Hv H : Hp} {ρ : Env} {σ : St} {ps : PLB}
theorem sam_shB (pl : PlsB K cl C F ps Hv H) : Sam Hv (shB F Hv H) := fun b o h _ => by
  rw [shB_no fun z => ?_]
  · exact h
  · rw [(pl.foot z).1] at h; cases h
theorem opns_rep (pl : PlsB K cl C F ps Hv H) : ∀ {vs : List V} {ds r : List D}, Reps K (cl.at F) Hv vs ds → opns ps ds = some r → Reps K cl (shB F Hv H) vs r
  | _, _, _, .nil, h => by cases h; exact .nil
  | _, _, _, .cons (d := d) (ds := ds) rv t, h => by
    cases d with
    | obj k => ?_
    | _ => cases h
    rw [opns] at h
    cases rv with
    | obj hk => ?_
    obtain ⟨f, q, hf, hx, hq, ⟨o1, h1, h2⟩, hid⟩ := pl.at_obj hk
    subst hx
    rw [hq] at h
    cases w : opns ps ds with
    | none => rw [w] at h; cases h
    | some r' =>
      rw [w] at h
      simp only at h
      split at h
      · rename_i hn
        cases h
        have hi : f.x ∈ feetB F := mem_feetB.mpr ⟨f, List.mem_of_getElem? hf, by simp [Ft.one]⟩
        exact .cons (((h2.no hn).mono (sam_shB pl)).rep ((shB_in hi).trans h1)) (opns_rep pl t w)
      · cases h
theorem opn_rep (pl : PlsB K cl C F ps Hv H) {v : V} {d r : D} (rv : Rep K (cl.at F) Hv v d) (h : opn ps d = some r) : Rep K cl (shB F Hv H) v r := by
  unfold opn at h
  split at h
  · rename_i hn
    cases h
    exact (rv.no hn).mono (sam_shB pl)
  · cases d with
    | lst ds =>
      simp only [Option.map_eq_some_iff] at h
      obtain ⟨rs, h1, rfl⟩ := h
      cases rv with
      | lst e n t =>
        have := opns_rep pl t h1
        exact .lst (sam_shB pl _ _ e rfl) n this
    | _ => cases h
theorem SReB.open (s : SReB K cl C [] Hv0 H0 [] ρ σ ps F Hv H) : SR K cl Hv0 H0 [] (opnE ps ρ) σ (shB F Hv H) H := by
  have pl := s.pls
  have vw := s.ext.vh
  have sm := sam_shB pl
  have fr : ∀ b ∈ feetB F, H0 b = none := fun b hb => (s.ext.ft b hb).elim (fun z => by simp [feetB] at z) id
  refine ⟨⟨fun b o h n => s.ext.hh b o h n (by simp [feetB]), s.ext.vv.trans sm, ⟨fun b o h n => ?_, fun b h => ?_, fun b xs h => ?_, fun b o u h => ?_, vw.tab, fun b φ h => ?_⟩, fun b o h n => ?_, s.ext.dom, s.ext.tt⟩, by rw [opnE, List.length_map]; exact s.len, fun i d _ h => ?_, fun i hi => (by cases hi), fun i j p hi => (by cases hi)⟩
  · by_cases z : b ∈ feetB F
    · rw [shB_in z] at h; exact h
    · rw [shB_no z] at h; exact vw.s b o h n
  · by_cases z : b ∈ feetB F
    · rw [shB_in z]; exact h
    · rw [shB_no z]; exact vw.d b h
  · by_cases z : b ∈ feetB F
    · rw [shB_in z]; exact h
    · rw [shB_no z]; exact vw.t b xs h
  · by_cases z : b ∈ feetB F
    · rw [shB_in z]; exact h
    · rw [shB_no z]; exact vw.z b o u h
  · by_cases z : b ∈ feetB F
    · rw [shB_in z]; exact h
    · rw [shB_no z]; exact vw.x b φ h
  · rw [shB_no fun z => ?_]
    · exact s.ext.old b o h n
    · rw [fr b z] at h; cases h
  · unfold opnE at h
    rw [List.getElem?_map, Option.map_eq_some_iff] at h
    obtain ⟨u, h1, h2⟩ := h
    rw [Option.bind_eq_some_iff] at h2
    obtain ⟨d', rfl, h3⟩ := h2
    obtain ⟨v, e1, e2⟩ := s.sh i d' (by simp) h1
    exact ⟨v, e1, opn_rep pl e2 h3⟩
theorem at_nil (h0 : ∀ k a, ¬ cl.ob k a) : cl.at [] = cl := by
  have : obA [] = cl.ob := by
    funext k a
    exact propext ⟨fun h => by have h : (([] : List Ft)[k]?).map Ft.x = some a := h; simp at h, fun h => (h0 k a h).elim⟩
  unfold Glb.at
  rw [this]
theorem SR.boxes (h0 : ∀ k a, ¬ cl.ob k a) (s : SR K cl Hv0 H0 [] ρ σ Hv H) : SReB K cl C [] Hv0 H0 [] ρ σ [] [] Hv H := by
  have e := at_nil h0
  refine ⟨ExtEB.of (by rw [e]; exact s.ext), ⟨rfl, fun k f q h => (by simp at h), (by simp [feetB]), fun k a h => (h0 k a h).elim⟩, s.len, fun i d h1 h2 => ?_, fun i hi => (by cases hi), fun i j p hi => (by cases hi)⟩
  rw [e]
  exact s.sh i d h1 h2
end
section
variable {X : Cx} {W : WX} {cl : Glb} {C : Addr} {own1 own2 own3 : List Nat} {s1 s2 : Stmt} {sts : List Stmt} {f1 f2 : DSeB} {g : DS}
def dNest (f : DSeB) (g : DS) : DS := fun ρ => match f ρ [] with
  | .nx ρ' ps => g (opnE ps ρ')
  | _ => .bad
theorem ss_nest (h0 : ∀ k a, ¬ cl.ob k a) (h1 : SSeB X W cl C [] own1 s1 f1) (h2 : SSeB X W cl C own1 [] s2 f2) (h3 : SSs X W cl [] own3 sts g) : SSs X W cl [] own3 (s1 :: s2 :: sts) (dNest (eSeqB f1 f2) g) := by
  obtain ⟨t1, p1, h1⟩ := h1
  obtain ⟨t2, p2, h2⟩ := h2
  obtain ⟨t3, p3, h3⟩ := h3
  refine ⟨_, pss_cons p1 (pss_cons p2 p3), fun Hv0 H0 ρ σ Hv H Dn sr hl po => ?_⟩
  refine h1 [] Hv0 H0 ρ σ [] [] Hv H _ (sr.boxes h0) hl ?_
  unfold dNest eSeqB at po
  cases q1 : f1 ρ [] with
  | nx ρ1 ps1 => ?_
  | _ => rw [q1] at po; exact po.elim
  rw [q1] at po
  intro σ1 F1 Hv1 H1 sr1 sm1 ob1 hl1
  refine h2 [] Hv0 H0 ρ1 σ1 ps1 F1 Hv1 H1 _ sr1 hl1 ?_
  have po : PSO X W cl Hv0 H0 own3 Hv Dn (match f2 ρ1 ps1 with | .nx ρ' ps => g (opnE ps ρ') | _ => .bad) := po
  cases q2 : f2 ρ1 ps1 with
  | nx ρ2 ps2 => ?_
  | _ => rw [q2] at po; exact po.elim
  rw [q2] at po
  intro σ2 F2 Hv2 H2 sr2 sm2 ob2 hl2
  have so := sr2.open
  exact h3 Hv0 H0 _ σ2 _ H2 Dn so hl2 (PSO.mono (r := g (opnE ps2 ρ2)) po ((sm1.trans sm2).trans (sam_shB sr2.pls)))
end
end Sm
namespace Sm
open PySem PySem.Spec L2
theorem oAdd_ii (i j : Int) : oAdd (.int i) (.int j) = some (.int (i + j)) := rfl
theorem oNe_int (i j : Int) : oNe (.int i) (.int j) = some (.bl (!(i == j))) := by simp [oNe, pln, deq]
theorem oEq_int (i j : Int) : oEq (.int i) (.int j) = some (.bl (i == j)) := by simp [oEq, pln, deq]
theorem gcd_fmod (a b : Int) : Int.gcd b (a.fmod b) = Int.gcd a b := by
  rw [Int.fmod_def, Int.gcd_comm]
  have : a - b * a.fdiv b = a + (-(a.fdiv b)) * b := by
    rw [Int.neg_mul, Int.mul_comm b]; omega
  rw [this, Int.gcd_add_mul_right_left]
theorem fmod_small (a b : Int) (h : b ≠ 0) : (a.fmod b).natAbs < b.natAbs := by
  rcases Int.lt_or_gt_of_ne h with h | h
  · have e : a.fmod b = -((-a).fmod (-b)) := by rw [Int.neg_fmod_neg, Int.neg_neg]
    have h1 := Int.fmod_nonneg_of_pos (-a) (b := -b) (by omega)
    have h2 := Int.fmod_lt_of_pos (-a) (b := -b) (by omega)
    omega
  · have h1 := Int.fmod_nonneg_of_pos a h
    have h2 := Int.fmod_lt_of_pos a h
    omega
theorem gcd_loop (i j : Nat) (mk : Int → Int → Env) (h1 : ∀ a b, (mk a b)[i]? = some (some (.int a))) (h2 : ∀ a b, (mk a b)[j]? = some (some (.int b)))
    (h3 : ∀ a b c d, ((mk a b).set i (some (.int c))).set j (some (.int d)) = mk c d) : ∀ (n : Nat) (a b : Int), b.natAbs < n →
    ∃ g : Int, whileGo (asB (dBin oNe (dVar j) (dC (.int 0)))) (dPar [] i j (dCons (dVar j) (dCons (dBin oModI (dVar i) (dVar j)) dNil))) n (mk a b) = .nx (mk g 0) ∧ g.natAbs = Int.gcd a b ∧ (0 ≤ a → 0 ≤ b → 0 ≤ g) := by
  intro n
  induction n with
  | zero => intro a b h; omega
  | succ n ih =>
    intro a b h
    by_cases hb : b = 0
    · subst hb
      refine ⟨a, ?_, by simp, fun h _ => h⟩
      simp [whileGo, asB, dBin, dVar, dC, R.bind, R.to, ofO, h2, oNe_int]
    · obtain ⟨g, e1, e2, e3⟩ := ih b (a.fmod b) (by have := fmod_small a b hb; omega)
      refine ⟨g, ?_, by rw [e2, gcd_fmod], fun h1 h2 => e3 h2 (Int.fmod_nonneg h1 h2)⟩
      rw [← e1]
      have hb' : (b == 0) = false := by simpa using hb
      conv => lhs; unfold whileGo
      simp [asB, dBin, dVar, dC, dPar, dCons, dNil, R.bind, R.to, ofO, h1, h2, oNe_int, hb', O.seq, mask, oModI, hb, h3]
def encQ (q : Rat) : D := .tup [.int q.num, .int (q.den : Nat)]
def Sz (n : Nat) (q : Rat) : Prop := q.num.natAbs < 2 ^ n ∧ q.den < 2 ^ n
theorem share_num {u d : Int} (hd : d ≠ 0) : u.fdiv (if d < 0 then 0 - (Int.gcd u d : Nat) else (Int.gcd u d : Nat)) = (Rat.divInt u d).num ∧ d.fdiv (if d < 0 then 0 - (Int.gcd u d : Nat) else (Int.gcd u d : Nat)) = ((Rat.divInt u d).den : Nat) := by
  have hg : (Int.gcd u d : Int) ≠ 0 := by
    intro h
    have : Int.gcd u d = 0 := by omega
    rw [Int.gcd_eq_zero_iff] at this
    exact hd this.2
  have du : (Int.gcd u d : Int) ∣ u := Int.gcd_dvd_left ..
  have dd : (Int.gcd u d : Int) ∣ d := Int.gcd_dvd_right ..
  rw [Rat.num_divInt, Rat.den_divInt, if_neg hd, Int.gcd_comm d u]
  by_cases h : d < 0
  · rw [if_pos h]
    have e : (0 : Int) - (Int.gcd u d : Nat) = -(Int.gcd u d : Nat) := by omega
    rw [e, Int.sign_eq_neg_one_of_neg h]
    constructor
    · rw [Int.fdiv_eq_ediv_of_dvd (Int.neg_dvd.mpr du), Int.ediv_neg, Int.neg_mul, Int.one_mul, Int.neg_ediv_of_dvd du]
    · rw [Int.fdiv_eq_ediv_of_dvd (Int.neg_dvd.mpr dd), Int.ediv_neg, Int.natCast_ediv]
      have : ((d.natAbs : Nat) : Int) = -d := by omega
      rw [this, Int.neg_ediv_of_dvd dd]
  · rw [if_neg h]
    have h' : 0 < d := by omega
    rw [Int.sign_eq_one_of_pos h', Int.one_mul]
    constructor
    · rw [Int.fdiv_eq_ediv_of_dvd du]
    · rw [Int.fdiv_eq_ediv_of_dvd dd, Int.natCast_ediv]
      have : ((d.natAbs : Nat) : Int) = d := by omega
      rw [this]
theorem log2_lt {x n : Nat} (h : x < 2 ^ n) (hn : 0 < n) : x.log2 < n := by
  by_cases h0 : x = 0
  · subst h0; simpa using hn
  · exact (Nat.log2_lt h0).mpr h
theorem mulOk_of {i j : Int} {m n : Nat} (hi : i.natAbs < 2 ^ m) (hj : j.natAbs < 2 ^ n) (hs : m + n < 900000) : mulOk i j = true := by
  have h1 : i.natAbs.log2 < m + 1 := log2_lt (Nat.lt_trans hi (Nat.pow_lt_pow_right (by omega) (by omega))) (by omega)
  have h2 : j.natAbs.log2 < n + 1 := log2_lt (Nat.lt_trans hj (Nat.pow_lt_pow_right (by omega) (by omega))) (by omega)
  unfold mulOk
  rw [decide_eq_true (show i.natAbs.log2 + j.natAbs.log2 < 1000000 by omega)]
  rfl
theorem gcd_small {u d : Int} {n : Nat} (hd : d ≠ 0) (h : d.natAbs < 2 ^ n) (hn : n < 9000) : (Int.gcd u d).log2 < 9000 := by
  have h1 : Int.gcd u d ≤ d.natAbs := Nat.le_of_dvd (by omega) (Int.gcd_dvd_natAbs_right ..)
  have := log2_lt (Nat.lt_of_le_of_lt h1 (Nat.lt_trans h (Nat.pow_lt_pow_right (by omega) (Nat.lt_succ_self n)))) (by omega)
  omega
theorem divInt_sz {u d : Int} {m n : Nat} (hd : d ≠ 0) (hu : u.natAbs < 2 ^ m) (h : d.natAbs < 2 ^ n) : (Rat.divInt u d).num.natAbs < 2 ^ m ∧ (Rat.divInt u d).den < 2 ^ n := by
  rw [Rat.num_divInt, Rat.den_divInt, if_neg hd]
  constructor
  · refine Nat.lt_of_le_of_lt ?_ hu
    rw [Int.natAbs_ediv_of_dvd (Int.dvd_mul_of_dvd_right (Int.gcd_dvd_right ..)), Int.natAbs_mul]
    refine Nat.le_trans (Nat.div_le_self ..) ?_
    rw [Int.natAbs_sign_of_ne_zero hd]; omega
  · exact Nat.lt_of_le_of_lt (Nat.div_le_self ..) h
theorem oIx_q0 (q : Rat) : oIx (encQ q) (.int 0) = some (.int q.num) := rfl
theorem oIx_q1 (q : Rat) : oIx (encQ q) (.int 1) = some (.int (q.den : Nat)) := rfl
theorem oMul_ok {i j : Int} (h : mulOk i j = true) : oMul (.int i) (.int j) = some (.int (i * j)) := by simp only [oMul, h, if_true]
theorem two_pow_mul {x y m n : Nat} (hx : x < 2 ^ m) (hy : y < 2 ^ n) : x * y < 2 ^ (m + n) := by
  rw [Nat.pow_add]
  exact Nat.mul_lt_mul'' hx hy
theorem abs_mul_lt {x y : Int} {m n : Nat} (hx : x.natAbs < 2 ^ m) (hy : y.natAbs < 2 ^ n) : (x * y).natAbs < 2 ^ (m + n) := by
  rw [Int.natAbs_mul]
  exact two_pow_mul hx hy
theorem abs_add_lt {x y : Int} {n : Nat} (hx : x.natAbs < 2 ^ n) (hy : y.natAbs < 2 ^ n) : (x + y).natAbs < 2 ^ (n + 1) := by
  rw [Nat.pow_succ]; omega
theorem abs_sub_lt {x y : Int} {n : Nat} (hx : x.natAbs < 2 ^ n) (hy : y.natAbs < 2 ^ n) : (x - y).natAbs < 2 ^ (n + 1) := by
  rw [Nat.pow_succ]; omega
theorem den_nat {q : Rat} {n : Nat} (h : Sz n q) : ((q.den : Nat) : Int).natAbs < 2 ^ n := by rw [Int.natAbs_natCast]; exact h.2
theorem den_ne (a b : Rat) : ((a.den : Nat) : Int) * (b.den : Nat) ≠ 0 := by
  have := a.den_pos
  have := b.den_pos
  exact Int.mul_ne_zero (by omega) (by omega)
theorem Sz.mono {m n : Nat} {q : Rat} (h : Sz m q) (hm : m ≤ n) : Sz n q :=
  ⟨Nat.lt_of_lt_of_le h.1 (Nat.pow_le_pow_right (by omega) hm), Nat.lt_of_lt_of_le h.2 (Nat.pow_le_pow_right (by omega) hm)⟩
theorem add_q (a b : Rat) : Rat.divInt (a.num * (b.den : Nat) + b.num * (a.den : Nat)) ((a.den : Nat) * (b.den : Nat)) = a + b := by
  rw [Rat.add_def', ← Rat.divInt_ofNat, Int.natCast_mul]
theorem sub_q (a b : Rat) : Rat.divInt (a.num * (b.den : Nat) - b.num * (a.den : Nat)) ((a.den : Nat) * (b.den : Nat)) = a - b := by
  rw [Rat.sub_def', ← Rat.divInt_ofNat, Int.natCast_mul]
theorem mul_q (a b : Rat) : Rat.divInt (a.num * b.num) ((a.den : Nat) * (b.den : Nat)) = a * b := by
  rw [Rat.mul_def', ← Rat.divInt_ofNat, Int.natCast_mul]
theorem Sz.add {m n : Nat} {a b : Rat} (ha : Sz m a) (hb : Sz n b) : Sz (m + n + 1) (a + b) := by
  rw [← add_q]
  have h1 := abs_mul_lt ha.1 (den_nat hb)
  have h2 := abs_mul_lt hb.1 (den_nat ha)
  rw [Nat.add_comm n m] at h2
  obtain ⟨g1, g2⟩ := divInt_sz (den_ne a b) (abs_add_lt h1 h2) (abs_mul_lt (den_nat ha) (den_nat hb))
  exact ⟨g1, Nat.lt_trans g2 (Nat.pow_lt_pow_right (by omega) (Nat.lt_succ_self _))⟩
theorem Sz.sub {m n : Nat} {a b : Rat} (ha : Sz m a) (hb : Sz n b) : Sz (m + n + 1) (a - b) := by
  rw [← sub_q]
  have h1 := abs_mul_lt ha.1 (den_nat hb)
  have h2 := abs_mul_lt hb.1 (den_nat ha)
  rw [Nat.add_comm n m] at h2
  obtain ⟨g1, g2⟩ := divInt_sz (den_ne a b) (abs_sub_lt h1 h2) (abs_mul_lt (den_nat ha) (den_nat hb))
  exact ⟨g1, Nat.lt_trans g2 (Nat.pow_lt_pow_right (by omega) (Nat.lt_succ_self _))⟩
theorem Sz.mul {m n : Nat} {a b : Rat} (ha : Sz m a) (hb : Sz n b) : Sz (m + n) (a * b) := by
  rw [← mul_q]
  exact divInt_sz (den_ne a b) (abs_mul_lt ha.1 hb.1) (abs_mul_lt (den_nat ha) (den_nat hb))
theorem Sz.int {n : Nat} {i : Int} (h : i.natAbs < 2 ^ n) (hn : 0 < n) : Sz n (i : Rat) := ⟨by rw [Rat.num_intCast]; exact h, by rw [Rat.den_intCast]; exact Nat.one_lt_two_pow (by omega)⟩
theorem encQ_int (i : Int) : encQ (i : Rat) = .tup [.int i, .int 1] := rfl
def qsum : List Rat → Rat
  | [] => 0
  | q :: qs => q + qsum qs
theorem low_num {u d : Int} (hd : d ≠ 0) : (if 0 < d then u.fdiv (Int.gcd u d : Nat) else 0 - u.fdiv (Int.gcd u d : Nat)) = (Rat.divInt u d).num ∧ (if 0 < d then d.fdiv (Int.gcd u d : Nat) else 0 - d.fdiv (Int.gcd u d : Nat)) = ((Rat.divInt u d).den : Nat) := by
  obtain ⟨h1, h2⟩ := share_num (u := u) hd
  have du : (Int.gcd u d : Int) ∣ u := Int.gcd_dvd_left ..
  have dd : (Int.gcd u d : Int) ∣ d := Int.gcd_dvd_right ..
  by_cases h : d < 0
  · rw [if_pos h] at h1 h2
    have e : (0 : Int) - (Int.gcd u d : Nat) = -(Int.gcd u d : Nat) := by omega
    rw [e, Int.fdiv_eq_ediv_of_dvd (Int.neg_dvd.mpr du), Int.ediv_neg] at h1
    rw [e, Int.fdiv_eq_ediv_of_dvd (Int.neg_dvd.mpr dd), Int.ediv_neg] at h2
    rw [if_neg (by omega), if_neg (by omega), Int.fdiv_eq_ediv_of_dvd du, Int.fdiv_eq_ediv_of_dvd dd]
    exact ⟨by omega, by omega⟩
  · rw [if_neg h] at h1 h2
    rw [if_pos (by omega), if_pos (by omega)]
    exact ⟨h1, h2⟩
def cellI (ns : List Int) (k : Nat) : Int := if k < ns.length then ns.getD k 0 else if ns = [] then 0 else ns.getD (k % ns.length) 0 * 31 + k
def drawI (ns : List Int) (k : Nat) : Int := (cellI ns k + 6151 * ((k : Int) + 1)) * 40692 % 2147483399
def pickI (ns : List Int) (k : Nat) (m : Int) : Int := (drawI ns k * drawI ns k + drawI ns k / 31) % 2147483629 % m
theorem pickI_nonneg (ns : List Int) (k : Nat) {m : Int} (h : 0 < m) : 0 ≤ pickI ns k m := Int.emod_nonneg _ (by omega)
theorem pickI_lt (ns : List Int) (k : Nat) {m : Int} (h : 0 < m) : pickI ns k m < m := Int.emod_lt_of_pos _ h
theorem atI_nat' {α : Type} {xs : List α} {k : Nat} (h : k < xs.length) : atI xs (k : Int) = xs[k]? := by
  obtain ⟨x, e⟩ : ∃ x, xs[k]? = some x := ⟨xs[k], by simp [h]⟩
  rw [e]; exact atI_nat e
theorem ns_at {ns : List Int} {k : Nat} (h : k < ns.length) : ns[k]? = some (ns.getD k 0) := by simp [h]
theorem mulOk_r {i j : Int} (h : -(2 ^ 64) < j ∧ j < 2 ^ 64) : mulOk i j = true := by unfold mulOk; rw [decide_eq_true h, Bool.or_true]
theorem mulOk_l {i j : Int} (h : -(2 ^ 64) < i ∧ i < 2 ^ 64) : mulOk i j = true := by unfold mulOk; rw [decide_eq_true h, Bool.or_true, Bool.true_or]
end Sm
namespace Kx
open PySem PySem.Spec L2 Sm
def b_is_whole : DS :=
  (dRet (dAnd (dUn oIsInt (dVar 0)) (dAnd (dNot (dUn oIsBool (dVar 0))) (dChain oLe oLe (dVar 1) (dVar 0) (dVar 2)))))
def d_is_whole : List D → R D := defD 3 3 (b_is_whole)
def b_is_game_in (self : List D → R D) : DS :=
  (dSeq (dIfS (dOrT (asB (dBin oEq (dVar 1) (dC (.int 0)))) (dOrT (dNotT (dTru (dUn oIsTup (dVar 0)))) (dOrT (dNotT (dTru (dVar 0))) (dNotT (dTru (dCall d_is_whole (dCons (dBin oIx (dVar 0) (dC (.int 0))) (dCons (dBin oSubI (dC (.int 0)) (dC (.int 20))) (dCons (dC (.int 20)) dNil))))))))) (dRet (dC (.bl false))) .nx)
    (dSeq (dIfS (asB (dBin oEq (dB oLen (dCons (dVar 0) dNil)) (dC (.int 1)))) (dRet (dC (.bl true))) .nx)
    (dSeq (dIfS (dOrT (asB (dBin oNe (dB oLen (dCons (dVar 0) dNil)) (dC (.int 2)))) (dOrT (dNotT (dTru (dUn oIsTup (dBin oIx (dVar 0) (dC (.int 1)))))) (dNotT (asB (dChain oLe oLe (dC (.int 1)) (dB oLen (dCons (dBin oIx (dVar 0) (dC (.int 1))) dNil)) (dC (.int 3))))))) (dRet (dC (.bl false))) .nx)
    (dSeq (dFor [] (.v 2) (dItems (dBin oIx (dVar 0) (dC (.int 1)))) (dIfS (dOrT (dNotT (dTru (dUn oIsTup (dVar 2)))) (dOrT (asB (dBin oNe (dB oLen (dCons (dVar 2) dNil)) (dC (.int 2)))) (dNotT (dTru (dCall d_is_whole (dCons (dBin oIx (dVar 2) (dC (.int 0))) (dCons (dC (.int 1)) (dCons (dC (.int 9)) dNil)))))))) (dRet (dC (.bl false))) .nx))
    (dRet (dB oAll (dCons (dLc [2] (.v 2) (dItems (dBin oIx (dVar 0) (dC (.int 1)))) dYes (dCall self (dCons (dBin oIx (dVar 2) (dC (.int 1))) (dCons (dBin oSubI (dVar 1) (dC (.int 1))) dNil)))) dNil)))))))
def d_is_game_in : Nat → List D → R D
  | 0 => fun _ => .bad
  | n + 1 => defD 2 3 (b_is_game_in (d_is_game_in n))
def b_is_game : DS :=
  (dRet (dCall (d_is_game_in 8) (dCons (dVar 0) (dCons (dC (.int 4)) dNil))))
def d_is_game : List D → R D := defD 1 1 (b_is_game)
def b_look_game : DS :=
  (dIfS (dNotT (dTru (dCall d_is_game (dCons (dVar 0) dNil)))) (dRaise 1) .nx)
def d_look_game : List D → R D := defD 1 1 (b_look_game)
def b_ways_of : DS :=
  (dRet (dIf (asB (dBin oEq (dB oLen (dCons (dVar 0) dNil)) (dC (.int 2)))) (dBin oIx (dVar 0) (dC (.int 1))) (dTup dNil)))
def d_ways_of : List D → R D := defD 1 1 (b_ways_of)
def b_paths_of (self : List D → R D) : DS :=
  (dSeq (dSetN [] 1 (dCons (dTup dNil) dNil))
    (dSeq (dFor [1] (.t [(.v 2), (.t [(.v 3), (.v 4)])]) (dRng enumD (dCons (dCall d_ways_of (dCons (dVar 0) dNil)) dNil)) (dExt [1] 1 (dLc [5] (.v 5) (dItems (dCall self (dCons (dVar 4) dNil))) dYes (dBin oAdd (dTup (dCons (dVar 2) dNil)) (dVar 5)))))
    (dRet (dVar 1))))
def d_paths_of : Nat → List D → R D
  | 0 => fun _ => .bad
  | n + 1 => defD 1 6 (b_paths_of (d_paths_of n))
def b__law_cell : DS :=
  (dSeq (dIfS (asB (dBin oLt (dVar 1) (dB oLen (dCons (dVar 0) dNil)))) (dRet (dBin oIx (dVar 0) (dVar 1))) .nx)
    (dSeq (dIfS (asB (dBin oEq (dVar 0) (dLst dNil))) (dRet (dC (.int 0))) .nx)
    (dRet (dBin oAdd (dBin oMul (dBin oIx (dVar 0) (dBin oModI (dVar 1) (dB oLen (dCons (dVar 0) dNil)))) (dC (.int 31))) (dVar 1)))))
def d__law_cell : List D → R D := defD 2 2 (b__law_cell)
def b__law_pick : DS :=
  (dSeq (dSet [] 3 (dBin oModI (dBin oMul (dBin oAdd (dCall d__law_cell (dCons (dVar 0) (dCons (dVar 1) dNil))) (dBin oMul (dC (.int 6151)) (dBin oAdd (dVar 1) (dC (.int 1))))) (dC (.int 40692))) (dC (.int 2147483399))))
    (dRet (dBin oModI (dBin oModI (dBin oAdd (dBin oMul (dVar 3) (dVar 3)) (dBin oDivI (dVar 3) (dC (.int 31)))) (dC (.int 2147483629))) (dVar 2))))
def d__law_pick : List D → R D := defD 3 4 (b__law_pick)
def b__law_game (pk : Nat → Int → Int) (self : List D → R D) : DS :=
  (dSeq (dSet [] 5 (dBin oMul (dC (.int 20)) (dVar 1)))
    (dSeq (dSet [] 6 (dBin oIx (dLst (dCons (dC (.int 0)) (dCons (dC (.int 1)) (dCons (dC (.int 2)) (dCons (dC (.int 2)) (dCons (dC (.int 3)) dNil)))))) (dCall (dPick pk) (dCons (dVar 0) (dCons (dVar 5) (dCons (dC (.int 5)) dNil))))))
    (dSeq (dIfS (asB (dBin oEq (dVar 1) (dC (.int 1)))) (dSet [] 6 (dB oMax2 (dCons (dC (.int 1)) (dCons (dVar 6) dNil)))) .nx)
    (dSeq (dIfS (dOrT (asB (dBin oEq (dVar 3) (dC (.int 1)))) (asB (dBin oEq (dVar 6) (dC (.int 0))))) (dRet (dTup (dCons (dVar 2) dNil))) .nx)
    (dSeq (dSetN [] 7 dNil)
    (dSeq (dIfS (dTru (dVar 4)) (dSeq (dPar [7] 12 13 (dCons (dBin oAdd (dC (.int 1)) (dCall (dPick pk) (dCons (dVar 0) (dCons (dBin oAdd (dVar 5) (dC (.int 1))) (dCons (dC (.int 3)) dNil))))) (dCons (dBin oAdd (dC (.int 1)) (dCall (dPick pk) (dCons (dVar 0) (dCons (dBin oAdd (dVar 5) (dC (.int 2))) (dCons (dC (.int 3)) dNil))))) dNil)))
    (dSeq (dSetN [7] 7 (dCons (dTup (dCons (dVar 13) (dCons (dVar 12) dNil))) (dCons (dTup (dCons (dVar 12) (dCons (dBin oSubI (dC (.int 0)) (dVar 13)) dNil))) (dCons (dTup (dCons (dBin oAdd (dC (.int 1)) (dCall (dPick pk) (dCons (dVar 0) (dCons (dBin oAdd (dVar 5) (dC (.int 3))) (dCons (dC (.int 9)) dNil))))) (dCons (dC (.int 0)) dNil))) dNil))))
    (dSet [] 7 (dIf (asB (dBin oEq (dVar 6) (dC (.int 1)))) (dSl (dVar 7) (dSo (dC (.int 2))) dNo) (dSl (dVar 7) dNo (dSo (dVar 6))))))) (dFor [7] (.v 9) (dRng rng1 (dCons (dVar 6) dNil)) (dApp [7] 7 (dTup (dCons (dBin oAdd (dC (.int 1)) (dCall (dPick pk) (dCons (dVar 0) (dCons (dBin oAdd (dBin oAdd (dVar 5) (dC (.int 5))) (dVar 9)) (dCons (dC (.int 9)) dNil))))) (dCons (dBin oSubI (dCall (dPick pk) (dCons (dVar 0) (dCons (dBin oAdd (dBin oAdd (dVar 5) (dC (.int 8))) (dVar 9)) (dCons (dC (.int 7)) dNil)))) (dC (.int 3))) dNil))))))
    (dSeq (dIfS (asB (dBin oEq (dCall (dPick pk) (dCons (dVar 0) (dCons (dBin oAdd (dVar 5) (dC (.int 4))) (dCons (dC (.int 2)) dNil)))) (dC (.int 0)))) (dSet [] 7 (dUn oRevA (dVar 7))) .nx)
    (dSeq (dSetN [] 8 dNil)
    (dSeq (dFor [8] (.t [(.v 9), (.t [(.v 10), (.v 11)])]) (dRng enumD (dCons (dVar 7) dNil)) (dApp [8] 8 (dTup (dCons (dVar 10) (dCons (dCall self (dCons (dVar 0) (dCons (dBin oAdd (dBin oAdd (dBin oMul (dC (.int 4)) (dVar 1)) (dC (.int 1))) (dVar 9)) (dCons (dBin oAdd (dVar 2) (dVar 11)) (dCons (dBin oSubI (dVar 3) (dC (.int 1))) (dCons (dVar 4) dNil)))))) dNil)))))
    (dRet (dTup (dCons (dVar 2) (dCons (dB oTuple (dCons (dVar 8) dNil)) dNil)))))))))))))
def d__law_game (pk : Nat → Int → Int) : Nat → List D → R D
  | 0 => fun _ => .bad
  | n + 1 => defD 5 14 (b__law_game pk (d__law_game pk n))
def b__law_drawn (pk : Nat → Int → Int) : DS :=
  (dRet (dCall (d__law_game pk 8) (dCons (dVar 0) (dCons (dC (.int 1)) (dCons (dBin oSubI (dCall (dPick pk) (dCons (dVar 0) (dCons (dC (.int 0)) (dCons (dC (.int 13)) dNil)))) (dC (.int 6))) (dCons (dVar 1) (dCons (dBin oEq (dCall (dPick pk) (dCons (dVar 0) (dCons (dC (.int 1)) (dCons (dC (.int 2)) dNil)))) (dC (.int 0))) dNil)))))))
def d__law_drawn (pk : Nat → Int → Int) : List D → R D := defD 2 2 (b__law_drawn pk)
def b__law_ways : DS :=
  (dRet (dIf (asB (dBin oEq (dB oLen (dCons (dVar 0) dNil)) (dC (.int 2)))) (dBin oIx (dVar 0) (dC (.int 1))) (dTup dNil)))
def d__law_ways : List D → R D := defD 1 1 (b__law_ways)
def b__law_low : DS :=
  (dSeq (dPar [] 2 3 (dCons (dB oAbs (dCons (dVar 0) dNil)) (dCons (dB oAbs (dCons (dVar 1) dNil)) dNil)))
    (dSeq (dWhile (fuelI 3) (asB (dBin oNe (dVar 3) (dC (.int 0)))) (dPar [] 2 3 (dCons (dVar 3) (dCons (dBin oModI (dVar 2) (dVar 3)) dNil))))
    (dRet (dIf (asB (dBin oGt (dVar 1) (dC (.int 0)))) (dTup (dCons (dBin oDivI (dVar 0) (dVar 2)) (dCons (dBin oDivI (dVar 1) (dVar 2)) dNil))) (dTup (dCons (dBin oSubI (dC (.int 0)) (dBin oDivI (dVar 0) (dVar 2))) (dCons (dBin oSubI (dC (.int 0)) (dBin oDivI (dVar 1) (dVar 2))) dNil)))))))
def d__law_low : List D → R D := defD 2 4 (b__law_low)
def b__law_walk (self : List D → R D) : DS :=
  (dSeq (dSetN [] 1 (dCons (dTup (dCons (dTup dNil) (dCons (dVar 0) (dCons (dTup (dCons (dC (.int 1)) (dCons (dC (.int 1)) dNil))) dNil)))) dNil))
    (dSeq (dSet [1] 2 (dB oSum (dCons (dLc [4, 5] (.t [(.v 4), (.v 5)]) (dItems (dCall d__law_ways (dCons (dVar 0) dNil))) dYes (dVar 4)) dNil)))
    (dSeq (dFor [1] (.t [(.v 3), (.t [(.v 4), (.v 5)])]) (dRng enumD (dCons (dCall d__law_ways (dCons (dVar 0) dNil)) dNil)) (dFor [1] (.t [(.v 6), (.v 7), (.v 8)]) (dItems (dCall self (dCons (dVar 5) dNil))) (dApp [1] 1 (dTup (dCons (dBin oAdd (dTup (dCons (dVar 3) dNil)) (dVar 6)) (dCons (dVar 7) (dCons (dCall d__law_low (dCons (dBin oMul (dBin oIx (dVar 8) (dC (.int 0))) (dVar 4)) (dCons (dBin oMul (dBin oIx (dVar 8) (dC (.int 1))) (dVar 2)) dNil))) dNil)))))))
    (dRet (dVar 1)))))
def d__law_walk : Nat → List D → R D
  | 0 => fun _ => .bad
  | n + 1 => defD 1 9 (b__law_walk (d__law_walk n))
def b__law_sum : DS :=
  (dSeq (dAsg [] (.t [(.v 1), (.v 2)]) (dTup (dCons (dC (.int 0)) (dCons (dC (.int 1)) dNil))))
    (dSeq (dFor [] (.v 3) (dItems (dVar 0)) (dAsg [] (.t [(.v 1), (.v 2)]) (dCall d__law_low (dCons (dBin oAdd (dBin oMul (dVar 1) (dBin oIx (dVar 3) (dC (.int 1)))) (dBin oMul (dBin oIx (dVar 3) (dC (.int 0))) (dVar 2))) (dCons (dBin oMul (dVar 2) (dBin oIx (dVar 3) (dC (.int 1)))) dNil)))))
    (dRet (dTup (dCons (dVar 1) (dCons (dVar 2) dNil))))))
def d__law_sum : List D → R D := defD 1 4 (b__law_sum)
def b__law_prod : DS :=
  (dRet (dCall d__law_low (dCons (dBin oMul (dBin oIx (dVar 0) (dC (.int 0))) (dBin oIx (dVar 1) (dC (.int 0)))) (dCons (dBin oMul (dBin oIx (dVar 0) (dC (.int 1))) (dBin oIx (dVar 1) (dC (.int 1)))) dNil))))
def d__law_prod : List D → R D := defD 2 2 (b__law_prod)
def b__law_places (self : List D → R D) : DS :=
  (dSeq (dSetN [] 1 (dCons (dTup dNil) dNil))
    (dSeq (dIfS (dTru (dUn oIsTup (dVar 0))) (dFor [1] (.v 2) (dRng rng1 (dCons (dB oLen (dCons (dVar 0) dNil)) dNil)) (dExt [1] 1 (dLc [3] (.v 3) (dItems (dCall self (dCons (dBin oIx (dVar 0) (dVar 2)) dNil))) dYes (dBin oAdd (dTup (dCons (dVar 2) dNil)) (dVar 3))))) .nx)
    (dRet (dVar 1))))
def d__law_places : Nat → List D → R D
  | 0 => fun _ => .bad
  | n + 1 => defD 1 4 (b__law_places (d__law_places n))
def b__law_put (self : List D → R D) : DS :=
  (dSeq (dIfS (asB (dBin oEq (dVar 1) (dTup dNil))) (dRet (dVar 2)) .nx)
    (dSeq (dSet [] 3 (dBin oIx (dVar 1) (dC (.int 0))))
    (dRet (dBin oAdd (dBin oAdd (dSl (dVar 0) dNo (dSo (dVar 3))) (dTup (dCons (dCall self (dCons (dBin oIx (dVar 0) (dVar 3)) (dCons (dSl (dVar 1) (dSo (dC (.int 1))) dNo) (dCons (dVar 2) dNil)))) dNil))) (dSl (dVar 0) (dSo (dBin oAdd (dVar 3) (dC (.int 1)))) dNo)))))
def d__law_put : Nat → List D → R D
  | 0 => fun _ => .bad
  | n + 1 => defD 3 4 (b__law_put (d__law_put n))
def b__law_spoilt_thing (pk : Nat → Int → Int) : DS :=
  (dSeq (dSet [] 3 (dCall (d__law_places 24) (dCons (dVar 2) dNil)))
    (dSeq (dSet [] 4 (dBin oIx (dVar 3) (dCall (dPick pk) (dCons (dVar 0) (dCons (dVar 1) (dCons (dB oLen (dCons (dVar 3) dNil)) dNil))))))
    (dSeq (dSet [] 5 (dVar 2))
    (dSeq (dFor [] (.v 6) (dItems (dVar 4)) (dSet [] 5 (dBin oIx (dVar 5) (dVar 6))))
    (dSeq (dSet [] 7 (dLst (dCons (dC (.int 0)) (dCons (dC (.int 1)) (dCons (dC (.int 9)) (dCons (dC (.int 10)) (dCons (dC (.int 20)) (dCons (dC (.int 21)) (dCons (dUn oNeg (dC (.int 20))) (dCons (dUn oNeg (dC (.int 21))) (dCons (dC (.bl true)) (dCons (dC .non) (dCons (dC (.str "1")) (dCons (dTup dNil) (dCons (dTup (dCons (dC (.int 1)) dNil)) (dCons (dTup (dCons (dC (.int 0)) (dCons (dC (.int 1)) dNil))) (dCons (dLst (dCons (dC (.int 0)) dNil)) (dCons (dTup (dCons (dVar 5) dNil)) (dCons (dTup (dCons (dVar 5) (dCons (dVar 5) dNil))) dNil)))))))))))))))))))
    (dSeq (dSet [] 8 (dCall (dPick pk) (dCons (dVar 0) (dCons (dBin oAdd (dVar 1) (dC (.int 1))) (dCons (dC (.int 23)) dNil)))))
    (dSeq (dIfS (asB (dBin oLt (dVar 8) (dC (.int 17)))) (dRet (dCall (d__law_put 24) (dCons (dVar 2) (dCons (dVar 4) (dCons (dBin oIx (dVar 7) (dVar 8)) dNil))))) .nx)
    (dSeq (dIfS (dAndT (dTru (dUn oIsTup (dVar 5))) (asB (dBin oNe (dVar 5) (dTup dNil)))) (dSeq (dSet [] 6 (dCall (dPick pk) (dCons (dVar 0) (dCons (dBin oAdd (dVar 1) (dC (.int 2))) (dCons (dB oLen (dCons (dVar 5) dNil)) dNil)))))
    (dRet (dCall (d__law_put 24) (dCons (dVar 2) (dCons (dVar 4) (dCons (dIf (asB (dBin oLt (dVar 8) (dC (.int 20)))) (dBin oAdd (dSl (dVar 5) dNo (dSo (dVar 6))) (dSl (dVar 5) (dSo (dBin oAdd (dVar 6) (dC (.int 1)))) dNo)) (dBin oAdd (dSl (dVar 5) dNo (dSo (dBin oAdd (dVar 6) (dC (.int 1))))) (dSl (dVar 5) (dSo (dVar 6)) dNo))) dNil)))))) .nx)
    (dRet (dCall (d__law_put 24) (dCons (dVar 2) (dCons (dVar 4) (dCons (dIf (dTru (dUn oIsInt (dVar 5))) (dBin oSubI (dC (.int 0)) (dVar 5)) (dC (.int 7))) dNil)))))))))))))
def d__law_spoilt_thing (pk : Nat → Int → Int) : List D → R D := defD 3 9 (b__law_spoilt_thing pk)
def b__law_whole : DS :=
  (dRet (dAnd (dUn oIsInt (dVar 0)) (dAnd (dNot (dUn oIsBool (dVar 0))) (dChain oLe oLe (dVar 1) (dVar 0) (dVar 2)))))
def d__law_whole : List D → R D := defD 3 3 (b__law_whole)
def b__law_is_game (self : List D → R D) : DS :=
  (dSeq (dIfS (dOrT (asB (dBin oLt (dVar 1) (dC (.int 1)))) (dOrT (dNotT (dTru (dUn oIsTup (dVar 0)))) (dOrT (dNotT (asB (dChain oLe oLe (dC (.int 1)) (dB oLen (dCons (dVar 0) dNil)) (dC (.int 2))))) (dNotT (dTru (dCall d__law_whole (dCons (dBin oIx (dVar 0) (dC (.int 0))) (dCons (dUn oNeg (dC (.int 20))) (dCons (dC (.int 20)) dNil))))))))) (dRet (dC (.bl false))) .nx)
    (dSeq (dIfS (asB (dBin oEq (dB oLen (dCons (dVar 0) dNil)) (dC (.int 1)))) (dRet (dC (.bl true))) .nx)
    (dSeq (dIfS (dOrT (dNotT (dTru (dUn oIsTup (dBin oIx (dVar 0) (dC (.int 1)))))) (dNotT (asB (dChain oLe oLe (dC (.int 1)) (dB oLen (dCons (dBin oIx (dVar 0) (dC (.int 1))) dNil)) (dC (.int 3)))))) (dRet (dC (.bl false))) .nx)
    (dSeq (dFor [] (.v 2) (dItems (dBin oIx (dVar 0) (dC (.int 1)))) (dSeq (dIfS (dOrT (dNotT (dTru (dUn oIsTup (dVar 2)))) (dOrT (asB (dBin oNe (dB oLen (dCons (dVar 2) dNil)) (dC (.int 2)))) (dNotT (dTru (dCall d__law_whole (dCons (dBin oIx (dVar 2) (dC (.int 0))) (dCons (dC (.int 1)) (dCons (dC (.int 9)) dNil)))))))) (dRet (dC (.bl false))) .nx)
    (dIfS (dNotT (dTru (dCall self (dCons (dBin oIx (dVar 2) (dC (.int 1))) (dCons (dBin oSubI (dVar 1) (dC (.int 1))) dNil))))) (dRet (dC (.bl false))) .nx)))
    (dRet (dC (.bl true)))))))
def d__law_is_game : Nat → List D → R D
  | 0 => fun _ => .bad
  | n + 1 => defD 2 3 (b__law_is_game (d__law_is_game n))
def b__law_word : DS :=
  (dSeq (dSetN [] 1 (dCons (dUn (oIsX [1, 2, 3, 4, 5, 6] (fun k => k == 4)) (dVar 0)) (dCons (dUn (oIsX [1, 2, 3, 4, 5, 6] (fun k => k == 1)) (dVar 0)) (dCons (dUn (oIsX [1, 2, 3, 4, 5, 6] (fun k => k == 2)) (dVar 0)) (dCons (dUn (oIsX [1, 2, 3, 4, 5, 6] (fun k => k == 3)) (dVar 0)) dNil)))))
    (dSeq (dExt [1] 1 (dLst (dCons (dUn (oIsX [1, 2, 3, 4, 5, 6] (fun k => k == 6)) (dVar 0)) (dCons (dUn (oIsX [1, 2, 3, 4, 5, 6] (fun k => k == 5)) (dVar 0)) dNil))))
    (dSeq (dIfS (dOrT (asB (dBin oNe (dMeth oCount (dVar 1) (dC (.bl true))) (dC (.int 1)))) (dNotT (dTru (dUn (oIsX [1, 2, 3, 4, 5, 6] (fun _ => true)) (dVar 0))))) (dRet (dC (.str "wrong"))) .nx)
    (dRet (dBin oIx (dLst (dCons (dC (.str "no bets")) (dCons (dC (.str "no game")) (dCons (dC (.str "no path")) (dCons (dC (.str "no rule")) (dCons (dC (.str "no text")) (dCons (dC (.str "unpaid")) dNil))))))) (dMeth oIndex (dVar 1) (dC (.bl true))))))))
def d__law_word : List D → R D := defD 1 2 (b__law_word)
def b_divisor : DS :=
  (dSeq (dWhile (fuelI 1) (asB (dBin oNe (dVar 1) (dC (.int 0)))) (dPar [] 0 1 (dCons (dVar 1) (dCons (dBin oModI (dVar 0) (dVar 1)) dNil))))
    (dRet (dB oAbs (dCons (dVar 0) dNil))))
def d_divisor : List D → R D := defD 2 2 (b_divisor)
def b_share : DS :=
  (dSeq (dSet [] 2 (dCall d_divisor (dCons (dVar 0) (dCons (dVar 1) dNil))))
    (dSeq (dIfS (asB (dBin oLt (dVar 1) (dC (.int 0)))) (dSet [] 2 (dBin oSubI (dC (.int 0)) (dVar 2))) .nx)
    (dRet (dTup (dCons (dBin oDivI (dVar 0) (dVar 2)) (dCons (dBin oDivI (dVar 1) (dVar 2)) dNil))))))
def d_share : List D → R D := defD 2 3 (b_share)
def b_times : DS :=
  (dRet (dCall d_share (dCons (dBin oMul (dBin oIx (dVar 0) (dC (.int 0))) (dBin oIx (dVar 1) (dC (.int 0)))) (dCons (dBin oMul (dBin oIx (dVar 0) (dC (.int 1))) (dBin oIx (dVar 1) (dC (.int 1)))) dNil))))
def d_times : List D → R D := defD 2 2 (b_times)
def b_is_end : DS :=
  (dRet (dBin oEq (dB oLen (dCons (dVar 0) dNil)) (dC (.int 1))))
def d_is_end : List D → R D := defD 1 1 (b_is_end)
def b_part_of : DS :=
  (dSeq (dFor [] (.v 2) (dItems (dVar 1)) (dSet [] 0 (dBin oIx (dBin oIx (dCall d_ways_of (dCons (dVar 0) dNil)) (dVar 2)) (dC (.int 1)))))
    (dRet (dVar 0)))
def d_part_of : List D → R D := defD 2 3 (b_part_of)
def b_ends_of : DS :=
  (dRet (dLc [1] (.v 1) (dItems (dCall (d_paths_of 8) (dCons (dVar 0) dNil))) (dTru (dCall d_is_end (dCons (dCall d_part_of (dCons (dVar 0) (dCons (dVar 1) dNil))) dNil))) (dVar 1)))
def d_ends_of : List D → R D := defD 1 2 (b_ends_of)
def b_shares_of : DS :=
  (dSeq (dSet [] 1 (dB oSum (dCons (dLc [2, 3] (.t [(.v 2), (.v 3)]) (dItems (dCall d_ways_of (dCons (dVar 0) dNil))) dYes (dVar 2)) dNil)))
    (dRet (dLc [2, 3] (.t [(.v 2), (.v 3)]) (dItems (dCall d_ways_of (dCons (dVar 0) dNil))) dYes (dCall d_share (dCons (dVar 2) (dCons (dVar 1) dNil))))))
def d_shares_of : List D → R D := defD 1 4 (b_shares_of)
def b_chance_of : DS :=
  (dSeq (dSet [] 2 (dTup (dCons (dC (.int 1)) (dCons (dC (.int 1)) dNil))))
    (dSeq (dFor [] (.v 3) (dItems (dVar 1)) (dSeq (dSet [] 2 (dCall d_times (dCons (dVar 2) (dCons (dBin oIx (dCall d_shares_of (dCons (dVar 0) dNil)) (dVar 3)) dNil))))
    (dSet [] 0 (dBin oIx (dBin oIx (dCall d_ways_of (dCons (dVar 0) dNil)) (dVar 3)) (dC (.int 1))))))
    (dRet (dVar 2))))
def d_chance_of : List D → R D := defD 2 4 (b_chance_of)
def b_plus : DS :=
  (dRet (dCall d_share (dCons (dBin oAdd (dBin oMul (dBin oIx (dVar 0) (dC (.int 0))) (dBin oIx (dVar 1) (dC (.int 1)))) (dBin oMul (dBin oIx (dVar 1) (dC (.int 0))) (dBin oIx (dVar 0) (dC (.int 1))))) (dCons (dBin oMul (dBin oIx (dVar 0) (dC (.int 1))) (dBin oIx (dVar 1) (dC (.int 1)))) dNil))))
def d_plus : List D → R D := defD 2 2 (b_plus)
def b_all_plus : DS :=
  (dSeq (dSet [] 1 (dTup (dCons (dC (.int 0)) (dCons (dC (.int 1)) dNil))))
    (dSeq (dFor [] (.v 2) (dItems (dVar 0)) (dSet [] 1 (dCall d_plus (dCons (dVar 1) (dCons (dVar 2) dNil)))))
    (dRet (dVar 1))))
def d_all_plus : List D → R D := defD 1 3 (b_all_plus)
def b_going : DS :=
  (dRet (dLc [1] (.v 1) (dItems (dCall (d_paths_of 8) (dCons (dVar 0) dNil))) (dNotT (dTru (dCall d_is_end (dCons (dCall d_part_of (dCons (dVar 0) (dCons (dVar 1) dNil))) dNil)))) (dVar 1)))
def d_going : List D → R D := defD 1 2 (b_going)
def b_gain_at : DS :=
  (dSeq (dSet [] 1 (dTup (dCons (dC (.int 0)) (dCons (dC (.int 1)) dNil))))
    (dSeq (dFor [] (.t [(.t [(.v 2), (.v 3)]), (.v 4)]) (dRng zipD (dCons (dCall d_ways_of (dCons (dVar 0) dNil)) (dCons (dCall d_shares_of (dCons (dVar 0) dNil)) dNil))) (dSet [] 1 (dCall d_plus (dCons (dVar 1) (dCons (dCall d_times (dCons (dVar 4) (dCons (dTup (dCons (dBin oSubI (dBin oIx (dVar 3) (dC (.int 0))) (dBin oIx (dVar 0) (dC (.int 0)))) (dCons (dC (.int 1)) dNil))) dNil))) dNil)))))
    (dRet (dVar 1))))
def d_gain_at : List D → R D := defD 1 5 (b_gain_at)
def b_gains_of : DS :=
  (dRet (dLc [1] (.v 1) (dItems (dCall d_going (dCons (dVar 0) dNil))) dYes (dCall d_gain_at (dCons (dCall d_part_of (dCons (dVar 0) (dCons (dVar 1) dNil))) dNil))))
def d_gains_of : List D → R D := defD 1 2 (b_gains_of)
def b_is_fair : DS :=
  (dSeq (dDrop (dCall d_look_game (dCons (dVar 0) dNil)))
    (dRet (dB oAll (dCons (dLc [1] (.v 1) (dItems (dCall d_gains_of (dCons (dVar 0) dNil))) dYes (dBin oEq (dBin oIx (dVar 1) (dC (.int 0))) (dC (.int 0)))) dNil))))
def d_is_fair : List D → R D := defD 1 2 (b_is_fair)
def b_most_along : DS :=
  (dRet (dB oMax (dCons (dLc [2] (.v 2) (dRng rng1 (dCons (dBin oAdd (dB oLen (dCons (dVar 1) dNil)) (dC (.int 1))) dNil)) dYes (dBin oIx (dCall d_part_of (dCons (dVar 0) (dCons (dSl (dVar 1) dNo (dSo (dVar 2))) dNil))) (dC (.int 0)))) dNil)))
def d_most_along : List D → R D := defD 2 3 (b_most_along)
def b_mean_of_most : DS :=
  (dSeq (dDrop (dCall d_look_game (dCons (dVar 0) dNil)))
    (dRet (dCall d_all_plus (dCons (dLc [1] (.v 1) (dItems (dCall d_ends_of (dCons (dVar 0) dNil))) dYes (dCall d_times (dCons (dCall d_chance_of (dCons (dVar 0) (dCons (dVar 1) dNil))) (dCons (dTup (dCons (dCall d_most_along (dCons (dVar 0) (dCons (dVar 1) dNil))) (dCons (dC (.int 1)) dNil))) dNil)))) dNil))))
def d_mean_of_most : List D → R D := defD 1 2 (b_mean_of_most)
def b_chance_reached : DS :=
  (dSeq (dDrop (dCall d_look_game (dCons (dVar 0) dNil)))
    (dRet (dCall d_all_plus (dCons (dLc [2] (.v 2) (dItems (dCall d_ends_of (dCons (dVar 0) dNil))) (asB (dBin oGe (dCall d_most_along (dCons (dVar 0) (dCons (dVar 2) dNil))) (dVar 1))) (dCall d_chance_of (dCons (dVar 0) (dCons (dVar 2) dNil)))) dNil))))
def d_chance_reached : List D → R D := defD 2 3 (b_chance_reached)
def b_mean_square : DS :=
  (dSeq (dDrop (dCall d_look_game (dCons (dVar 0) dNil)))
    (dSeq (dSetN [] 1 (dLcs [2] (.v 2) (dItems (dCall d_ends_of (dCons (dVar 0) dNil))) dYes (dTup (dCons (dCall d_chance_of (dCons (dVar 0) (dCons (dVar 2) dNil))) (dCons (dBin oIx (dCall d_part_of (dCons (dVar 0) (dCons (dVar 2) dNil))) (dC (.int 0))) dNil)))))
    (dRet (dCall d_all_plus (dCons (dLc [3, 4] (.t [(.v 3), (.v 4)]) (dItems (dVar 1)) dYes (dCall d_times (dCons (dVar 3) (dCons (dTup (dCons (dBin oMul (dVar 4) (dVar 4)) (dCons (dC (.int 1)) dNil))) dNil)))) dNil)))))
def d_mean_square : List D → R D := defD 1 5 (b_mean_square)
def b_mean_steps : DS :=
  (dSeq (dDrop (dCall d_look_game (dCons (dVar 0) dNil)))
    (dSeq (dSetN [] 1 dNil)
    (dSeq (dFor [1] (.v 2) (dItems (dCall d_going (dCons (dVar 0) dNil))) (dSeq (dSet [1] 3 (dCall d_part_of (dCons (dVar 0) (dCons (dVar 2) dNil))))
    (dFor [1] (.t [(.v 4), (.t [(.v 5), (.v 6)])]) (dRng enumD (dCons (dCall d_ways_of (dCons (dVar 3) dNil)) dNil)) (dSeq (dSet [1] 7 (dBin oSubI (dBin oIx (dVar 6) (dC (.int 0))) (dBin oIx (dVar 3) (dC (.int 0)))))
    (dApp [1] 1 (dCall d_times (dCons (dCall d_chance_of (dCons (dVar 0) (dCons (dBin oAdd (dVar 2) (dTup (dCons (dVar 4) dNil))) dNil))) (dCons (dTup (dCons (dBin oMul (dVar 7) (dVar 7)) (dCons (dC (.int 1)) dNil))) dNil))))))))
    (dRet (dCall d_all_plus (dCons (dVar 1) dNil))))))
def d_mean_steps : List D → R D := defD 1 8 (b_mean_steps)
def b__law_lifted (self : List D → R D) : DS :=
  (dSeq (dIfS (asB (dBin oEq (dB oLen (dCons (dVar 0) dNil)) (dC (.int 1)))) (dRet (dTup (dCons (dBin oAdd (dBin oIx (dVar 0) (dC (.int 0))) (dVar 1)) dNil))) .nx)
    (dRet (dTup (dCons (dBin oAdd (dBin oIx (dVar 0) (dC (.int 0))) (dVar 1)) (dCons (dB oTuple (dCons (dLc [2, 3] (.t [(.v 2), (.v 3)]) (dItems (dBin oIx (dVar 0) (dC (.int 1)))) dYes (dTup (dCons (dVar 2) (dCons (dCall self (dCons (dVar 3) (dCons (dVar 1) dNil))) dNil)))) dNil)) dNil)))))
def d__law_lifted : Nat → List D → R D
  | 0 => fun _ => .bad
  | n + 1 => defD 2 4 (b__law_lifted (d__law_lifted n))
end Kx
namespace Kx
open PySem PySem.Spec L2 Sm
theorem divisor_ok (a b : Int) : d_divisor [.int a, .int b] = .ok (.int (Int.gcd a b : Nat)) := by
  obtain ⟨g, e1, e2, _⟩ := gcd_loop 0 1 (fun a b => [some (.int a), some (.int b)]) (fun _ _ => rfl) (fun _ _ => rfl) (fun _ _ _ _ => rfl) (b.natAbs + 1) a b (by omega)
  have e3 : (if g < 0 then -g else g) = (Int.gcd a b : Nat) := by split <;> omega
  simp only [d_divisor, b_divisor, fuelI, e1, oAbs, e3, defD, args, dSeq, dSet, dSetP, dSetN, lstAt, dApp, dAppP, dAsg, dPar, dDrop, dWhile, dIfS, dRet, dB, dCall, dCons, dNil, dVar, dC, dBin, dChain, asB, dTru, dNotT, dAndT, dOrT, dAnd, dOr, dNot, dIf, dUn, dTup, dLst, dItems, dYes, R.bind, R.to, O.seq, outR, ofO, noErr, mask, Sm.putIn, bindPat, bindPats, itemsOf, tru, List.foldr_cons, List.foldr_nil, List.length_cons, List.length_nil, List.map_cons, List.map_nil, List.cons_append, List.nil_append, Nat.sub_self, List.replicate_zero, List.replicate_succ, List.getElem?_cons_succ, List.getElem?_cons_zero, List.set_cons_zero, List.set_cons_succ, Nat.reduceAdd, Nat.reduceSub, ↓reduceIte, Bool.not_true, Bool.not_false, Bool.and_true, Bool.true_and, Bool.false_and, Bool.and_false, if_true, if_false, Bool.false_eq_true, oNeg, oAddI, oSubI, oAdd_ii, oLt, oLe, oGt, oGe, Option.bind_some, Option.map_some, dFor, dRng, dLc, dLcs]
theorem share_ok {u d : Int} {n : Nat} (hd : d ≠ 0) (h : d.natAbs < 2 ^ n) (hn : n < 9000) : d_share [.int u, .int d] = .ok (encQ (Rat.divInt u d)) := by
  have hs := share_num (u := u) hd
  have hl := gcd_small (u := u) hd h hn
  have hg : Int.gcd u d ≠ 0 := by
    intro h
    rw [Int.gcd_eq_zero_iff] at h
    exact hd h.2
  by_cases hneg : d < 0
  · rw [if_pos hneg] at hs
    have h1 : (0 : Int) - (Int.gcd u d : Nat) ≠ 0 := by omega
    have h2 : ((0 : Int) - (Int.gcd u d : Nat)).natAbs.log2 < 9000 := by
      have : ((0 : Int) - (Int.gcd u d : Nat)).natAbs = Int.gcd u d := by omega
      rw [this]; exact hl
    simp only [d_share, b_share, divisor_ok, decide_eq_true hneg, oDivI, if_pos (And.intro h1 h2), hs.1, hs.2, encQ, defD, args, dSeq, dSet, dSetP, dSetN, lstAt, dApp, dAppP, dAsg, dPar, dDrop, dWhile, dIfS, dRet, dB, dCall, dCons, dNil, dVar, dC, dBin, dChain, asB, dTru, dNotT, dAndT, dOrT, dAnd, dOr, dNot, dIf, dUn, dTup, dLst, dItems, dYes, R.bind, R.to, O.seq, outR, ofO, noErr, mask, Sm.putIn, bindPat, bindPats, itemsOf, tru, List.foldr_cons, List.foldr_nil, List.length_cons, List.length_nil, List.map_cons, List.map_nil, List.cons_append, List.nil_append, Nat.sub_self, List.replicate_zero, List.replicate_succ, List.getElem?_cons_succ, List.getElem?_cons_zero, List.set_cons_zero, List.set_cons_succ, Nat.reduceAdd, Nat.reduceSub, ↓reduceIte, Bool.not_true, Bool.not_false, Bool.and_true, Bool.true_and, Bool.false_and, Bool.and_false, if_true, if_false, Bool.false_eq_true, oNeg, oAddI, oSubI, oAdd_ii, oLt, oLe, oGt, oGe, Option.bind_some, Option.map_some, dFor, dRng, dLc, dLcs]
  · rw [if_neg hneg] at hs
    have h1 : ((Int.gcd u d : Nat) : Int) ≠ 0 := by omega
    have h2 : ((Int.gcd u d : Nat) : Int).natAbs.log2 < 9000 := by rw [Int.natAbs_natCast]; exact hl
    simp only [d_share, b_share, divisor_ok, decide_eq_false hneg, oDivI, if_pos (And.intro h1 h2), hs.1, hs.2, encQ, defD, args, dSeq, dSet, dSetP, dSetN, lstAt, dApp, dAppP, dAsg, dPar, dDrop, dWhile, dIfS, dRet, dB, dCall, dCons, dNil, dVar, dC, dBin, dChain, asB, dTru, dNotT, dAndT, dOrT, dAnd, dOr, dNot, dIf, dUn, dTup, dLst, dItems, dYes, R.bind, R.to, O.seq, outR, ofO, noErr, mask, Sm.putIn, bindPat, bindPats, itemsOf, tru, List.foldr_cons, List.foldr_nil, List.length_cons, List.length_nil, List.map_cons, List.map_nil, List.cons_append, List.nil_append, Nat.sub_self, List.replicate_zero, List.replicate_succ, List.getElem?_cons_succ, List.getElem?_cons_zero, List.set_cons_zero, List.set_cons_succ, Nat.reduceAdd, Nat.reduceSub, ↓reduceIte, Bool.not_true, Bool.not_false, Bool.and_true, Bool.true_and, Bool.false_and, Bool.and_false, if_true, if_false, Bool.false_eq_true, oNeg, oAddI, oSubI, oAdd_ii, oLt, oLe, oGt, oGe, Option.bind_some, Option.map_some, dFor, dRng, dLc, dLcs]
theorem plus_ok {a b : Rat} {m n : Nat} (ha : Sz m a) (hb : Sz n b) (h : m + n < 8990) : d_plus [encQ a, encQ b] = .ok (encQ (a + b)) := by
  have m1 := mulOk_of ha.1 (den_nat hb) (by omega)
  have m2 := mulOk_of hb.1 (den_nat ha) (by omega)
  have m3 := mulOk_of (den_nat ha) (den_nat hb) (by omega)
  have sh := share_ok (u := a.num * (b.den : Nat) + b.num * (a.den : Nat)) (den_ne a b) (abs_mul_lt (den_nat ha) (den_nat hb)) (by omega)
  simp only [d_plus, b_plus, oIx_q0, oIx_q1, oMul_ok m1, oMul_ok m2, oMul_ok m3, sh, add_q, defD, args, dSeq, dSet, dSetP, dSetN, lstAt, dApp, dAppP, dAsg, dPar, dDrop, dWhile, dIfS, dRet, dB, dCall, dCons, dNil, dVar, dC, dBin, dChain, asB, dTru, dNotT, dAndT, dOrT, dAnd, dOr, dNot, dIf, dUn, dTup, dLst, dItems, dYes, R.bind, R.to, O.seq, outR, ofO, noErr, mask, Sm.putIn, bindPat, bindPats, itemsOf, tru, List.foldr_cons, List.foldr_nil, List.length_cons, List.length_nil, List.map_cons, List.map_nil, List.cons_append, List.nil_append, Nat.sub_self, List.replicate_zero, List.replicate_succ, List.getElem?_cons_succ, List.getElem?_cons_zero, List.set_cons_zero, List.set_cons_succ, Nat.reduceAdd, Nat.reduceSub, ↓reduceIte, Bool.not_true, Bool.not_false, Bool.and_true, Bool.true_and, Bool.false_and, Bool.and_false, if_true, if_false, Bool.false_eq_true, oNeg, oAddI, oSubI, oAdd_ii, oLt, oLe, oGt, oGe, Option.bind_some, Option.map_some, dFor, dRng, dLc, dLcs]
theorem times_ok {a b : Rat} {m n : Nat} (ha : Sz m a) (hb : Sz n b) (h : m + n < 8990) : d_times [encQ a, encQ b] = .ok (encQ (a * b)) := by
  have m1 := mulOk_of ha.1 hb.1 (by omega)
  have m3 := mulOk_of (den_nat ha) (den_nat hb) (by omega)
  have sh := share_ok (u := a.num * b.num) (den_ne a b) (abs_mul_lt (den_nat ha) (den_nat hb)) (by omega)
  simp only [d_times, b_times, oIx_q0, oIx_q1, oMul_ok m1, oMul_ok m3, sh, mul_q, defD, args, dSeq, dSet, dSetP, dSetN, lstAt, dApp, dAppP, dAsg, dPar, dDrop, dWhile, dIfS, dRet, dB, dCall, dCons, dNil, dVar, dC, dBin, dChain, asB, dTru, dNotT, dAndT, dOrT, dAnd, dOr, dNot, dIf, dUn, dTup, dLst, dItems, dYes, R.bind, R.to, O.seq, outR, ofO, noErr, mask, Sm.putIn, bindPat, bindPats, itemsOf, tru, List.foldr_cons, List.foldr_nil, List.length_cons, List.length_nil, List.map_cons, List.map_nil, List.cons_append, List.nil_append, Nat.sub_self, List.replicate_zero, List.replicate_succ, List.getElem?_cons_succ, List.getElem?_cons_zero, List.set_cons_zero, List.set_cons_succ, Nat.reduceAdd, Nat.reduceSub, ↓reduceIte, Bool.not_true, Bool.not_false, Bool.and_true, Bool.true_and, Bool.false_and, Bool.and_false, if_true, if_false, Bool.false_eq_true, oNeg, oAddI, oSubI, oAdd_ii, oLt, oLe, oGt, oGe, Option.bind_some, Option.map_some, dFor, dRng, dLc, dLcs]
theorem sum_loop (all : D) : ∀ (qs : List Rat) (acc : Rat) (m n : Nat) (x : Option D), Sz m acc → (∀ q ∈ qs, Sz n q) → m + (n + 1) * qs.length < 8980 →
    ∃ y, forGo (.v 2) (dSet [] 1 (dCall d_plus (dCons (dVar 1) (dCons (dVar 2) dNil)))) (qs.map encQ) [some all, some (encQ acc), x] = .nx [some all, some (encQ (acc + qsum qs)), y]
  | [], acc, m, n, x, _, _, _ => ⟨x, by simp only [List.map_nil, forGo, qsum, Rat.add_zero]⟩
  | q :: qs, acc, m, n, x, ha, hq, hs => by
    have hq1 := hq q (by simp)
    rw [List.length_cons, Nat.mul_succ] at hs
    obtain ⟨y, e⟩ := sum_loop all qs (acc + q) (m + n + 1) n (some (encQ q)) (ha.add hq1) (fun r hr => hq r (by simp [hr])) (by omega)
    refine ⟨y, ?_⟩
    rw [show acc + qsum (q :: qs) = acc + q + qsum qs by simp only [qsum, Rat.add_assoc]]
    simp only [forGo, plus_ok ha hq1 (by omega), defD, args, dSeq, dSet, dSetP, dSetN, lstAt, dApp, dAppP, dAsg, dPar, dDrop, dWhile, dIfS, dRet, dB, dCall, dCons, dNil, dVar, dC, dBin, dChain, asB, dTru, dNotT, dAndT, dOrT, dAnd, dOr, dNot, dIf, dUn, dTup, dLst, dItems, dYes, R.bind, R.to, O.seq, outR, ofO, noErr, mask, Sm.putIn, bindPat, bindPats, itemsOf, tru, List.foldr_cons, List.foldr_nil, List.length_cons, List.length_nil, List.map_cons, List.map_nil, List.cons_append, List.nil_append, Nat.sub_self, List.replicate_zero, List.replicate_succ, List.getElem?_cons_succ, List.getElem?_cons_zero, List.set_cons_zero, List.set_cons_succ, Nat.reduceAdd, Nat.reduceSub, ↓reduceIte, Bool.not_true, Bool.not_false, Bool.and_true, Bool.true_and, Bool.false_and, Bool.and_false, if_true, if_false, Bool.false_eq_true, oNeg, oAddI, oSubI, oAdd_ii, oLt, oLe, oGt, oGe, Option.bind_some, Option.map_some, dFor, dRng, dLc, dLcs]
    exact e
theorem all_plus_ok {qs : List Rat} {n : Nat} (hq : ∀ q ∈ qs, Sz n q) (hs : (n + 1) * qs.length < 8970) : d_all_plus [.lst (qs.map encQ)] = .ok (encQ (qsum qs)) := by
  obtain ⟨y, e⟩ := sum_loop (.lst (qs.map encQ)) qs 0 1 n none ⟨by decide, by decide⟩ hq (by omega)
  rw [Rat.zero_add] at e
  have e0 : (D.tup [.int 0, .int 1]) = encQ 0 := rfl
  simp only [d_all_plus, b_all_plus, e0, e, defD, args, dSeq, dSet, dSetP, dSetN, lstAt, dApp, dAppP, dAsg, dPar, dDrop, dWhile, dIfS, dRet, dB, dCall, dCons, dNil, dVar, dC, dBin, dChain, asB, dTru, dNotT, dAndT, dOrT, dAnd, dOr, dNot, dIf, dUn, dTup, dLst, dItems, dYes, R.bind, R.to, O.seq, outR, ofO, noErr, mask, Sm.putIn, bindPat, bindPats, itemsOf, tru, List.foldr_cons, List.foldr_nil, List.length_cons, List.length_nil, List.map_cons, List.map_nil, List.cons_append, List.nil_append, Nat.sub_self, List.replicate_zero, List.replicate_succ, List.getElem?_cons_succ, List.getElem?_cons_zero, List.set_cons_zero, List.set_cons_succ, Nat.reduceAdd, Nat.reduceSub, ↓reduceIte, Bool.not_true, Bool.not_false, Bool.and_true, Bool.true_and, Bool.false_and, Bool.and_false, if_true, if_false, Bool.false_eq_true, oNeg, oAddI, oSubI, oAdd_ii, oLt, oLe, oGt, oGe, Option.bind_some, Option.map_some, dFor, dRng, dLc, dLcs]
theorem low_ok {u d : Int} {n : Nat} (hd : d ≠ 0) (h : d.natAbs < 2 ^ n) (hn : n < 9000) : d__law_low [.int u, .int d] = .ok (encQ (Rat.divInt u d)) := by
  have hs := low_num (u := u) hd
  have hl := gcd_small (u := u) hd h hn
  have hg : Int.gcd u d ≠ 0 := by
    intro h
    rw [Int.gcd_eq_zero_iff] at h
    exact hd h.2
  obtain ⟨g, e1, e2, e3⟩ := gcd_loop 2 3 (fun a b => [some (.int u), some (.int d), some (.int a), some (.int b)]) (fun _ _ => rfl) (fun _ _ => rfl) (fun _ _ _ _ => rfl) ((if d < 0 then -d else d).natAbs + 1) (if u < 0 then -u else u) (if d < 0 then -d else d) (by omega)
  have e4 := e3 (by split <;> omega) (by split <;> omega)
  have e5 : Int.gcd (if u < 0 then -u else u) (if d < 0 then -d else d) = Int.gcd u d := by
    split <;> split <;> simp only [Int.gcd_neg, Int.neg_gcd]
  rw [e5] at e2
  have eg : g = (Int.gcd u d : Nat) := by omega
  subst eg
  have h1 : ((Int.gcd u d : Nat) : Int) ≠ 0 := by omega
  have h2 : ((Int.gcd u d : Nat) : Int).natAbs.log2 < 9000 := by rw [Int.natAbs_natCast]; exact hl
  by_cases hp : 0 < d
  · rw [if_pos hp, if_pos hp] at hs
    simp only [d__law_low, b__law_low, oAbs, fuelI, e1, oDivI, if_pos (And.intro h1 h2), decide_eq_true hp, hs.1, hs.2, encQ, defD, args, dSeq, dSet, dSetP, dSetN, lstAt, dApp, dAppP, dAsg, dPar, dDrop, dWhile, dIfS, dRet, dB, dCall, dCons, dNil, dVar, dC, dBin, dChain, asB, dTru, dNotT, dAndT, dOrT, dAnd, dOr, dNot, dIf, dUn, dTup, dLst, dItems, dYes, R.bind, R.to, O.seq, outR, ofO, noErr, mask, Sm.putIn, bindPat, bindPats, itemsOf, tru, List.foldr_cons, List.foldr_nil, List.length_cons, List.length_nil, List.map_cons, List.map_nil, List.cons_append, List.nil_append, Nat.sub_self, List.replicate_zero, List.replicate_succ, List.getElem?_cons_succ, List.getElem?_cons_zero, List.set_cons_zero, List.set_cons_succ, Nat.reduceAdd, Nat.reduceSub, ↓reduceIte, Bool.not_true, Bool.not_false, Bool.and_true, Bool.true_and, Bool.false_and, Bool.and_false, if_true, if_false, Bool.false_eq_true, oNeg, oAddI, oSubI, oAdd_ii, oLt, oLe, oGt, oGe, Option.bind_some, Option.map_some, dFor, dRng, dLc, dLcs]
  · rw [if_neg hp, if_neg hp] at hs
    simp only [d__law_low, b__law_low, oAbs, fuelI, e1, oDivI, if_pos (And.intro h1 h2), decide_eq_false hp, hs.1, hs.2, encQ, defD, args, dSeq, dSet, dSetP, dSetN, lstAt, dApp, dAppP, dAsg, dPar, dDrop, dWhile, dIfS, dRet, dB, dCall, dCons, dNil, dVar, dC, dBin, dChain, asB, dTru, dNotT, dAndT, dOrT, dAnd, dOr, dNot, dIf, dUn, dTup, dLst, dItems, dYes, R.bind, R.to, O.seq, outR, ofO, noErr, mask, Sm.putIn, bindPat, bindPats, itemsOf, tru, List.foldr_cons, List.foldr_nil, List.length_cons, List.length_nil, List.map_cons, List.map_nil, List.cons_append, List.nil_append, Nat.sub_self, List.replicate_zero, List.replicate_succ, List.getElem?_cons_succ, List.getElem?_cons_zero, List.set_cons_zero, List.set_cons_succ, Nat.reduceAdd, Nat.reduceSub, ↓reduceIte, Bool.not_true, Bool.not_false, Bool.and_true, Bool.true_and, Bool.false_and, Bool.and_false, if_true, if_false, Bool.false_eq_true, oNeg, oAddI, oSubI, oAdd_ii, oLt, oLe, oGt, oGe, Option.bind_some, Option.map_some, dFor, dRng, dLc, dLcs]
theorem prod_ok {a b : Rat} {m n : Nat} (ha : Sz m a) (hb : Sz n b) (h : m + n < 8990) : d__law_prod [encQ a, encQ b] = .ok (encQ (a * b)) := by
  have m1 := mulOk_of ha.1 hb.1 (by omega)
  have m3 := mulOk_of (den_nat ha) (den_nat hb) (by omega)
  have sh := low_ok (u := a.num * b.num) (den_ne a b) (abs_mul_lt (den_nat ha) (den_nat hb)) (by omega)
  simp only [d__law_prod, b__law_prod, oIx_q0, oIx_q1, oMul_ok m1, oMul_ok m3, sh, mul_q, defD, args, dSeq, dSet, dSetP, dSetN, lstAt, dApp, dAppP, dAsg, dPar, dDrop, dWhile, dIfS, dRet, dB, dCall, dCons, dNil, dVar, dC, dBin, dChain, asB, dTru, dNotT, dAndT, dOrT, dAnd, dOr, dNot, dIf, dUn, dTup, dLst, dItems, dYes, R.bind, R.to, O.seq, outR, ofO, noErr, mask, Sm.putIn, bindPat, bindPats, itemsOf, tru, List.foldr_cons, List.foldr_nil, List.length_cons, List.length_nil, List.map_cons, List.map_nil, List.cons_append, List.nil_append, Nat.sub_self, List.replicate_zero, List.replicate_succ, List.getElem?_cons_succ, List.getElem?_cons_zero, List.set_cons_zero, List.set_cons_succ, Nat.reduceAdd, Nat.reduceSub, ↓reduceIte, Bool.not_true, Bool.not_false, Bool.and_true, Bool.true_and, Bool.false_and, Bool.and_false, if_true, if_false, Bool.false_eq_true, oNeg, oAddI, oSubI, oAdd_ii, oLt, oLe, oGt, oGe, Option.bind_some, Option.map_some, dFor, dRng, dLc, dLcs]
theorem lsum_loop (all : D) : ∀ (qs : List Rat) (acc : Rat) (m n : Nat) (x : Option D), Sz m acc → (∀ q ∈ qs, Sz n q) → m + (n + 1) * qs.length < 8980 →
    ∃ y, forGo (.v 3) (dAsg [] (.t [(.v 1), (.v 2)]) (dCall d__law_low (dCons (dBin oAdd (dBin oMul (dVar 1) (dBin oIx (dVar 3) (dC (.int 1)))) (dBin oMul (dBin oIx (dVar 3) (dC (.int 0))) (dVar 2))) (dCons (dBin oMul (dVar 2) (dBin oIx (dVar 3) (dC (.int 1)))) dNil)))) (qs.map encQ) [some all, some (.int acc.num), some (.int (acc.den : Nat)), x]
      = .nx [some all, some (.int (acc + qsum qs).num), some (.int ((acc + qsum qs).den : Nat)), y]
  | [], acc, m, n, x, _, _, _ => ⟨x, by simp only [List.map_nil, forGo, qsum, Rat.add_zero]⟩
  | q :: qs, acc, m, n, x, ha, hq, hs => by
    have hq1 := hq q (by simp)
    rw [List.length_cons, Nat.mul_succ] at hs
    obtain ⟨y, e⟩ := lsum_loop all qs (acc + q) (m + n + 1) n (some (encQ q)) (ha.add hq1) (fun r hr => hq r (by simp [hr])) (by omega)
    refine ⟨y, ?_⟩
    rw [show acc + qsum (q :: qs) = acc + q + qsum qs by simp only [qsum, Rat.add_assoc]]
    have m1 := mulOk_of ha.1 (den_nat hq1) (by omega)
    have m2 := mulOk_of hq1.1 (den_nat ha) (by omega)
    have m3 := mulOk_of (den_nat ha) (den_nat hq1) (by omega)
    have sh := low_ok (u := acc.num * (q.den : Nat) + q.num * (acc.den : Nat)) (den_ne acc q) (abs_mul_lt (den_nat ha) (den_nat hq1)) (by omega)
    rw [add_q] at sh
    simp only [forGo, oIx_q0, oIx_q1, oMul_ok m1, oMul_ok m2, oMul_ok m3, sh, defD, args, dSeq, dSet, dSetP, dSetN, lstAt, dApp, dAppP, dAsg, dPar, dDrop, dWhile, dIfS, dRet, dB, dCall, dCons, dNil, dVar, dC, dBin, dChain, asB, dTru, dNotT, dAndT, dOrT, dAnd, dOr, dNot, dIf, dUn, dTup, dLst, dItems, dYes, R.bind, R.to, O.seq, outR, ofO, noErr, mask, Sm.putIn, bindPat, bindPats, itemsOf, tru, List.foldr_cons, List.foldr_nil, List.length_cons, List.length_nil, List.map_cons, List.map_nil, List.cons_append, List.nil_append, Nat.sub_self, List.replicate_zero, List.replicate_succ, List.getElem?_cons_succ, List.getElem?_cons_zero, List.set_cons_zero, List.set_cons_succ, Nat.reduceAdd, Nat.reduceSub, ↓reduceIte, Bool.not_true, Bool.not_false, Bool.and_true, Bool.true_and, Bool.false_and, Bool.and_false, if_true, if_false, Bool.false_eq_true, oNeg, oAddI, oSubI, oAdd_ii, oLt, oLe, oGt, oGe, Option.bind_some, Option.map_some, dFor, dRng, dLc, dLcs]
    rw [show encQ (acc + q) = .tup [.int (acc + q).num, .int ((acc + q).den : Nat)] from rfl]
    simp only [defD, args, dSeq, dSet, dSetP, dSetN, lstAt, dApp, dAppP, dAsg, dPar, dDrop, dWhile, dIfS, dRet, dB, dCall, dCons, dNil, dVar, dC, dBin, dChain, asB, dTru, dNotT, dAndT, dOrT, dAnd, dOr, dNot, dIf, dUn, dTup, dLst, dItems, dYes, R.bind, R.to, O.seq, outR, ofO, noErr, mask, Sm.putIn, bindPat, bindPats, itemsOf, tru, List.foldr_cons, List.foldr_nil, List.length_cons, List.length_nil, List.map_cons, List.map_nil, List.cons_append, List.nil_append, Nat.sub_self, List.replicate_zero, List.replicate_succ, List.getElem?_cons_succ, List.getElem?_cons_zero, List.set_cons_zero, List.set_cons_succ, Nat.reduceAdd, Nat.reduceSub, ↓reduceIte, Bool.not_true, Bool.not_false, Bool.and_true, Bool.true_and, Bool.false_and, Bool.and_false, if_true, if_false, Bool.false_eq_true, oNeg, oAddI, oSubI, oAdd_ii, oLt, oLe, oGt, oGe, Option.bind_some, Option.map_some, dFor, dRng, dLc, dLcs]
    exact e
theorem lsum_ok {qs : List Rat} {n : Nat} (hq : ∀ q ∈ qs, Sz n q) (hs : (n + 1) * qs.length < 8970) : d__law_sum [.lst (qs.map encQ)] = .ok (encQ (qsum qs)) := by
  obtain ⟨y, e⟩ := lsum_loop (.lst (qs.map encQ)) qs 0 1 n none ⟨by decide, by decide⟩ hq (by omega)
  rw [Rat.zero_add] at e
  have e' : forGo (.v 3) (dAsg [] (.t [(.v 1), (.v 2)]) (dCall d__law_low (dCons (dBin oAdd (dBin oMul (dVar 1) (dBin oIx (dVar 3) (dC (.int 1)))) (dBin oMul (dBin oIx (dVar 3) (dC (.int 0))) (dVar 2))) (dCons (dBin oMul (dVar 2) (dBin oIx (dVar 3) (dC (.int 1)))) dNil)))) (qs.map encQ) [some (.lst (qs.map encQ)), some (.int 0), some (.int 1), none] = _ := e
  simp only [d__law_sum, b__law_sum, e', encQ, defD, args, dSeq, dSet, dSetP, dSetN, lstAt, dApp, dAppP, dAsg, dPar, dDrop, dWhile, dIfS, dRet, dB, dCall, dCons, dNil, dVar, dC, dBin, dChain, asB, dTru, dNotT, dAndT, dOrT, dAnd, dOr, dNot, dIf, dUn, dTup, dLst, dItems, dYes, R.bind, R.to, O.seq, outR, ofO, noErr, mask, Sm.putIn, bindPat, bindPats, itemsOf, tru, List.foldr_cons, List.foldr_nil, List.length_cons, List.length_nil, List.map_cons, List.map_nil, List.cons_append, List.nil_append, Nat.sub_self, List.replicate_zero, List.replicate_succ, List.getElem?_cons_succ, List.getElem?_cons_zero, List.set_cons_zero, List.set_cons_succ, Nat.reduceAdd, Nat.reduceSub, ↓reduceIte, Bool.not_true, Bool.not_false, Bool.and_true, Bool.true_and, Bool.false_and, Bool.and_false, if_true, if_false, Bool.false_eq_true, oNeg, oAddI, oSubI, oAdd_ii, oLt, oLe, oGt, oGe, Option.bind_some, Option.map_some, dFor, dRng, dLc, dLcs]
theorem cell_ok (ns : List Int) (k : Nat) : d__law_cell [.scr ns, .int k] = .ok (.int (cellI ns k)) := by
  by_cases h : k < ns.length
  · have h' : ((k : Int) < (ns.length : Int)) := by omega
    simp only [d__law_cell, b__law_cell, oLen, decide_eq_true h', oIx, atI_nat' h, ns_at h, cellI, if_pos h, defD, args, dSeq, dSet, dSetP, dSetN, lstAt, dApp, dAppP, dAsg, dPar, dDrop, dWhile, dIfS, dRet, dB, dCall, dCons, dNil, dVar, dC, dBin, dChain, asB, dTru, dNotT, dAndT, dOrT, dAnd, dOr, dNot, dIf, dUn, dTup, dLst, dItems, dYes, R.bind, R.to, O.seq, outR, ofO, noErr, mask, Sm.putIn, bindPat, bindPats, itemsOf, tru, List.foldr_cons, List.foldr_nil, List.length_cons, List.length_nil, List.map_cons, List.map_nil, List.cons_append, List.nil_append, Nat.sub_self, List.replicate_zero, List.replicate_succ, List.getElem?_cons_succ, List.getElem?_cons_zero, List.set_cons_zero, List.set_cons_succ, Nat.reduceAdd, Nat.reduceSub, ↓reduceIte, Bool.not_true, Bool.not_false, Bool.and_true, Bool.true_and, Bool.false_and, Bool.and_false, if_true, if_false, Bool.false_eq_true, oNeg, oAddI, oSubI, oAdd_ii, oLt, oLe, oGt, oGe, Option.bind_some, Option.map_some, dFor, dRng, dLc, dLcs]
  · have h' : ¬ ((k : Int) < (ns.length : Int)) := by omega
    cases ns with
    | nil =>
      have h0 : ¬ ((k : Int) < ((0 : Nat) : Int)) := by omega
      have h1 : ¬ (k < 0) := by omega
      simp only [d__law_cell, b__law_cell, oLen, decide_eq_false h0, cellI, if_neg h1, oEq, pln, plns, deq, deqIs, defD, args, dSeq, dSet, dSetP, dSetN, lstAt, dApp, dAppP, dAsg, dPar, dDrop, dWhile, dIfS, dRet, dB, dCall, dCons, dNil, dVar, dC, dBin, dChain, asB, dTru, dNotT, dAndT, dOrT, dAnd, dOr, dNot, dIf, dUn, dTup, dLst, dItems, dYes, R.bind, R.to, O.seq, outR, ofO, noErr, mask, Sm.putIn, bindPat, bindPats, itemsOf, tru, List.foldr_cons, List.foldr_nil, List.length_cons, List.length_nil, List.map_cons, List.map_nil, List.cons_append, List.nil_append, Nat.sub_self, List.replicate_zero, List.replicate_succ, List.getElem?_cons_succ, List.getElem?_cons_zero, List.set_cons_zero, List.set_cons_succ, Nat.reduceAdd, Nat.reduceSub, ↓reduceIte, Bool.not_true, Bool.not_false, Bool.and_true, Bool.true_and, Bool.false_and, Bool.and_false, if_true, if_false, Bool.false_eq_true, oNeg, oAddI, oSubI, oAdd_ii, oLt, oLe, oGt, oGe, Option.bind_some, Option.map_some, dFor, dRng, dLc, dLcs]
    | cons a r =>
      have hl : (0 : Nat) < (a :: r).length := by simp
      have hm : k % (a :: r).length < (a :: r).length := Nat.mod_lt _ hl
      have e1 : (k : Int).fmod ((a :: r).length : Nat) = ((k % (a :: r).length : Nat) : Int) := by
        rw [Int.fmod_eq_emod_of_nonneg _ (by omega)]; rfl
      have hne : (((a :: r).length : Nat) : Int) ≠ 0 := by omega
      have hc : a :: r ≠ [] := by simp
      simp only [List.length_cons] at e1 hne hm h h'
      simp only [d__law_cell, b__law_cell, oLen, decide_eq_false h', cellI, if_neg h, if_neg hc, oEq, pln, plns, deq, deqIs, oModI, if_pos hne, e1, oIx, List.length_cons, atI_nat' (xs := a :: r) (k := k % (r.length + 1)) hm, ns_at (ns := a :: r) (k := k % (r.length + 1)) hm, oMul_ok (mulOk_r (i := (a :: r).getD (k % (r.length + 1)) 0) (j := 31) (by decide)), defD, args, dSeq, dSet, dSetP, dSetN, lstAt, dApp, dAppP, dAsg, dPar, dDrop, dWhile, dIfS, dRet, dB, dCall, dCons, dNil, dVar, dC, dBin, dChain, asB, dTru, dNotT, dAndT, dOrT, dAnd, dOr, dNot, dIf, dUn, dTup, dLst, dItems, dYes, R.bind, R.to, O.seq, outR, ofO, noErr, mask, Sm.putIn, bindPat, bindPats, itemsOf, tru, List.foldr_cons, List.foldr_nil, List.length_cons, List.length_nil, List.map_cons, List.map_nil, List.cons_append, List.nil_append, Nat.sub_self, List.replicate_zero, List.replicate_succ, List.getElem?_cons_succ, List.getElem?_cons_zero, List.set_cons_zero, List.set_cons_succ, Nat.reduceAdd, Nat.reduceSub, ↓reduceIte, Bool.not_true, Bool.not_false, Bool.and_true, Bool.true_and, Bool.false_and, Bool.and_false, if_true, if_false, Bool.false_eq_true, oNeg, oAddI, oSubI, oAdd_ii, oLt, oLe, oGt, oGe, Option.bind_some, Option.map_some, dFor, dRng, dLc, dLcs]
theorem pick_ok (ns : List Int) (k : Nat) {m : Int} (hm : 0 < m) : d__law_pick [.scr ns, .int k, .int m] = .ok (.int (pickI ns k m)) := by
  have f1 : ∀ a b : Int, 0 < b → a.fmod b = a % b := fun a b h => Int.fmod_eq_emod_of_nonneg _ (by omega)
  have f2 : ∀ a b : Int, 0 < b → a.fdiv b = a / b := fun a b h => Int.fdiv_eq_ediv_of_nonneg _ (by omega)
  have hd : 0 ≤ drawI ns k ∧ drawI ns k < 2147483399 := ⟨Int.emod_nonneg _ (by decide), Int.emod_lt_of_pos _ (by decide)⟩
  have ed : (cellI ns k + 6151 * ((k : Int) + 1)) * 40692 % 2147483399 = drawI ns k := rfl
  have o1 : oMul (.int 6151) (.int ((k : Int) + 1)) = some (.int (6151 * ((k : Int) + 1))) := oMul_ok (mulOk_l (by decide))
  have o2 : oMul (.int (cellI ns k + 6151 * ((k : Int) + 1))) (.int 40692) = some (.int ((cellI ns k + 6151 * ((k : Int) + 1)) * 40692)) := oMul_ok (mulOk_r (by decide))
  have o3 : oMul (.int (drawI ns k)) (.int (drawI ns k)) = some (.int (drawI ns k * drawI ns k)) := oMul_ok (mulOk_l (by omega))
  have c1 : (31 : Int) ≠ 0 ∧ (31 : Int).natAbs.log2 < 9000 := ⟨by decide, by decide⟩
  simp only [d__law_pick, b__law_pick, cell_ok, o1, o2, o3, oModI, oDivI, f1 _ 2147483399 (by decide), f1 _ 2147483629 (by decide), f2 _ 31 (by decide), f1 _ m hm, ed, if_pos c1, if_pos (show (2147483399 : Int) ≠ 0 by decide), if_pos (show (2147483629 : Int) ≠ 0 by decide), if_pos (show m ≠ 0 by omega), pickI, defD, args, dSeq, dSet, dSetP, dSetN, lstAt, dApp, dAppP, dAsg, dPar, dDrop, dWhile, dIfS, dRet, dB, dCall, dCons, dNil, dVar, dC, dBin, dChain, asB, dTru, dNotT, dAndT, dOrT, dAnd, dOr, dNot, dIf, dUn, dTup, dLst, dItems, dYes, R.bind, R.to, O.seq, outR, ofO, noErr, mask, Sm.putIn, bindPat, bindPats, itemsOf, tru, List.foldr_cons, List.foldr_nil, List.length_cons, List.length_nil, List.map_cons, List.map_nil, List.cons_append, List.nil_append, Nat.sub_self, List.replicate_zero, List.replicate_succ, List.getElem?_cons_succ, List.getElem?_cons_zero, List.set_cons_zero, List.set_cons_succ, Nat.reduceAdd, Nat.reduceSub, ↓reduceIte, Bool.not_true, Bool.not_false, Bool.and_true, Bool.true_and, Bool.false_and, Bool.and_false, if_true, if_false, Bool.false_eq_true, oNeg, oAddI, oSubI, oAdd_ii, oLt, oLe, oGt, oGe, Option.bind_some, Option.map_some, dFor, dRng, dLc, dLcs]
def PkOk (pk : Nat → Int → Int) : Prop := ∀ k m, 0 < m → 0 ≤ pk k m ∧ pk k m < m
theorem pickI_ok (ns : List Int) : PkOk (pickI ns) := fun k _ h => ⟨pickI_nonneg ns k h, pickI_lt ns k h⟩
def pickJ (ns : List Int) (k : Nat) (m : Int) : Int := if 0 < m then pickI ns k m else pickI (ns.map (· + 1)) k (-m)
theorem pickJ_ok (ns : List Int) : PkOk (pickJ ns) := fun k m h => by unfold pickJ; rw [if_pos h]; exact pickI_ok ns k m h
theorem pick_fn {P : Program} {w : World} {K : PySem.W.Frag} {mg : Str → Option Value} {base : Heap} {cl : Glb} {k : Nat} (h : Fn P w K mg base cl k "_law_pick" 3 d__law_pick) : Fn P w K mg base cl k "_law_pick" 3 (dPick (pickJ cl.ns)) := by
  refine h.imp fun ds => ?_
  by_cases hd1 : ∃ i m, ds = [.scr1, .int i, .int m] ∧ 0 ≤ i ∧ 0 < m
  · obtain ⟨i, m, rfl, h1, h2⟩ := hd1
    refine .inr ⟨[.scr (cl.ns.map (· + 1)), .int i, .int m], ?_, fun H vs r => ?_⟩
    · have := pick_ok (cl.ns.map (· + 1)) i.toNat h2
      rw [Int.toNat_of_nonneg h1] at this
      rw [this]
      have e : pickJ cl.ns i.toNat (-m) = pickI (cl.ns.map (· + 1)) i.toNat m := by
        unfold pickJ; rw [if_neg (by omega), Int.neg_neg]
      simp only [dPick, if_pos (And.intro h1 h2), e]
      rw [if_pos (pickI_ok _ _ _ h2)]
    · cases r with
      | cons r t =>
        cases r with
        | scr1 a b => exact .cons (.scr a (by rw [List.length_map]; exact b)) t
  by_cases hd : ∃ i m, ds = [.scr0, .int i, .int m] ∧ 0 ≤ i ∧ 0 < m
  · obtain ⟨i, m, rfl, h1, h2⟩ := hd
    refine .inr ⟨[.scr cl.ns, .int i, .int m], ?_, fun H vs r => ?_⟩
    · have := pick_ok cl.ns i.toNat h2
      rw [Int.toNat_of_nonneg h1] at this
      rw [this]
      simp only [dPick, if_pos (And.intro h1 h2), pickJ, if_pos h2]
    · cases r with
      | cons r t =>
        cases r with
        | scr0 a b => exact .cons (.scr a b) t
  · refine .inl ?_
    unfold dPick
    split
    · split
      · rename_i z; exact (hd ⟨_, _, rfl, z⟩).elim
      · rfl
    · split
      · rename_i z; exact (hd1 ⟨_, _, rfl, z⟩).elim
      · rfl
    · rfl
end Kx
namespace Sm
open PySem PySem.Spec L2
section
variable {α β : Type} {pt : Pat} {f g : DS} {ρ ρ1 : Env} {r : R D} {t : DT} {fe : DE}
theorem forGo_all (I : Env → Prop) : ∀ (ds : List D) (ρ : Env), I ρ → (∀ d ρ, d ∈ ds → I ρ → ∃ ρ1 ρ2, bindPat pt d ρ = some ρ1 ∧ f ρ1 = .nx ρ2 ∧ I ρ2) → ∃ ρ', forGo pt f ds ρ = .nx ρ' ∧ I ρ'
  | [], ρ, h, _ => ⟨ρ, rfl, h⟩
  | d :: ds, ρ, h, hs => by
    obtain ⟨ρ1, ρ2, e1, e2, e3⟩ := hs d ρ (by simp) h
    obtain ⟨ρ', e4, e5⟩ := forGo_all I ds ρ2 e3 fun d ρ hy => hs d ρ (by simp [hy])
    refine ⟨ρ', ?_, e5⟩
    simp only [forGo, e1, e2, O.seq]
    exact e4
theorem lcGo_map (enc : α → D) (p : α → Bool) (g : α → D) : ∀ (xs : List α), (∀ x ∈ xs, ∃ ρ1, bindPat pt (enc x) ρ = some ρ1 ∧ t ρ1 = .ok (p x) ∧ (p x = true → fe ρ1 = .ok (g x))) → lcGo pt t fe (xs.map enc) ρ = .ok ((xs.filter p).map g)
  | [], _ => rfl
  | x :: xs, h => by
    obtain ⟨ρ1, e1, e2, e3⟩ := h x (by simp)
    have ih := lcGo_map enc p g xs fun y hy => h y (by simp [hy])
    rw [List.map_cons]
    unfold lcGo
    rw [e1]
    simp only [e2, noErr, R.bind]
    cases q : p x with
    | true => simp only [e3 q, noErr, R.bind, ih, List.filter_cons_of_pos q, List.map_cons]
    | false => rw [List.filter_cons_of_neg (by simp [q])]; exact ih
theorem lcGo_all (enc : α → D) (g : α → D) (xs : List α) (h : ∀ x ∈ xs, ∃ ρ1, bindPat pt (enc x) ρ = some ρ1 ∧ fe ρ1 = .ok (g x)) : lcGo pt dYes fe (xs.map enc) ρ = .ok (xs.map g) := by
  have := lcGo_map (pt := pt) (ρ := ρ) (t := dYes) (fe := fe) enc (fun _ => true) g xs fun x hx => let ⟨ρ1, e1, e2⟩ := h x hx; ⟨ρ1, e1, rfl, fun _ => e2⟩
  rw [List.filter_eq_self.mpr (by simp)] at this
  exact this
theorem out_seq (h1 : f ρ = .nx ρ1) (h2 : outR (g ρ1) = r) : outR (dSeq f g ρ) = r := by
  unfold dSeq; rw [h1]; exact h2
theorem out_seqR {d : D} (h1 : f ρ = .ret d) : outR (dSeq f g ρ) = .ok d := by
  unfold dSeq; rw [h1]; rfl
theorem seq_nx {o : O} (h1 : f ρ = .nx ρ1) (h2 : g ρ1 = o) : dSeq f g ρ = o := by
  unfold dSeq; rw [h1]; exact h2
theorem seq_ret {d : D} (h1 : f ρ = .ret d) : dSeq f g ρ = .ret d := by
  unfold dSeq; rw [h1]; rfl
end
theorem defD_eq {n m : Nat} {f : DS} {ds : List D} {r : R D} (h : ds.length = n) (h2 : outR (f (args m ds)) = r) : defD n m f ds = r := by
  unfold defD; rw [if_pos h]; exact h2
section
variable {α β : Type} {own : List Nat} {pt : Pat} {it : DI} {f g : DS} {ρ ρ1 : Env} {r : R D} {o : O}
theorem for_nx {ds : List D} (I : Env → Prop) (hit : it (mask own ρ) = .ok ds) (h0 : I ρ) (st : ∀ d ρ, d ∈ ds → I ρ → ∃ ρ1 ρ2, bindPat pt d ρ = some ρ1 ∧ f ρ1 = .nx ρ2 ∧ I ρ2) : ∃ ρ', dFor own pt it f ρ = .nx ρ' ∧ I ρ' := by
  obtain ⟨ρ', e1, e2⟩ := forGo_all (pt := pt) (f := f) I ds ρ h0 st
  refine ⟨ρ', ?_, e2⟩
  unfold dFor
  rw [hit]; exact e1
theorem for_out {ds : List D} (I : Env → Prop) (hit : it (mask own ρ) = .ok ds) (h0 : I ρ) (st : ∀ d ρ, d ∈ ds → I ρ → ∃ ρ1 ρ2, bindPat pt d ρ = some ρ1 ∧ f ρ1 = .nx ρ2 ∧ I ρ2) (hk : ∀ ρ', I ρ' → outR (g ρ') = r) : outR (dSeq (dFor own pt it f) g ρ) = r := by
  obtain ⟨ρ', e1, e2⟩ := for_nx (own := own) (pt := pt) (f := f) I hit h0 st
  exact out_seq e1 (hk ρ' e2)
theorem lc_ok {vs : List Nat} {xs : List α} {enc : α → D} {t : DT} {fe : DE} (p : α → Bool) (g : α → D) (hit : it ρ = .ok (xs.map enc)) (h : ∀ x ∈ xs, ∃ ρ1, bindPat pt (enc x) (mask vs ρ) = some ρ1 ∧ t ρ1 = .ok (p x) ∧ (p x = true → fe ρ1 = .ok (g x))) :
    dLcs vs pt it t fe ρ = .ok ((xs.filter p).map g) := by
  unfold dLcs; rw [hit]; exact lcGo_map enc p g xs h
theorem lc_ok1 {vs : List Nat} {xs : List α} {enc : α → D} {fe : DE} (g : α → D) (hit : it ρ = .ok (xs.map enc)) (h : ∀ x ∈ xs, ∃ ρ1, bindPat pt (enc x) (mask vs ρ) = some ρ1 ∧ fe ρ1 = .ok (g x)) :
    dLcs vs pt it dYes fe ρ = .ok (xs.map g) := by
  unfold dLcs; rw [hit]; exact lcGo_all enc g xs h
theorem dLc_of {vs : List Nat} {t : DT} {fe : DE} {ds : List D} (h : dLcs vs pt it t fe ρ = .ok ds) : dLc vs pt it t fe ρ = .ok (.lst ds) := by
  unfold dLc; rw [h]; rfl
end
theorem rngD0 (n : Nat) : rngD 0 n = (List.range n).map fun i => D.int ((i : Nat) : Int) := by simp [rngD]
theorem rng1_ok {n : Nat} (h : n ≤ 16777216) : rng1 [.int (n : Int)] = some ((List.range n).map fun i => D.int ((i : Nat) : Int)) := by
  simp only [rng1]
  rw [if_pos ⟨by omega, by omega⟩, ← rngD0]
  rfl
theorem rng1_it {g : DA} {ρ : Env} {n : Nat} (hg : g ρ = .ok [.int (n : Int)]) (h : n ≤ 16777216) : dRng rng1 g ρ = .ok ((List.range n).map fun i => D.int ((i : Nat) : Int)) := by
  unfold dRng; rw [hg]
  show ofO (rng1 [.int (n : Int)]) = _
  rw [rng1_ok h]; rfl
theorem setN_nx {own : List Nat} {i : Nat} {f : DA} {ρ : Env} {ds : List D} (h : f (mask own ρ) = .ok ds) : dSetN own i f ρ = .nx (ρ.set i (some (.lst ds))) := by
  unfold dSetN; rw [h]; rfl
theorem set_nx {own : List Nat} {i : Nat} {f : DE} {ρ : Env} {d : D} (h : f (mask own ρ) = .ok d) : dSet own i f ρ = .nx (ρ.set i (some d)) := by
  unfold dSet; rw [h]; rfl
theorem ret_of {f : DE} {ρ : Env} {r : R D} (h : f ρ = r) : outR (dRet f ρ) = r := by
  unfold dRet; rw [h]; cases r <;> rfl
theorem ifs_t {t : DT} {f g : DS} {ρ : Env} {o : O} (h : t ρ = .ok true) (hf : f ρ = o) : dIfS t f g ρ = o := by
  unfold dIfS; rw [h]; exact hf
theorem ifs_f {t : DT} {f g : DS} {ρ : Env} {o : O} (h : t ρ = .ok false) (hf : g ρ = o) : dIfS t f g ρ = o := by
  unfold dIfS; rw [h]; exact hf
mutual
def pl : Nat → D → Bool
  | _, .non => true
  | _, .bl _ => true
  | _, .int _ => true
  | _, .str x => PySem.PyData.strOk x
  | n + 1, .tup xs => pls n xs
  | n + 1, .lst xs => pls n xs
  | _, _ => false
def pls : Nat → List D → Bool
  | _, [] => true
  | n, x :: xs => pl n x && pls n xs
end
mutual
theorem pl_pln : ∀ (d : D) (n : Nat), pl n d = true → pln n d = true
  | .non, _, _ => by simp [pln]
  | .bl _, _, _ => by simp [pln]
  | .int _, _, _ => by simp [pln]
  | .str _, _, h => by simpa [pln, pl] using h
  | .tup xs, 0, h => by simp [pl] at h
  | .tup xs, n + 1, h => by simp only [pl] at h; simp only [pln]; exact pls_plns xs n h
  | .lst xs, 0, h => by simp [pl] at h
  | .lst xs, n + 1, h => by simp only [pl] at h; simp only [pln]; exact pls_plns xs n h
  | .dct _, n, h => by cases n <;> simp [pl] at h
  | .exc _, n, h => by cases n <;> simp [pl] at h
  | .scr _, n, h => by cases n <;> simp [pl] at h
  | .scr0, n, h => by cases n <;> simp [pl] at h
  | .fnv, n, h => by cases n <;> simp [pl] at h
  | .obj _, n, h => by cases n <;> simp [pl] at h
  | .dcl _, n, h => by cases n <;> simp [pl] at h
  | .scr1, n, h => by cases n <;> simp [pl] at h
theorem pls_plns : ∀ (ds : List D) (n : Nat), pls n ds = true → plns n ds = true
  | [], _, _ => by simp [plns]
  | d :: ds, n, h => by
    simp only [pls, Bool.and_eq_true] at h
    simp only [plns, Bool.and_eq_true]
    exact ⟨pl_pln d n h.1, pls_plns ds n h.2⟩
end
mutual
theorem deq_self : ∀ (d : D) (n : Nat), pl n d = true → deq d d = true
  | .non, _, _ => by simp [deq]
  | .bl _, _, _ => by simp [deq]
  | .int _, _, _ => by simp [deq]
  | .str _, _, h => by simp [deq]
  | .tup xs, 0, h => by simp [pl] at h
  | .tup xs, n + 1, h => by simp only [pl] at h; simp only [deq]; exact deqs_self xs n h
  | .lst xs, 0, h => by simp [pl] at h
  | .lst xs, n + 1, h => by simp only [pl] at h; simp only [deq]; exact deqs_self xs n h
  | .dct _, n, h => by cases n <;> simp [pl] at h
  | .exc _, n, h => by cases n <;> simp [pl] at h
  | .scr _, n, h => by cases n <;> simp [pl] at h
  | .scr0, n, h => by cases n <;> simp [pl] at h
  | .fnv, n, h => by cases n <;> simp [pl] at h
  | .obj _, n, h => by cases n <;> simp [pl] at h
  | .dcl _, n, h => by cases n <;> simp [pl] at h
  | .scr1, n, h => by cases n <;> simp [pl] at h
theorem deqs_self : ∀ (ds : List D) (n : Nat), pls n ds = true → deqs ds ds = true
  | [], _, _ => by simp [deqs]
  | d :: ds, n, h => by
    simp only [pls, Bool.and_eq_true] at h
    simp only [deqs, Bool.and_eq_true]
    exact ⟨deq_self d n h.1, deqs_self ds n h.2⟩
end
theorem oEq_self {d : D} (h : pl 64 d = true) : oEq d d = some (.bl true) := by
  unfold oEq; rw [pl_pln d 64 h, deq_self d 64 h]; rfl
theorem oNe_self {d : D} (h : pl 64 d = true) : oNe d d = some (.bl false) := by
  unfold oNe; rw [pl_pln d 64 h, deq_self d 64 h]; rfl
theorem pl_q (n : Nat) (q : Rat) : pl (n + 1) (encQ q) = true := by simp [encQ, pl, pls]
theorem oIx_t0 (a : D) (as : List D) : oIx (.tup (a :: as)) (.int 0) = some a := by
  simp [oIx, atI, ixN]
theorem oIx_t1 (a b : D) (as : List D) : oIx (.tup (a :: b :: as)) (.int 1) = some b := by
  show atI (a :: b :: as) ((1 : Nat) : Int) = _
  rw [atI_nat' (by simp)]; rfl
theorem pick_at {pk : Nat → Int → Int} (h : ∀ k m, 0 < m → 0 ≤ pk k m ∧ pk k m < m) (k : Nat) {m : Nat} (hm : 0 < m) : ∃ n : Nat, n < m ∧ pk k (m : Int) = (n : Int) := by
  obtain ⟨h1, h2⟩ := h k (m : Int) (by omega)
  exact ⟨(pk k (m : Int)).toNat, by omega, by omega⟩
theorem dPick_ok (pk : Nat → Int → Int) (k : Nat) {m : Int} (hm : 0 < m) : dPick pk [.scr0, .int (k : Int), .int m] = .ok (.int (pk k m)) := by
  simp only [dPick]
  rw [if_pos ⟨by omega, hm⟩]
  rfl
theorem at_map {α : Type} {g : α → D} {xs : List α} {i : Nat} {x : α} (h : xs[i]? = some x) : oIx (.lst (xs.map g)) (.int (i : Int)) = some (g x) := by
  have hl : i < (xs.map g).length := by
    rw [List.length_map]; exact (List.getElem?_eq_some_iff.mp h).1
  show atI (xs.map g) (i : Int) = _
  rw [atI_nat' hl, List.getElem?_map, h]; rfl
theorem atI_neg1 {α : Type} {xs : List α} (h : xs ≠ []) : atI xs (-1) = xs.getLast? := by
  have hp := List.length_pos_iff.mpr h
  unfold atI
  have : ixN xs.length (-1) = some (xs.length - 1) := by
    unfold ixN
    first
      | rw [if_neg (by omega), if_pos (by omega)]; congr 1; omega
      | (simp; omega)
  rw [this]
  rw [List.getLast?_eq_getElem?]
  rfl
end Sm
namespace Kx
open PySem PySem.Spec L2 Sm
def b__law_do : DS :=
  (dSeq (dSet [] 3 (dC .non))
    (dSeq (dSet [] 4 (dC .non))
    (dSeq (dTryK [1, 2, 3, 4, 5, 6] 3 5 (dIfS (asB (dBin oLt (dVar 0) (dC (.int 3)))) (dSet [] 4 (dCallIx [d_mean_of_most, d_mean_square, d_mean_steps] (dVar 0) (dCons (dVar 1) dNil))) (dSet [] 4 (dCall d_chance_reached (dCons (dVar 1) (dCons (dVar 2) dNil))))))
    (dSeq (dIfS (asB (dBin oIs (dVar 3) (dC .non))) (dRet (dVar 4)) .nx)
    (dRet (dCall d__law_word (dCons (dVar 3) dNil)))))))
def d__law_do : List D → R D := defD 3 6 (b__law_do)
def b_law (pk : Nat → Int → Int) : DS :=
  (dSeq (dSet [] 1 (dCall (d__law_drawn pk) (dCons (dVar 0) (dCons (dC (.int 3)) dNil))))
    (dSeq (dSet [] 2 (dCall (d__law_walk 8) (dCons (dVar 1) dNil)))
    (dSeq (dSet [] 3 (dB oDict (dCons (dLc [16, 7, 8] (.t [(.v 16), (.v 7), (.v 8)]) (dItems (dVar 2)) dYes (dTup (dCons (dVar 16) (dCons (dBin oIx (dVar 7) (dC (.int 0))) dNil)))) dNil)))
    (dSeq (dSet [] 4 (dBin oSubI (dCall (dPick pk) (dCons (dVar 0) (dCons (dC (.int 9000)) (dCons (dC (.int 21)) dNil)))) (dC (.int 10))))
    (dNest (eSeqB (eSetB [] 5 (eRowsB 4))
    (eForB [] (.t [(.v 6), (.v 7), (.v 8)]) (eIB (dItems (dVar 2))) (eIfSB [] (eTB (asB (dBin oEq (dB oLen (dCons (dVar 7) dNil)) (dC (.int 1))))) (eSeqB (sPB (dSetN [] 15 (dLcs [19] (.v 19) (dRng rng1 (dCons (dBin oAdd (dB oLen (dCons (dVar 6) dNil)) (dC (.int 1))) dNil)) dYes (dBin oIx (dVar 3) (dSl (dVar 6) dNo (dSo (dVar 19)))))))
    (eSeqB (sPB (dSetN [] 13 (dLcs [20, 21] (.t [(.v 20), (.v 21)]) (dRng zipD (dCons (dVar 15) (dCons (dSl (dVar 15) (dSo (dC (.int 1))) dNo) dNil))) dYes (dBin oMul (dBin oSubI (dVar 21) (dVar 20)) (dBin oSubI (dVar 21) (dVar 20))))))
    (eSeqB (ePushB [13] (dBin oIx (dVar 5) (dC (.int 0))) (ePB (dCall d__law_prod (dCons (dVar 8) (dCons (dTup (dCons (dB oMax (dCons (dVar 15) dNil)) (dCons (dC (.int 1)) dNil))) dNil)))))
    (eSeqB (ePushB [13] (dBin oIx (dVar 5) (dC (.int 1))) (ePB (dCall d__law_prod (dCons (dVar 8) (dCons (dTup (dCons (dBin oMul (dBin oIx (dVar 15) (dUn oNeg (dC (.int 1)))) (dBin oIx (dVar 15) (dUn oNeg (dC (.int 1))))) (dCons (dC (.int 1)) dNil))) dNil)))))
    (eSeqB (ePushB [] (dBin oIx (dVar 5) (dC (.int 2))) (ePB (dCall d__law_prod (dCons (dVar 8) (dCons (dTup (dCons (dB oSum (dCons (dVar 13) dNil)) (dCons (dC (.int 1)) dNil))) dNil)))))
    (ePushB [] (dBin oIx (dVar 5) (dC (.int 3))) (ePB (dIf (asB (dBin oGe (dB oMax (dCons (dVar 15) dNil)) (dVar 4))) (dVar 8) (dTup (dCons (dC (.int 0)) (dCons (dC (.int 1)) dNil))))))))))) .nx)))
    (dSeq (dIfS (asB (dBin oNe (dLc [17] (.v 17) (dRng rng1 (dCons (dC (.int 4)) dNil)) dYes (dCall d__law_do (dCons (dVar 17) (dCons (dVar 1) (dCons (dVar 4) dNil))))) (dLc [18] (.v 18) (dItems (dVar 5)) dYes (dCall d__law_sum (dCons (dVar 18) dNil))))) (dRet (dC (.bl false))) .nx)
    (dSeq (dSet [] 9 (dCall d_chance_reached (dCons (dVar 1) (dCons (dBin oAdd (dBin oAdd (dVar 4) (dC (.int 1))) (dCall (dPick pk) (dCons (dVar 0) (dCons (dC (.int 9001)) (dCons (dC (.int 3)) dNil))))) dNil))))
    (dSeq (dSet [] 10 (dCall d__law_sum (dCons (dBin oIx (dVar 5) (dC (.int 3))) dNil)))
    (dSeq (dIfS (dOrT (asB (dBin oGt (dBin oMul (dBin oIx (dVar 9) (dC (.int 0))) (dBin oIx (dVar 10) (dC (.int 1)))) (dBin oMul (dBin oIx (dVar 10) (dC (.int 0))) (dBin oIx (dVar 9) (dC (.int 1)))))) (asB (dBin oNe (dCall d_chance_reached (dCons (dVar 1) (dCons (dBin oIx (dVar 1) (dC (.int 0))) dNil))) (dTup (dCons (dC (.int 1)) (dCons (dC (.int 1)) dNil)))))) (dRet (dC (.bl false))) .nx)
    (dSeq (dIfS (dTru (dCall d_is_fair (dCons (dVar 1) dNil))) (dSeq (dPar [] 12 13 (dCons (dCall d_mean_square (dCons (dVar 1) dNil)) (dCons (dCall d_mean_steps (dCons (dVar 1) dNil)) dNil)))
    (dSeq (dIfS (asB (dBin oNe (dVar 12) (dCall d__law_sum (dCons (dLst (dCons (dTup (dCons (dBin oMul (dBin oIx (dVar 1) (dC (.int 0))) (dBin oIx (dVar 1) (dC (.int 0)))) (dCons (dC (.int 1)) dNil))) (dCons (dVar 13) dNil))) dNil)))) (dRet (dC (.bl false))) .nx)
    (dSeq (dSet [] 14 (dCall (d__law_lifted 8) (dCons (dVar 1) (dCons (dBin oSubI (dC (.int 0)) (dB oMin (dCons (dLock 3 (dLc [16] (.v 16) (dItemsL (dVar 3)) dYes (dBin oIx (dVar 3) (dVar 16)))) dNil))) dNil))))
    (dSeq (dSet [] 4 (dBin oAdd (dC (.int 1)) (dCall (dPick pk) (dCons (dVar 0) (dCons (dC (.int 9002)) (dCons (dC (.int 12)) dNil))))))
    (dSeq (dSet [] 8 (dCall d_chance_reached (dCons (dVar 14) (dCons (dVar 4) dNil))))
    (dIfS (asB (dBin oGt (dBin oMul (dVar 4) (dBin oIx (dVar 8) (dC (.int 0)))) (dBin oMul (dBin oIx (dVar 14) (dC (.int 0))) (dBin oIx (dVar 8) (dC (.int 1)))))) (dRet (dC (.bl false))) .nx)))))) .nx)
    (dSeq (dSet [] 11 (dCall (d__law_spoilt_thing pk) (dCons (dVar 0) (dCons (dC (.int 9050)) (dCons (dVar 1) dNil)))))
    (dRet (dOr (dCall (d__law_is_game 8) (dCons (dVar 11) (dCons (dC (.int 4)) dNil))) (dBin oEq (dLc [17] (.v 17) (dRng rng1 (dCons (dC (.int 4)) dNil)) dYes (dCall d__law_do (dCons (dVar 17) (dCons (dVar 11) (dCons (dVar 4) dNil))))) (dBin oMul (dLst (dCons (dC (.str "no game")) dNil)) (dC (.int 4)))))))))))))))))
def d_law (pk : Nat → Int → Int) : List D → R D := defD 1 22 (b_law pk)
end Kx
namespace Sm
open PySem PySem.Spec L2
inductive Game where
  | node (w : Int) (ws : List (Int × Game))
namespace Game
def worth : Game → Int | .node w _ => w
def ways : Game → List (Int × Game) | .node _ ws => ws
theorem lt_of_mem {w : Int} {ws : List (Int × Game)} {p : Int × Game} (h : p ∈ ws) : sizeOf p.2 < sizeOf (Game.node w ws) := by
  have h1 := List.sizeOf_lt_of_mem h
  obtain ⟨a, b⟩ := p
  simp at h1 ⊢
  omega
theorem ind {P : Game → Prop} (h : ∀ w ws, (∀ p ∈ ws, P p.2) → P (.node w ws)) : ∀ g, P g
  | .node w ws => h w ws fun p hp => ind h p.2
termination_by g => sizeOf g
decreasing_by exact lt_of_mem hp
def enc : Game → D
  | .node w ws => if ws = [] then .tup [.int w] else .tup [.int w, .tup (ws.map fun p => .tup [.int p.1, p.2.enc])]
termination_by g => sizeOf g
decreasing_by exact lt_of_mem ‹_›
def Ok : Nat → Game → Prop
  | 0, _ => False
  | n + 1, .node w ws => (-20 ≤ w ∧ w ≤ 20) ∧ ws.length ≤ 3 ∧ ∀ p ∈ ws, (1 ≤ p.1 ∧ p.1 ≤ 9) ∧ Ok n p.2
theorem Ok.mono : ∀ {n m : Nat} {g : Game}, Ok n g → n ≤ m → Ok m g
  | 0, _, _, h, _ => h.elim
  | n + 1, 0, _, _, h => by omega
  | n + 1, m + 1, .node w ws, h, hm => ⟨h.1, h.2.1, fun p hp => ⟨(h.2.2 p hp).1, (h.2.2 p hp).2.mono (by omega)⟩⟩
def idxs : Nat → List (List (List Nat)) → List (List Nat)
  | _, [] => []
  | k, ps :: r => ps.map (k :: ·) ++ idxs (k + 1) r
def paths : Game → List (List Nat)
  | .node _ ws => [] :: idxs 0 (ws.map fun p => p.2.paths)
termination_by g => sizeOf g
decreasing_by exact lt_of_mem ‹_›
def part : Game → List Nat → Game
  | g, [] => g
  | g, i :: p => match g.ways[i]? with
    | some x => part x.2 p
    | none => g
def IsPath : Game → List Nat → Prop
  | _, [] => True
  | g, i :: p => match g.ways[i]? with
    | some x => IsPath x.2 p
    | none => False
def put : Game → List Nat → Game → Game
  | _, [], o => o
  | .node w ws, i :: p, o => match ws[i]? with
    | some x => .node w (ws.set i (x.1, put x.2 p o))
    | none => .node w ws
theorem mem_idxs {p : List Nat} : ∀ {l : List (List (List Nat))} {k : Nat}, p ∈ idxs k l ↔ ∃ i q, p = (k + i) :: q ∧ ∃ ps, l[i]? = some ps ∧ q ∈ ps
  | [], k => by simp [idxs]
  | ps :: r, k => by
    rw [idxs, List.mem_append, mem_idxs (l := r) (k := k + 1)]
    constructor
    · rintro (h | ⟨i, q, rfl, ps', h1, h2⟩)
      · obtain ⟨q, hq, rfl⟩ := List.mem_map.mp h
        exact ⟨0, q, rfl, ps, rfl, hq⟩
      · exact ⟨i + 1, q, by rw [show k + 1 + i = k + (i + 1) by omega], ps', h1, h2⟩
    · rintro ⟨i, q, rfl, ps', h1, h2⟩
      cases i with
      | zero =>
        cases h1
        exact .inl (List.mem_map.mpr ⟨q, h2, rfl⟩)
      | succ i => exact .inr ⟨i, q, by rw [show k + 1 + i = k + (i + 1) by omega], ps', h1, h2⟩
theorem mem_paths : ∀ (g : Game) (p : List Nat), p ∈ g.paths ↔ IsPath g p := by
  apply ind
  intro w ws ih p
  rw [paths, List.mem_cons, mem_idxs]
  cases p with
  | nil => simp [IsPath]
  | cons i q =>
    simp only [IsPath, ways]
    constructor
    · rintro (h | ⟨j, q', h, ps, h1, h2⟩)
      · cases h
      · rw [Nat.zero_add] at h
        cases h
        rw [List.getElem?_map, Option.map_eq_some_iff] at h1
        obtain ⟨x, hx, rfl⟩ := h1
        rw [hx]
        exact (ih x (List.mem_of_getElem? hx) q).mp h2
    · intro h
      cases hx : ws[i]? with
      | none => rw [hx] at h; exact h.elim
      | some x =>
        rw [hx] at h
        exact .inr ⟨i, q, by rw [Nat.zero_add], x.2.paths, by rw [List.getElem?_map, hx]; rfl, (ih x (List.mem_of_getElem? hx) q).mpr h⟩
theorem idxs_len : ∀ (l : List (List (List Nat))) (k : Nat), (idxs k l).length = (l.map List.length).sum
  | [], _ => rfl
  | ps :: r, k => by rw [idxs, List.length_append, List.length_map, idxs_len r (k + 1)]; simp
def most : Nat → Nat
  | 0 => 0
  | n + 1 => 1 + 3 * most n
theorem sum_le {l : List Nat} {b : Nat} (h : ∀ x ∈ l, x ≤ b) : l.sum ≤ l.length * b := by
  induction l with
  | nil => simp
  | cons x l ih =>
    rw [List.sum_cons, List.length_cons, Nat.succ_mul]
    have := h x (by simp)
    have := ih fun y hy => h y (by simp [hy])
    omega
theorem paths_len : ∀ {n : Nat} {g : Game}, Ok n g → g.paths.length ≤ most n
  | 0, _, h => h.elim
  | n + 1, .node w ws, h => by
    rw [paths, List.length_cons, idxs_len, List.map_map]
    have h1 := sum_le (l := ws.map (List.length ∘ fun p => p.2.paths)) (b := most n) (by
      intro x hx
      obtain ⟨p, hp, rfl⟩ := List.mem_map.mp hx
      exact paths_len (h.2.2 p hp).2)
    rw [List.length_map] at h1
    have h2 : ws.length * most n ≤ 3 * most n := Nat.mul_le_mul_right _ h.2.1
    show _ ≤ 1 + 3 * most n
    omega
theorem part_ok : ∀ {n : Nat} {g : Game} {p : List Nat}, Ok n g → IsPath g p → Ok (n - p.length) (part g p) ∧ p.length < n
  | 0, _, _, h, _ => h.elim
  | n + 1, g, [], h, _ => ⟨h, by simp⟩
  | n + 1, .node w ws, i :: p, h, hp => by
    simp only [IsPath, ways] at hp
    simp only [part, ways]
    cases hx : ws[i]? with
    | none => rw [hx] at hp; exact hp.elim
    | some x =>
      rw [hx] at hp
      have := part_ok (h.2.2 x (List.mem_of_getElem? hx)).2 hp
      rw [List.length_cons]
      exact ⟨by rw [show n + 1 - (p.length + 1) = n - p.length by omega]; exact this.1, by omega⟩
def total (g : Game) : Int := (g.ways.map (·.1)).sum
def chance : Game → List Nat → Rat
  | _, [] => 1
  | g, i :: p => match g.ways[i]? with
    | some x => Rat.divInt x.1 g.total * chance x.2 p
    | none => 0
theorem sum_pos {l : List Int} (h : ∀ x ∈ l, 1 ≤ x ∧ x ≤ 9) : (l.length : Int) ≤ l.sum ∧ l.sum ≤ 9 * l.length := by
  induction l with
  | nil => simp
  | cons x l ih =>
    have h1 := h x (by simp)
    have h2 := ih fun y hy => h y (by simp [hy])
    simp only [List.sum_cons, List.length_cons]
    omega
theorem total_bd {n : Nat} {g : Game} (h : Ok n g) : (g.ways.length : Int) ≤ g.total ∧ g.total ≤ 27 := by
  cases n with
  | zero => exact h.elim
  | succ n =>
    cases g with
    | node w ws =>
      have := sum_pos (l := ws.map (·.1)) (by
        intro x hx
        obtain ⟨p, hp, rfl⟩ := List.mem_map.mp hx
        exact (h.2.2 p hp).1)
      rw [List.length_map] at this
      have := h.2.1
      simp only [ways, total]
      omega
theorem total_at {n : Nat} {g : Game} {i : Nat} {x : Int × Game} (h : Ok n g) (hx : g.ways[i]? = some x) : 1 ≤ g.total ∧ g.total ≤ 27 ∧ 1 ≤ x.1 ∧ x.1 ≤ 9 ∧ Ok (n - 1) x.2 := by
  have hb := total_bd h
  have hi := (List.getElem?_eq_some_iff.mp hx).1
  cases n with
  | zero => exact h.elim
  | succ n =>
    cases g with
    | node w ws =>
      have hm := h.2.2 x (List.mem_of_getElem? hx)
      exact ⟨by omega, hb.2, hm.1.1, hm.1.2, hm.2⟩
theorem share_sz {a b : Int} (ha : 1 ≤ a ∧ a ≤ 9) (hb : 1 ≤ b ∧ b ≤ 27) : Sz 5 (Rat.divInt a b) :=
  divInt_sz (by omega) (by show _ < 32; omega) (by show _ < 32; omega)
theorem chance_sz : ∀ {n : Nat} {g : Game} {p : List Nat}, Ok n g → IsPath g p → Sz (1 + 5 * p.length) (chance g p)
  | _, _, [], _, _ => by simp only [chance]; exact ⟨by decide, by decide⟩
  | n, g, i :: p, h, hp => by
    simp only [IsPath] at hp
    simp only [chance]
    cases hx : g.ways[i]? with
    | none => rw [hx] at hp; exact hp.elim
    | some x =>
      rw [hx] at hp
      obtain ⟨t1, t2, a1, a2, hk⟩ := total_at h hx
      exact ((share_sz ⟨a1, a2⟩ ⟨t1, t2⟩).mul (chance_sz hk hp)).mono (by rw [List.length_cons]; omega)
end Game
end Sm
namespace Kx
open PySem PySem.Spec L2 Sm
theorem enc_end (w : Int) : (Game.node w []).enc = .tup [.int w] := by rw [Game.enc]; simp
theorem enc_go (w : Int) (x : Int × Game) (ws : List (Int × Game)) : (Game.node w (x :: ws)).enc = .tup [.int w, .tup ((x :: ws).map fun p => .tup [.int p.1, p.2.enc])] := by rw [Game.enc]; simp
def encW (ws : List (Int × Game)) : List D := ws.map fun p => .tup [.int p.1, p.2.enc]
def encP (p : List Nat) : D := .tup (p.map fun i : Nat => .int (i : Int))
theorem whole_ok (i lo hi : Int) : d_is_whole [.int i, .int lo, .int hi] = .ok (.bl (decide (lo ≤ i) && decide (i ≤ hi))) := by
  by_cases h : lo ≤ i
  · simp only [d_is_whole, b_is_whole, oIsInt, oIsBool, oLe, decide_eq_true h, defD, args, dSeq, dSet, dSetP, dSetN, lstAt, dApp, dAppP, dAsg, dPar, dDrop, dWhile, dIfS, dRet, dB, dCall, dCons, dNil, dVar, dC, dBin, dChain, asB, dTru, dNotT, dAndT, dOrT, dAnd, dOr, dNot, dIf, dUn, dTup, dLst, dItems, dYes, R.bind, R.to, O.seq, outR, ofO, noErr, mask, Sm.putIn, bindPat, bindPats, itemsOf, tru, List.foldr_cons, List.foldr_nil, List.length_cons, List.length_nil, List.map_cons, List.map_nil, List.cons_append, List.nil_append, Nat.sub_self, List.replicate_zero, List.replicate_succ, List.getElem?_cons_succ, List.getElem?_cons_zero, List.set_cons_zero, List.set_cons_succ, Nat.reduceAdd, Nat.reduceSub, ↓reduceIte, Bool.not_true, Bool.not_false, Bool.and_true, Bool.true_and, Bool.false_and, Bool.and_false, if_true, if_false, Bool.false_eq_true, oNeg, oAddI, oSubI, oAdd_ii, oLt, oLe, oGt, oGe, Option.bind_some, Option.map_some]
  · simp only [d_is_whole, b_is_whole, oIsInt, oIsBool, oLe, decide_eq_false h, defD, args, dSeq, dSet, dSetP, dSetN, lstAt, dApp, dAppP, dAsg, dPar, dDrop, dWhile, dIfS, dRet, dB, dCall, dCons, dNil, dVar, dC, dBin, dChain, asB, dTru, dNotT, dAndT, dOrT, dAnd, dOr, dNot, dIf, dUn, dTup, dLst, dItems, dYes, R.bind, R.to, O.seq, outR, ofO, noErr, mask, Sm.putIn, bindPat, bindPats, itemsOf, tru, List.foldr_cons, List.foldr_nil, List.length_cons, List.length_nil, List.map_cons, List.map_nil, List.cons_append, List.nil_append, Nat.sub_self, List.replicate_zero, List.replicate_succ, List.getElem?_cons_succ, List.getElem?_cons_zero, List.set_cons_zero, List.set_cons_succ, Nat.reduceAdd, Nat.reduceSub, ↓reduceIte, Bool.not_true, Bool.not_false, Bool.and_true, Bool.true_and, Bool.false_and, Bool.and_false, if_true, if_false, Bool.false_eq_true, oNeg, oAddI, oSubI, oAdd_ii, oLt, oLe, oGt, oGe, Option.bind_some, Option.map_some]
theorem ways_ok (g : Game) : d_ways_of [g.enc] = .ok (.tup (encW g.ways)) := by
  cases g with
  | node w ws =>
    cases ws with
    | nil =>
      rw [enc_end]
      simp only [d_ways_of, b_ways_of, oLen, oEq_int, Game.ways, encW, defD, args, dSeq, dSet, dSetP, dSetN, lstAt, dApp, dAppP, dAsg, dPar, dDrop, dWhile, dIfS, dRet, dB, dCall, dCons, dNil, dVar, dC, dBin, dChain, asB, dTru, dNotT, dAndT, dOrT, dAnd, dOr, dNot, dIf, dUn, dTup, dLst, dItems, dYes, R.bind, R.to, O.seq, outR, ofO, noErr, mask, Sm.putIn, bindPat, bindPats, itemsOf, tru, List.foldr_cons, List.foldr_nil, List.length_cons, List.length_nil, List.map_cons, List.map_nil, List.cons_append, List.nil_append, Nat.sub_self, List.replicate_zero, List.replicate_succ, List.getElem?_cons_succ, List.getElem?_cons_zero, List.set_cons_zero, List.set_cons_succ, Nat.reduceAdd, Nat.reduceSub, ↓reduceIte, Bool.not_true, Bool.not_false, Bool.and_true, Bool.true_and, Bool.false_and, Bool.and_false, if_true, if_false, Bool.false_eq_true, oNeg, oAddI, oSubI, oAdd_ii, oLt, oLe, oGt, oGe, Option.bind_some, Option.map_some]
      rfl
    | cons x ws =>
      rw [enc_go]
      simp only [d_ways_of, b_ways_of, oLen, oEq_int, Game.ways, encW, oIx_t1, defD, args, dSeq, dSet, dSetP, dSetN, lstAt, dApp, dAppP, dAsg, dPar, dDrop, dWhile, dIfS, dRet, dB, dCall, dCons, dNil, dVar, dC, dBin, dChain, asB, dTru, dNotT, dAndT, dOrT, dAnd, dOr, dNot, dIf, dUn, dTup, dLst, dItems, dYes, R.bind, R.to, O.seq, outR, ofO, noErr, mask, Sm.putIn, bindPat, bindPats, itemsOf, tru, List.foldr_cons, List.foldr_nil, List.length_cons, List.length_nil, List.map_cons, List.map_nil, List.cons_append, List.nil_append, Nat.sub_self, List.replicate_zero, List.replicate_succ, List.getElem?_cons_succ, List.getElem?_cons_zero, List.set_cons_zero, List.set_cons_succ, Nat.reduceAdd, Nat.reduceSub, ↓reduceIte, Bool.not_true, Bool.not_false, Bool.and_true, Bool.true_and, Bool.false_and, Bool.and_false, if_true, if_false, Bool.false_eq_true, oNeg, oAddI, oSubI, oAdd_ii, oLt, oLe, oGt, oGe, Option.bind_some, Option.map_some]
      rfl
theorem lways_ok (g : Game) : d__law_ways [g.enc] = .ok (.tup (encW g.ways)) := ways_ok g
theorem end_ok (g : Game) : d_is_end [g.enc] = .ok (.bl (decide (g.ways = []))) := by
  cases g with
  | node w ws =>
    cases ws with
    | nil =>
      rw [enc_end]
      simp only [d_is_end, b_is_end, oLen, oEq_int, Game.ways, defD, args, dSeq, dSet, dSetP, dSetN, lstAt, dApp, dAppP, dAsg, dPar, dDrop, dWhile, dIfS, dRet, dB, dCall, dCons, dNil, dVar, dC, dBin, dChain, asB, dTru, dNotT, dAndT, dOrT, dAnd, dOr, dNot, dIf, dUn, dTup, dLst, dItems, dYes, R.bind, R.to, O.seq, outR, ofO, noErr, mask, Sm.putIn, bindPat, bindPats, itemsOf, tru, List.foldr_cons, List.foldr_nil, List.length_cons, List.length_nil, List.map_cons, List.map_nil, List.cons_append, List.nil_append, Nat.sub_self, List.replicate_zero, List.replicate_succ, List.getElem?_cons_succ, List.getElem?_cons_zero, List.set_cons_zero, List.set_cons_succ, Nat.reduceAdd, Nat.reduceSub, ↓reduceIte, Bool.not_true, Bool.not_false, Bool.and_true, Bool.true_and, Bool.false_and, Bool.and_false, if_true, if_false, Bool.false_eq_true, oNeg, oAddI, oSubI, oAdd_ii, oLt, oLe, oGt, oGe, Option.bind_some, Option.map_some]
      rfl
    | cons x ws =>
      rw [enc_go]
      simp only [d_is_end, b_is_end, oLen, oEq_int, Game.ways, defD, args, dSeq, dSet, dSetP, dSetN, lstAt, dApp, dAppP, dAsg, dPar, dDrop, dWhile, dIfS, dRet, dB, dCall, dCons, dNil, dVar, dC, dBin, dChain, asB, dTru, dNotT, dAndT, dOrT, dAnd, dOr, dNot, dIf, dUn, dTup, dLst, dItems, dYes, R.bind, R.to, O.seq, outR, ofO, noErr, mask, Sm.putIn, bindPat, bindPats, itemsOf, tru, List.foldr_cons, List.foldr_nil, List.length_cons, List.length_nil, List.map_cons, List.map_nil, List.cons_append, List.nil_append, Nat.sub_self, List.replicate_zero, List.replicate_succ, List.getElem?_cons_succ, List.getElem?_cons_zero, List.set_cons_zero, List.set_cons_succ, Nat.reduceAdd, Nat.reduceSub, ↓reduceIte, Bool.not_true, Bool.not_false, Bool.and_true, Bool.true_and, Bool.false_and, Bool.and_false, if_true, if_false, Bool.false_eq_true, oNeg, oAddI, oSubI, oAdd_ii, oLt, oLe, oGt, oGe, Option.bind_some, Option.map_some]
      rfl
theorem ix0_ok (g : Game) : oIx g.enc (.int 0) = some (.int g.worth) := by
  cases g with
  | node w ws =>
    cases ws with
    | nil => rw [enc_end]; exact oIx_t0 _ _
    | cons x ws => rw [enc_go]; exact oIx_t0 _ _
theorem encW_at {ws : List (Int × Game)} {i : Nat} {x : Int × Game} (h : ws[i]? = some x) : oIx (.tup (encW ws)) (.int (i : Int)) = some (.tup [.int x.1, x.2.enc]) := by
  have hl : i < (encW ws).length := by
    unfold encW; rw [List.length_map]; exact (List.getElem?_eq_some_iff.mp h).1
  show atI (encW ws) (i : Int) = _
  rw [atI_nat' hl]
  unfold encW
  rw [List.getElem?_map, h]; rfl
theorem all_true {α : Type} (l : List α) : oAll [.lst (l.map fun _ => D.bl true)] = some (.bl true) := by
  have bo : boolsOf (l.map fun _ => D.bl true) = some (l.map fun _ => true) := by
    induction l with
    | nil => rfl
    | cons a l ih => simp only [List.map_cons, boolsOf, ih, Option.map_some]
  simp only [oAll, bo, Option.map_some]
  simp
theorem game_in_ok : ∀ (n : Nat) (g : Game) (deep : Nat), deep < n → g.Ok deep → d_is_game_in n [g.enc, .int (deep : Int)] = .ok (.bl true)
  | 0, _, _, h, _ => by omega
  | n + 1, .node w ws, 0, _, h => h.elim
  | n + 1, .node w ws, deep + 1, hn, h => by
    have d0 : (((deep + 1 : Nat) : Int) == 0) = false := by simp; omega
    have wh := whole_ok w (0 - 20) 20
    rw [decide_eq_true (show 0 - 20 ≤ w by have := h.1.1; omega), decide_eq_true h.1.2] at wh
    refine defD_eq rfl ?_
    unfold b_is_game_in
    cases ws with
    | nil =>
      rw [enc_end]
      simp only [oEq_int, d0, oIsTup, oIx_t0, wh, oLen, List.isEmpty, defD, args, dSeq, dSet, dSetP, dSetN, lstAt, dApp, dAppP, dAsg, dPar, dDrop, dWhile, dIfS, dRet, dB, dCall, dCons, dNil, dVar, dC, dBin, dChain, asB, dTru, dNotT, dAndT, dOrT, dAnd, dOr, dNot, dIf, dUn, dTup, dLst, dItems, dYes, R.bind, R.to, O.seq, outR, ofO, noErr, mask, Sm.putIn, bindPat, bindPats, itemsOf, tru, List.foldr_cons, List.foldr_nil, List.length_cons, List.length_nil, List.map_cons, List.map_nil, List.cons_append, List.nil_append, Nat.sub_self, List.replicate_zero, List.replicate_succ, List.getElem?_cons_succ, List.getElem?_cons_zero, List.set_cons_zero, List.set_cons_succ, Nat.reduceAdd, Nat.reduceSub, ↓reduceIte, Bool.not_true, Bool.not_false, Bool.and_true, Bool.true_and, Bool.false_and, Bool.and_false, if_true, if_false, Bool.false_eq_true, oNeg, oAddI, oSubI, oAdd_ii, oLt, oLe, oGt, oGe, Option.bind_some, Option.map_some]
      simp
    | cons x ws =>
      rw [enc_go]
      have hl : (x :: ws).length ≤ 3 := h.2.1
      have hlen : ((x :: ws).map fun p => D.tup [.int p.1, p.2.enc]).length = (x :: ws).length := List.length_map ..
      generalize hE : ((x :: ws).map fun p => D.tup [.int p.1, p.2.enc]) = E at *
      refine out_seq (ρ1 := [some (.tup [.int w, .tup E]), some (.int ((deep + 1 : Nat) : Int)), none]) ?_ ?_
      · simp only [oEq_int, d0, oIsTup, oIx_t0, wh, oLen, List.isEmpty, defD, args, dSeq, dSet, dSetP, dSetN, lstAt, dApp, dAppP, dAsg, dPar, dDrop, dWhile, dIfS, dRet, dB, dCall, dCons, dNil, dVar, dC, dBin, dChain, asB, dTru, dNotT, dAndT, dOrT, dAnd, dOr, dNot, dIf, dUn, dTup, dLst, dItems, dYes, R.bind, R.to, O.seq, outR, ofO, noErr, mask, Sm.putIn, bindPat, bindPats, itemsOf, tru, List.foldr_cons, List.foldr_nil, List.length_cons, List.length_nil, List.map_cons, List.map_nil, List.cons_append, List.nil_append, Nat.sub_self, List.replicate_zero, List.replicate_succ, List.getElem?_cons_succ, List.getElem?_cons_zero, List.set_cons_zero, List.set_cons_succ, Nat.reduceAdd, Nat.reduceSub, ↓reduceIte, Bool.not_true, Bool.not_false, Bool.and_true, Bool.true_and, Bool.false_and, Bool.and_false, if_true, if_false, Bool.false_eq_true, oNeg, oAddI, oSubI, oAdd_ii, oLt, oLe, oGt, oGe, Option.bind_some, Option.map_some]
      refine out_seq (ρ1 := [some (.tup [.int w, .tup E]), some (.int ((deep + 1 : Nat) : Int)), none]) ?_ ?_
      · simp only [oEq_int, oLen, show ((((2 : Nat) : Int)) == 1) = false by decide, defD, args, dSeq, dSet, dSetP, dSetN, lstAt, dApp, dAppP, dAsg, dPar, dDrop, dWhile, dIfS, dRet, dB, dCall, dCons, dNil, dVar, dC, dBin, dChain, asB, dTru, dNotT, dAndT, dOrT, dAnd, dOr, dNot, dIf, dUn, dTup, dLst, dItems, dYes, R.bind, R.to, O.seq, outR, ofO, noErr, mask, Sm.putIn, bindPat, bindPats, itemsOf, tru, List.foldr_cons, List.foldr_nil, List.length_cons, List.length_nil, List.map_cons, List.map_nil, List.cons_append, List.nil_append, Nat.sub_self, List.replicate_zero, List.replicate_succ, List.getElem?_cons_succ, List.getElem?_cons_zero, List.set_cons_zero, List.set_cons_succ, Nat.reduceAdd, Nat.reduceSub, ↓reduceIte, Bool.not_true, Bool.not_false, Bool.and_true, Bool.true_and, Bool.false_and, Bool.and_false, if_true, if_false, Bool.false_eq_true, oNeg, oAddI, oSubI, oAdd_ii, oLt, oLe, oGt, oGe, Option.bind_some, Option.map_some]
      refine out_seq (ρ1 := [some (.tup [.int w, .tup E]), some (.int ((deep + 1 : Nat) : Int)), none]) ?_ ?_
      · have l1 : (1 : Int) ≤ (E.length : Int) := by rw [hlen]; simp; omega
        have l3 : (E.length : Int) ≤ 3 := by omega
        simp only [oNe_int, oLen, oIx_t1, oIsTup, show ((((2 : Nat) : Int)) == 2) = true by decide, decide_eq_true l1, decide_eq_true l3, defD, args, dSeq, dSet, dSetP, dSetN, lstAt, dApp, dAppP, dAsg, dPar, dDrop, dWhile, dIfS, dRet, dB, dCall, dCons, dNil, dVar, dC, dBin, dChain, asB, dTru, dNotT, dAndT, dOrT, dAnd, dOr, dNot, dIf, dUn, dTup, dLst, dItems, dYes, R.bind, R.to, O.seq, outR, ofO, noErr, mask, Sm.putIn, bindPat, bindPats, itemsOf, tru, List.foldr_cons, List.foldr_nil, List.length_cons, List.length_nil, List.map_cons, List.map_nil, List.cons_append, List.nil_append, Nat.sub_self, List.replicate_zero, List.replicate_succ, List.getElem?_cons_succ, List.getElem?_cons_zero, List.set_cons_zero, List.set_cons_succ, Nat.reduceAdd, Nat.reduceSub, ↓reduceIte, Bool.not_true, Bool.not_false, Bool.and_true, Bool.true_and, Bool.false_and, Bool.and_false, if_true, if_false, Bool.false_eq_true, oNeg, oAddI, oSubI, oAdd_ii, oLt, oLe, oGt, oGe, Option.bind_some, Option.map_some]
      refine for_out (ds := E) (fun ρ => ∃ y, ρ = [some (.tup [.int w, .tup E]), some (.int ((deep + 1 : Nat) : Int)), y]) ?_ ⟨none, rfl⟩ ?_ ?_
      · simp only [oIx_t1, defD, args, dSeq, dSet, dSetP, dSetN, lstAt, dApp, dAppP, dAsg, dPar, dDrop, dWhile, dIfS, dRet, dB, dCall, dCons, dNil, dVar, dC, dBin, dChain, asB, dTru, dNotT, dAndT, dOrT, dAnd, dOr, dNot, dIf, dUn, dTup, dLst, dItems, dYes, R.bind, R.to, O.seq, outR, ofO, noErr, mask, Sm.putIn, bindPat, bindPats, itemsOf, tru, List.foldr_cons, List.foldr_nil, List.length_cons, List.length_nil, List.map_cons, List.map_nil, List.cons_append, List.nil_append, Nat.sub_self, List.replicate_zero, List.replicate_succ, List.getElem?_cons_succ, List.getElem?_cons_zero, List.set_cons_zero, List.set_cons_succ, Nat.reduceAdd, Nat.reduceSub, ↓reduceIte, Bool.not_true, Bool.not_false, Bool.and_true, Bool.true_and, Bool.false_and, Bool.and_false, if_true, if_false, Bool.false_eq_true, oNeg, oAddI, oSubI, oAdd_ii, oLt, oLe, oGt, oGe, Option.bind_some, Option.map_some]
      · rintro d ρ hd ⟨y, rfl⟩
        rw [← hE] at hd
        obtain ⟨p, hp, rfl⟩ := List.mem_map.mp hd
        have wk := whole_ok p.1 1 9
        rw [decide_eq_true (h.2.2 p hp).1.1, decide_eq_true (h.2.2 p hp).1.2] at wk
        refine ⟨_, _, rfl, ?_, some (.tup [.int p.1, p.2.enc]), rfl⟩
        simp only [oIsTup, oNe_int, oLen, oIx_t0, wk, show ((((2 : Nat) : Int)) == 2) = true by decide, defD, args, dSeq, dSet, dSetP, dSetN, lstAt, dApp, dAppP, dAsg, dPar, dDrop, dWhile, dIfS, dRet, dB, dCall, dCons, dNil, dVar, dC, dBin, dChain, asB, dTru, dNotT, dAndT, dOrT, dAnd, dOr, dNot, dIf, dUn, dTup, dLst, dItems, dYes, R.bind, R.to, O.seq, outR, ofO, noErr, mask, Sm.putIn, bindPat, bindPats, itemsOf, tru, List.foldr_cons, List.foldr_nil, List.length_cons, List.length_nil, List.map_cons, List.map_nil, List.cons_append, List.nil_append, Nat.sub_self, List.replicate_zero, List.replicate_succ, List.getElem?_cons_succ, List.getElem?_cons_zero, List.set_cons_zero, List.set_cons_succ, Nat.reduceAdd, Nat.reduceSub, ↓reduceIte, Bool.not_true, Bool.not_false, Bool.and_true, Bool.true_and, Bool.false_and, Bool.and_false, if_true, if_false, Bool.false_eq_true, oNeg, oAddI, oSubI, oAdd_ii, oLt, oLe, oGt, oGe, Option.bind_some, Option.map_some]
      · rintro ρ' ⟨y, rfl⟩
        have lc : dLcs [2] (.v 2) (dItems (dBin oIx (dVar 0) (dC (.int 1)))) dYes (dCall (d_is_game_in n) (dCons (dBin oIx (dVar 2) (dC (.int 1))) (dCons (dBin oSubI (dVar 1) (dC (.int 1))) dNil))) [some (.tup [.int w, .tup E]), some (.int ((deep + 1 : Nat) : Int)), y] = .ok ((x :: ws).map fun _ => D.bl true) := by
          refine lc_ok1 (enc := fun p : Int × Game => D.tup [.int p.1, p.2.enc]) _ ?_ fun p hp => ⟨_, rfl, ?_⟩
          · simp only [oIx_t1, hE, defD, args, dSeq, dSet, dSetP, dSetN, lstAt, dApp, dAppP, dAsg, dPar, dDrop, dWhile, dIfS, dRet, dB, dCall, dCons, dNil, dVar, dC, dBin, dChain, asB, dTru, dNotT, dAndT, dOrT, dAnd, dOr, dNot, dIf, dUn, dTup, dLst, dItems, dYes, R.bind, R.to, O.seq, outR, ofO, noErr, mask, Sm.putIn, bindPat, bindPats, itemsOf, tru, List.foldr_cons, List.foldr_nil, List.length_cons, List.length_nil, List.map_cons, List.map_nil, List.cons_append, List.nil_append, Nat.sub_self, List.replicate_zero, List.replicate_succ, List.getElem?_cons_succ, List.getElem?_cons_zero, List.set_cons_zero, List.set_cons_succ, Nat.reduceAdd, Nat.reduceSub, ↓reduceIte, Bool.not_true, Bool.not_false, Bool.and_true, Bool.true_and, Bool.false_and, Bool.and_false, if_true, if_false, Bool.false_eq_true, oNeg, oAddI, oSubI, oAdd_ii, oLt, oLe, oGt, oGe, Option.bind_some, Option.map_some]
          · have ih := game_in_ok n p.2 deep (by omega) (h.2.2 p hp).2
            simp only [oIx_t1, show ((deep + 1 : Nat) : Int) - 1 = (deep : Int) by omega, ih, defD, args, dSeq, dSet, dSetP, dSetN, lstAt, dApp, dAppP, dAsg, dPar, dDrop, dWhile, dIfS, dRet, dB, dCall, dCons, dNil, dVar, dC, dBin, dChain, asB, dTru, dNotT, dAndT, dOrT, dAnd, dOr, dNot, dIf, dUn, dTup, dLst, dItems, dYes, R.bind, R.to, O.seq, outR, ofO, noErr, mask, Sm.putIn, bindPat, bindPats, itemsOf, tru, List.foldr_cons, List.foldr_nil, List.length_cons, List.length_nil, List.map_cons, List.map_nil, List.cons_append, List.nil_append, Nat.sub_self, List.replicate_zero, List.replicate_succ, List.getElem?_cons_succ, List.getElem?_cons_zero, List.set_cons_zero, List.set_cons_succ, Nat.reduceAdd, Nat.reduceSub, ↓reduceIte, Bool.not_true, Bool.not_false, Bool.and_true, Bool.true_and, Bool.false_and, Bool.and_false, if_true, if_false, Bool.false_eq_true, oNeg, oAddI, oSubI, oAdd_ii, oLt, oLe, oGt, oGe, Option.bind_some, Option.map_some]
        have al := all_true (x :: ws)
        generalize ((x :: ws).map fun _ => D.bl true) = L at *
        simp only [dLc, lc, al, defD, args, dSeq, dSet, dSetP, dSetN, lstAt, dApp, dAppP, dAsg, dPar, dDrop, dWhile, dIfS, dRet, dB, dCall, dCons, dNil, dVar, dC, dBin, dChain, asB, dTru, dNotT, dAndT, dOrT, dAnd, dOr, dNot, dIf, dUn, dTup, dLst, dItems, dYes, R.bind, R.to, O.seq, outR, ofO, noErr, mask, Sm.putIn, bindPat, bindPats, itemsOf, tru, List.foldr_cons, List.foldr_nil, List.length_cons, List.length_nil, List.map_cons, List.map_nil, List.cons_append, List.nil_append, Nat.sub_self, List.replicate_zero, List.replicate_succ, List.getElem?_cons_succ, List.getElem?_cons_zero, List.set_cons_zero, List.set_cons_succ, Nat.reduceAdd, Nat.reduceSub, ↓reduceIte, Bool.not_true, Bool.not_false, Bool.and_true, Bool.true_and, Bool.false_and, Bool.and_false, if_true, if_false, Bool.false_eq_true, oNeg, oAddI, oSubI, oAdd_ii, oLt, oLe, oGt, oGe, Option.bind_some, Option.map_some]
theorem game_ok {g : Game} (h : g.Ok 4) : d_is_game [g.enc] = .ok (.bl true) := by
  have := game_in_ok 8 g 4 (by decide) h
  simp only [d_is_game, b_is_game, show d_is_game_in 8 [g.enc, .int 4] = _ from this, defD, args, dSeq, dSet, dSetP, dSetN, lstAt, dApp, dAppP, dAsg, dPar, dDrop, dWhile, dIfS, dRet, dB, dCall, dCons, dNil, dVar, dC, dBin, dChain, asB, dTru, dNotT, dAndT, dOrT, dAnd, dOr, dNot, dIf, dUn, dTup, dLst, dItems, dYes, R.bind, R.to, O.seq, outR, ofO, noErr, mask, Sm.putIn, bindPat, bindPats, itemsOf, tru, List.foldr_cons, List.foldr_nil, List.length_cons, List.length_nil, List.map_cons, List.map_nil, List.cons_append, List.nil_append, Nat.sub_self, List.replicate_zero, List.replicate_succ, List.getElem?_cons_succ, List.getElem?_cons_zero, List.set_cons_zero, List.set_cons_succ, Nat.reduceAdd, Nat.reduceSub, ↓reduceIte, Bool.not_true, Bool.not_false, Bool.and_true, Bool.true_and, Bool.false_and, Bool.and_false, if_true, if_false, Bool.false_eq_true, oNeg, oAddI, oSubI, oAdd_ii, oLt, oLe, oGt, oGe, Option.bind_some, Option.map_some]
theorem look_ok {g : Game} (h : g.Ok 4) : d_look_game [g.enc] = .ok .non := by
  simp only [d_look_game, b_look_game, game_ok h, defD, args, dSeq, dSet, dSetP, dSetN, lstAt, dApp, dAppP, dAsg, dPar, dDrop, dWhile, dIfS, dRet, dB, dCall, dCons, dNil, dVar, dC, dBin, dChain, asB, dTru, dNotT, dAndT, dOrT, dAnd, dOr, dNot, dIf, dUn, dTup, dLst, dItems, dYes, R.bind, R.to, O.seq, outR, ofO, noErr, mask, Sm.putIn, bindPat, bindPats, itemsOf, tru, List.foldr_cons, List.foldr_nil, List.length_cons, List.length_nil, List.map_cons, List.map_nil, List.cons_append, List.nil_append, Nat.sub_self, List.replicate_zero, List.replicate_succ, List.getElem?_cons_succ, List.getElem?_cons_zero, List.set_cons_zero, List.set_cons_succ, Nat.reduceAdd, Nat.reduceSub, ↓reduceIte, Bool.not_true, Bool.not_false, Bool.and_true, Bool.true_and, Bool.false_and, Bool.and_false, if_true, if_false, Bool.false_eq_true, oNeg, oAddI, oSubI, oAdd_ii, oLt, oLe, oGt, oGe, Option.bind_some, Option.map_some]
theorem part_ok1 : ∀ (p : List Nat) (g : Game) (x1 x2 : Option D), g.IsPath p → ∃ y, forGo (.v 2) (dSet [] 0 (dBin oIx (dBin oIx (dCall d_ways_of (dCons (dVar 0) dNil)) (dVar 2)) (dC (.int 1)))) (p.map fun i : Nat => D.int (i : Int)) [some g.enc, x1, x2] = .nx [some (g.part p).enc, x1, y]
  | [], g, x1, x2, _ => ⟨x2, rfl⟩
  | i :: p, g, x1, x2, h => by
    simp only [Game.IsPath] at h
    simp only [Game.part]
    cases hx : g.ways[i]? with
    | none => rw [hx] at h; exact h.elim
    | some x =>
      rw [hx] at h
      obtain ⟨y, e⟩ := part_ok1 p x.2 x1 (some (.int (i : Int))) h
      refine ⟨y, ?_⟩
      simp only [forGo, ways_ok, encW_at hx, oIx_t1, defD, args, dSeq, dSet, dSetP, dSetN, lstAt, dApp, dAppP, dAsg, dPar, dDrop, dWhile, dIfS, dRet, dB, dCall, dCons, dNil, dVar, dC, dBin, dChain, asB, dTru, dNotT, dAndT, dOrT, dAnd, dOr, dNot, dIf, dUn, dTup, dLst, dItems, dYes, R.bind, R.to, O.seq, outR, ofO, noErr, mask, Sm.putIn, bindPat, bindPats, itemsOf, tru, List.foldr_cons, List.foldr_nil, List.length_cons, List.length_nil, List.map_cons, List.map_nil, List.cons_append, List.nil_append, Nat.sub_self, List.replicate_zero, List.replicate_succ, List.getElem?_cons_succ, List.getElem?_cons_zero, List.set_cons_zero, List.set_cons_succ, Nat.reduceAdd, Nat.reduceSub, ↓reduceIte, Bool.not_true, Bool.not_false, Bool.and_true, Bool.true_and, Bool.false_and, Bool.and_false, if_true, if_false, Bool.false_eq_true, oNeg, oAddI, oSubI, oAdd_ii, oLt, oLe, oGt, oGe, Option.bind_some, Option.map_some]
      exact e
theorem part_of_ok {g : Game} {p : List Nat} (h : g.IsPath p) : d_part_of [g.enc, encP p] = .ok (g.part p).enc := by
  obtain ⟨y, e⟩ := part_ok1 p g (some (encP p)) none h
  refine defD_eq rfl ?_
  unfold b_part_of
  refine out_seq (ρ1 := [some (g.part p).enc, some (encP p), y]) ?_ (ret_of ?_)
  · unfold dFor
    simp only [encP, defD, args, dSeq, dSet, dSetP, dSetN, lstAt, dApp, dAppP, dAsg, dPar, dDrop, dWhile, dIfS, dRet, dB, dCall, dCons, dNil, dVar, dC, dBin, dChain, asB, dTru, dNotT, dAndT, dOrT, dAnd, dOr, dNot, dIf, dUn, dTup, dLst, dItems, dYes, R.bind, R.to, O.seq, outR, ofO, noErr, mask, Sm.putIn, bindPat, bindPats, itemsOf, tru, List.foldr_cons, List.foldr_nil, List.length_cons, List.length_nil, List.map_cons, List.map_nil, List.cons_append, List.nil_append, Nat.sub_self, List.replicate_zero, List.replicate_succ, List.getElem?_cons_succ, List.getElem?_cons_zero, List.set_cons_zero, List.set_cons_succ, Nat.reduceAdd, Nat.reduceSub, ↓reduceIte, Bool.not_true, Bool.not_false, Bool.and_true, Bool.true_and, Bool.false_and, Bool.and_false, if_true, if_false, Bool.false_eq_true, oNeg, oAddI, oSubI, oAdd_ii, oLt, oLe, oGt, oGe, Option.bind_some, Option.map_some]
    exact e
  · simp only [defD, args, dSeq, dSet, dSetP, dSetN, lstAt, dApp, dAppP, dAsg, dPar, dDrop, dWhile, dIfS, dRet, dB, dCall, dCons, dNil, dVar, dC, dBin, dChain, asB, dTru, dNotT, dAndT, dOrT, dAnd, dOr, dNot, dIf, dUn, dTup, dLst, dItems, dYes, R.bind, R.to, O.seq, outR, ofO, noErr, mask, Sm.putIn, bindPat, bindPats, itemsOf, tru, List.foldr_cons, List.foldr_nil, List.length_cons, List.length_nil, List.map_cons, List.map_nil, List.cons_append, List.nil_append, Nat.sub_self, List.replicate_zero, List.replicate_succ, List.getElem?_cons_succ, List.getElem?_cons_zero, List.set_cons_zero, List.set_cons_succ, Nat.reduceAdd, Nat.reduceSub, ↓reduceIte, Bool.not_true, Bool.not_false, Bool.and_true, Bool.true_and, Bool.false_and, Bool.and_false, if_true, if_false, Bool.false_eq_true, oNeg, oAddI, oSubI, oAdd_ii, oLt, oLe, oGt, oGe, Option.bind_some, Option.map_some]
theorem enum_it {g : DA} {ρ : Sm.Env} {ds : List D} (hg : g ρ = .ok [.tup ds]) : dRng enumD g ρ = .ok (enumFrom 0 ds) := by
  unfold dRng; rw [hg]; rfl
theorem enum_itL {g : DA} {ρ : Sm.Env} {ds : List D} (hg : g ρ = .ok [.lst ds]) : dRng enumD g ρ = .ok (enumFrom 0 ds) := by
  unfold dRng; rw [hg]; rfl
def pathsB (self : List D → R D) : DS := dExt [1] 1 (dLc [5] (.v 5) (dItems (dCall self (dCons (dVar 4) dNil))) dYes (dBin oAdd (dTup (dCons (dVar 2) dNil)) (dVar 5)))
theorem most_ge : ∀ n, n ≤ Game.most n
  | 0 => Nat.le_refl _
  | n + 1 => by have := most_ge n; simp only [Game.most]; omega
theorem sizeLine_big : (100000 : Nat) ≤ sizeLine := by decide
theorem paths_loop (n d : Nat) (x0 : Option D) (hn : ∀ g : Game, g.Ok d → d_paths_of n [g.enc] = .ok (.lst (g.paths.map encP))) (hm : Game.most d ≤ 1000) : ∀ (ws : List (Int × Game)) (k : Nat) (acc : List (List Nat)) (x2 x3 x4 x5 : Option D), (∀ p ∈ ws, p.2.Ok d) → acc.length + ws.length * 1000 ≤ 9000 →
    ∃ y2 y3 y4 y5, forGo (.t [(.v 2), (.t [(.v 3), (.v 4)])]) (pathsB (d_paths_of n)) (enumFrom k (encW ws)) [x0, some (.lst (acc.map encP)), x2, x3, x4, x5] = .nx [x0, some (.lst ((acc ++ Game.idxs k (ws.map fun p => p.2.paths)).map encP)), y2, y3, y4, y5]
  | [], k, acc, x2, x3, x4, x5, _, _ => ⟨x2, x3, x4, x5, by simp [encW, enumFrom, forGo, Game.idxs]⟩
  | x :: ws, k, acc, x2, x3, x4, x5, hw, hs => by
    have hx := hw x (by simp)
    have pl := Game.paths_len hx
    rw [List.length_cons] at hs
    obtain ⟨y2, y3, y4, y5, e⟩ := paths_loop n d x0 hn hm ws (k + 1) (acc ++ x.2.paths.map (k :: ·)) (some (.int (k : Int))) (some (.int x.1)) (some x.2.enc) x5 (fun p hp => hw p (by simp [hp])) (by rw [List.length_append, List.length_map]; omega)
    refine ⟨y2, y3, y4, y5, ?_⟩
    have lc : dLcs [5] (.v 5) (dItems (dCall (d_paths_of n) (dCons (dVar 4) dNil))) dYes (dBin oAdd (dTup (dCons (dVar 2) dNil)) (dVar 5)) [x0, none, some (.int (k : Int)), some (.int x.1), some x.2.enc, x5] = .ok ((x.2.paths.map (k :: ·)).map encP) := by
      have := lc_ok1 (vs := [5]) (pt := .v 5) (it := dItems (dCall (d_paths_of n) (dCons (dVar 4) dNil))) (fe := dBin oAdd (dTup (dCons (dVar 2) dNil)) (dVar 5)) (ρ := [x0, none, some (.int (k : Int)), some (.int x.1), some x.2.enc, x5]) (xs := x.2.paths) (enc := encP) (fun p => encP (k :: p)) (by simp only [hn x.2 hx, defD, args, dSeq, dSet, dSetP, dSetN, lstAt, dApp, dAppP, dAsg, dPar, dDrop, dWhile, dIfS, dRet, dB, dCall, dCons, dNil, dVar, dC, dBin, dChain, asB, dTru, dNotT, dAndT, dOrT, dAnd, dOr, dNot, dIf, dUn, dTup, dLst, dItems, dYes, R.bind, R.to, O.seq, outR, ofO, noErr, mask, Sm.putIn, bindPat, bindPats, itemsOf, tru, List.foldr_cons, List.foldr_nil, List.length_cons, List.length_nil, List.map_cons, List.map_nil, List.cons_append, List.nil_append, Nat.sub_self, List.replicate_zero, List.replicate_succ, List.getElem?_cons_succ, List.getElem?_cons_zero, List.set_cons_zero, List.set_cons_succ, Nat.reduceAdd, Nat.reduceSub, ↓reduceIte, Bool.not_true, Bool.not_false, Bool.and_true, Bool.true_and, Bool.false_and, Bool.and_false, if_true, if_false, Bool.false_eq_true, oNeg, oAddI, oSubI, oAdd_ii, oLt, oLe, oGt, oGe, Option.bind_some, Option.map_some]) fun p hp => ⟨_, rfl, by
        have hl : 1 + p.length ≤ sizeLine := by
          have := (Game.part_ok hx ((Game.mem_paths _ _).mp hp)).2
          have : d ≤ 1000 := Nat.le_trans (most_ge d) hm
          exact Nat.le_trans (by omega) sizeLine_big
        have oc : oAdd (.tup [.int (k : Int)]) (encP p) = some (encP (k :: p)) := by
          unfold encP
          simp only [oAdd, List.length_cons, List.length_nil, List.length_map]
          rw [if_pos (by omega)]
          rfl
        simp only [oc, defD, args, dSeq, dSet, dSetP, dSetN, lstAt, dApp, dAppP, dAsg, dPar, dDrop, dWhile, dIfS, dRet, dB, dCall, dCons, dNil, dVar, dC, dBin, dChain, asB, dTru, dNotT, dAndT, dOrT, dAnd, dOr, dNot, dIf, dUn, dTup, dLst, dItems, dYes, R.bind, R.to, O.seq, outR, ofO, noErr, mask, Sm.putIn, bindPat, bindPats, itemsOf, tru, List.foldr_cons, List.foldr_nil, List.length_cons, List.length_nil, List.map_cons, List.map_nil, List.cons_append, List.nil_append, Nat.sub_self, List.replicate_zero, List.replicate_succ, List.getElem?_cons_succ, List.getElem?_cons_zero, List.set_cons_zero, List.set_cons_succ, Nat.reduceAdd, Nat.reduceSub, ↓reduceIte, Bool.not_true, Bool.not_false, Bool.and_true, Bool.true_and, Bool.false_and, Bool.and_false, if_true, if_false, Bool.false_eq_true, oNeg, oAddI, oSubI, oAdd_ii, oLt, oLe, oGt, oGe, Option.bind_some, Option.map_some]⟩
      rw [this, List.map_map]; rfl
    have hz : (acc.map encP).length + ((x.2.paths.map (k :: ·)).map encP).length ≤ sizeLine := by
      rw [List.length_map, List.length_map, List.length_map]
      exact Nat.le_trans (by omega) sizeLine_big
    rw [show enumFrom k (encW (x :: ws)) = .tup [.int (k : Int), .tup [.int x.1, x.2.enc]] :: enumFrom (k + 1) (encW ws) from rfl]
    have st : pathsB (d_paths_of n) [x0, some (.lst (acc.map encP)), some (.int (k : Int)), some (.int x.1), some x.2.enc, x5] = .nx [x0, some (.lst ((acc ++ x.2.paths.map (k :: ·)).map encP)), some (.int (k : Int)), some (.int x.1), some x.2.enc, x5] := by
      rw [List.map_append]
      generalize (x.2.paths.map (k :: ·)).map encP = P at *
      simp only [pathsB, dExt, dLc, lc, if_pos hz, defD, args, dSeq, dSet, dSetP, dSetN, lstAt, dApp, dAppP, dAsg, dPar, dDrop, dWhile, dIfS, dRet, dB, dCall, dCons, dNil, dVar, dC, dBin, dChain, asB, dTru, dNotT, dAndT, dOrT, dAnd, dOr, dNot, dIf, dUn, dTup, dLst, dItems, dYes, R.bind, R.to, O.seq, outR, ofO, noErr, mask, Sm.putIn, bindPat, bindPats, itemsOf, tru, List.foldr_cons, List.foldr_nil, List.length_cons, List.length_nil, List.map_cons, List.map_nil, List.cons_append, List.nil_append, Nat.sub_self, List.replicate_zero, List.replicate_succ, List.getElem?_cons_succ, List.getElem?_cons_zero, List.set_cons_zero, List.set_cons_succ, Nat.reduceAdd, Nat.reduceSub, ↓reduceIte, Bool.not_true, Bool.not_false, Bool.and_true, Bool.true_and, Bool.false_and, Bool.and_false, if_true, if_false, Bool.false_eq_true, oNeg, oAddI, oSubI, oAdd_ii, oLt, oLe, oGt, oGe, Option.bind_some, Option.map_some]
    unfold forGo
    rw [show bindPat (.t [(.v 2), (.t [(.v 3), (.v 4)])]) (.tup [.int (k : Int), .tup [.int x.1, x.2.enc]]) [x0, some (.lst (acc.map encP)), x2, x3, x4, x5] = some [x0, some (.lst (acc.map encP)), some (.int (k : Int)), some (.int x.1), some x.2.enc, x5] from rfl]
    simp only [st, O.seq]
    rw [e]
    simp only [Game.idxs, List.map_cons, List.append_assoc]
theorem most_small {d : Nat} (h : d ≤ 5) : Game.most d ≤ 1000 := by
  have : d = 0 ∨ d = 1 ∨ d = 2 ∨ d = 3 ∨ d = 4 ∨ d = 5 := by omega
  rcases this with rfl | rfl | rfl | rfl | rfl | rfl <;> decide
theorem paths_of_ok : ∀ (n d : Nat), d ≤ n → d ≤ 6 → ∀ g : Game, g.Ok d → d_paths_of n [g.enc] = .ok (.lst (g.paths.map encP))
  | _, 0, _, _, _, h => h.elim
  | 0, d + 1, hd, _, _, _ => by omega
  | n + 1, d + 1, hd, hn, .node w ws, h => by
    have ih := paths_of_ok n d (by omega) (by omega)
    have hm : Game.most d ≤ 1000 := most_small (by omega)
    have hl := h.2.1
    obtain ⟨y2, y3, y4, y5, e⟩ := paths_loop n d (some (Game.node w ws).enc) ih hm ws 0 [[]] none none none none (fun p hp => (h.2.2 p hp).2) (by simp; omega)
    refine defD_eq rfl ?_
    unfold b_paths_of
    refine out_seq (ρ1 := [some (Game.node w ws).enc, some (.lst ([[]].map encP)), none, none, none, none]) ?_ ?_
    · simp only [encP, defD, args, dSeq, dSet, dSetP, dSetN, lstAt, dApp, dAppP, dAsg, dPar, dDrop, dWhile, dIfS, dRet, dB, dCall, dCons, dNil, dVar, dC, dBin, dChain, asB, dTru, dNotT, dAndT, dOrT, dAnd, dOr, dNot, dIf, dUn, dTup, dLst, dItems, dYes, R.bind, R.to, O.seq, outR, ofO, noErr, mask, Sm.putIn, bindPat, bindPats, itemsOf, tru, List.foldr_cons, List.foldr_nil, List.length_cons, List.length_nil, List.map_cons, List.map_nil, List.cons_append, List.nil_append, Nat.sub_self, List.replicate_zero, List.replicate_succ, List.getElem?_cons_succ, List.getElem?_cons_zero, List.set_cons_zero, List.set_cons_succ, Nat.reduceAdd, Nat.reduceSub, ↓reduceIte, Bool.not_true, Bool.not_false, Bool.and_true, Bool.true_and, Bool.false_and, Bool.and_false, if_true, if_false, Bool.false_eq_true, oNeg, oAddI, oSubI, oAdd_ii, oLt, oLe, oGt, oGe, Option.bind_some, Option.map_some]
    refine out_seq (ρ1 := [some (Game.node w ws).enc, some (.lst (([[]] ++ Game.idxs 0 (ws.map fun p : Int × Game => p.2.paths)).map encP)), y2, y3, y4, y5]) ?_ (ret_of ?_)
    · unfold dFor
      rw [enum_it (ds := encW ws) (by simp only [ways_ok, Game.ways, defD, args, dSeq, dSet, dSetP, dSetN, lstAt, dApp, dAppP, dAsg, dPar, dDrop, dWhile, dIfS, dRet, dB, dCall, dCons, dNil, dVar, dC, dBin, dChain, asB, dTru, dNotT, dAndT, dOrT, dAnd, dOr, dNot, dIf, dUn, dTup, dLst, dItems, dYes, R.bind, R.to, O.seq, outR, ofO, noErr, mask, Sm.putIn, bindPat, bindPats, itemsOf, tru, List.foldr_cons, List.foldr_nil, List.length_cons, List.length_nil, List.map_cons, List.map_nil, List.cons_append, List.nil_append, Nat.sub_self, List.replicate_zero, List.replicate_succ, List.getElem?_cons_succ, List.getElem?_cons_zero, List.set_cons_zero, List.set_cons_succ, Nat.reduceAdd, Nat.reduceSub, ↓reduceIte, Bool.not_true, Bool.not_false, Bool.and_true, Bool.true_and, Bool.false_and, Bool.and_false, if_true, if_false, Bool.false_eq_true, oNeg, oAddI, oSubI, oAdd_ii, oLt, oLe, oGt, oGe, Option.bind_some, Option.map_some])]
      exact e
    · rw [Game.paths]
      simp only [dVar, List.getElem?_cons_succ, List.getElem?_cons_zero]
      rfl
end Kx
namespace Kx
open PySem PySem.Spec L2 Sm
def rowD (p : List Nat) (s : Game) (c : Rat) : D := .tup [encP p, s.enc, encQ c]
def rowsD (g : Game) : List D := g.paths.map fun p => rowD p (g.part p) (g.chance p)
def walkIn : DS := dApp [1] 1 (dTup (dCons (dBin oAdd (dTup (dCons (dVar 3) dNil)) (dVar 6)) (dCons (dVar 7) (dCons (dCall d__law_low (dCons (dBin oMul (dBin oIx (dVar 8) (dC (.int 0))) (dVar 4)) (dCons (dBin oMul (dBin oIx (dVar 8) (dC (.int 1))) (dVar 2)) dNil))) dNil))))
theorem cat_path {k : Nat} {p : List Nat} (h : p.length ≤ 1000) : oAdd (.tup [.int (k : Int)]) (encP p) = some (encP (k :: p)) := by
  unfold encP
  simp only [oAdd, List.length_cons, List.length_nil, List.length_map]
  rw [if_pos (by exact Nat.le_trans (by omega) sizeLine_big)]
  rfl
theorem walk_in {n : Nat} {g : Game} {k : Nat} {x : Int × Game} (hg : g.Ok n) (hn : n ≤ 6) (hx : g.ways[k]? = some x) (x0 : Option D) : ∀ (ps : List (List Nat)) (acc : List D) (x6 x7 x8 : Option D), (∀ p ∈ ps, x.2.IsPath p) → acc.length + ps.length ≤ 9000 →
    ∃ y6 y7 y8, forGo (.t [(.v 6), (.v 7), (.v 8)]) walkIn (ps.map fun p => rowD p (x.2.part p) (x.2.chance p)) [x0, some (.lst acc), some (.int g.total), some (.int (k : Int)), some (.int x.1), some x.2.enc, x6, x7, x8]
      = .nx [x0, some (.lst (acc ++ ps.map fun p => rowD (k :: p) (g.part (k :: p)) (g.chance (k :: p)))), some (.int g.total), some (.int (k : Int)), some (.int x.1), some x.2.enc, y6, y7, y8]
  | [], acc, x6, x7, x8, _, _ => ⟨x6, x7, x8, by simp [forGo]⟩
  | p :: ps, acc, x6, x7, x8, hp, hl => by
    rw [List.length_cons] at hl
    have hp1 := hp p (by simp)
    obtain ⟨t1, t2, a1, a2, hk⟩ := Game.total_at hg hx
    obtain ⟨y6, y7, y8, e⟩ := walk_in hg hn hx x0 ps (acc ++ [rowD (k :: p) (g.part (k :: p)) (g.chance (k :: p))]) (some (encP p)) (some (x.2.part p).enc) (some (encQ (x.2.chance p))) (fun q hq => hp q (by simp [hq])) (by simp; omega)
    refine ⟨y6, y7, y8, ?_⟩
    have lp := (Game.part_ok hk hp1).2
    have sz := Game.chance_sz hk hp1
    have m1 : oMul (.int (x.2.chance p).num) (.int x.1) = some (.int ((x.2.chance p).num * x.1)) := oMul_ok (mulOk_r (by omega))
    have m2 : oMul (.int ((x.2.chance p).den : Nat)) (.int g.total) = some (.int (((x.2.chance p).den : Nat) * g.total)) := oMul_ok (mulOk_r (by omega))
    have dp := (x.2.chance p).den_pos
    have lo := low_ok (u := (x.2.chance p).num * x.1) (d := ((x.2.chance p).den : Nat) * g.total) (n := 1 + 5 * p.length + 5) (Int.mul_ne_zero (by omega) (by omega)) (abs_mul_lt (den_nat sz) (by show _ < 32; omega)) (by omega)
    have eq : Rat.divInt ((x.2.chance p).num * x.1) (((x.2.chance p).den : Nat) * g.total) = g.chance (k :: p) := by
      simp only [Game.chance, hx]
      conv => rhs; rw [← Rat.num_divInt_den (x.2.chance p)]
      rw [Rat.divInt_mul_divInt, Int.mul_comm, Int.mul_comm (g.total)]
    rw [eq] at lo
    have pe : g.part (k :: p) = x.2.part p := by simp only [Game.part, hx]
    have hz : acc.length + 1 ≤ sizeLine := Nat.le_trans (by omega) sizeLine_big
    have st : walkIn [x0, some (.lst acc), some (.int g.total), some (.int (k : Int)), some (.int x.1), some x.2.enc, some (encP p), some (x.2.part p).enc, some (encQ (x.2.chance p))]
        = .nx [x0, some (.lst (acc ++ [rowD (k :: p) (g.part (k :: p)) (g.chance (k :: p))])), some (.int g.total), some (.int (k : Int)), some (.int x.1), some x.2.enc, some (encP p), some (x.2.part p).enc, some (encQ (x.2.chance p))] := by
      simp only [walkIn, cat_path (k := k) (p := p) (by omega), oIx_q0, oIx_q1, m1, m2, lo, if_pos hz, rowD, pe, defD, args, dSeq, dSet, dSetP, dSetN, lstAt, dApp, dAppP, dAsg, dPar, dDrop, dWhile, dIfS, dRet, dB, dCall, dCons, dNil, dVar, dC, dBin, dChain, asB, dTru, dNotT, dAndT, dOrT, dAnd, dOr, dNot, dIf, dUn, dTup, dLst, dItems, dYes, R.bind, R.to, O.seq, outR, ofO, noErr, mask, Sm.putIn, bindPat, bindPats, itemsOf, tru, List.foldr_cons, List.foldr_nil, List.length_cons, List.length_nil, List.map_cons, List.map_nil, List.cons_append, List.nil_append, Nat.sub_self, List.replicate_zero, List.replicate_succ, List.getElem?_cons_succ, List.getElem?_cons_zero, List.set_cons_zero, List.set_cons_succ, Nat.reduceAdd, Nat.reduceSub, ↓reduceIte, Bool.not_true, Bool.not_false, Bool.and_true, Bool.true_and, Bool.false_and, Bool.and_false, if_true, if_false, Bool.false_eq_true, oNeg, oAddI, oSubI, oAdd_ii, oLt, oLe, oGt, oGe, Option.bind_some, Option.map_some]
    rw [List.map_cons]
    unfold forGo
    rw [show bindPat (.t [(.v 6), (.v 7), (.v 8)]) (rowD p (x.2.part p) (x.2.chance p)) [x0, some (.lst acc), some (.int g.total), some (.int (k : Int)), some (.int x.1), some x.2.enc, x6, x7, x8] = some [x0, some (.lst acc), some (.int g.total), some (.int (k : Int)), some (.int x.1), some x.2.enc, some (encP p), some (x.2.part p).enc, some (encQ (x.2.chance p))] from rfl]
    simp only [st, O.seq]
    rw [e, List.map_cons, List.append_assoc]
    rfl
def walkOut (self : List D → R D) : DS := dFor [1] (.t [(.v 6), (.v 7), (.v 8)]) (dItems (dCall self (dCons (dVar 5) dNil))) walkIn
theorem walk_out {n d : Nat} {g : Game} (hg : g.Ok (d + 1)) (hn : d < 6) (x0 : Option D) (ih : ∀ s : Game, s.Ok d → d__law_walk n [s.enc] = .ok (.lst (rowsD s))) : ∀ (ws : List (Int × Game)) (k : Nat) (acc : List D) (x3 x4 x5 x6 x7 x8 : Option D), (∀ i, (h : i < ws.length) → g.ways[k + i]? = some ws[i]) → acc.length + ws.length * 1000 ≤ 9000 →
    ∃ y3 y4 y5 y6 y7 y8, forGo (.t [(.v 3), (.t [(.v 4), (.v 5)])]) (walkOut (d__law_walk n)) (enumFrom k (encW ws)) [x0, some (.lst acc), some (.int g.total), x3, x4, x5, x6, x7, x8]
      = .nx [x0, some (.lst (acc ++ (Game.idxs k (ws.map fun p => p.2.paths)).map fun p => rowD p (g.part p) (g.chance p))), some (.int g.total), y3, y4, y5, y6, y7, y8]
  | [], k, acc, x3, x4, x5, x6, x7, x8, _, _ => ⟨x3, x4, x5, x6, x7, x8, by simp [encW, enumFrom, forGo, Game.idxs]⟩
  | x :: ws, k, acc, x3, x4, x5, x6, x7, x8, hw, hl => by
    rw [List.length_cons] at hl
    have hx : g.ways[k]? = some x := hw 0 (by simp)
    obtain ⟨t1, t2, a1, a2, hk⟩ := Game.total_at hg hx
    have hk : x.2.Ok d := hk
    have pl := Game.paths_len hk
    have hm : Game.most d ≤ 1000 := most_small (by omega)
    obtain ⟨y6, y7, y8, e1⟩ := walk_in hg (by omega) hx x0 x.2.paths acc x6 x7 x8 (fun p hp => (Game.mem_paths _ _).mp hp) (by omega)
    obtain ⟨z3, z4, z5, z6, z7, z8, e2⟩ := walk_out hg hn x0 ih ws (k + 1) (acc ++ x.2.paths.map fun p => rowD (k :: p) (g.part (k :: p)) (g.chance (k :: p))) (some (.int (k : Int))) (some (.int x.1)) (some x.2.enc) y6 y7 y8
      (fun i hi => by rw [show k + 1 + i = k + (i + 1) by omega]; exact hw (i + 1) (by simp; omega)) (by simp; omega)
    refine ⟨z3, z4, z5, z6, z7, z8, ?_⟩
    rw [show enumFrom k (encW (x :: ws)) = .tup [.int (k : Int), .tup [.int x.1, x.2.enc]] :: enumFrom (k + 1) (encW ws) from rfl]
    unfold forGo
    rw [show bindPat (.t [(.v 3), (.t [(.v 4), (.v 5)])]) (.tup [.int (k : Int), .tup [.int x.1, x.2.enc]]) [x0, some (.lst acc), some (.int g.total), x3, x4, x5, x6, x7, x8] = some [x0, some (.lst acc), some (.int g.total), some (.int (k : Int)), some (.int x.1), some x.2.enc, x6, x7, x8] from rfl]
    have st : walkOut (d__law_walk n) [x0, some (.lst acc), some (.int g.total), some (.int (k : Int)), some (.int x.1), some x.2.enc, x6, x7, x8] = .nx [x0, some (.lst (acc ++ x.2.paths.map fun p => rowD (k :: p) (g.part (k :: p)) (g.chance (k :: p)))), some (.int g.total), some (.int (k : Int)), some (.int x.1), some x.2.enc, y6, y7, y8] := by
      unfold walkOut dFor
      simp only [ih x.2 hk, defD, args, dSeq, dSet, dSetP, dSetN, lstAt, dApp, dAppP, dAsg, dPar, dDrop, dWhile, dIfS, dRet, dB, dCall, dCons, dNil, dVar, dC, dBin, dChain, asB, dTru, dNotT, dAndT, dOrT, dAnd, dOr, dNot, dIf, dUn, dTup, dLst, dItems, dYes, R.bind, R.to, O.seq, outR, ofO, noErr, mask, Sm.putIn, bindPat, bindPats, itemsOf, tru, List.foldr_cons, List.foldr_nil, List.length_cons, List.length_nil, List.map_cons, List.map_nil, List.cons_append, List.nil_append, Nat.sub_self, List.replicate_zero, List.replicate_succ, List.getElem?_cons_succ, List.getElem?_cons_zero, List.set_cons_zero, List.set_cons_succ, Nat.reduceAdd, Nat.reduceSub, ↓reduceIte, Bool.not_true, Bool.not_false, Bool.and_true, Bool.true_and, Bool.false_and, Bool.and_false, if_true, if_false, Bool.false_eq_true, oNeg, oAddI, oSubI, oAdd_ii, oLt, oLe, oGt, oGe, Option.bind_some, Option.map_some]
      exact e1
    simp only [st, O.seq]
    rw [e2]
    simp only [Game.idxs, List.map_cons, List.map_append, List.map_map, List.append_assoc]
    rfl
theorem ints_map {α : Type} (f : α → Int) (l : List α) : intsOf (l.map fun x => D.int (f x)) = some (l.map f) := by
  induction l with
  | nil => rfl
  | cons a l ih => simp only [List.map_cons, intsOf, ih, Option.map_some]
theorem walk_ok : ∀ (n d : Nat), d ≤ n → d ≤ 6 → ∀ g : Game, g.Ok d → d__law_walk n [g.enc] = .ok (.lst (rowsD g))
  | _, 0, _, _, _, h => h.elim
  | 0, d + 1, hd, _, _, _ => by omega
  | n + 1, d + 1, hd, hn, g, h => by
    have ih := walk_ok n d (by omega) (by omega)
    have hl : g.ways.length ≤ 3 := by cases g with | node w ws => exact h.2.1
    obtain ⟨y3, y4, y5, y6, y7, y8, e⟩ := walk_out h (by omega) (some g.enc) ih g.ways 0 [rowD [] g 1] none none none none none none (fun i hi => by rw [Nat.zero_add]; exact List.getElem?_eq_getElem hi) (by simp; omega)
    refine defD_eq rfl ?_
    unfold b__law_walk
    refine out_seq (ρ1 := [some g.enc, some (.lst [rowD [] g 1]), none, none, none, none, none, none, none]) ?_ ?_
    · simp only [rowD, encP, encQ, defD, args, dSeq, dSet, dSetP, dSetN, lstAt, dApp, dAppP, dAsg, dPar, dDrop, dWhile, dIfS, dRet, dB, dCall, dCons, dNil, dVar, dC, dBin, dChain, asB, dTru, dNotT, dAndT, dOrT, dAnd, dOr, dNot, dIf, dUn, dTup, dLst, dItems, dYes, R.bind, R.to, O.seq, outR, ofO, noErr, mask, Sm.putIn, bindPat, bindPats, itemsOf, tru, List.foldr_cons, List.foldr_nil, List.length_cons, List.length_nil, List.map_cons, List.map_nil, List.cons_append, List.nil_append, Nat.sub_self, List.replicate_zero, List.replicate_succ, List.getElem?_cons_succ, List.getElem?_cons_zero, List.set_cons_zero, List.set_cons_succ, Nat.reduceAdd, Nat.reduceSub, ↓reduceIte, Bool.not_true, Bool.not_false, Bool.and_true, Bool.true_and, Bool.false_and, Bool.and_false, if_true, if_false, Bool.false_eq_true, oNeg, oAddI, oSubI, oAdd_ii, oLt, oLe, oGt, oGe, Option.bind_some, Option.map_some]
      rfl
    refine out_seq (ρ1 := [some g.enc, some (.lst [rowD [] g 1]), some (.int g.total), none, none, none, none, none, none]) ?_ ?_
    · refine set_nx ?_
      have lc : dLcs [4, 5] (.t [(.v 4), (.v 5)]) (dItems (dCall d__law_ways (dCons (dVar 0) dNil))) dYes (dVar 4) [some g.enc, none, none, none, none, none, none, none, none] = .ok (g.ways.map fun p => D.int p.1) :=
        lc_ok1 (enc := fun p : Int × Game => D.tup [.int p.1, p.2.enc]) _ (by simp only [lways_ok, encW, defD, args, dSeq, dSet, dSetP, dSetN, lstAt, dApp, dAppP, dAsg, dPar, dDrop, dWhile, dIfS, dRet, dB, dCall, dCons, dNil, dVar, dC, dBin, dChain, asB, dTru, dNotT, dAndT, dOrT, dAnd, dOr, dNot, dIf, dUn, dTup, dLst, dItems, dYes, R.bind, R.to, O.seq, outR, ofO, noErr, mask, Sm.putIn, bindPat, bindPats, itemsOf, tru, List.foldr_cons, List.foldr_nil, List.length_cons, List.length_nil, List.map_cons, List.map_nil, List.cons_append, List.nil_append, Nat.sub_self, List.replicate_zero, List.replicate_succ, List.getElem?_cons_succ, List.getElem?_cons_zero, List.set_cons_zero, List.set_cons_succ, Nat.reduceAdd, Nat.reduceSub, ↓reduceIte, Bool.not_true, Bool.not_false, Bool.and_true, Bool.true_and, Bool.false_and, Bool.and_false, if_true, if_false, Bool.false_eq_true, oNeg, oAddI, oSubI, oAdd_ii, oLt, oLe, oGt, oGe, Option.bind_some, Option.map_some]) fun p hp => ⟨_, rfl, rfl⟩
      have im := ints_map (fun p : Int × Game => p.1) g.ways
      generalize (g.ways.map fun p => D.int p.1) = L at *
      simp only [dLc, lc, oSum, im, Game.total, defD, args, dSeq, dSet, dSetP, dSetN, lstAt, dApp, dAppP, dAsg, dPar, dDrop, dWhile, dIfS, dRet, dB, dCall, dCons, dNil, dVar, dC, dBin, dChain, asB, dTru, dNotT, dAndT, dOrT, dAnd, dOr, dNot, dIf, dUn, dTup, dLst, dItems, dYes, R.bind, R.to, O.seq, outR, ofO, noErr, mask, Sm.putIn, bindPat, bindPats, itemsOf, tru, List.foldr_cons, List.foldr_nil, List.length_cons, List.length_nil, List.map_cons, List.map_nil, List.cons_append, List.nil_append, Nat.sub_self, List.replicate_zero, List.replicate_succ, List.getElem?_cons_succ, List.getElem?_cons_zero, List.set_cons_zero, List.set_cons_succ, Nat.reduceAdd, Nat.reduceSub, ↓reduceIte, Bool.not_true, Bool.not_false, Bool.and_true, Bool.true_and, Bool.false_and, Bool.and_false, if_true, if_false, Bool.false_eq_true, oNeg, oAddI, oSubI, oAdd_ii, oLt, oLe, oGt, oGe, Option.bind_some, Option.map_some]
    refine out_seq (ρ1 := [some g.enc, some (.lst ([rowD [] g 1] ++ (Game.idxs 0 (g.ways.map fun p => p.2.paths)).map fun p => rowD p (g.part p) (g.chance p))), some (.int g.total), y3, y4, y5, y6, y7, y8]) ?_ (ret_of ?_)
    · unfold dFor
      rw [enum_it (ds := encW g.ways) (by simp only [lways_ok, defD, args, dSeq, dSet, dSetP, dSetN, lstAt, dApp, dAppP, dAsg, dPar, dDrop, dWhile, dIfS, dRet, dB, dCall, dCons, dNil, dVar, dC, dBin, dChain, asB, dTru, dNotT, dAndT, dOrT, dAnd, dOr, dNot, dIf, dUn, dTup, dLst, dItems, dYes, R.bind, R.to, O.seq, outR, ofO, noErr, mask, Sm.putIn, bindPat, bindPats, itemsOf, tru, List.foldr_cons, List.foldr_nil, List.length_cons, List.length_nil, List.map_cons, List.map_nil, List.cons_append, List.nil_append, Nat.sub_self, List.replicate_zero, List.replicate_succ, List.getElem?_cons_succ, List.getElem?_cons_zero, List.set_cons_zero, List.set_cons_succ, Nat.reduceAdd, Nat.reduceSub, ↓reduceIte, Bool.not_true, Bool.not_false, Bool.and_true, Bool.true_and, Bool.false_and, Bool.and_false, if_true, if_false, Bool.false_eq_true, oNeg, oAddI, oSubI, oAdd_ii, oLt, oLe, oGt, oGe, Option.bind_some, Option.map_some])]
      exact e
    · simp only [dVar, List.getElem?_cons_succ, List.getElem?_cons_zero]
      cases g with
      | node w ws => simp only [rowsD, Game.paths, List.map_cons, Game.ways]; rfl
end Kx
namespace Sm
def Game.Fair : Nat → Game → Prop
  | 0, _ => True
  | n + 1, .node w ws => (ws.map fun p => p.1 * (p.2.worth - w)).sum = 0 ∧ ∀ p ∈ ws, Game.Fair n p.2
def Game.Steps : Nat → Game → Prop
  | 0, _ => True
  | n + 1, .node w ws => ∀ p ∈ ws, (-3 ≤ p.2.worth - w ∧ p.2.worth - w ≤ 3) ∧ Game.Steps n p.2
end Sm
namespace Kx
open PySem PySem.Spec L2 Sm
def prD (x : Int × Int) : D := .tup [.int x.1, .int x.2]
theorem pickD {pk : Nat → Int → Int} (ok : PkOk pk) {i m : Int} (hi : 0 ≤ i) (hm : 0 < m) : ∃ r, dPick pk [.scr0, .int i, .int m] = .ok (.int r) ∧ 0 ≤ r ∧ r < m := by
  refine ⟨pk i.toNat m, ?_, (ok _ _ hm).1, (ok _ _ hm).2⟩
  simp only [dPick]
  rw [if_pos ⟨hi, hm⟩]
theorem many_ok {p : Int} (h : 0 ≤ p ∧ p < 5) : ∃ m : Nat, m ≤ 3 ∧ oIx (.lst [.int 0, .int 1, .int 2, .int 2, .int 3]) (.int p) = some (.int (m : Int)) := by
  have : p = 0 ∨ p = 1 ∨ p = 2 ∨ p = 3 ∨ p = 4 := by omega
  rcases this with rfl | rfl | rfl | rfl | rfl
  · exact ⟨0, by omega, rfl⟩
  · exact ⟨1, by omega, rfl⟩
  · exact ⟨2, by omega, rfl⟩
  · exact ⟨2, by omega, rfl⟩
  · exact ⟨3, by omega, rfl⟩
structure Rows (m : Nat) (even : Bool) (rs : List (Int × Int)) : Prop where
  len : rs.length = m
  bd : ∀ x ∈ rs, (1 ≤ x.1 ∧ x.1 ≤ 9) ∧ (-3 ≤ x.2 ∧ x.2 ≤ 3)
  fair : even = true → (rs.map fun x => x.1 * x.2).sum = 0
theorem Rows.rev {m : Nat} {even : Bool} {rs : List (Int × Int)} (h : Rows m even rs) : Rows m even rs.reverse where
  len := by rw [List.length_reverse]; exact h.len
  bd := fun x hx => h.bd x (List.mem_reverse.mp hx)
  fair := fun e => by
    rw [List.map_reverse, List.sum_reverse]; exact h.fair e
def rowsS (pk : Nat → Int → Int) : DS := (dIfS (dTru (dVar 4)) (dSeq (dPar [7] 12 13 (dCons (dBin oAdd (dC (.int 1)) (dCall (dPick pk) (dCons (dVar 0) (dCons (dBin oAdd (dVar 5) (dC (.int 1))) (dCons (dC (.int 3)) dNil))))) (dCons (dBin oAdd (dC (.int 1)) (dCall (dPick pk) (dCons (dVar 0) (dCons (dBin oAdd (dVar 5) (dC (.int 2))) (dCons (dC (.int 3)) dNil))))) dNil)))
    (dSeq (dSetN [7] 7 (dCons (dTup (dCons (dVar 13) (dCons (dVar 12) dNil))) (dCons (dTup (dCons (dVar 12) (dCons (dBin oSubI (dC (.int 0)) (dVar 13)) dNil))) (dCons (dTup (dCons (dBin oAdd (dC (.int 1)) (dCall (dPick pk) (dCons (dVar 0) (dCons (dBin oAdd (dVar 5) (dC (.int 3))) (dCons (dC (.int 9)) dNil))))) (dCons (dC (.int 0)) dNil))) dNil))))
    (dSet [] 7 (dIf (asB (dBin oEq (dVar 6) (dC (.int 1)))) (dSl (dVar 7) (dSo (dC (.int 2))) dNo) (dSl (dVar 7) dNo (dSo (dVar 6))))))) (dFor [7] (.v 9) (dRng rng1 (dCons (dVar 6) dNil)) (dApp [7] 7 (dTup (dCons (dBin oAdd (dC (.int 1)) (dCall (dPick pk) (dCons (dVar 0) (dCons (dBin oAdd (dBin oAdd (dVar 5) (dC (.int 5))) (dVar 9)) (dCons (dC (.int 9)) dNil))))) (dCons (dBin oSubI (dCall (dPick pk) (dCons (dVar 0) (dCons (dBin oAdd (dBin oAdd (dVar 5) (dC (.int 8))) (dVar 9)) (dCons (dC (.int 7)) dNil)))) (dC (.int 3))) dNil))))))
def PickS (pk : Nat → Int → Int) (S : D) : Prop := ∀ {i m : Int}, 0 ≤ i → 0 < m → ∃ r, dPick pk [S, .int i, .int m] = .ok (.int r) ∧ 0 ≤ r ∧ r < m
theorem pickS0 {pk : Nat → Int → Int} (ok : PkOk pk) : PickS pk .scr0 := fun hi hm => pickD ok hi hm
theorem rows_okS {pk : Nat → Int → Int} {S : D} (ok : PickS pk S) (x1 x2 x3 : Option D) (even : Bool) {base : Int} (hb : 0 ≤ base) {m : Nat} (hm : 1 ≤ m ∧ m ≤ 3) :
    ∃ rs y9 y12 y13, Rows m even rs ∧ rowsS pk [some S, x1, x2, x3, some (.bl even), some (.int base), some (.int (m : Int)), some (.lst []), none, none, none, none, none, none] = .nx [some S, x1, x2, x3, some (.bl even), some (.int base), some (.int (m : Int)), some (.lst (rs.map prD)), none, y9, none, none, y12, y13] := by
  cases even with
  | true =>
    obtain ⟨a, ea, a1, a2⟩ := ok (i := base + 1) (m := 3) (by omega) (by decide)
    obtain ⟨b, eb, b1, b2⟩ := ok (i := base + 2) (m := 3) (by omega) (by decide)
    obtain ⟨c, ec, c1, c2⟩ := ok (i := base + 3) (m := 9) (by omega) (by decide)
    have : m = 1 ∨ m = 2 ∨ m = 3 := by omega
    rcases this with rfl | rfl | rfl
    · refine ⟨[(1 + c, 0)], none, some (.int (1 + a)), some (.int (1 + b)), ⟨rfl, by simp; omega, fun _ => by simp⟩, ?_⟩
      simp only [rowsS, ea, eb, ec, oEq_int, dSl, dSo, dNo, oSl, defD, args, dSeq, dSet, dSetP, dSetN, lstAt, dApp, dAppP, dAsg, dPar, dDrop, dWhile, dIfS, dRet, dB, dCall, dCons, dNil, dVar, dC, dBin, dChain, asB, dTru, dNotT, dAndT, dOrT, dAnd, dOr, dNot, dIf, dUn, dTup, dLst, dItems, dYes, R.bind, R.to, O.seq, outR, ofO, noErr, mask, Sm.putIn, bindPat, bindPats, itemsOf, tru, List.foldr_cons, List.foldr_nil, List.length_cons, List.length_nil, List.map_cons, List.map_nil, List.cons_append, List.nil_append, Nat.sub_self, List.replicate_zero, List.replicate_succ, List.getElem?_cons_succ, List.getElem?_cons_zero, List.set_cons_zero, List.set_cons_succ, Nat.reduceAdd, Nat.reduceSub, ↓reduceIte, Bool.not_true, Bool.not_false, Bool.and_true, Bool.true_and, Bool.false_and, Bool.and_false, if_true, if_false, Bool.false_eq_true, oNeg, oAddI, oSubI, oAdd_ii, oLt, oLe, oGt, oGe, Option.bind_some, Option.map_some]
      rfl
    · refine ⟨[(1 + b, 1 + a), (1 + a, 0 - (1 + b))], none, some (.int (1 + a)), some (.int (1 + b)), ⟨rfl, by simp; omega, fun _ => by simp; grind⟩, ?_⟩
      simp only [rowsS, ea, eb, ec, oEq_int, dSl, dSo, dNo, oSl, defD, args, dSeq, dSet, dSetP, dSetN, lstAt, dApp, dAppP, dAsg, dPar, dDrop, dWhile, dIfS, dRet, dB, dCall, dCons, dNil, dVar, dC, dBin, dChain, asB, dTru, dNotT, dAndT, dOrT, dAnd, dOr, dNot, dIf, dUn, dTup, dLst, dItems, dYes, R.bind, R.to, O.seq, outR, ofO, noErr, mask, Sm.putIn, bindPat, bindPats, itemsOf, tru, List.foldr_cons, List.foldr_nil, List.length_cons, List.length_nil, List.map_cons, List.map_nil, List.cons_append, List.nil_append, Nat.sub_self, List.replicate_zero, List.replicate_succ, List.getElem?_cons_succ, List.getElem?_cons_zero, List.set_cons_zero, List.set_cons_succ, Nat.reduceAdd, Nat.reduceSub, ↓reduceIte, Bool.not_true, Bool.not_false, Bool.and_true, Bool.true_and, Bool.false_and, Bool.and_false, if_true, if_false, Bool.false_eq_true, oNeg, oAddI, oSubI, oAdd_ii, oLt, oLe, oGt, oGe, Option.bind_some, Option.map_some]
      rfl
    · refine ⟨[(1 + b, 1 + a), (1 + a, 0 - (1 + b)), (1 + c, 0)], none, some (.int (1 + a)), some (.int (1 + b)), ⟨rfl, by simp; omega, fun _ => by simp; grind⟩, ?_⟩
      simp only [rowsS, ea, eb, ec, oEq_int, dSl, dSo, dNo, oSl, defD, args, dSeq, dSet, dSetP, dSetN, lstAt, dApp, dAppP, dAsg, dPar, dDrop, dWhile, dIfS, dRet, dB, dCall, dCons, dNil, dVar, dC, dBin, dChain, asB, dTru, dNotT, dAndT, dOrT, dAnd, dOr, dNot, dIf, dUn, dTup, dLst, dItems, dYes, R.bind, R.to, O.seq, outR, ofO, noErr, mask, Sm.putIn, bindPat, bindPats, itemsOf, tru, List.foldr_cons, List.foldr_nil, List.length_cons, List.length_nil, List.map_cons, List.map_nil, List.cons_append, List.nil_append, Nat.sub_self, List.replicate_zero, List.replicate_succ, List.getElem?_cons_succ, List.getElem?_cons_zero, List.set_cons_zero, List.set_cons_succ, Nat.reduceAdd, Nat.reduceSub, ↓reduceIte, Bool.not_true, Bool.not_false, Bool.and_true, Bool.true_and, Bool.false_and, Bool.and_false, if_true, if_false, Bool.false_eq_true, oNeg, oAddI, oSubI, oAdd_ii, oLt, oLe, oGt, oGe, Option.bind_some, Option.map_some]
      rfl
  | false =>
    have lp : ∀ (l : List Nat) (acc : List (Int × Int)) (x9 : Option D), acc.length + l.length ≤ 10 → (∀ x ∈ acc, (1 ≤ x.1 ∧ x.1 ≤ 9) ∧ (-3 ≤ x.2 ∧ x.2 ≤ 3)) →
        ∃ (rs : List (Int × Int)) (y9 : Option D), rs.length = acc.length + l.length ∧ (∀ x ∈ rs, (1 ≤ x.1 ∧ x.1 ≤ 9) ∧ (-3 ≤ x.2 ∧ x.2 ≤ 3)) ∧ forGo (.v 9) (dApp [7] 7 (dTup (dCons (dBin oAdd (dC (.int 1)) (dCall (dPick pk) (dCons (dVar 0) (dCons (dBin oAdd (dBin oAdd (dVar 5) (dC (.int 5))) (dVar 9)) (dCons (dC (.int 9)) dNil))))) (dCons (dBin oSubI (dCall (dPick pk) (dCons (dVar 0) (dCons (dBin oAdd (dBin oAdd (dVar 5) (dC (.int 8))) (dVar 9)) (dCons (dC (.int 7)) dNil)))) (dC (.int 3))) dNil)))) (l.map fun i => D.int ((i : Nat) : Int)) [some S, x1, x2, x3, some (.bl false), some (.int base), some (.int (m : Int)), some (.lst (acc.map prD)), none, x9, none, none, none, none]
          = .nx [some S, x1, x2, x3, some (.bl false), some (.int base), some (.int (m : Int)), some (.lst (rs.map prD)), none, y9, none, none, none, none] := by
      intro l
      induction l with
      | nil => intro acc x9 _ h; exact ⟨acc, x9, by simp, h, rfl⟩
      | cons i l ih =>
        intro acc x9 hl h
        rw [List.length_cons] at hl
        obtain ⟨a, ea, a1, a2⟩ := ok (i := base + 5 + (i : Int)) (m := 9) (by omega) (by decide)
        obtain ⟨b, eb, b1, b2⟩ := ok (i := base + 8 + (i : Int)) (m := 7) (by omega) (by decide)
        obtain ⟨rs, y9, r1, r2, r3⟩ := ih (acc ++ [(1 + a, b - 3)]) (some (.int (i : Int))) (by simp; omega) (by
          intro x hx
          rcases List.mem_append.mp hx with hx | hx
          · exact h x hx
          · simp at hx; subst hx; simp; omega)
        refine ⟨rs, y9, by rw [r1]; simp; omega, r2, ?_⟩
        have hz : (acc.map prD).length + 1 ≤ sizeLine := by rw [List.length_map]; exact Nat.le_trans (by omega) sizeLine_big
        rw [List.map_append] at r3
        simp only [List.map_cons, forGo, ea, eb, if_pos hz, defD, args, dSeq, dSet, dSetP, dSetN, lstAt, dApp, dAppP, dAsg, dPar, dDrop, dWhile, dIfS, dRet, dB, dCall, dCons, dNil, dVar, dC, dBin, dChain, asB, dTru, dNotT, dAndT, dOrT, dAnd, dOr, dNot, dIf, dUn, dTup, dLst, dItems, dYes, R.bind, R.to, O.seq, outR, ofO, noErr, mask, Sm.putIn, bindPat, bindPats, itemsOf, tru, List.foldr_cons, List.foldr_nil, List.length_cons, List.length_nil, List.map_cons, List.map_nil, List.cons_append, List.nil_append, Nat.sub_self, List.replicate_zero, List.replicate_succ, List.getElem?_cons_succ, List.getElem?_cons_zero, List.set_cons_zero, List.set_cons_succ, Nat.reduceAdd, Nat.reduceSub, ↓reduceIte, Bool.not_true, Bool.not_false, Bool.and_true, Bool.true_and, Bool.false_and, Bool.and_false, if_true, if_false, Bool.false_eq_true, oNeg, oAddI, oSubI, oAdd_ii, oLt, oLe, oGt, oGe, Option.bind_some, Option.map_some]
        exact r3
    obtain ⟨rs, y9, r1, r2, r3⟩ := lp (List.range m) [] none (by simp; omega) (by simp)
    refine ⟨rs, y9, none, none, ⟨by simpa using r1, r2, fun h => nomatch h⟩, ?_⟩
    refine ifs_f (by simp only [defD, args, dSeq, dSet, dSetP, dSetN, lstAt, dApp, dAppP, dAsg, dPar, dDrop, dWhile, dIfS, dRet, dB, dCall, dCons, dNil, dVar, dC, dBin, dChain, asB, dTru, dNotT, dAndT, dOrT, dAnd, dOr, dNot, dIf, dUn, dTup, dLst, dItems, dYes, R.bind, R.to, O.seq, outR, ofO, noErr, mask, Sm.putIn, bindPat, bindPats, itemsOf, tru, List.foldr_cons, List.foldr_nil, List.length_cons, List.length_nil, List.map_cons, List.map_nil, List.cons_append, List.nil_append, Nat.sub_self, List.replicate_zero, List.replicate_succ, List.getElem?_cons_succ, List.getElem?_cons_zero, List.set_cons_zero, List.set_cons_succ, Nat.reduceAdd, Nat.reduceSub, ↓reduceIte, Bool.not_true, Bool.not_false, Bool.and_true, Bool.true_and, Bool.false_and, Bool.and_false, if_true, if_false, Bool.false_eq_true, oNeg, oAddI, oSubI, oAdd_ii, oLt, oLe, oGt, oGe, Option.bind_some, Option.map_some]) ?_
    unfold dFor
    rw [rng1_it (n := m) (by simp only [defD, args, dSeq, dSet, dSetP, dSetN, lstAt, dApp, dAppP, dAsg, dPar, dDrop, dWhile, dIfS, dRet, dB, dCall, dCons, dNil, dVar, dC, dBin, dChain, asB, dTru, dNotT, dAndT, dOrT, dAnd, dOr, dNot, dIf, dUn, dTup, dLst, dItems, dYes, R.bind, R.to, O.seq, outR, ofO, noErr, mask, Sm.putIn, bindPat, bindPats, itemsOf, tru, List.foldr_cons, List.foldr_nil, List.length_cons, List.length_nil, List.map_cons, List.map_nil, List.cons_append, List.nil_append, Nat.sub_self, List.replicate_zero, List.replicate_succ, List.getElem?_cons_succ, List.getElem?_cons_zero, List.set_cons_zero, List.set_cons_succ, Nat.reduceAdd, Nat.reduceSub, ↓reduceIte, Bool.not_true, Bool.not_false, Bool.and_true, Bool.true_and, Bool.false_and, Bool.and_false, if_true, if_false, Bool.false_eq_true, oNeg, oAddI, oSubI, oAdd_ii, oLt, oLe, oGt, oGe, Option.bind_some, Option.map_some]) (by omega)]
    exact r3
def subsS (self : List D → R D) : DS := (dApp [8] 8 (dTup (dCons (dVar 10) (dCons (dCall self (dCons (dVar 0) (dCons (dBin oAdd (dBin oAdd (dBin oMul (dC (.int 4)) (dVar 1)) (dC (.int 1))) (dVar 9)) (dCons (dBin oAdd (dVar 2) (dVar 11)) (dCons (dBin oSubI (dVar 3) (dC (.int 1))) (dCons (dVar 4) dNil)))))) dNil))))
structure Drawn (deep : Nat) (top : Int) (even : Bool) (g : Game) : Prop where
  ok : g.Ok deep
  worth : g.worth = top
  fair : even = true → g.Fair deep
  steps : g.Steps deep
theorem subs_okS {pk : Nat → Int → Int} {S : D} {n deep : Nat} {at_ : Nat} {top : Int} {even : Bool} (x5 x6 x7 x12 x13 : Option D)
    (ih : ∀ (k : Nat) (t : Int), 2 ≤ k → (t.natAbs : Int) + 3 * ((deep : Int) - 1) ≤ 20 → ∃ g, d__law_game pk n [S, .int (k : Int), .int t, .int (deep : Int), .bl even] = .ok g.enc ∧ Drawn deep t even g) (hat : 1 ≤ at_) (ht : (top.natAbs : Int) + 3 * (deep : Int) ≤ 20) :
    ∀ (rs : List (Int × Int)) (k : Nat) (acc : List (Int × Game)) (x9 x10 x11 : Option D), (∀ x ∈ rs, (1 ≤ x.1 ∧ x.1 ≤ 9) ∧ (-3 ≤ x.2 ∧ x.2 ≤ 3)) → acc.length + rs.length ≤ 10 →
    ∃ (ws : List (Int × Game)) (y9 y10 y11 : Option D), ws.map (fun p => (p.1, p.2.worth - top)) = rs ∧ (∀ p ∈ ws, Drawn deep p.2.worth even p.2) ∧
      forGo (.t [(.v 9), (.t [(.v 10), (.v 11)])]) (subsS (d__law_game pk n)) (enumFrom k (rs.map prD)) [some S, some (.int (at_ : Int)), some (.int top), some (.int ((deep : Int) + 1)), some (.bl even), x5, x6, x7, some (.lst (encW acc)), x9, x10, x11, x12, x13]
        = .nx [some S, some (.int (at_ : Int)), some (.int top), some (.int ((deep : Int) + 1)), some (.bl even), x5, x6, x7, some (.lst (encW (acc ++ ws))), y9, y10, y11, x12, x13]
  | [], k, acc, x9, x10, x11, _, _ => ⟨[], x9, x10, x11, rfl, by simp, by simp [enumFrom, forGo]⟩
  | x :: rs, k, acc, x9, x10, x11, hb, hl => by
    rw [List.length_cons] at hl
    have hx := hb x (by simp)
    obtain ⟨g, eg, dg⟩ := ih (4 * at_ + 1 + k) (top + x.2) (by omega) (by omega)
    obtain ⟨ws, y9, y10, y11, e1, e2, e3⟩ := subs_okS x5 x6 x7 x12 x13 ih hat ht rs (k + 1) (acc ++ [(x.1, g)]) (some (.int (k : Int))) (some (.int x.1)) (some (.int x.2)) (fun y hy => hb y (by simp [hy])) (by simp; omega)
    refine ⟨(x.1, g) :: ws, y9, y10, y11, ?_, ?_, ?_⟩
    · rw [List.map_cons, e1, dg.worth]
      rw [show top + x.2 - top = x.2 by omega]
    · intro p hp
      rcases List.mem_cons.mp hp with rfl | hp
      · show Drawn deep g.worth even g
        rw [dg.worth]; exact dg
      · exact e2 p hp
    · rw [show enumFrom k ((x :: rs).map prD) = .tup [.int (k : Int), .tup [.int x.1, .int x.2]] :: enumFrom (k + 1) (rs.map prD) from rfl]
      unfold forGo
      rw [show bindPat (.t [(.v 9), (.t [(.v 10), (.v 11)])]) (.tup [.int (k : Int), .tup [.int x.1, .int x.2]]) [some S, some (.int (at_ : Int)), some (.int top), some (.int ((deep : Int) + 1)), some (.bl even), x5, x6, x7, some (.lst (encW acc)), x9, x10, x11, x12, x13]
        = some [some S, some (.int (at_ : Int)), some (.int top), some (.int ((deep : Int) + 1)), some (.bl even), x5, x6, x7, some (.lst (encW acc)), some (.int (k : Int)), some (.int x.1), some (.int x.2), x12, x13] from rfl]
      have m1 : oMul (.int 4) (.int (at_ : Int)) = some (.int (4 * (at_ : Int))) := oMul_ok (mulOk_l (by decide))
      have hz : (encW acc).length + 1 ≤ sizeLine := by unfold encW; rw [List.length_map]; exact Nat.le_trans (by omega) sizeLine_big
      rw [show ((4 * at_ + 1 + k : Nat) : Int) = 4 * (at_ : Int) + 1 + (k : Int) by omega] at eg
      have st : subsS (d__law_game pk n) [some S, some (.int (at_ : Int)), some (.int top), some (.int ((deep : Int) + 1)), some (.bl even), x5, x6, x7, some (.lst (encW acc)), some (.int (k : Int)), some (.int x.1), some (.int x.2), x12, x13]
          = .nx [some S, some (.int (at_ : Int)), some (.int top), some (.int ((deep : Int) + 1)), some (.bl even), x5, x6, x7, some (.lst (encW (acc ++ [(x.1, g)]))), some (.int (k : Int)), some (.int x.1), some (.int x.2), x12, x13] := by
        rw [show encW (acc ++ [(x.1, g)]) = encW acc ++ [.tup [.int x.1, g.enc]] by simp [encW]]
        simp only [subsS, m1, show (deep : Int) + 1 - 1 = (deep : Int) by omega, eg, if_pos hz, defD, args, dSeq, dSet, dSetP, dSetN, lstAt, dApp, dAppP, dAsg, dPar, dDrop, dWhile, dIfS, dRet, dB, dCall, dCons, dNil, dVar, dC, dBin, dChain, asB, dTru, dNotT, dAndT, dOrT, dAnd, dOr, dNot, dIf, dUn, dTup, dLst, dItems, dYes, R.bind, R.to, O.seq, outR, ofO, noErr, mask, Sm.putIn, bindPat, bindPats, itemsOf, tru, List.foldr_cons, List.foldr_nil, List.length_cons, List.length_nil, List.map_cons, List.map_nil, List.cons_append, List.nil_append, Nat.sub_self, List.replicate_zero, List.replicate_succ, List.getElem?_cons_succ, List.getElem?_cons_zero, List.set_cons_zero, List.set_cons_succ, Nat.reduceAdd, Nat.reduceSub, ↓reduceIte, Bool.not_true, Bool.not_false, Bool.and_true, Bool.true_and, Bool.false_and, Bool.and_false, if_true, if_false, Bool.false_eq_true, oNeg, oAddI, oSubI, oAdd_ii, oLt, oLe, oGt, oGe, Option.bind_some, Option.map_some]
      simp only [st, O.seq]
      rw [e3, List.append_assoc]
      rfl
theorem game_drawnS {pk : Nat → Int → Int} {S : D} (ok : PickS pk S) (even : Bool) : ∀ (deep n : Nat) (at_ : Nat) (top : Int), 1 ≤ deep → deep ≤ n → 1 ≤ at_ → (top.natAbs : Int) + 3 * ((deep : Int) - 1) ≤ 20 →
    ∃ g, d__law_game pk n [S, .int (at_ : Int), .int top, .int (deep : Int), .bl even] = .ok g.enc ∧ Drawn deep top even g ∧ (at_ = 1 → 2 ≤ deep → g.ways ≠ [])
  | 0, _, _, _, h, _, _, _ => by omega
  | deep + 1, 0, _, _, _, h, _, _ => by omega
  | deep + 1, n + 1, at_, top, _, hn, hat, ht => by
    obtain ⟨p, ep, p1, p2⟩ := ok (i := 20 * (at_ : Int)) (m := 5) (by omega) (by decide)
    obtain ⟨m0, hm0, e0⟩ := many_ok ⟨p1, p2⟩
    have m1 : oMul (.int 20) (.int (at_ : Int)) = some (.int (20 * (at_ : Int))) := oMul_ok (mulOk_l (by decide))
    obtain ⟨m, hm, hm1, st3⟩ : ∃ m : Nat, m ≤ 3 ∧ (at_ = 1 → 1 ≤ m) ∧ dIfS (asB (dBin oEq (dVar 1) (dC (.int 1)))) (dSet [] 6 (dB oMax2 (dCons (dC (.int 1)) (dCons (dVar 6) dNil)))) .nx [some S, some (.int (at_ : Int)), some (.int top), some (.int ((deep + 1 : Nat) : Int)), some (.bl even), some (.int (20 * (at_ : Int))), some (.int (m0 : Int)), none, none, none, none, none, none, none]
        = .nx [some S, some (.int (at_ : Int)), some (.int top), some (.int ((deep + 1 : Nat) : Int)), some (.bl even), some (.int (20 * (at_ : Int))), some (.int (m : Int)), none, none, none, none, none, none, none] := by
      by_cases ha : at_ = 1
      · have hb : ((at_ : Int) == 1) = true := by simp; omega
        refine ⟨max 1 m0, by omega, fun _ => by omega, ?_⟩
        have : (if (m0 : Int) > 1 then (m0 : Int) else 1) = ((max 1 m0 : Nat) : Int) := by split <;> omega
        simp only [oEq_int, hb, oMax2, this, defD, args, dSeq, dSet, dSetP, dSetN, lstAt, dApp, dAppP, dAsg, dPar, dDrop, dWhile, dIfS, dRet, dB, dCall, dCons, dNil, dVar, dC, dBin, dChain, asB, dTru, dNotT, dAndT, dOrT, dAnd, dOr, dNot, dIf, dUn, dTup, dLst, dItems, dYes, R.bind, R.to, O.seq, outR, ofO, noErr, mask, Sm.putIn, bindPat, bindPats, itemsOf, tru, List.foldr_cons, List.foldr_nil, List.length_cons, List.length_nil, List.map_cons, List.map_nil, List.cons_append, List.nil_append, Nat.sub_self, List.replicate_zero, List.replicate_succ, List.getElem?_cons_succ, List.getElem?_cons_zero, List.set_cons_zero, List.set_cons_succ, Nat.reduceAdd, Nat.reduceSub, ↓reduceIte, Bool.not_true, Bool.not_false, Bool.and_true, Bool.true_and, Bool.false_and, Bool.and_false, if_true, if_false, Bool.false_eq_true, oNeg, oAddI, oSubI, oAdd_ii, oLt, oLe, oGt, oGe, Option.bind_some, Option.map_some]
      · have hb : ((at_ : Int) == 1) = false := by simp; omega
        exact ⟨m0, hm0, fun h => absurd h ha, by simp only [oEq_int, hb, defD, args, dSeq, dSet, dSetP, dSetN, lstAt, dApp, dAppP, dAsg, dPar, dDrop, dWhile, dIfS, dRet, dB, dCall, dCons, dNil, dVar, dC, dBin, dChain, asB, dTru, dNotT, dAndT, dOrT, dAnd, dOr, dNot, dIf, dUn, dTup, dLst, dItems, dYes, R.bind, R.to, O.seq, outR, ofO, noErr, mask, Sm.putIn, bindPat, bindPats, itemsOf, tru, List.foldr_cons, List.foldr_nil, List.length_cons, List.length_nil, List.map_cons, List.map_nil, List.cons_append, List.nil_append, Nat.sub_self, List.replicate_zero, List.replicate_succ, List.getElem?_cons_succ, List.getElem?_cons_zero, List.set_cons_zero, List.set_cons_succ, Nat.reduceAdd, Nat.reduceSub, ↓reduceIte, Bool.not_true, Bool.not_false, Bool.and_true, Bool.true_and, Bool.false_and, Bool.and_false, if_true, if_false, Bool.false_eq_true, oNeg, oAddI, oSubI, oAdd_ii, oLt, oLe, oGt, oGe, Option.bind_some, Option.map_some]⟩
    have d1 : ((((deep + 1 : Nat) : Int)) == 1) = decide (deep = 0) := by
      by_cases h : deep = 0
      · subst h; rfl
      · rw [decide_eq_false h]; simp; omega
    have z1 : (((m : Nat) : Int) == 0) = decide (m = 0) := by
      by_cases h : m = 0
      · subst h; rfl
      · rw [decide_eq_false h]; simp; omega
    by_cases hend : deep = 0 ∨ m = 0
    · refine ⟨.node top [], ?_, ⟨⟨by omega, by simp, by simp⟩, rfl, fun _ => ⟨by simp, by simp⟩, fun p hp => nomatch hp⟩, fun h1 h2 => ?_⟩
      · refine defD_eq rfl ?_
        unfold b__law_game
        refine out_seq (ρ1 := [some S, some (.int (at_ : Int)), some (.int top), some (.int ((deep + 1 : Nat) : Int)), some (.bl even), some (.int (20 * (at_ : Int))), none, none, none, none, none, none, none, none]) ?_ ?_
        · simp only [m1, defD, args, dSeq, dSet, dSetP, dSetN, lstAt, dApp, dAppP, dAsg, dPar, dDrop, dWhile, dIfS, dRet, dB, dCall, dCons, dNil, dVar, dC, dBin, dChain, asB, dTru, dNotT, dAndT, dOrT, dAnd, dOr, dNot, dIf, dUn, dTup, dLst, dItems, dYes, R.bind, R.to, O.seq, outR, ofO, noErr, mask, Sm.putIn, bindPat, bindPats, itemsOf, tru, List.foldr_cons, List.foldr_nil, List.length_cons, List.length_nil, List.map_cons, List.map_nil, List.cons_append, List.nil_append, Nat.sub_self, List.replicate_zero, List.replicate_succ, List.getElem?_cons_succ, List.getElem?_cons_zero, List.set_cons_zero, List.set_cons_succ, Nat.reduceAdd, Nat.reduceSub, ↓reduceIte, Bool.not_true, Bool.not_false, Bool.and_true, Bool.true_and, Bool.false_and, Bool.and_false, if_true, if_false, Bool.false_eq_true, oNeg, oAddI, oSubI, oAdd_ii, oLt, oLe, oGt, oGe, Option.bind_some, Option.map_some]
        refine out_seq (ρ1 := [some S, some (.int (at_ : Int)), some (.int top), some (.int ((deep + 1 : Nat) : Int)), some (.bl even), some (.int (20 * (at_ : Int))), some (.int (m0 : Int)), none, none, none, none, none, none, none]) ?_ ?_
        · simp only [ep, e0, defD, args, dSeq, dSet, dSetP, dSetN, lstAt, dApp, dAppP, dAsg, dPar, dDrop, dWhile, dIfS, dRet, dB, dCall, dCons, dNil, dVar, dC, dBin, dChain, asB, dTru, dNotT, dAndT, dOrT, dAnd, dOr, dNot, dIf, dUn, dTup, dLst, dItems, dYes, R.bind, R.to, O.seq, outR, ofO, noErr, mask, Sm.putIn, bindPat, bindPats, itemsOf, tru, List.foldr_cons, List.foldr_nil, List.length_cons, List.length_nil, List.map_cons, List.map_nil, List.cons_append, List.nil_append, Nat.sub_self, List.replicate_zero, List.replicate_succ, List.getElem?_cons_succ, List.getElem?_cons_zero, List.set_cons_zero, List.set_cons_succ, Nat.reduceAdd, Nat.reduceSub, ↓reduceIte, Bool.not_true, Bool.not_false, Bool.and_true, Bool.true_and, Bool.false_and, Bool.and_false, if_true, if_false, Bool.false_eq_true, oNeg, oAddI, oSubI, oAdd_ii, oLt, oLe, oGt, oGe, Option.bind_some, Option.map_some]
        refine out_seq st3 (out_seqR ?_)
        rw [enc_end]
        by_cases h2 : deep = 0
        · rw [decide_eq_true h2] at d1
          simp only [oEq_int, d1, defD, args, dSeq, dSet, dSetP, dSetN, lstAt, dApp, dAppP, dAsg, dPar, dDrop, dWhile, dIfS, dRet, dB, dCall, dCons, dNil, dVar, dC, dBin, dChain, asB, dTru, dNotT, dAndT, dOrT, dAnd, dOr, dNot, dIf, dUn, dTup, dLst, dItems, dYes, R.bind, R.to, O.seq, outR, ofO, noErr, mask, Sm.putIn, bindPat, bindPats, itemsOf, tru, List.foldr_cons, List.foldr_nil, List.length_cons, List.length_nil, List.map_cons, List.map_nil, List.cons_append, List.nil_append, Nat.sub_self, List.replicate_zero, List.replicate_succ, List.getElem?_cons_succ, List.getElem?_cons_zero, List.set_cons_zero, List.set_cons_succ, Nat.reduceAdd, Nat.reduceSub, ↓reduceIte, Bool.not_true, Bool.not_false, Bool.and_true, Bool.true_and, Bool.false_and, Bool.and_false, if_true, if_false, Bool.false_eq_true, oNeg, oAddI, oSubI, oAdd_ii, oLt, oLe, oGt, oGe, Option.bind_some, Option.map_some]
        · have h : m = 0 := hend.resolve_left h2
          rw [decide_eq_false h2] at d1
          rw [decide_eq_true h] at z1
          simp only [oEq_int, d1, z1, defD, args, dSeq, dSet, dSetP, dSetN, lstAt, dApp, dAppP, dAsg, dPar, dDrop, dWhile, dIfS, dRet, dB, dCall, dCons, dNil, dVar, dC, dBin, dChain, asB, dTru, dNotT, dAndT, dOrT, dAnd, dOr, dNot, dIf, dUn, dTup, dLst, dItems, dYes, R.bind, R.to, O.seq, outR, ofO, noErr, mask, Sm.putIn, bindPat, bindPats, itemsOf, tru, List.foldr_cons, List.foldr_nil, List.length_cons, List.length_nil, List.map_cons, List.map_nil, List.cons_append, List.nil_append, Nat.sub_self, List.replicate_zero, List.replicate_succ, List.getElem?_cons_succ, List.getElem?_cons_zero, List.set_cons_zero, List.set_cons_succ, Nat.reduceAdd, Nat.reduceSub, ↓reduceIte, Bool.not_true, Bool.not_false, Bool.and_true, Bool.true_and, Bool.false_and, Bool.and_false, if_true, if_false, Bool.false_eq_true, oNeg, oAddI, oSubI, oAdd_ii, oLt, oLe, oGt, oGe, Option.bind_some, Option.map_some]
      · rcases hend with h | h
        · omega
        · have := hm1 h1; omega
    · have hd : deep ≠ 0 := fun h => hend (.inl h)
      have hm0' : m ≠ 0 := fun h => hend (.inr h)
      obtain ⟨rs, y9, y12, y13, hR, er⟩ := rows_okS ok (some (.int (at_ : Int))) (some (.int top)) (some (.int ((deep + 1 : Nat) : Int))) even (base := 20 * (at_ : Int)) (by omega) (m := m) (by omega)
      obtain ⟨q, eq, _, _⟩ := ok (i := 20 * (at_ : Int) + 4) (m := 2) (by omega) (by decide)
      obtain ⟨rs', hR', st7⟩ : ∃ rs', Rows m even rs' ∧ dIfS (asB (dBin oEq (dCall (dPick pk) (dCons (dVar 0) (dCons (dBin oAdd (dVar 5) (dC (.int 4))) (dCons (dC (.int 2)) dNil)))) (dC (.int 0)))) (dSet [] 7 (dUn oRevA (dVar 7))) .nx [some S, some (.int (at_ : Int)), some (.int top), some (.int ((deep + 1 : Nat) : Int)), some (.bl even), some (.int (20 * (at_ : Int))), some (.int (m : Int)), some (.lst (rs.map prD)), none, y9, none, none, y12, y13]
          = .nx [some S, some (.int (at_ : Int)), some (.int top), some (.int ((deep + 1 : Nat) : Int)), some (.bl even), some (.int (20 * (at_ : Int))), some (.int (m : Int)), some (.lst (rs'.map prD)), none, y9, none, none, y12, y13] := by
        cases hq : (q == 0) with
        | true => exact ⟨rs.reverse, hR.rev, by rw [List.map_reverse]; simp only [eq, oEq_int, hq, oRevA, defD, args, dSeq, dSet, dSetP, dSetN, lstAt, dApp, dAppP, dAsg, dPar, dDrop, dWhile, dIfS, dRet, dB, dCall, dCons, dNil, dVar, dC, dBin, dChain, asB, dTru, dNotT, dAndT, dOrT, dAnd, dOr, dNot, dIf, dUn, dTup, dLst, dItems, dYes, R.bind, R.to, O.seq, outR, ofO, noErr, mask, Sm.putIn, bindPat, bindPats, itemsOf, tru, List.foldr_cons, List.foldr_nil, List.length_cons, List.length_nil, List.map_cons, List.map_nil, List.cons_append, List.nil_append, Nat.sub_self, List.replicate_zero, List.replicate_succ, List.getElem?_cons_succ, List.getElem?_cons_zero, List.set_cons_zero, List.set_cons_succ, Nat.reduceAdd, Nat.reduceSub, ↓reduceIte, Bool.not_true, Bool.not_false, Bool.and_true, Bool.true_and, Bool.false_and, Bool.and_false, if_true, if_false, Bool.false_eq_true, oNeg, oAddI, oSubI, oAdd_ii, oLt, oLe, oGt, oGe, Option.bind_some, Option.map_some]⟩
        | false => exact ⟨rs, hR, by simp only [eq, oEq_int, hq, defD, args, dSeq, dSet, dSetP, dSetN, lstAt, dApp, dAppP, dAsg, dPar, dDrop, dWhile, dIfS, dRet, dB, dCall, dCons, dNil, dVar, dC, dBin, dChain, asB, dTru, dNotT, dAndT, dOrT, dAnd, dOr, dNot, dIf, dUn, dTup, dLst, dItems, dYes, R.bind, R.to, O.seq, outR, ofO, noErr, mask, Sm.putIn, bindPat, bindPats, itemsOf, tru, List.foldr_cons, List.foldr_nil, List.length_cons, List.length_nil, List.map_cons, List.map_nil, List.cons_append, List.nil_append, Nat.sub_self, List.replicate_zero, List.replicate_succ, List.getElem?_cons_succ, List.getElem?_cons_zero, List.set_cons_zero, List.set_cons_succ, Nat.reduceAdd, Nat.reduceSub, ↓reduceIte, Bool.not_true, Bool.not_false, Bool.and_true, Bool.true_and, Bool.false_and, Bool.and_false, if_true, if_false, Bool.false_eq_true, oNeg, oAddI, oSubI, oAdd_ii, oLt, oLe, oGt, oGe, Option.bind_some, Option.map_some]⟩
      obtain ⟨ws, z9, z10, z11, w1, w2, ew⟩ := subs_okS (pk := pk) (n := n) (deep := deep) (at_ := at_) (top := top) (even := even) (some (.int (20 * (at_ : Int)))) (some (.int (m : Int))) (some (.lst (rs'.map prD))) y12 y13
        (fun k t hk htt => by
          obtain ⟨g, a1, a2, _⟩ := game_drawnS ok even deep n k t (by omega) (by omega) (by omega) htt
          exact ⟨g, a1, a2⟩) hat (by omega) rs' 0 [] y9 none none hR'.bd (by rw [hR'.len]; simp; omega)
      have hlen : ws.length = m := by rw [← hR'.len, ← w1, List.length_map]
      have hne : ws ≠ [] := fun h => by rw [h] at hlen; simp at hlen; omega
      refine ⟨.node top ws, ?_, ⟨⟨by omega, by omega, fun p hp => ⟨?_, (w2 p hp).ok⟩⟩, rfl, fun he => ⟨?_, fun p hp => (w2 p hp).fair he⟩, fun p hp => ⟨?_, (w2 p hp).steps⟩⟩, fun _ _ => hne⟩
      · refine defD_eq rfl ?_
        unfold b__law_game
        refine out_seq (ρ1 := [some S, some (.int (at_ : Int)), some (.int top), some (.int ((deep + 1 : Nat) : Int)), some (.bl even), some (.int (20 * (at_ : Int))), none, none, none, none, none, none, none, none]) ?_ ?_
        · simp only [m1, defD, args, dSeq, dSet, dSetP, dSetN, lstAt, dApp, dAppP, dAsg, dPar, dDrop, dWhile, dIfS, dRet, dB, dCall, dCons, dNil, dVar, dC, dBin, dChain, asB, dTru, dNotT, dAndT, dOrT, dAnd, dOr, dNot, dIf, dUn, dTup, dLst, dItems, dYes, R.bind, R.to, O.seq, outR, ofO, noErr, mask, Sm.putIn, bindPat, bindPats, itemsOf, tru, List.foldr_cons, List.foldr_nil, List.length_cons, List.length_nil, List.map_cons, List.map_nil, List.cons_append, List.nil_append, Nat.sub_self, List.replicate_zero, List.replicate_succ, List.getElem?_cons_succ, List.getElem?_cons_zero, List.set_cons_zero, List.set_cons_succ, Nat.reduceAdd, Nat.reduceSub, ↓reduceIte, Bool.not_true, Bool.not_false, Bool.and_true, Bool.true_and, Bool.false_and, Bool.and_false, if_true, if_false, Bool.false_eq_true, oNeg, oAddI, oSubI, oAdd_ii, oLt, oLe, oGt, oGe, Option.bind_some, Option.map_some]
        refine out_seq (ρ1 := [some S, some (.int (at_ : Int)), some (.int top), some (.int ((deep + 1 : Nat) : Int)), some (.bl even), some (.int (20 * (at_ : Int))), some (.int (m0 : Int)), none, none, none, none, none, none, none]) ?_ ?_
        · simp only [ep, e0, defD, args, dSeq, dSet, dSetP, dSetN, lstAt, dApp, dAppP, dAsg, dPar, dDrop, dWhile, dIfS, dRet, dB, dCall, dCons, dNil, dVar, dC, dBin, dChain, asB, dTru, dNotT, dAndT, dOrT, dAnd, dOr, dNot, dIf, dUn, dTup, dLst, dItems, dYes, R.bind, R.to, O.seq, outR, ofO, noErr, mask, Sm.putIn, bindPat, bindPats, itemsOf, tru, List.foldr_cons, List.foldr_nil, List.length_cons, List.length_nil, List.map_cons, List.map_nil, List.cons_append, List.nil_append, Nat.sub_self, List.replicate_zero, List.replicate_succ, List.getElem?_cons_succ, List.getElem?_cons_zero, List.set_cons_zero, List.set_cons_succ, Nat.reduceAdd, Nat.reduceSub, ↓reduceIte, Bool.not_true, Bool.not_false, Bool.and_true, Bool.true_and, Bool.false_and, Bool.and_false, if_true, if_false, Bool.false_eq_true, oNeg, oAddI, oSubI, oAdd_ii, oLt, oLe, oGt, oGe, Option.bind_some, Option.map_some]
        refine out_seq st3 ?_
        refine out_seq (ρ1 := [some S, some (.int (at_ : Int)), some (.int top), some (.int ((deep + 1 : Nat) : Int)), some (.bl even), some (.int (20 * (at_ : Int))), some (.int (m : Int)), none, none, none, none, none, none, none]) ?_ ?_
        · simp only [oEq_int, d1, z1, decide_eq_false hd, decide_eq_false hm0', defD, args, dSeq, dSet, dSetP, dSetN, lstAt, dApp, dAppP, dAsg, dPar, dDrop, dWhile, dIfS, dRet, dB, dCall, dCons, dNil, dVar, dC, dBin, dChain, asB, dTru, dNotT, dAndT, dOrT, dAnd, dOr, dNot, dIf, dUn, dTup, dLst, dItems, dYes, R.bind, R.to, O.seq, outR, ofO, noErr, mask, Sm.putIn, bindPat, bindPats, itemsOf, tru, List.foldr_cons, List.foldr_nil, List.length_cons, List.length_nil, List.map_cons, List.map_nil, List.cons_append, List.nil_append, Nat.sub_self, List.replicate_zero, List.replicate_succ, List.getElem?_cons_succ, List.getElem?_cons_zero, List.set_cons_zero, List.set_cons_succ, Nat.reduceAdd, Nat.reduceSub, ↓reduceIte, Bool.not_true, Bool.not_false, Bool.and_true, Bool.true_and, Bool.false_and, Bool.and_false, if_true, if_false, Bool.false_eq_true, oNeg, oAddI, oSubI, oAdd_ii, oLt, oLe, oGt, oGe, Option.bind_some, Option.map_some]
        refine out_seq (ρ1 := [some S, some (.int (at_ : Int)), some (.int top), some (.int ((deep + 1 : Nat) : Int)), some (.bl even), some (.int (20 * (at_ : Int))), some (.int (m : Int)), some (.lst []), none, none, none, none, none, none]) ?_ ?_
        · simp only [defD, args, dSeq, dSet, dSetP, dSetN, lstAt, dApp, dAppP, dAsg, dPar, dDrop, dWhile, dIfS, dRet, dB, dCall, dCons, dNil, dVar, dC, dBin, dChain, asB, dTru, dNotT, dAndT, dOrT, dAnd, dOr, dNot, dIf, dUn, dTup, dLst, dItems, dYes, R.bind, R.to, O.seq, outR, ofO, noErr, mask, Sm.putIn, bindPat, bindPats, itemsOf, tru, List.foldr_cons, List.foldr_nil, List.length_cons, List.length_nil, List.map_cons, List.map_nil, List.cons_append, List.nil_append, Nat.sub_self, List.replicate_zero, List.replicate_succ, List.getElem?_cons_succ, List.getElem?_cons_zero, List.set_cons_zero, List.set_cons_succ, Nat.reduceAdd, Nat.reduceSub, ↓reduceIte, Bool.not_true, Bool.not_false, Bool.and_true, Bool.true_and, Bool.false_and, Bool.and_false, if_true, if_false, Bool.false_eq_true, oNeg, oAddI, oSubI, oAdd_ii, oLt, oLe, oGt, oGe, Option.bind_some, Option.map_some]
        refine out_seq er (out_seq st7 ?_)
        refine out_seq (ρ1 := [some S, some (.int (at_ : Int)), some (.int top), some (.int ((deep + 1 : Nat) : Int)), some (.bl even), some (.int (20 * (at_ : Int))), some (.int (m : Int)), some (.lst (rs'.map prD)), some (.lst []), y9, none, none, y12, y13]) ?_ ?_
        · simp only [defD, args, dSeq, dSet, dSetP, dSetN, lstAt, dApp, dAppP, dAsg, dPar, dDrop, dWhile, dIfS, dRet, dB, dCall, dCons, dNil, dVar, dC, dBin, dChain, asB, dTru, dNotT, dAndT, dOrT, dAnd, dOr, dNot, dIf, dUn, dTup, dLst, dItems, dYes, R.bind, R.to, O.seq, outR, ofO, noErr, mask, Sm.putIn, bindPat, bindPats, itemsOf, tru, List.foldr_cons, List.foldr_nil, List.length_cons, List.length_nil, List.map_cons, List.map_nil, List.cons_append, List.nil_append, Nat.sub_self, List.replicate_zero, List.replicate_succ, List.getElem?_cons_succ, List.getElem?_cons_zero, List.set_cons_zero, List.set_cons_succ, Nat.reduceAdd, Nat.reduceSub, ↓reduceIte, Bool.not_true, Bool.not_false, Bool.and_true, Bool.true_and, Bool.false_and, Bool.and_false, if_true, if_false, Bool.false_eq_true, oNeg, oAddI, oSubI, oAdd_ii, oLt, oLe, oGt, oGe, Option.bind_some, Option.map_some]
        refine out_seq (ρ1 := [some S, some (.int (at_ : Int)), some (.int top), some (.int ((deep : Int) + 1)), some (.bl even), some (.int (20 * (at_ : Int))), some (.int (m : Int)), some (.lst (rs'.map prD)), some (.lst (encW ([] ++ ws))), z9, z10, z11, y12, y13]) ?_ (ret_of ?_)
        · unfold dFor
          rw [enum_itL (ds := rs'.map prD) (by simp only [defD, args, dSeq, dSet, dSetP, dSetN, lstAt, dApp, dAppP, dAsg, dPar, dDrop, dWhile, dIfS, dRet, dB, dCall, dCons, dNil, dVar, dC, dBin, dChain, asB, dTru, dNotT, dAndT, dOrT, dAnd, dOr, dNot, dIf, dUn, dTup, dLst, dItems, dYes, R.bind, R.to, O.seq, outR, ofO, noErr, mask, Sm.putIn, bindPat, bindPats, itemsOf, tru, List.foldr_cons, List.foldr_nil, List.length_cons, List.length_nil, List.map_cons, List.map_nil, List.cons_append, List.nil_append, Nat.sub_self, List.replicate_zero, List.replicate_succ, List.getElem?_cons_succ, List.getElem?_cons_zero, List.set_cons_zero, List.set_cons_succ, Nat.reduceAdd, Nat.reduceSub, ↓reduceIte, Bool.not_true, Bool.not_false, Bool.and_true, Bool.true_and, Bool.false_and, Bool.and_false, if_true, if_false, Bool.false_eq_true, oNeg, oAddI, oSubI, oAdd_ii, oLt, oLe, oGt, oGe, Option.bind_some, Option.map_some])]
          exact ew
        · cases ws with
          | nil => exact absurd rfl hne
          | cons x ws =>
            rw [enc_go, List.nil_append]
            show _ = Sm.R.ok (D.tup [D.int top, D.tup (encW (x :: ws))])
            generalize encW (x :: ws) = E
            simp only [oTuple, defD, args, dSeq, dSet, dSetP, dSetN, lstAt, dApp, dAppP, dAsg, dPar, dDrop, dWhile, dIfS, dRet, dB, dCall, dCons, dNil, dVar, dC, dBin, dChain, asB, dTru, dNotT, dAndT, dOrT, dAnd, dOr, dNot, dIf, dUn, dTup, dLst, dItems, dYes, R.bind, R.to, O.seq, outR, ofO, noErr, mask, Sm.putIn, bindPat, bindPats, itemsOf, tru, List.foldr_cons, List.foldr_nil, List.length_cons, List.length_nil, List.map_cons, List.map_nil, List.cons_append, List.nil_append, Nat.sub_self, List.replicate_zero, List.replicate_succ, List.getElem?_cons_succ, List.getElem?_cons_zero, List.set_cons_zero, List.set_cons_succ, Nat.reduceAdd, Nat.reduceSub, ↓reduceIte, Bool.not_true, Bool.not_false, Bool.and_true, Bool.true_and, Bool.false_and, Bool.and_false, if_true, if_false, Bool.false_eq_true, oNeg, oAddI, oSubI, oAdd_ii, oLt, oLe, oGt, oGe, Option.bind_some, Option.map_some]
      · have : (p.1, p.2.worth - top) ∈ rs' := by rw [← w1]; exact List.mem_map.mpr ⟨p, hp, rfl⟩
        exact (hR'.bd _ this).1
      · have := hR'.fair he
        rw [← w1, List.map_map] at this
        exact this
      · have : (p.1, p.2.worth - top) ∈ rs' := by rw [← w1]; exact List.mem_map.mpr ⟨p, hp, rfl⟩
        exact (hR'.bd _ this).2
theorem game_drawn {pk : Nat → Int → Int} (ok : PkOk pk) (even : Bool) (deep n : Nat) (at_ : Nat) (top : Int) (h1 : 1 ≤ deep) (h2 : deep ≤ n) (h3 : 1 ≤ at_) (h4 : (top.natAbs : Int) + 3 * ((deep : Int) - 1) ≤ 20) :
    ∃ g, d__law_game pk n [.scr0, .int (at_ : Int), .int top, .int (deep : Int), .bl even] = .ok g.enc ∧ Drawn deep top even g ∧ (at_ = 1 → 2 ≤ deep → g.ways ≠ []) := game_drawnS (pickS0 ok) even deep n at_ top h1 h2 h3 h4
theorem drawn_ok {pk : Nat → Int → Int} (ok : PkOk pk) (deep : Nat) (hd : 1 ≤ deep ∧ deep ≤ 4) : ∃ g even top, d__law_drawn pk [.scr0, .int (deep : Int)] = .ok g.enc ∧ Drawn deep top even g ∧ (2 ≤ deep → g.ways ≠ []) ∧ even = (pk 1 2 == 0) ∧ -6 ≤ top ∧ top ≤ 6 := by
  obtain ⟨t, et, t1, t2⟩ := pickD ok (i := 0) (m := 13) (by decide) (by decide)
  have e1 := dPick_ok pk 1 (m := 2) (by decide)
  obtain ⟨g, eg, dg, hw⟩ := game_drawn ok (pk 1 2 == 0) deep 8 1 (t - 6) hd.1 (by omega) (by decide) (by omega)
  refine ⟨g, _, _, ?_, dg, hw rfl, rfl, by omega, by omega⟩
  simp only [d__law_drawn, b__law_drawn, et, show dPick pk [.scr0, .int 1, .int 2] = _ from e1, oEq_int, show d__law_game pk 8 [.scr0, .int 1, .int (t - 6), .int (deep : Int), .bl (pk 1 2 == 0)] = _ from eg, defD, args, dSeq, dSet, dSetP, dSetN, lstAt, dApp, dAppP, dAsg, dPar, dDrop, dWhile, dIfS, dRet, dB, dCall, dCons, dNil, dVar, dC, dBin, dChain, asB, dTru, dNotT, dAndT, dOrT, dAnd, dOr, dNot, dIf, dUn, dTup, dLst, dItems, dYes, R.bind, R.to, O.seq, outR, ofO, noErr, mask, Sm.putIn, bindPat, bindPats, itemsOf, tru, List.foldr_cons, List.foldr_nil, List.length_cons, List.length_nil, List.map_cons, List.map_nil, List.cons_append, List.nil_append, Nat.sub_self, List.replicate_zero, List.replicate_succ, List.getElem?_cons_succ, List.getElem?_cons_zero, List.set_cons_zero, List.set_cons_succ, Nat.reduceAdd, Nat.reduceSub, ↓reduceIte, Bool.not_true, Bool.not_false, Bool.and_true, Bool.true_and, Bool.false_and, Bool.and_false, if_true, if_false, Bool.false_eq_true, oNeg, oAddI, oSubI, oAdd_ii, oLt, oLe, oGt, oGe, Option.bind_some, Option.map_some]
end Kx
namespace Sm
open PySem PySem.Spec L2
theorem forGo_test {pt : Pat} {f : DS} (c : D → Bool) (r : D) (I : Env → Prop) : ∀ (ds : List D) (ρ : Env), I ρ → (∀ d ρ, d ∈ ds → I ρ → ∃ ρ1, bindPat pt d ρ = some ρ1 ∧ (c d = true → ∃ ρ2, f ρ1 = .nx ρ2 ∧ I ρ2) ∧ (c d = false → f ρ1 = .ret r)) →
    (ds.all c = true → ∃ ρ', forGo pt f ds ρ = .nx ρ' ∧ I ρ') ∧ (ds.all c = false → forGo pt f ds ρ = .ret r)
  | [], ρ, h, _ => ⟨fun _ => ⟨ρ, rfl, h⟩, fun h => by simp at h⟩
  | d :: ds, ρ, h, hs => by
    obtain ⟨ρ1, e1, e2, e3⟩ := hs d ρ (by simp) h
    cases hc : c d with
    | true =>
      obtain ⟨ρ2, e4, e5⟩ := e2 hc
      have ih := forGo_test c r I ds ρ2 e5 fun d ρ hd => hs d ρ (by simp [hd])
      rw [List.all_cons, hc, Bool.true_and]
      unfold forGo
      rw [e1]
      simp only [e4, O.seq]
      exact ih
    | false =>
      rw [List.all_cons, hc, Bool.false_and]
      refine ⟨fun h => (by cases h), fun _ => ?_⟩
      unfold forGo
      rw [e1]
      simp only [e3 hc, O.seq]
mutual
def okD : D → Bool
  | .non => true
  | .bl _ => true
  | .int _ => true
  | .str _ => true
  | .tup xs => okDs xs
  | .lst xs => okDs xs
  | _ => false
def okDs : List D → Bool
  | [] => true
  | x :: xs => okD x && okDs xs
end
theorem okDs_mem : ∀ {ds : List D} {d : D}, okDs ds = true → d ∈ ds → okD d = true
  | e :: ds, d, h, hd => by
    simp only [okDs, Bool.and_eq_true] at h
    rcases List.mem_cons.mp hd with rfl | hd
    · exact h.1
    · exact okDs_mem h.2 hd
def wh (d : D) (lo hi : Int) : Bool := match d with | .int i => decide (lo ≤ i) && decide (i ≤ hi) | _ => false
def isW (f : D → Bool) (d : D) : Bool := match d with | .tup [k, s] => wh k 1 9 && f s | _ => false
def isG : Nat → D → Bool
  | 0, _ => false
  | _ + 1, .tup [d] => wh d (-20) 20
  | n + 1, .tup [d, .tup ws] => wh d (-20) 20 && (decide (1 ≤ ws.length) && decide (ws.length ≤ 3) && ws.all (isW (isG n)))
  | _ + 1, _ => false
end Sm
namespace Kx
open PySem PySem.Spec L2 Sm
theorem whole_any {d : D} (h : okD d = true) (lo hi : Int) : d_is_whole [d, .int lo, .int hi] = .ok (.bl (wh d lo hi)) := by
  cases d with
  | int i => exact whole_ok i lo hi
  | dct _ => simp [okD] at h
  | exc _ => simp [okD] at h
  | scr _ => simp [okD] at h
  | scr0 => simp [okD] at h
  | fnv => simp [okD] at h
  | obj _ => simp [okD] at h
  | dcl _ => simp [okD] at h
  | scr1 => simp [okD] at h
  | _ => simp only [d_is_whole, b_is_whole, oIsInt, oIsBool, wh, defD, args, dSeq, dSet, dSetP, dSetN, lstAt, dApp, dAppP, dAsg, dPar, dDrop, dWhile, dIfS, dRet, dB, dCall, dCons, dNil, dVar, dC, dBin, dChain, asB, dTru, dNotT, dAndT, dOrT, dAnd, dOr, dNot, dIf, dUn, dTup, dLst, dItems, dYes, R.bind, R.to, O.seq, outR, ofO, noErr, mask, Sm.putIn, bindPat, bindPats, itemsOf, tru, List.foldr_cons, List.foldr_nil, List.length_cons, List.length_nil, List.map_cons, List.map_nil, List.cons_append, List.nil_append, Nat.sub_self, List.replicate_zero, List.replicate_succ, List.getElem?_cons_succ, List.getElem?_cons_zero, List.set_cons_zero, List.set_cons_succ, Nat.reduceAdd, Nat.reduceSub, ↓reduceIte, Bool.not_true, Bool.not_false, Bool.and_true, Bool.true_and, Bool.false_and, Bool.and_false, if_true, if_false, Bool.false_eq_true, oNeg, oAddI, oSubI, oAdd_ii, oLt, oLe, oGt, oGe, Option.bind_some, Option.map_some]
theorem lwhole_any {d : D} (h : okD d = true) (lo hi : Int) : d__law_whole [d, .int lo, .int hi] = .ok (.bl (wh d lo hi)) := whole_any h lo hi
theorem isG_not {n : Nat} {d : D} {xs : List D} (h : wh d (-20) 20 = false) : isG n (.tup (d :: xs)) = false := by
  cases n with
  | zero => rfl
  | succ n =>
    match xs with
    | [] => simp only [isG, h]
    | [.tup ws] => simp only [isG, h, Bool.false_and]
    | [.non] => rfl
    | [.bl _] => rfl
    | [.int _] => rfl
    | [.str _] => rfl
    | [.lst _] => rfl
    | [.dct _] => rfl
    | [.exc _] => rfl
    | [.scr _] => rfl
    | [.scr0] => rfl
    | [.fnv] => rfl
    | [.obj _] => rfl
    | [.dcl _] => rfl
    | [.scr1] => rfl
    | y :: _ :: _ => cases y <;> rfl
theorem len_ne1 {n : Nat} (h : n ≠ 1) : (((n : Nat) : Int) == 1) = false := by simp; omega
theorem len_ne2 {n : Nat} (h : n ≠ 2) : (((n : Nat) : Int) == 2) = false := by simp; omega
def wayT (d : D) : Bool := match d with | .tup [k, _] => wh k 1 9 | _ => false
theorem all_bools {α : Type} (f : α → Bool) (l : List α) : oAll [.lst (l.map fun x => D.bl (f x))] = some (.bl (l.all f)) := by
  have bo : boolsOf (l.map fun x => D.bl (f x)) = some (l.map f) := by
    induction l with
    | nil => rfl
    | cons a l ih => simp only [List.map_cons, boolsOf, ih, Option.map_some]
  simp only [oAll, bo, Option.map_some]
  simp [List.all_map]
theorem snd_of {d : D} (h : wayT d = true) : ∃ k s, d = .tup [k, s] ∧ wh k 1 9 = true := by
  unfold wayT at h
  split at h
  · exact ⟨_, _, rfl, h⟩
  · cases h
def wayTst (F : List D → R D) : DT := dOrT (dNotT (dTru (dUn oIsTup (dVar 2)))) (dOrT (asB (dBin oNe (dB oLen (dCons (dVar 2) dNil)) (dC (.int 2)))) (dNotT (dTru (dCall F (dCons (dBin oIx (dVar 2) (dC (.int 0))) (dCons (dC (.int 1)) (dCons (dC (.int 9)) dNil)))))))
theorem way_test {d : D} {x0 x1 : Option D} (ok : okD d = true) : wayTst d_is_whole [x0, x1, some d] = .ok (!wayT d) := by
  unfold wayTst
  cases d with
  | dct _ => simp [okD] at ok
  | exc _ => simp [okD] at ok
  | scr _ => simp [okD] at ok
  | scr0 => simp [okD] at ok
  | fnv => simp [okD] at ok
  | obj _ => simp [okD] at ok
  | dcl _ => simp [okD] at ok
  | scr1 => simp [okD] at ok
  | tup xs =>
    match xs, ok with
    | [], ok => simp only [oIsTup, oLen, oNe_int, wayT, len_ne2 (n := 0) (by decide), defD, args, dSeq, dSet, dSetP, dSetN, lstAt, dApp, dAppP, dAsg, dPar, dDrop, dWhile, dIfS, dRet, dB, dCall, dCons, dNil, dVar, dC, dBin, dChain, asB, dTru, dNotT, dAndT, dOrT, dAnd, dOr, dNot, dIf, dUn, dTup, dLst, dItems, dYes, R.bind, R.to, O.seq, outR, ofO, noErr, mask, Sm.putIn, bindPat, bindPats, itemsOf, tru, List.foldr_cons, List.foldr_nil, List.length_cons, List.length_nil, List.map_cons, List.map_nil, List.cons_append, List.nil_append, Nat.sub_self, List.replicate_zero, List.replicate_succ, List.getElem?_cons_succ, List.getElem?_cons_zero, List.set_cons_zero, List.set_cons_succ, Nat.reduceAdd, Nat.reduceSub, ↓reduceIte, Bool.not_true, Bool.not_false, Bool.and_true, Bool.true_and, Bool.false_and, Bool.and_false, if_true, if_false, Bool.false_eq_true, oNeg, oAddI, oSubI, oAdd_ii, oLt, oLe, oGt, oGe, Option.bind_some, Option.map_some]
    | [a], ok => simp only [oIsTup, oLen, oNe_int, wayT, len_ne2 (n := 1) (by decide), defD, args, dSeq, dSet, dSetP, dSetN, lstAt, dApp, dAppP, dAsg, dPar, dDrop, dWhile, dIfS, dRet, dB, dCall, dCons, dNil, dVar, dC, dBin, dChain, asB, dTru, dNotT, dAndT, dOrT, dAnd, dOr, dNot, dIf, dUn, dTup, dLst, dItems, dYes, R.bind, R.to, O.seq, outR, ofO, noErr, mask, Sm.putIn, bindPat, bindPats, itemsOf, tru, List.foldr_cons, List.foldr_nil, List.length_cons, List.length_nil, List.map_cons, List.map_nil, List.cons_append, List.nil_append, Nat.sub_self, List.replicate_zero, List.replicate_succ, List.getElem?_cons_succ, List.getElem?_cons_zero, List.set_cons_zero, List.set_cons_succ, Nat.reduceAdd, Nat.reduceSub, ↓reduceIte, Bool.not_true, Bool.not_false, Bool.and_true, Bool.true_and, Bool.false_and, Bool.and_false, if_true, if_false, Bool.false_eq_true, oNeg, oAddI, oSubI, oAdd_ii, oLt, oLe, oGt, oGe, Option.bind_some, Option.map_some]
    | [k, s], ok =>
      simp only [okD, okDs, Bool.and_eq_true] at ok
      simp only [oIsTup, oLen, oNe_int, wayT, show ((((2 : Nat) : Int)) == 2) = true by decide, oIx_t0, whole_any ok.1, defD, args, dSeq, dSet, dSetP, dSetN, lstAt, dApp, dAppP, dAsg, dPar, dDrop, dWhile, dIfS, dRet, dB, dCall, dCons, dNil, dVar, dC, dBin, dChain, asB, dTru, dNotT, dAndT, dOrT, dAnd, dOr, dNot, dIf, dUn, dTup, dLst, dItems, dYes, R.bind, R.to, O.seq, outR, ofO, noErr, mask, Sm.putIn, bindPat, bindPats, itemsOf, tru, List.foldr_cons, List.foldr_nil, List.length_cons, List.length_nil, List.map_cons, List.map_nil, List.cons_append, List.nil_append, Nat.sub_self, List.replicate_zero, List.replicate_succ, List.getElem?_cons_succ, List.getElem?_cons_zero, List.set_cons_zero, List.set_cons_succ, Nat.reduceAdd, Nat.reduceSub, ↓reduceIte, Bool.not_true, Bool.not_false, Bool.and_true, Bool.true_and, Bool.false_and, Bool.and_false, if_true, if_false, Bool.false_eq_true, oNeg, oAddI, oSubI, oAdd_ii, oLt, oLe, oGt, oGe, Option.bind_some, Option.map_some]
    | a :: b :: c :: r, ok =>
      have := len_ne2 (n := (a :: b :: c :: r).length) (by simp)
      simp only [List.length_cons] at this
      simp only [oIsTup, oLen, oNe_int, wayT, List.length_cons, this, defD, args, dSeq, dSet, dSetP, dSetN, lstAt, dApp, dAppP, dAsg, dPar, dDrop, dWhile, dIfS, dRet, dB, dCall, dCons, dNil, dVar, dC, dBin, dChain, asB, dTru, dNotT, dAndT, dOrT, dAnd, dOr, dNot, dIf, dUn, dTup, dLst, dItems, dYes, R.bind, R.to, O.seq, outR, ofO, noErr, mask, Sm.putIn, bindPat, bindPats, itemsOf, tru, List.foldr_cons, List.foldr_nil, List.length_cons, List.length_nil, List.map_cons, List.map_nil, List.cons_append, List.nil_append, Nat.sub_self, List.replicate_zero, List.replicate_succ, List.getElem?_cons_succ, List.getElem?_cons_zero, List.set_cons_zero, List.set_cons_succ, Nat.reduceAdd, Nat.reduceSub, ↓reduceIte, Bool.not_true, Bool.not_false, Bool.and_true, Bool.true_and, Bool.false_and, Bool.and_false, if_true, if_false, Bool.false_eq_true, oNeg, oAddI, oSubI, oAdd_ii, oLt, oLe, oGt, oGe, Option.bind_some, Option.map_some]
  | _ => simp only [oIsTup, wayT, defD, args, dSeq, dSet, dSetP, dSetN, lstAt, dApp, dAppP, dAsg, dPar, dDrop, dWhile, dIfS, dRet, dB, dCall, dCons, dNil, dVar, dC, dBin, dChain, asB, dTru, dNotT, dAndT, dOrT, dAnd, dOr, dNot, dIf, dUn, dTup, dLst, dItems, dYes, R.bind, R.to, O.seq, outR, ofO, noErr, mask, Sm.putIn, bindPat, bindPats, itemsOf, tru, List.foldr_cons, List.foldr_nil, List.length_cons, List.length_nil, List.map_cons, List.map_nil, List.cons_append, List.nil_append, Nat.sub_self, List.replicate_zero, List.replicate_succ, List.getElem?_cons_succ, List.getElem?_cons_zero, List.set_cons_zero, List.set_cons_succ, Nat.reduceAdd, Nat.reduceSub, ↓reduceIte, Bool.not_true, Bool.not_false, Bool.and_true, Bool.true_and, Bool.false_and, Bool.and_false, if_true, if_false, Bool.false_eq_true, oNeg, oAddI, oSubI, oAdd_ii, oLt, oLe, oGt, oGe, Option.bind_some, Option.map_some]
theorem isW_way {f : D → Bool} {d : D} (h : wayT d = false) : isW f d = false := by
  unfold wayT at h
  unfold isW
  split at h
  · simp only [h, Bool.false_and]
  · rfl
theorem isG_3 {n : Nat} {x y z : D} {zs : List D} : isG (n + 1) (.tup (x :: y :: z :: zs)) = false := by cases y <;> rfl
theorem ways_bad {f : D → Bool} {ws : List D} (h : ws.all wayT = false) : ws.all (isW f) = false := by
  rw [List.all_eq_false] at *
  obtain ⟨d, h1, h2⟩ := h
  exact ⟨d, h1, by rw [isW_way (by simpa using h2)]; simp⟩
theorem isG_y {n : Nat} {x y : D} (h : ∀ ws, y ≠ .tup ws) : isG (n + 1) (.tup [x, y]) = false := by
  cases y <;> first | exact (h _ rfl).elim | rfl
theorem isG_2 {n : Nat} {x : D} {ws : List D} (hx : wh x (-20) 20 = true) : isG (n + 1) (.tup [x, .tup ws]) = (decide (1 ≤ ws.length) && decide (ws.length ≤ 3) && ws.all (isW (isG n))) := by
  simp only [isG, hx, Bool.true_and]
theorem game_in_any : ∀ (n deep : Nat) (d : D), deep < n → okD d = true → d_is_game_in n [d, .int (deep : Int)] = .ok (.bl (isG deep d))
  | 0, _, _, h, _ => by omega
  | n + 1, 0, d, _, ok => by
    have e0 : (((0 : Nat) : Int) == 0) = true := by decide
    simp only [d_is_game_in, b_is_game_in, oEq_int, e0, isG, defD, args, dSeq, dSet, dSetP, dSetN, lstAt, dApp, dAppP, dAsg, dPar, dDrop, dWhile, dIfS, dRet, dB, dCall, dCons, dNil, dVar, dC, dBin, dChain, asB, dTru, dNotT, dAndT, dOrT, dAnd, dOr, dNot, dIf, dUn, dTup, dLst, dItems, dYes, R.bind, R.to, O.seq, outR, ofO, noErr, mask, Sm.putIn, bindPat, bindPats, itemsOf, tru, List.foldr_cons, List.foldr_nil, List.length_cons, List.length_nil, List.map_cons, List.map_nil, List.cons_append, List.nil_append, Nat.sub_self, List.replicate_zero, List.replicate_succ, List.getElem?_cons_succ, List.getElem?_cons_zero, List.set_cons_zero, List.set_cons_succ, Nat.reduceAdd, Nat.reduceSub, ↓reduceIte, Bool.not_true, Bool.not_false, Bool.and_true, Bool.true_and, Bool.false_and, Bool.and_false, if_true, if_false, Bool.false_eq_true, oNeg, oAddI, oSubI, oAdd_ii, oLt, oLe, oGt, oGe, Option.bind_some, Option.map_some]
  | n + 1, deep + 1, d, hn, ok => by
    have d0 : (((deep + 1 : Nat) : Int) == 0) = false := by simp; omega
    have nt : (∀ xs, d ≠ .tup xs) → oIsTup d = some (.bl false) → d_is_game_in (n + 1) [d, .int ((deep + 1 : Nat) : Int)] = .ok (.bl (isG (deep + 1) d)) := fun h ho => by
      have : isG (deep + 1) d = false := by
        unfold isG
        split
        · rfl
        · exact absurd rfl (h _)
        · exact absurd rfl (h _)
        · rfl
      rw [this]
      simp only [d_is_game_in, b_is_game_in, oEq_int, d0, ho, defD, args, dSeq, dSet, dSetP, dSetN, lstAt, dApp, dAppP, dAsg, dPar, dDrop, dWhile, dIfS, dRet, dB, dCall, dCons, dNil, dVar, dC, dBin, dChain, asB, dTru, dNotT, dAndT, dOrT, dAnd, dOr, dNot, dIf, dUn, dTup, dLst, dItems, dYes, R.bind, R.to, O.seq, outR, ofO, noErr, mask, Sm.putIn, bindPat, bindPats, itemsOf, tru, List.foldr_cons, List.foldr_nil, List.length_cons, List.length_nil, List.map_cons, List.map_nil, List.cons_append, List.nil_append, Nat.sub_self, List.replicate_zero, List.replicate_succ, List.getElem?_cons_succ, List.getElem?_cons_zero, List.set_cons_zero, List.set_cons_succ, Nat.reduceAdd, Nat.reduceSub, ↓reduceIte, Bool.not_true, Bool.not_false, Bool.and_true, Bool.true_and, Bool.false_and, Bool.and_false, if_true, if_false, Bool.false_eq_true, oNeg, oAddI, oSubI, oAdd_ii, oLt, oLe, oGt, oGe, Option.bind_some, Option.map_some]
    cases d with
    | non => exact nt (fun _ h => by cases h) rfl
    | bl _ => exact nt (fun _ h => by cases h) rfl
    | int _ => exact nt (fun _ h => by cases h) rfl
    | str _ => exact nt (fun _ h => by cases h) rfl
    | lst _ => exact nt (fun _ h => by cases h) rfl
    | dct _ => simp [okD] at ok
    | exc _ => simp [okD] at ok
    | scr _ => simp [okD] at ok
    | scr0 => simp [okD] at ok
    | fnv => simp [okD] at ok
    | obj _ => simp [okD] at ok
    | dcl _ => simp [okD] at ok
    | scr1 => simp [okD] at ok
    | tup xs =>
      cases xs with
      | nil =>
        have : isG (deep + 1) (.tup []) = false := rfl
        rw [this]
        simp only [d_is_game_in, b_is_game_in, oEq_int, d0, oIsTup, List.isEmpty, defD, args, dSeq, dSet, dSetP, dSetN, lstAt, dApp, dAppP, dAsg, dPar, dDrop, dWhile, dIfS, dRet, dB, dCall, dCons, dNil, dVar, dC, dBin, dChain, asB, dTru, dNotT, dAndT, dOrT, dAnd, dOr, dNot, dIf, dUn, dTup, dLst, dItems, dYes, R.bind, R.to, O.seq, outR, ofO, noErr, mask, Sm.putIn, bindPat, bindPats, itemsOf, tru, List.foldr_cons, List.foldr_nil, List.length_cons, List.length_nil, List.map_cons, List.map_nil, List.cons_append, List.nil_append, Nat.sub_self, List.replicate_zero, List.replicate_succ, List.getElem?_cons_succ, List.getElem?_cons_zero, List.set_cons_zero, List.set_cons_succ, Nat.reduceAdd, Nat.reduceSub, ↓reduceIte, Bool.not_true, Bool.not_false, Bool.and_true, Bool.true_and, Bool.false_and, Bool.and_false, if_true, if_false, Bool.false_eq_true, oNeg, oAddI, oSubI, oAdd_ii, oLt, oLe, oGt, oGe, Option.bind_some, Option.map_some]
      | cons x xs =>
        simp only [okD, okDs, Bool.and_eq_true] at ok
        have wx := whole_any ok.1 (0 - 20) 20
        rw [show (0 : Int) - 20 = -20 by decide] at wx
        cases hx : wh x (-20) 20 with
        | false =>
          rw [isG_not hx]
          rw [hx] at wx
          simp only [d_is_game_in, b_is_game_in, oEq_int, d0, oIsTup, List.isEmpty, oIx_t0, show (0 : Int) - 20 = -20 by decide, wx, defD, args, dSeq, dSet, dSetP, dSetN, lstAt, dApp, dAppP, dAsg, dPar, dDrop, dWhile, dIfS, dRet, dB, dCall, dCons, dNil, dVar, dC, dBin, dChain, asB, dTru, dNotT, dAndT, dOrT, dAnd, dOr, dNot, dIf, dUn, dTup, dLst, dItems, dYes, R.bind, R.to, O.seq, outR, ofO, noErr, mask, Sm.putIn, bindPat, bindPats, itemsOf, tru, List.foldr_cons, List.foldr_nil, List.length_cons, List.length_nil, List.map_cons, List.map_nil, List.cons_append, List.nil_append, Nat.sub_self, List.replicate_zero, List.replicate_succ, List.getElem?_cons_succ, List.getElem?_cons_zero, List.set_cons_zero, List.set_cons_succ, Nat.reduceAdd, Nat.reduceSub, ↓reduceIte, Bool.not_true, Bool.not_false, Bool.and_true, Bool.true_and, Bool.false_and, Bool.and_false, if_true, if_false, Bool.false_eq_true, oNeg, oAddI, oSubI, oAdd_ii, oLt, oLe, oGt, oGe, Option.bind_some, Option.map_some]
        | true =>
          rw [hx] at wx
          refine defD_eq rfl ?_
          unfold b_is_game_in
          refine out_seq (ρ1 := [some (.tup (x :: xs)), some (.int ((deep + 1 : Nat) : Int)), none]) ?_ ?_
          · simp only [oEq_int, d0, oIsTup, List.isEmpty, oIx_t0, show (0 : Int) - 20 = -20 by decide, wx, defD, args, dSeq, dSet, dSetP, dSetN, lstAt, dApp, dAppP, dAsg, dPar, dDrop, dWhile, dIfS, dRet, dB, dCall, dCons, dNil, dVar, dC, dBin, dChain, asB, dTru, dNotT, dAndT, dOrT, dAnd, dOr, dNot, dIf, dUn, dTup, dLst, dItems, dYes, R.bind, R.to, O.seq, outR, ofO, noErr, mask, Sm.putIn, bindPat, bindPats, itemsOf, tru, List.foldr_cons, List.foldr_nil, List.length_cons, List.length_nil, List.map_cons, List.map_nil, List.cons_append, List.nil_append, Nat.sub_self, List.replicate_zero, List.replicate_succ, List.getElem?_cons_succ, List.getElem?_cons_zero, List.set_cons_zero, List.set_cons_succ, Nat.reduceAdd, Nat.reduceSub, ↓reduceIte, Bool.not_true, Bool.not_false, Bool.and_true, Bool.true_and, Bool.false_and, Bool.and_false, if_true, if_false, Bool.false_eq_true, oNeg, oAddI, oSubI, oAdd_ii, oLt, oLe, oGt, oGe, Option.bind_some, Option.map_some]
          cases xs with
          | nil =>
            have : isG (deep + 1) (.tup [x]) = true := by simp only [isG, hx]
            rw [this]
            refine out_seqR ?_
            simp only [oLen, oEq_int, show ((((1 : Nat) : Int)) == 1) = true by decide, defD, args, dSeq, dSet, dSetP, dSetN, lstAt, dApp, dAppP, dAsg, dPar, dDrop, dWhile, dIfS, dRet, dB, dCall, dCons, dNil, dVar, dC, dBin, dChain, asB, dTru, dNotT, dAndT, dOrT, dAnd, dOr, dNot, dIf, dUn, dTup, dLst, dItems, dYes, R.bind, R.to, O.seq, outR, ofO, noErr, mask, Sm.putIn, bindPat, bindPats, itemsOf, tru, List.foldr_cons, List.foldr_nil, List.length_cons, List.length_nil, List.map_cons, List.map_nil, List.cons_append, List.nil_append, Nat.sub_self, List.replicate_zero, List.replicate_succ, List.getElem?_cons_succ, List.getElem?_cons_zero, List.set_cons_zero, List.set_cons_succ, Nat.reduceAdd, Nat.reduceSub, ↓reduceIte, Bool.not_true, Bool.not_false, Bool.and_true, Bool.true_and, Bool.false_and, Bool.and_false, if_true, if_false, Bool.false_eq_true, oNeg, oAddI, oSubI, oAdd_ii, oLt, oLe, oGt, oGe, Option.bind_some, Option.map_some]
          | cons y zs =>
            refine out_seq (ρ1 := [some (.tup (x :: y :: zs)), some (.int ((deep + 1 : Nat) : Int)), none]) ?_ ?_
            · have := len_ne1 (n := (x :: y :: zs).length) (by simp)
              simp only [List.length_cons] at this
              simp only [oLen, oEq_int, List.length_cons, this, defD, args, dSeq, dSet, dSetP, dSetN, lstAt, dApp, dAppP, dAsg, dPar, dDrop, dWhile, dIfS, dRet, dB, dCall, dCons, dNil, dVar, dC, dBin, dChain, asB, dTru, dNotT, dAndT, dOrT, dAnd, dOr, dNot, dIf, dUn, dTup, dLst, dItems, dYes, R.bind, R.to, O.seq, outR, ofO, noErr, mask, Sm.putIn, bindPat, bindPats, itemsOf, tru, List.foldr_cons, List.foldr_nil, List.length_cons, List.length_nil, List.map_cons, List.map_nil, List.cons_append, List.nil_append, Nat.sub_self, List.replicate_zero, List.replicate_succ, List.getElem?_cons_succ, List.getElem?_cons_zero, List.set_cons_zero, List.set_cons_succ, Nat.reduceAdd, Nat.reduceSub, ↓reduceIte, Bool.not_true, Bool.not_false, Bool.and_true, Bool.true_and, Bool.false_and, Bool.and_false, if_true, if_false, Bool.false_eq_true, oNeg, oAddI, oSubI, oAdd_ii, oLt, oLe, oGt, oGe, Option.bind_some, Option.map_some]
            cases zs with
            | cons z zs =>
              have : isG (deep + 1) (.tup (x :: y :: z :: zs)) = false := isG_3
              rw [this]
              refine out_seqR ?_
              have := len_ne2 (n := (x :: y :: z :: zs).length) (by simp)
              simp only [List.length_cons] at this
              simp only [oLen, oNe_int, List.length_cons, this, defD, args, dSeq, dSet, dSetP, dSetN, lstAt, dApp, dAppP, dAsg, dPar, dDrop, dWhile, dIfS, dRet, dB, dCall, dCons, dNil, dVar, dC, dBin, dChain, asB, dTru, dNotT, dAndT, dOrT, dAnd, dOr, dNot, dIf, dUn, dTup, dLst, dItems, dYes, R.bind, R.to, O.seq, outR, ofO, noErr, mask, Sm.putIn, bindPat, bindPats, itemsOf, tru, List.foldr_cons, List.foldr_nil, List.length_cons, List.length_nil, List.map_cons, List.map_nil, List.cons_append, List.nil_append, Nat.sub_self, List.replicate_zero, List.replicate_succ, List.getElem?_cons_succ, List.getElem?_cons_zero, List.set_cons_zero, List.set_cons_succ, Nat.reduceAdd, Nat.reduceSub, ↓reduceIte, Bool.not_true, Bool.not_false, Bool.and_true, Bool.true_and, Bool.false_and, Bool.and_false, if_true, if_false, Bool.false_eq_true, oNeg, oAddI, oSubI, oAdd_ii, oLt, oLe, oGt, oGe, Option.bind_some, Option.map_some]
            | nil =>
              simp only [okDs, Bool.and_eq_true] at ok
              have oky := ok.2.1
              cases y with
              | dct _ => simp [okD] at oky
              | exc _ => simp [okD] at oky
              | scr _ => simp [okD] at oky
              | scr0 => simp [okD] at oky
              | fnv => simp [okD] at oky
              | obj _ => simp [okD] at oky
              | dcl _ => simp [okD] at oky
              | scr1 => simp [okD] at oky
              | tup ws =>
                simp only [okD] at oky
                rw [isG_2 hx]
                cases hw : (decide (1 ≤ ws.length) && decide (ws.length ≤ 3)) with
                | false =>
                  rw [Bool.false_and]
                  refine out_seqR ?_
                  by_cases h1 : 1 ≤ ws.length
                  · rw [decide_eq_true h1, Bool.true_and, decide_eq_false_iff_not] at hw
                    simp only [oNe_int, oLen, oIx_t1, oIsTup, show ((((2 : Nat) : Int)) == 2) = true by decide, decide_eq_true (show (1 : Int) ≤ (ws.length : Int) by omega), decide_eq_false (show ¬ ((ws.length : Int) ≤ 3) by omega), defD, args, dSeq, dSet, dSetP, dSetN, lstAt, dApp, dAppP, dAsg, dPar, dDrop, dWhile, dIfS, dRet, dB, dCall, dCons, dNil, dVar, dC, dBin, dChain, asB, dTru, dNotT, dAndT, dOrT, dAnd, dOr, dNot, dIf, dUn, dTup, dLst, dItems, dYes, R.bind, R.to, O.seq, outR, ofO, noErr, mask, Sm.putIn, bindPat, bindPats, itemsOf, tru, List.foldr_cons, List.foldr_nil, List.length_cons, List.length_nil, List.map_cons, List.map_nil, List.cons_append, List.nil_append, Nat.sub_self, List.replicate_zero, List.replicate_succ, List.getElem?_cons_succ, List.getElem?_cons_zero, List.set_cons_zero, List.set_cons_succ, Nat.reduceAdd, Nat.reduceSub, ↓reduceIte, Bool.not_true, Bool.not_false, Bool.and_true, Bool.true_and, Bool.false_and, Bool.and_false, if_true, if_false, Bool.false_eq_true, oNeg, oAddI, oSubI, oAdd_ii, oLt, oLe, oGt, oGe, Option.bind_some, Option.map_some]
                  · simp only [oNe_int, oLen, oIx_t1, oIsTup, show ((((2 : Nat) : Int)) == 2) = true by decide, decide_eq_false (show ¬ ((1 : Int) ≤ (ws.length : Int)) by omega), defD, args, dSeq, dSet, dSetP, dSetN, lstAt, dApp, dAppP, dAsg, dPar, dDrop, dWhile, dIfS, dRet, dB, dCall, dCons, dNil, dVar, dC, dBin, dChain, asB, dTru, dNotT, dAndT, dOrT, dAnd, dOr, dNot, dIf, dUn, dTup, dLst, dItems, dYes, R.bind, R.to, O.seq, outR, ofO, noErr, mask, Sm.putIn, bindPat, bindPats, itemsOf, tru, List.foldr_cons, List.foldr_nil, List.length_cons, List.length_nil, List.map_cons, List.map_nil, List.cons_append, List.nil_append, Nat.sub_self, List.replicate_zero, List.replicate_succ, List.getElem?_cons_succ, List.getElem?_cons_zero, List.set_cons_zero, List.set_cons_succ, Nat.reduceAdd, Nat.reduceSub, ↓reduceIte, Bool.not_true, Bool.not_false, Bool.and_true, Bool.true_and, Bool.false_and, Bool.and_false, if_true, if_false, Bool.false_eq_true, oNeg, oAddI, oSubI, oAdd_ii, oLt, oLe, oGt, oGe, Option.bind_some, Option.map_some]
                | true =>
                  rw [Bool.true_and]
                  simp only [Bool.and_eq_true, decide_eq_true_eq] at hw
                  refine out_seq (ρ1 := [some (.tup [x, .tup ws]), some (.int ((deep + 1 : Nat) : Int)), none]) ?_ ?_
                  · simp only [oNe_int, oLen, oIx_t1, oIsTup, show ((((2 : Nat) : Int)) == 2) = true by decide, decide_eq_true (show (1 : Int) ≤ (ws.length : Int) by omega), decide_eq_true (show (ws.length : Int) ≤ 3 by omega), defD, args, dSeq, dSet, dSetP, dSetN, lstAt, dApp, dAppP, dAsg, dPar, dDrop, dWhile, dIfS, dRet, dB, dCall, dCons, dNil, dVar, dC, dBin, dChain, asB, dTru, dNotT, dAndT, dOrT, dAnd, dOr, dNot, dIf, dUn, dTup, dLst, dItems, dYes, R.bind, R.to, O.seq, outR, ofO, noErr, mask, Sm.putIn, bindPat, bindPats, itemsOf, tru, List.foldr_cons, List.foldr_nil, List.length_cons, List.length_nil, List.map_cons, List.map_nil, List.cons_append, List.nil_append, Nat.sub_self, List.replicate_zero, List.replicate_succ, List.getElem?_cons_succ, List.getElem?_cons_zero, List.set_cons_zero, List.set_cons_succ, Nat.reduceAdd, Nat.reduceSub, ↓reduceIte, Bool.not_true, Bool.not_false, Bool.and_true, Bool.true_and, Bool.false_and, Bool.and_false, if_true, if_false, Bool.false_eq_true, oNeg, oAddI, oSubI, oAdd_ii, oLt, oLe, oGt, oGe, Option.bind_some, Option.map_some]
                  obtain ⟨l1, l2⟩ := forGo_test (pt := .v 2) (f := dIfS (wayTst d_is_whole) (dRet (dC (.bl false))) .nx) wayT (.bl false) (fun ρ => ∃ z, ρ = [some (.tup [x, .tup ws]), some (.int ((deep + 1 : Nat) : Int)), z]) ws _ ⟨none, rfl⟩ (by
                    rintro d ρ hd ⟨z, rfl⟩
                    have wt := way_test (x0 := some (.tup [x, .tup ws])) (x1 := some (.int ((deep + 1 : Nat) : Int))) (okDs_mem oky hd)
                    refine ⟨_, rfl, fun h => ⟨_, ?_, some d, rfl⟩, fun h => ?_⟩
                    · refine ifs_f ?_ rfl
                      rw [h] at wt; exact wt
                    · refine ifs_t ?_ rfl
                      rw [h] at wt; exact wt)
                  cases hall : ws.all wayT with
                  | false =>
                    rw [ways_bad hall]
                    refine out_seqR ?_
                    unfold dFor
                    simp only [oIx_t1, defD, args, dSeq, dSet, dSetP, dSetN, lstAt, dApp, dAppP, dAsg, dPar, dDrop, dWhile, dIfS, dRet, dB, dCall, dCons, dNil, dVar, dC, dBin, dChain, asB, dTru, dNotT, dAndT, dOrT, dAnd, dOr, dNot, dIf, dUn, dTup, dLst, dItems, dYes, R.bind, R.to, O.seq, outR, ofO, noErr, mask, Sm.putIn, bindPat, bindPats, itemsOf, tru, List.foldr_cons, List.foldr_nil, List.length_cons, List.length_nil, List.map_cons, List.map_nil, List.cons_append, List.nil_append, Nat.sub_self, List.replicate_zero, List.replicate_succ, List.getElem?_cons_succ, List.getElem?_cons_zero, List.set_cons_zero, List.set_cons_succ, Nat.reduceAdd, Nat.reduceSub, ↓reduceIte, Bool.not_true, Bool.not_false, Bool.and_true, Bool.true_and, Bool.false_and, Bool.and_false, if_true, if_false, Bool.false_eq_true, oNeg, oAddI, oSubI, oAdd_ii, oLt, oLe, oGt, oGe, Option.bind_some, Option.map_some]
                    exact l2 hall
                  | true =>
                    obtain ⟨ρ', e1, z, rfl⟩ := l1 hall
                    refine out_seq (ρ1 := [some (.tup [x, .tup ws]), some (.int ((deep + 1 : Nat) : Int)), z]) ?_ (ret_of ?_)
                    · unfold dFor
                      simp only [oIx_t1, defD, args, dSeq, dSet, dSetP, dSetN, lstAt, dApp, dAppP, dAsg, dPar, dDrop, dWhile, dIfS, dRet, dB, dCall, dCons, dNil, dVar, dC, dBin, dChain, asB, dTru, dNotT, dAndT, dOrT, dAnd, dOr, dNot, dIf, dUn, dTup, dLst, dItems, dYes, R.bind, R.to, O.seq, outR, ofO, noErr, mask, Sm.putIn, bindPat, bindPats, itemsOf, tru, List.foldr_cons, List.foldr_nil, List.length_cons, List.length_nil, List.map_cons, List.map_nil, List.cons_append, List.nil_append, Nat.sub_self, List.replicate_zero, List.replicate_succ, List.getElem?_cons_succ, List.getElem?_cons_zero, List.set_cons_zero, List.set_cons_succ, Nat.reduceAdd, Nat.reduceSub, ↓reduceIte, Bool.not_true, Bool.not_false, Bool.and_true, Bool.true_and, Bool.false_and, Bool.and_false, if_true, if_false, Bool.false_eq_true, oNeg, oAddI, oSubI, oAdd_ii, oLt, oLe, oGt, oGe, Option.bind_some, Option.map_some]
                      exact e1
                    have lc : dLcs [2] (.v 2) (dItems (dBin oIx (dVar 0) (dC (.int 1)))) dYes (dCall (d_is_game_in n) (dCons (dBin oIx (dVar 2) (dC (.int 1))) (dCons (dBin oSubI (dVar 1) (dC (.int 1))) dNil))) [some (.tup [x, .tup ws]), some (.int ((deep + 1 : Nat) : Int)), z] = .ok (ws.map fun d => D.bl (isW (isG deep) d)) := by
                      refine lc_ok1 (enc := fun d : D => d) _ ?_ fun d hd => ⟨_, rfl, ?_⟩
                      · simp only [oIx_t1, List.map_id', defD, args, dSeq, dSet, dSetP, dSetN, lstAt, dApp, dAppP, dAsg, dPar, dDrop, dWhile, dIfS, dRet, dB, dCall, dCons, dNil, dVar, dC, dBin, dChain, asB, dTru, dNotT, dAndT, dOrT, dAnd, dOr, dNot, dIf, dUn, dTup, dLst, dItems, dYes, R.bind, R.to, O.seq, outR, ofO, noErr, mask, Sm.putIn, bindPat, bindPats, itemsOf, tru, List.foldr_cons, List.foldr_nil, List.length_cons, List.length_nil, List.map_cons, List.map_nil, List.cons_append, List.nil_append, Nat.sub_self, List.replicate_zero, List.replicate_succ, List.getElem?_cons_succ, List.getElem?_cons_zero, List.set_cons_zero, List.set_cons_succ, Nat.reduceAdd, Nat.reduceSub, ↓reduceIte, Bool.not_true, Bool.not_false, Bool.and_true, Bool.true_and, Bool.false_and, Bool.and_false, if_true, if_false, Bool.false_eq_true, oNeg, oAddI, oSubI, oAdd_ii, oLt, oLe, oGt, oGe, Option.bind_some, Option.map_some]
                      · obtain ⟨k, s, rfl, hk⟩ := snd_of (List.all_eq_true.mp hall d hd)
                        have oks := okDs_mem oky hd
                        simp only [okD, okDs, Bool.and_eq_true] at oks
                        have ih := game_in_any n deep s (by omega) oks.2.1
                        simp only [oIx_t1, show ((deep + 1 : Nat) : Int) - 1 = (deep : Int) by omega, ih, isW, hk, defD, args, dSeq, dSet, dSetP, dSetN, lstAt, dApp, dAppP, dAsg, dPar, dDrop, dWhile, dIfS, dRet, dB, dCall, dCons, dNil, dVar, dC, dBin, dChain, asB, dTru, dNotT, dAndT, dOrT, dAnd, dOr, dNot, dIf, dUn, dTup, dLst, dItems, dYes, R.bind, R.to, O.seq, outR, ofO, noErr, mask, Sm.putIn, bindPat, bindPats, itemsOf, tru, List.foldr_cons, List.foldr_nil, List.length_cons, List.length_nil, List.map_cons, List.map_nil, List.cons_append, List.nil_append, Nat.sub_self, List.replicate_zero, List.replicate_succ, List.getElem?_cons_succ, List.getElem?_cons_zero, List.set_cons_zero, List.set_cons_succ, Nat.reduceAdd, Nat.reduceSub, ↓reduceIte, Bool.not_true, Bool.not_false, Bool.and_true, Bool.true_and, Bool.false_and, Bool.and_false, if_true, if_false, Bool.false_eq_true, oNeg, oAddI, oSubI, oAdd_ii, oLt, oLe, oGt, oGe, Option.bind_some, Option.map_some]
                    have al := all_bools (isW (isG deep)) ws
                    generalize (ws.map fun d => D.bl (isW (isG deep) d)) = L at *
                    simp only [dLc, lc, al, defD, args, dSeq, dSet, dSetP, dSetN, lstAt, dApp, dAppP, dAsg, dPar, dDrop, dWhile, dIfS, dRet, dB, dCall, dCons, dNil, dVar, dC, dBin, dChain, asB, dTru, dNotT, dAndT, dOrT, dAnd, dOr, dNot, dIf, dUn, dTup, dLst, dItems, dYes, R.bind, R.to, O.seq, outR, ofO, noErr, mask, Sm.putIn, bindPat, bindPats, itemsOf, tru, List.foldr_cons, List.foldr_nil, List.length_cons, List.length_nil, List.map_cons, List.map_nil, List.cons_append, List.nil_append, Nat.sub_self, List.replicate_zero, List.replicate_succ, List.getElem?_cons_succ, List.getElem?_cons_zero, List.set_cons_zero, List.set_cons_succ, Nat.reduceAdd, Nat.reduceSub, ↓reduceIte, Bool.not_true, Bool.not_false, Bool.and_true, Bool.true_and, Bool.false_and, Bool.and_false, if_true, if_false, Bool.false_eq_true, oNeg, oAddI, oSubI, oAdd_ii, oLt, oLe, oGt, oGe, Option.bind_some, Option.map_some]
              | _ =>
                rw [isG_y (fun ws h => by cases h)]
                refine out_seqR ?_
                simp only [oNe_int, oLen, oIx_t1, oIsTup, show ((((2 : Nat) : Int)) == 2) = true by decide, defD, args, dSeq, dSet, dSetP, dSetN, lstAt, dApp, dAppP, dAsg, dPar, dDrop, dWhile, dIfS, dRet, dB, dCall, dCons, dNil, dVar, dC, dBin, dChain, asB, dTru, dNotT, dAndT, dOrT, dAnd, dOr, dNot, dIf, dUn, dTup, dLst, dItems, dYes, R.bind, R.to, O.seq, outR, ofO, noErr, mask, Sm.putIn, bindPat, bindPats, itemsOf, tru, List.foldr_cons, List.foldr_nil, List.length_cons, List.length_nil, List.map_cons, List.map_nil, List.cons_append, List.nil_append, Nat.sub_self, List.replicate_zero, List.replicate_succ, List.getElem?_cons_succ, List.getElem?_cons_zero, List.set_cons_zero, List.set_cons_succ, Nat.reduceAdd, Nat.reduceSub, ↓reduceIte, Bool.not_true, Bool.not_false, Bool.and_true, Bool.true_and, Bool.false_and, Bool.and_false, if_true, if_false, Bool.false_eq_true, oNeg, oAddI, oSubI, oAdd_ii, oLt, oLe, oGt, oGe, Option.bind_some, Option.map_some]
theorem game_any {d : D} (ok : okD d = true) : d_is_game [d] = .ok (.bl (isG 4 d)) := by
  have := game_in_any 8 4 d (by decide) ok
  simp only [d_is_game, b_is_game, show d_is_game_in 8 [d, .int 4] = _ from this, defD, args, dSeq, dSet, dSetP, dSetN, lstAt, dApp, dAppP, dAsg, dPar, dDrop, dWhile, dIfS, dRet, dB, dCall, dCons, dNil, dVar, dC, dBin, dChain, asB, dTru, dNotT, dAndT, dOrT, dAnd, dOr, dNot, dIf, dUn, dTup, dLst, dItems, dYes, R.bind, R.to, O.seq, outR, ofO, noErr, mask, Sm.putIn, bindPat, bindPats, itemsOf, tru, List.foldr_cons, List.foldr_nil, List.length_cons, List.length_nil, List.map_cons, List.map_nil, List.cons_append, List.nil_append, Nat.sub_self, List.replicate_zero, List.replicate_succ, List.getElem?_cons_succ, List.getElem?_cons_zero, List.set_cons_zero, List.set_cons_succ, Nat.reduceAdd, Nat.reduceSub, ↓reduceIte, Bool.not_true, Bool.not_false, Bool.and_true, Bool.true_and, Bool.false_and, Bool.and_false, if_true, if_false, Bool.false_eq_true, oNeg, oAddI, oSubI, oAdd_ii, oLt, oLe, oGt, oGe, Option.bind_some, Option.map_some]
theorem look_any {d : D} (ok : okD d = true) : d_look_game [d] = if isG 4 d then .ok .non else .err 1 := by
  cases h : isG 4 d with
  | true => simp only [d_look_game, b_look_game, game_any ok, h, defD, args, dSeq, dSet, dSetP, dSetN, lstAt, dApp, dAppP, dAsg, dPar, dDrop, dWhile, dIfS, dRet, dB, dCall, dCons, dNil, dVar, dC, dBin, dChain, asB, dTru, dNotT, dAndT, dOrT, dAnd, dOr, dNot, dIf, dUn, dTup, dLst, dItems, dYes, R.bind, R.to, O.seq, outR, ofO, noErr, mask, Sm.putIn, bindPat, bindPats, itemsOf, tru, List.foldr_cons, List.foldr_nil, List.length_cons, List.length_nil, List.map_cons, List.map_nil, List.cons_append, List.nil_append, Nat.sub_self, List.replicate_zero, List.replicate_succ, List.getElem?_cons_succ, List.getElem?_cons_zero, List.set_cons_zero, List.set_cons_succ, Nat.reduceAdd, Nat.reduceSub, ↓reduceIte, Bool.not_true, Bool.not_false, Bool.and_true, Bool.true_and, Bool.false_and, Bool.and_false, if_true, if_false, Bool.false_eq_true, oNeg, oAddI, oSubI, oAdd_ii, oLt, oLe, oGt, oGe, Option.bind_some, Option.map_some]
  | false => simp only [d_look_game, b_look_game, game_any ok, h, dRaise, defD, args, dSeq, dSet, dSetP, dSetN, lstAt, dApp, dAppP, dAsg, dPar, dDrop, dWhile, dIfS, dRet, dB, dCall, dCons, dNil, dVar, dC, dBin, dChain, asB, dTru, dNotT, dAndT, dOrT, dAnd, dOr, dNot, dIf, dUn, dTup, dLst, dItems, dYes, R.bind, R.to, O.seq, outR, ofO, noErr, mask, Sm.putIn, bindPat, bindPats, itemsOf, tru, List.foldr_cons, List.foldr_nil, List.length_cons, List.length_nil, List.map_cons, List.map_nil, List.cons_append, List.nil_append, Nat.sub_self, List.replicate_zero, List.replicate_succ, List.getElem?_cons_succ, List.getElem?_cons_zero, List.set_cons_zero, List.set_cons_succ, Nat.reduceAdd, Nat.reduceSub, ↓reduceIte, Bool.not_true, Bool.not_false, Bool.and_true, Bool.true_and, Bool.false_and, Bool.and_false, if_true, if_false, Bool.false_eq_true, oNeg, oAddI, oSubI, oAdd_ii, oLt, oLe, oGt, oGe, Option.bind_some, Option.map_some]
theorem lgame_any : ∀ (n deep : Nat) (d : D), deep < n → okD d = true → d__law_is_game n [d, .int (deep : Int)] = .ok (.bl (isG deep d))
  | 0, _, _, h, _ => by omega
  | n + 1, 0, d, _, ok => by
    have e0 : decide (((0 : Nat) : Int) < 1) = true := by decide
    simp only [d__law_is_game, b__law_is_game, e0, isG, defD, args, dSeq, dSet, dSetP, dSetN, lstAt, dApp, dAppP, dAsg, dPar, dDrop, dWhile, dIfS, dRet, dB, dCall, dCons, dNil, dVar, dC, dBin, dChain, asB, dTru, dNotT, dAndT, dOrT, dAnd, dOr, dNot, dIf, dUn, dTup, dLst, dItems, dYes, R.bind, R.to, O.seq, outR, ofO, noErr, mask, Sm.putIn, bindPat, bindPats, itemsOf, tru, List.foldr_cons, List.foldr_nil, List.length_cons, List.length_nil, List.map_cons, List.map_nil, List.cons_append, List.nil_append, Nat.sub_self, List.replicate_zero, List.replicate_succ, List.getElem?_cons_succ, List.getElem?_cons_zero, List.set_cons_zero, List.set_cons_succ, Nat.reduceAdd, Nat.reduceSub, ↓reduceIte, Bool.not_true, Bool.not_false, Bool.and_true, Bool.true_and, Bool.false_and, Bool.and_false, if_true, if_false, Bool.false_eq_true, oNeg, oAddI, oSubI, oAdd_ii, oLt, oLe, oGt, oGe, Option.bind_some, Option.map_some]
  | n + 1, deep + 1, d, hn, ok => by
    have d0 : decide (((deep + 1 : Nat) : Int) < 1) = false := by simp; omega
    have nt : (∀ xs, d ≠ .tup xs) → oIsTup d = some (.bl false) → d__law_is_game (n + 1) [d, .int ((deep + 1 : Nat) : Int)] = .ok (.bl (isG (deep + 1) d)) := fun h ho => by
      have : isG (deep + 1) d = false := by
        unfold isG
        split
        · rfl
        · exact absurd rfl (h _)
        · exact absurd rfl (h _)
        · rfl
      rw [this]
      simp only [d__law_is_game, b__law_is_game, d0, ho, defD, args, dSeq, dSet, dSetP, dSetN, lstAt, dApp, dAppP, dAsg, dPar, dDrop, dWhile, dIfS, dRet, dB, dCall, dCons, dNil, dVar, dC, dBin, dChain, asB, dTru, dNotT, dAndT, dOrT, dAnd, dOr, dNot, dIf, dUn, dTup, dLst, dItems, dYes, R.bind, R.to, O.seq, outR, ofO, noErr, mask, Sm.putIn, bindPat, bindPats, itemsOf, tru, List.foldr_cons, List.foldr_nil, List.length_cons, List.length_nil, List.map_cons, List.map_nil, List.cons_append, List.nil_append, Nat.sub_self, List.replicate_zero, List.replicate_succ, List.getElem?_cons_succ, List.getElem?_cons_zero, List.set_cons_zero, List.set_cons_succ, Nat.reduceAdd, Nat.reduceSub, ↓reduceIte, Bool.not_true, Bool.not_false, Bool.and_true, Bool.true_and, Bool.false_and, Bool.and_false, if_true, if_false, Bool.false_eq_true, oNeg, oAddI, oSubI, oAdd_ii, oLt, oLe, oGt, oGe, Option.bind_some, Option.map_some]
    cases d with
    | non => exact nt (fun _ h => by cases h) rfl
    | bl _ => exact nt (fun _ h => by cases h) rfl
    | int _ => exact nt (fun _ h => by cases h) rfl
    | str _ => exact nt (fun _ h => by cases h) rfl
    | lst _ => exact nt (fun _ h => by cases h) rfl
    | dct _ => simp [okD] at ok
    | exc _ => simp [okD] at ok
    | scr _ => simp [okD] at ok
    | scr0 => simp [okD] at ok
    | fnv => simp [okD] at ok
    | obj _ => simp [okD] at ok
    | dcl _ => simp [okD] at ok
    | scr1 => simp [okD] at ok
    | tup xs =>
      cases xs with
      | nil =>
        have : isG (deep + 1) (.tup []) = false := rfl
        rw [this]
        simp only [d__law_is_game, b__law_is_game, d0, oIsTup, oLen, show decide ((1 : Int) ≤ ((0 : Nat) : Int)) = false by decide, defD, args, dSeq, dSet, dSetP, dSetN, lstAt, dApp, dAppP, dAsg, dPar, dDrop, dWhile, dIfS, dRet, dB, dCall, dCons, dNil, dVar, dC, dBin, dChain, asB, dTru, dNotT, dAndT, dOrT, dAnd, dOr, dNot, dIf, dUn, dTup, dLst, dItems, dYes, R.bind, R.to, O.seq, outR, ofO, noErr, mask, Sm.putIn, bindPat, bindPats, itemsOf, tru, List.foldr_cons, List.foldr_nil, List.length_cons, List.length_nil, List.map_cons, List.map_nil, List.cons_append, List.nil_append, Nat.sub_self, List.replicate_zero, List.replicate_succ, List.getElem?_cons_succ, List.getElem?_cons_zero, List.set_cons_zero, List.set_cons_succ, Nat.reduceAdd, Nat.reduceSub, ↓reduceIte, Bool.not_true, Bool.not_false, Bool.and_true, Bool.true_and, Bool.false_and, Bool.and_false, if_true, if_false, Bool.false_eq_true, oNeg, oAddI, oSubI, oAdd_ii, oLt, oLe, oGt, oGe, Option.bind_some, Option.map_some]
      | cons x xs =>
        simp only [okD, okDs, Bool.and_eq_true] at ok
        have wx := lwhole_any ok.1 (-20) 20
        have l1 : decide ((1 : Int) ≤ (((x :: xs).length : Nat) : Int)) = true := by simp; omega
        by_cases hl2 : xs.length ≤ 1
        · have l2 : decide ((((x :: xs).length : Nat) : Int) ≤ 2) = true := by simp; omega
          simp only [List.length_cons] at l1 l2
          cases hx : wh x (-20) 20 with
          | false =>
            rw [isG_not hx]
            rw [hx] at wx
            simp only [d__law_is_game, b__law_is_game, d0, oIsTup, oLen, List.length_cons, l1, l2, oIx_t0, wx, defD, args, dSeq, dSet, dSetP, dSetN, lstAt, dApp, dAppP, dAsg, dPar, dDrop, dWhile, dIfS, dRet, dB, dCall, dCons, dNil, dVar, dC, dBin, dChain, asB, dTru, dNotT, dAndT, dOrT, dAnd, dOr, dNot, dIf, dUn, dTup, dLst, dItems, dYes, R.bind, R.to, O.seq, outR, ofO, noErr, mask, Sm.putIn, bindPat, bindPats, itemsOf, tru, List.foldr_cons, List.foldr_nil, List.length_cons, List.length_nil, List.map_cons, List.map_nil, List.cons_append, List.nil_append, Nat.sub_self, List.replicate_zero, List.replicate_succ, List.getElem?_cons_succ, List.getElem?_cons_zero, List.set_cons_zero, List.set_cons_succ, Nat.reduceAdd, Nat.reduceSub, ↓reduceIte, Bool.not_true, Bool.not_false, Bool.and_true, Bool.true_and, Bool.false_and, Bool.and_false, if_true, if_false, Bool.false_eq_true, oNeg, oAddI, oSubI, oAdd_ii, oLt, oLe, oGt, oGe, Option.bind_some, Option.map_some]
          | true =>
            rw [hx] at wx
            refine defD_eq rfl ?_
            unfold b__law_is_game
            refine out_seq (ρ1 := [some (.tup (x :: xs)), some (.int ((deep + 1 : Nat) : Int)), none]) ?_ ?_
            · simp only [d0, oIsTup, oLen, List.length_cons, l1, l2, oIx_t0, wx, defD, args, dSeq, dSet, dSetP, dSetN, lstAt, dApp, dAppP, dAsg, dPar, dDrop, dWhile, dIfS, dRet, dB, dCall, dCons, dNil, dVar, dC, dBin, dChain, asB, dTru, dNotT, dAndT, dOrT, dAnd, dOr, dNot, dIf, dUn, dTup, dLst, dItems, dYes, R.bind, R.to, O.seq, outR, ofO, noErr, mask, Sm.putIn, bindPat, bindPats, itemsOf, tru, List.foldr_cons, List.foldr_nil, List.length_cons, List.length_nil, List.map_cons, List.map_nil, List.cons_append, List.nil_append, Nat.sub_self, List.replicate_zero, List.replicate_succ, List.getElem?_cons_succ, List.getElem?_cons_zero, List.set_cons_zero, List.set_cons_succ, Nat.reduceAdd, Nat.reduceSub, ↓reduceIte, Bool.not_true, Bool.not_false, Bool.and_true, Bool.true_and, Bool.false_and, Bool.and_false, if_true, if_false, Bool.false_eq_true, oNeg, oAddI, oSubI, oAdd_ii, oLt, oLe, oGt, oGe, Option.bind_some, Option.map_some]
            match xs, hl2, ok with
            | [], _, ok =>
              have : isG (deep + 1) (.tup [x]) = true := by simp only [isG, hx]
              rw [this]
              refine out_seqR ?_
              simp only [oLen, oEq_int, show ((((1 : Nat) : Int)) == 1) = true by decide, defD, args, dSeq, dSet, dSetP, dSetN, lstAt, dApp, dAppP, dAsg, dPar, dDrop, dWhile, dIfS, dRet, dB, dCall, dCons, dNil, dVar, dC, dBin, dChain, asB, dTru, dNotT, dAndT, dOrT, dAnd, dOr, dNot, dIf, dUn, dTup, dLst, dItems, dYes, R.bind, R.to, O.seq, outR, ofO, noErr, mask, Sm.putIn, bindPat, bindPats, itemsOf, tru, List.foldr_cons, List.foldr_nil, List.length_cons, List.length_nil, List.map_cons, List.map_nil, List.cons_append, List.nil_append, Nat.sub_self, List.replicate_zero, List.replicate_succ, List.getElem?_cons_succ, List.getElem?_cons_zero, List.set_cons_zero, List.set_cons_succ, Nat.reduceAdd, Nat.reduceSub, ↓reduceIte, Bool.not_true, Bool.not_false, Bool.and_true, Bool.true_and, Bool.false_and, Bool.and_false, if_true, if_false, Bool.false_eq_true, oNeg, oAddI, oSubI, oAdd_ii, oLt, oLe, oGt, oGe, Option.bind_some, Option.map_some]
            | [y], _, ok =>
              refine out_seq (ρ1 := [some (.tup [x, y]), some (.int ((deep + 1 : Nat) : Int)), none]) ?_ ?_
              · simp only [oLen, oEq_int, show ((((2 : Nat) : Int)) == 1) = false by decide, defD, args, dSeq, dSet, dSetP, dSetN, lstAt, dApp, dAppP, dAsg, dPar, dDrop, dWhile, dIfS, dRet, dB, dCall, dCons, dNil, dVar, dC, dBin, dChain, asB, dTru, dNotT, dAndT, dOrT, dAnd, dOr, dNot, dIf, dUn, dTup, dLst, dItems, dYes, R.bind, R.to, O.seq, outR, ofO, noErr, mask, Sm.putIn, bindPat, bindPats, itemsOf, tru, List.foldr_cons, List.foldr_nil, List.length_cons, List.length_nil, List.map_cons, List.map_nil, List.cons_append, List.nil_append, Nat.sub_self, List.replicate_zero, List.replicate_succ, List.getElem?_cons_succ, List.getElem?_cons_zero, List.set_cons_zero, List.set_cons_succ, Nat.reduceAdd, Nat.reduceSub, ↓reduceIte, Bool.not_true, Bool.not_false, Bool.and_true, Bool.true_and, Bool.false_and, Bool.and_false, if_true, if_false, Bool.false_eq_true, oNeg, oAddI, oSubI, oAdd_ii, oLt, oLe, oGt, oGe, Option.bind_some, Option.map_some]
              simp only [okDs, Bool.and_eq_true] at ok
              have oky := ok.2.1
              cases y with
              | dct _ => simp [okD] at oky
              | exc _ => simp [okD] at oky
              | scr _ => simp [okD] at oky
              | scr0 => simp [okD] at oky
              | fnv => simp [okD] at oky
              | obj _ => simp [okD] at oky
              | dcl _ => simp [okD] at oky
              | scr1 => simp [okD] at oky
              | tup ws =>
                simp only [okD] at oky
                rw [isG_2 hx]
                cases hw : (decide (1 ≤ ws.length) && decide (ws.length ≤ 3)) with
                | false =>
                  rw [Bool.false_and]
                  refine out_seqR ?_
                  by_cases h1 : 1 ≤ ws.length
                  · rw [decide_eq_true h1, Bool.true_and, decide_eq_false_iff_not] at hw
                    simp only [oLen, oIx_t1, oIsTup, decide_eq_true (show (1 : Int) ≤ (ws.length : Int) by omega), decide_eq_false (show ¬ ((ws.length : Int) ≤ 3) by omega), defD, args, dSeq, dSet, dSetP, dSetN, lstAt, dApp, dAppP, dAsg, dPar, dDrop, dWhile, dIfS, dRet, dB, dCall, dCons, dNil, dVar, dC, dBin, dChain, asB, dTru, dNotT, dAndT, dOrT, dAnd, dOr, dNot, dIf, dUn, dTup, dLst, dItems, dYes, R.bind, R.to, O.seq, outR, ofO, noErr, mask, Sm.putIn, bindPat, bindPats, itemsOf, tru, List.foldr_cons, List.foldr_nil, List.length_cons, List.length_nil, List.map_cons, List.map_nil, List.cons_append, List.nil_append, Nat.sub_self, List.replicate_zero, List.replicate_succ, List.getElem?_cons_succ, List.getElem?_cons_zero, List.set_cons_zero, List.set_cons_succ, Nat.reduceAdd, Nat.reduceSub, ↓reduceIte, Bool.not_true, Bool.not_false, Bool.and_true, Bool.true_and, Bool.false_and, Bool.and_false, if_true, if_false, Bool.false_eq_true, oNeg, oAddI, oSubI, oAdd_ii, oLt, oLe, oGt, oGe, Option.bind_some, Option.map_some]
                  · simp only [oLen, oIx_t1, oIsTup, decide_eq_false (show ¬ ((1 : Int) ≤ (ws.length : Int)) by omega), defD, args, dSeq, dSet, dSetP, dSetN, lstAt, dApp, dAppP, dAsg, dPar, dDrop, dWhile, dIfS, dRet, dB, dCall, dCons, dNil, dVar, dC, dBin, dChain, asB, dTru, dNotT, dAndT, dOrT, dAnd, dOr, dNot, dIf, dUn, dTup, dLst, dItems, dYes, R.bind, R.to, O.seq, outR, ofO, noErr, mask, Sm.putIn, bindPat, bindPats, itemsOf, tru, List.foldr_cons, List.foldr_nil, List.length_cons, List.length_nil, List.map_cons, List.map_nil, List.cons_append, List.nil_append, Nat.sub_self, List.replicate_zero, List.replicate_succ, List.getElem?_cons_succ, List.getElem?_cons_zero, List.set_cons_zero, List.set_cons_succ, Nat.reduceAdd, Nat.reduceSub, ↓reduceIte, Bool.not_true, Bool.not_false, Bool.and_true, Bool.true_and, Bool.false_and, Bool.and_false, if_true, if_false, Bool.false_eq_true, oNeg, oAddI, oSubI, oAdd_ii, oLt, oLe, oGt, oGe, Option.bind_some, Option.map_some]
                | true =>
                  rw [Bool.true_and]
                  simp only [Bool.and_eq_true, decide_eq_true_eq] at hw
                  refine out_seq (ρ1 := [some (.tup [x, .tup ws]), some (.int ((deep + 1 : Nat) : Int)), none]) ?_ ?_
                  · simp only [oLen, oIx_t1, oIsTup, decide_eq_true (show (1 : Int) ≤ (ws.length : Int) by omega), decide_eq_true (show (ws.length : Int) ≤ 3 by omega), defD, args, dSeq, dSet, dSetP, dSetN, lstAt, dApp, dAppP, dAsg, dPar, dDrop, dWhile, dIfS, dRet, dB, dCall, dCons, dNil, dVar, dC, dBin, dChain, asB, dTru, dNotT, dAndT, dOrT, dAnd, dOr, dNot, dIf, dUn, dTup, dLst, dItems, dYes, R.bind, R.to, O.seq, outR, ofO, noErr, mask, Sm.putIn, bindPat, bindPats, itemsOf, tru, List.foldr_cons, List.foldr_nil, List.length_cons, List.length_nil, List.map_cons, List.map_nil, List.cons_append, List.nil_append, Nat.sub_self, List.replicate_zero, List.replicate_succ, List.getElem?_cons_succ, List.getElem?_cons_zero, List.set_cons_zero, List.set_cons_succ, Nat.reduceAdd, Nat.reduceSub, ↓reduceIte, Bool.not_true, Bool.not_false, Bool.and_true, Bool.true_and, Bool.false_and, Bool.and_false, if_true, if_false, Bool.false_eq_true, oNeg, oAddI, oSubI, oAdd_ii, oLt, oLe, oGt, oGe, Option.bind_some, Option.map_some]
                  obtain ⟨l1, l2⟩ := forGo_test (pt := .v 2) (f := dSeq (dIfS (wayTst d__law_whole) (dRet (dC (.bl false))) .nx) (dIfS (dNotT (dTru (dCall (d__law_is_game n) (dCons (dBin oIx (dVar 2) (dC (.int 1))) (dCons (dBin oSubI (dVar 1) (dC (.int 1))) dNil))))) (dRet (dC (.bl false))) .nx)) (isW (isG deep)) (.bl false) (fun ρ => ∃ z, ρ = [some (.tup [x, .tup ws]), some (.int ((deep + 1 : Nat) : Int)), z]) ws _ ⟨none, rfl⟩ (by
                    rintro d ρ hd ⟨z, rfl⟩
                    have okd := okDs_mem oky hd
                    have wt : wayTst d__law_whole [some (.tup [x, .tup ws]), some (.int ((deep + 1 : Nat) : Int)), some d] = _ := way_test (x0 := some (.tup [x, .tup ws])) (x1 := some (.int ((deep + 1 : Nat) : Int))) okd
                    refine ⟨_, rfl, ?_⟩
                    cases hwd : wayT d with
                    | false =>
                      rw [isW_way hwd]
                      rw [hwd] at wt
                      exact ⟨fun h => (by cases h), fun _ => seq_ret (ifs_t wt rfl)⟩
                    | true =>
                      rw [hwd] at wt
                      obtain ⟨k, s, rfl, hk⟩ := snd_of hwd
                      simp only [okD, okDs, Bool.and_eq_true] at okd
                      have ih := lgame_any n deep s (by omega) okd.2.1
                      have e2 : isW (isG deep) (.tup [k, s]) = isG deep s := by simp only [isW, hk, Bool.true_and]
                      rw [e2]
                      refine ⟨fun h => ⟨_, seq_nx (ifs_f wt rfl) ?_, some (.tup [k, s]), rfl⟩, fun h => seq_nx (ifs_f wt rfl) ?_⟩
                      · rw [h] at ih
                        simp only [oIx_t1, show ((deep + 1 : Nat) : Int) - 1 = (deep : Int) by omega, ih, defD, args, dSeq, dSet, dSetP, dSetN, lstAt, dApp, dAppP, dAsg, dPar, dDrop, dWhile, dIfS, dRet, dB, dCall, dCons, dNil, dVar, dC, dBin, dChain, asB, dTru, dNotT, dAndT, dOrT, dAnd, dOr, dNot, dIf, dUn, dTup, dLst, dItems, dYes, R.bind, R.to, O.seq, outR, ofO, noErr, mask, Sm.putIn, bindPat, bindPats, itemsOf, tru, List.foldr_cons, List.foldr_nil, List.length_cons, List.length_nil, List.map_cons, List.map_nil, List.cons_append, List.nil_append, Nat.sub_self, List.replicate_zero, List.replicate_succ, List.getElem?_cons_succ, List.getElem?_cons_zero, List.set_cons_zero, List.set_cons_succ, Nat.reduceAdd, Nat.reduceSub, ↓reduceIte, Bool.not_true, Bool.not_false, Bool.and_true, Bool.true_and, Bool.false_and, Bool.and_false, if_true, if_false, Bool.false_eq_true, oNeg, oAddI, oSubI, oAdd_ii, oLt, oLe, oGt, oGe, Option.bind_some, Option.map_some]
                      · rw [h] at ih
                        simp only [oIx_t1, show ((deep + 1 : Nat) : Int) - 1 = (deep : Int) by omega, ih, defD, args, dSeq, dSet, dSetP, dSetN, lstAt, dApp, dAppP, dAsg, dPar, dDrop, dWhile, dIfS, dRet, dB, dCall, dCons, dNil, dVar, dC, dBin, dChain, asB, dTru, dNotT, dAndT, dOrT, dAnd, dOr, dNot, dIf, dUn, dTup, dLst, dItems, dYes, R.bind, R.to, O.seq, outR, ofO, noErr, mask, Sm.putIn, bindPat, bindPats, itemsOf, tru, List.foldr_cons, List.foldr_nil, List.length_cons, List.length_nil, List.map_cons, List.map_nil, List.cons_append, List.nil_append, Nat.sub_self, List.replicate_zero, List.replicate_succ, List.getElem?_cons_succ, List.getElem?_cons_zero, List.set_cons_zero, List.set_cons_succ, Nat.reduceAdd, Nat.reduceSub, ↓reduceIte, Bool.not_true, Bool.not_false, Bool.and_true, Bool.true_and, Bool.false_and, Bool.and_false, if_true, if_false, Bool.false_eq_true, oNeg, oAddI, oSubI, oAdd_ii, oLt, oLe, oGt, oGe, Option.bind_some, Option.map_some])
                  cases hall : ws.all (isW (isG deep)) with
                  | false =>
                    refine out_seqR ?_
                    unfold dFor
                    simp only [oIx_t1, defD, args, dSeq, dSet, dSetP, dSetN, lstAt, dApp, dAppP, dAsg, dPar, dDrop, dWhile, dIfS, dRet, dB, dCall, dCons, dNil, dVar, dC, dBin, dChain, asB, dTru, dNotT, dAndT, dOrT, dAnd, dOr, dNot, dIf, dUn, dTup, dLst, dItems, dYes, R.bind, R.to, O.seq, outR, ofO, noErr, mask, Sm.putIn, bindPat, bindPats, itemsOf, tru, List.foldr_cons, List.foldr_nil, List.length_cons, List.length_nil, List.map_cons, List.map_nil, List.cons_append, List.nil_append, Nat.sub_self, List.replicate_zero, List.replicate_succ, List.getElem?_cons_succ, List.getElem?_cons_zero, List.set_cons_zero, List.set_cons_succ, Nat.reduceAdd, Nat.reduceSub, ↓reduceIte, Bool.not_true, Bool.not_false, Bool.and_true, Bool.true_and, Bool.false_and, Bool.and_false, if_true, if_false, Bool.false_eq_true, oNeg, oAddI, oSubI, oAdd_ii, oLt, oLe, oGt, oGe, Option.bind_some, Option.map_some]
                    exact l2 hall
                  | true =>
                    obtain ⟨ρ', e1, z, rfl⟩ := l1 hall
                    refine out_seq (ρ1 := [some (.tup [x, .tup ws]), some (.int ((deep + 1 : Nat) : Int)), z]) ?_ (ret_of rfl)
                    unfold dFor
                    simp only [oIx_t1, defD, args, dSeq, dSet, dSetP, dSetN, lstAt, dApp, dAppP, dAsg, dPar, dDrop, dWhile, dIfS, dRet, dB, dCall, dCons, dNil, dVar, dC, dBin, dChain, asB, dTru, dNotT, dAndT, dOrT, dAnd, dOr, dNot, dIf, dUn, dTup, dLst, dItems, dYes, R.bind, R.to, O.seq, outR, ofO, noErr, mask, Sm.putIn, bindPat, bindPats, itemsOf, tru, List.foldr_cons, List.foldr_nil, List.length_cons, List.length_nil, List.map_cons, List.map_nil, List.cons_append, List.nil_append, Nat.sub_self, List.replicate_zero, List.replicate_succ, List.getElem?_cons_succ, List.getElem?_cons_zero, List.set_cons_zero, List.set_cons_succ, Nat.reduceAdd, Nat.reduceSub, ↓reduceIte, Bool.not_true, Bool.not_false, Bool.and_true, Bool.true_and, Bool.false_and, Bool.and_false, if_true, if_false, Bool.false_eq_true, oNeg, oAddI, oSubI, oAdd_ii, oLt, oLe, oGt, oGe, Option.bind_some, Option.map_some]
                    exact e1
              | _ =>
                rw [isG_y (fun ws h => by cases h)]
                refine out_seqR ?_
                simp only [oIx_t1, oIsTup, defD, args, dSeq, dSet, dSetP, dSetN, lstAt, dApp, dAppP, dAsg, dPar, dDrop, dWhile, dIfS, dRet, dB, dCall, dCons, dNil, dVar, dC, dBin, dChain, asB, dTru, dNotT, dAndT, dOrT, dAnd, dOr, dNot, dIf, dUn, dTup, dLst, dItems, dYes, R.bind, R.to, O.seq, outR, ofO, noErr, mask, Sm.putIn, bindPat, bindPats, itemsOf, tru, List.foldr_cons, List.foldr_nil, List.length_cons, List.length_nil, List.map_cons, List.map_nil, List.cons_append, List.nil_append, Nat.sub_self, List.replicate_zero, List.replicate_succ, List.getElem?_cons_succ, List.getElem?_cons_zero, List.set_cons_zero, List.set_cons_succ, Nat.reduceAdd, Nat.reduceSub, ↓reduceIte, Bool.not_true, Bool.not_false, Bool.and_true, Bool.true_and, Bool.false_and, Bool.and_false, if_true, if_false, Bool.false_eq_true, oNeg, oAddI, oSubI, oAdd_ii, oLt, oLe, oGt, oGe, Option.bind_some, Option.map_some]
        · have l2 : decide ((((x :: xs).length : Nat) : Int) ≤ 2) = false := by simp; omega
          simp only [List.length_cons] at l1 l2
          have : isG (deep + 1) (.tup (x :: xs)) = false := by
            match xs, hl2 with
            | [], h => simp at h
            | [_], h => simp at h
            | y :: z :: zs, _ => exact isG_3
          rw [this]
          simp only [d__law_is_game, b__law_is_game, d0, oIsTup, oLen, List.length_cons, l1, l2, defD, args, dSeq, dSet, dSetP, dSetN, lstAt, dApp, dAppP, dAsg, dPar, dDrop, dWhile, dIfS, dRet, dB, dCall, dCons, dNil, dVar, dC, dBin, dChain, asB, dTru, dNotT, dAndT, dOrT, dAnd, dOr, dNot, dIf, dUn, dTup, dLst, dItems, dYes, R.bind, R.to, O.seq, outR, ofO, noErr, mask, Sm.putIn, bindPat, bindPats, itemsOf, tru, List.foldr_cons, List.foldr_nil, List.length_cons, List.length_nil, List.map_cons, List.map_nil, List.cons_append, List.nil_append, Nat.sub_self, List.replicate_zero, List.replicate_succ, List.getElem?_cons_succ, List.getElem?_cons_zero, List.set_cons_zero, List.set_cons_succ, Nat.reduceAdd, Nat.reduceSub, ↓reduceIte, Bool.not_true, Bool.not_false, Bool.and_true, Bool.true_and, Bool.false_and, Bool.and_false, if_true, if_false, Bool.false_eq_true, oNeg, oAddI, oSubI, oAdd_ii, oLt, oLe, oGt, oGe, Option.bind_some, Option.map_some]
end Kx
namespace Sm
namespace Game
theorem isPath_at {g : Game} {i : Nat} {p : List Nat} (h : IsPath g (i :: p)) : ∃ x, g.ways[i]? = some x ∧ IsPath x.2 p := by
  simp only [IsPath] at h
  cases hx : g.ways[i]? with
  | none => rw [hx] at h; exact h.elim
  | some x => rw [hx] at h; exact ⟨x, rfl, h⟩
theorem isPath_cons {g : Game} {i : Nat} {p : List Nat} {x : Int × Game} (hx : g.ways[i]? = some x) : IsPath g (i :: p) ↔ IsPath x.2 p := by
  simp only [IsPath, hx]
theorem part_cons {g : Game} {i : Nat} {p : List Nat} {x : Int × Game} (hx : g.ways[i]? = some x) : part g (i :: p) = part x.2 p := by
  simp only [part, hx]
theorem put_cons {g o : Game} {i : Nat} {p : List Nat} {x : Int × Game} (hx : g.ways[i]? = some x) : put g (i :: p) o = .node g.worth (g.ways.set i (x.1, put x.2 p o)) := by
  cases g with
  | node w ws => simp only [ways] at hx; simp only [put, hx, worth, ways]
theorem put_ok {o : Game} {m : Nat} (ho : Ok m o) : ∀ {p : List Nat} {g : Game} {n : Nat}, Ok n g → IsPath g p → p.length + m ≤ n → Ok n (put g p o)
  | [], g, n, h, _, hm => by
    have : put g [] o = o := by cases g; rfl
    rw [this]; exact ho.mono (by simpa using hm)
  | i :: p, .node w ws, 0, h, _, _ => h.elim
  | i :: p, .node w ws, n + 1, h, hp, hm => by
    obtain ⟨x, hx, hp⟩ := isPath_at hp
    have hx' : ws[i]? = some x := hx
    rw [put_cons hx]
    rw [List.length_cons] at hm
    have hk := h.2.2 x (List.mem_of_getElem? hx')
    refine ⟨h.1, by simp only [ways, List.length_set]; exact h.2.1, fun q hq => ?_⟩
    rcases List.mem_or_eq_of_mem_set hq with hq | rfl
    · exact h.2.2 q hq
    · exact ⟨hk.1, put_ok ho hk.2 hp (by omega)⟩
end Game
end Sm
namespace Kx
open PySem PySem.Spec L2 Sm
theorem pls_map {α : Type} {n : Nat} (f : α → D) (l : List α) (h : ∀ x ∈ l, pl n (f x) = true) : pls n (l.map f) = true := by
  induction l with
  | nil => rfl
  | cons a l ih => simp only [List.map_cons, pls, h a (by simp), Bool.true_and]; exact ih fun x hx => h x (by simp [hx])
theorem cut_drop {α : Type} (xs : List α) (k : Nat) : cutD xs (some (k : Int)) none = xs.drop k := by
  unfold cutD
  rw [show HT.sIx xs.length 0 (some (k : Int)) = min k xs.length from HT.sIx_nat .., show HT.sIx xs.length xs.length none = xs.length from rfl]
  rw [List.take_of_length_le (by rw [List.length_drop]; omega)]
  by_cases h : k ≤ xs.length
  · rw [Nat.min_eq_left h]
  · rw [Nat.min_eq_right (by omega), List.drop_length, List.drop_of_length_le (by omega)]
theorem cut_take {α : Type} (xs : List α) (k : Nat) : cutD xs none (some (k : Int)) = xs.take k := by
  unfold cutD
  rw [show HT.sIx xs.length xs.length (some (k : Int)) = min k xs.length from HT.sIx_nat .., show HT.sIx xs.length 0 none = 0 from rfl]
  rw [List.drop_zero, Nat.sub_zero]
  by_cases h : k ≤ xs.length
  · rw [Nat.min_eq_left h]
  · rw [Nat.min_eq_right (by omega), List.take_length, List.take_of_length_le (by omega)]
theorem sl_take (p : List Nat) (k : Nat) : oSl (encP p) none (some (k : Int)) = some (encP (p.take k)) := by
  unfold encP
  simp only [oSl]
  rw [cut_take, List.map_take]
end Kx
namespace Sm
open PySem PySem.Spec L2
mutual
def nc : Nat → Nat → D → Bool
  | _, _, .non => true
  | _, _, .bl _ => true
  | _, _, .int _ => true
  | _, _, .str x => PySem.PyData.strOk x
  | n + 1, w, .tup xs => decide (xs.length ≤ w) && ncs n w xs
  | n + 1, w, .lst xs => decide (xs.length ≤ w) && ncs n w xs
  | _, _, _ => false
def ncs : Nat → Nat → List D → Bool
  | _, _, [] => true
  | n, w, x :: xs => nc n w x && ncs n w xs
end
mutual
def ti : Nat → Nat → D → Bool
  | _, _, .int _ => true
  | n + 1, w, .tup xs => decide (xs.length ≤ w) && tis n w xs
  | _, _, _ => false
def tis : Nat → Nat → List D → Bool
  | _, _, [] => true
  | n, w, x :: xs => ti n w x && tis n w xs
end
theorem ncs_iff {n w : Nat} : ∀ {ds : List D}, ncs n w ds = true ↔ ∀ d ∈ ds, nc n w d = true
  | [] => by simp [ncs]
  | d :: ds => by simp [ncs, ncs_iff (ds := ds)]
theorem tis_iff {n w : Nat} : ∀ {ds : List D}, tis n w ds = true ↔ ∀ d ∈ ds, ti n w d = true
  | [] => by simp [tis]
  | d :: ds => by simp [tis, tis_iff (ds := ds)]
theorem nc_tup {n w : Nat} {xs : List D} : nc (n + 1) w (.tup xs) = true ↔ xs.length ≤ w ∧ ∀ d ∈ xs, nc n w d = true := by
  simp only [nc, Bool.and_eq_true, decide_eq_true_eq, ncs_iff]
theorem nc_lst {n w : Nat} {xs : List D} : nc (n + 1) w (.lst xs) = true ↔ xs.length ≤ w ∧ ∀ d ∈ xs, nc n w d = true := by
  simp only [nc, Bool.and_eq_true, decide_eq_true_eq, ncs_iff]
theorem ti_tup {n w : Nat} {xs : List D} : ti (n + 1) w (.tup xs) = true ↔ xs.length ≤ w ∧ ∀ d ∈ xs, ti n w d = true := by
  simp only [ti, Bool.and_eq_true, decide_eq_true_eq, tis_iff]
mutual
theorem nc_pl : ∀ (d : D) (n w : Nat), nc n w d = true → pl n d = true ∧ okD d = true
  | .non, _, _, _ => by simp [pl, okD]
  | .bl _, _, _, _ => by simp [pl, okD]
  | .int _, _, _, _ => by simp [pl, okD]
  | .str _, n, _, h => by simp [nc] at h; simp [pl, okD, h]
  | .tup xs, 0, _, h => by simp [nc] at h
  | .tup xs, n + 1, w, h => by
    simp only [nc, Bool.and_eq_true] at h
    simp only [pl, okD]; exact ncs_pls xs n w h.2
  | .lst xs, 0, _, h => by simp [nc] at h
  | .lst xs, n + 1, w, h => by
    simp only [nc, Bool.and_eq_true] at h
    simp only [pl, okD]; exact ncs_pls xs n w h.2
  | .dct _, n, _, h => by cases n <;> simp [nc] at h
  | .exc _, n, _, h => by cases n <;> simp [nc] at h
  | .scr _, n, _, h => by cases n <;> simp [nc] at h
  | .scr0, n, _, h => by cases n <;> simp [nc] at h
  | .fnv, n, _, h => by cases n <;> simp [nc] at h
  | .obj _, n, _, h => by cases n <;> simp [nc] at h
  | .dcl _, n, _, h => by cases n <;> simp [nc] at h
  | .scr1, n, _, h => by cases n <;> simp [nc] at h
theorem ncs_pls : ∀ (ds : List D) (n w : Nat), ncs n w ds = true → pls n ds = true ∧ okDs ds = true
  | [], _, _, _ => by simp [pls, okDs]
  | d :: ds, n, w, h => by
    simp only [ncs, Bool.and_eq_true] at h
    obtain ⟨a, b⟩ := nc_pl d n w h.1
    obtain ⟨c, e⟩ := ncs_pls ds n w h.2
    simp [pls, okDs, a, b, c, e]
end
theorem nc_mono : ∀ {n m w v : Nat} {d : D}, nc n w d = true → n ≤ m → w ≤ v → nc m v d = true := by
  intro n
  induction n with
  | zero =>
    intro m w v d h hm hw
    cases d <;> cases m <;> simp_all [nc]
  | succ n ih =>
    intro m w v d h hm hw
    cases m with
    | zero => omega
    | succ m =>
      cases d with
      | tup xs =>
        rw [nc_tup] at *
        exact ⟨by omega, fun d hd => ih (h.2 d hd) (by omega) hw⟩
      | lst xs =>
        rw [nc_lst] at *
        exact ⟨by omega, fun d hd => ih (h.2 d hd) (by omega) hw⟩
      | _ => simp_all [nc]
theorem ti_nc : ∀ {n w : Nat} {d : D}, ti n w d = true → nc n w d = true := by
  intro n
  induction n with
  | zero => intro w d h; cases d <;> simp_all [ti, nc]
  | succ n ih =>
    intro w d h
    cases d with
    | tup xs =>
      rw [ti_tup] at h
      rw [nc_tup]
      exact ⟨h.1, fun d hd => ih (h.2 d hd)⟩
    | int _ => simp [nc]
    | _ => simp [ti] at h
theorem ti_mono : ∀ {n m w v : Nat} {d : D}, ti n w d = true → n ≤ m → w ≤ v → ti m v d = true := by
  intro n
  induction n with
  | zero =>
    intro m w v d h hm hw
    cases d <;> cases m <;> simp_all [ti]
  | succ n ih =>
    intro m w v d h hm hw
    cases m with
    | zero => omega
    | succ m =>
      cases d with
      | tup xs =>
        rw [ti_tup] at *
        exact ⟨by omega, fun d hd => ih (h.2 d hd) (by omega) hw⟩
      | int _ => simp [ti]
      | _ => simp [ti] at h
mutual
def plc : D → List (List Nat)
  | .tup xs => [] :: plcs 0 xs
  | _ => [[]]
def plcs : Nat → List D → List (List Nat)
  | _, [] => []
  | k, x :: xs => (plc x).map (k :: ·) ++ plcs (k + 1) xs
end
def atP : D → List Nat → Option D
  | d, [] => some d
  | .tup xs, k :: p => match xs[k]? with
    | some x => atP x p
    | none => none
  | _, _ :: _ => none
def putP : D → List Nat → D → D
  | _, [], new => new
  | .tup xs, k :: p, new => match xs[k]? with
    | some x => .tup (xs.set k (putP x p new))
    | none => .tup xs
  | d, _ :: _, _ => d
theorem mem_plcs {p : List Nat} : ∀ {xs : List D} {k : Nat}, p ∈ plcs k xs ↔ ∃ i x q, xs[i]? = some x ∧ p = (k + i) :: q ∧ q ∈ plc x
  | [], k => by simp [plcs]
  | x :: xs, k => by
    rw [plcs, List.mem_append, mem_plcs (xs := xs) (k := k + 1)]
    constructor
    · rintro (h | ⟨i, y, q, h1, rfl, h2⟩)
      · obtain ⟨q, hq, rfl⟩ := List.mem_map.mp h
        exact ⟨0, x, q, rfl, rfl, hq⟩
      · exact ⟨i + 1, y, q, h1, by rw [show k + 1 + i = k + (i + 1) by omega], h2⟩
    · rintro ⟨i, y, q, h1, rfl, h2⟩
      cases i with
      | zero => cases h1; exact .inl (List.mem_map.mpr ⟨q, h2, rfl⟩)
      | succ i => exact .inr ⟨i, y, q, h1, by rw [show k + 1 + i = k + (i + 1) by omega], h2⟩
theorem plc_at : ∀ {n w : Nat} {d : D} {p : List Nat}, ti n w d = true → p ∈ plc d → p.length ≤ n ∧ ∃ x, atP d p = some x ∧ ti n w x = true := by
  intro n
  induction n with
  | zero =>
    intro w d p h hp
    cases d with
    | int i => simp [plc] at hp; subst hp; exact ⟨Nat.le_refl _, _, rfl, h⟩
    | _ => simp [ti] at h
  | succ n ih =>
    intro w d p h hp
    cases d with
    | int i => simp [plc] at hp; subst hp; exact ⟨Nat.zero_le _, _, rfl, h⟩
    | tup xs =>
      rw [plc, List.mem_cons] at hp
      rcases hp with rfl | hp
      · exact ⟨Nat.zero_le _, _, rfl, h⟩
      · obtain ⟨i, x, q, h1, rfl, h2⟩ := mem_plcs.mp hp
        have hx := (ti_tup.mp h).2 x (List.mem_of_getElem? h1)
        obtain ⟨h3, y, h4, h5⟩ := ih hx h2
        refine ⟨by simp; omega, y, ?_, ti_mono h5 (by omega) (Nat.le_refl _)⟩
        simp only [atP, Nat.zero_add, h1, h4]
    | _ => simp [ti] at h
theorem plc_ne (d : D) : plc d ≠ [] := by cases d <;> simp [plc]
theorem putP_nc : ∀ {n w : Nat} {d new : D} {p : List Nat} {m v : Nat}, ti n w d = true → nc m v new = true → w ≤ v → nc (n + m) v (putP d p new) = true := by
  intro n
  induction n with
  | zero =>
    intro w d new p m v h hn hw
    cases p with
    | nil => simp only [putP]; exact nc_mono hn (by omega) (Nat.le_refl _)
    | cons k p =>
      cases d with
      | int i => simp [putP, nc]
      | _ => simp [ti] at h
  | succ n ih =>
    intro w d new p m v h hn hw
    cases p with
    | nil => simp only [putP]; exact nc_mono hn (by omega) (Nat.le_refl _)
    | cons k p =>
      cases d with
      | int i => simp [putP, nc]
      | tup xs =>
        obtain ⟨h1, h2⟩ := ti_tup.mp h
        simp only [putP]
        have all : ∀ x ∈ xs, nc (n + m) v x = true := fun x hx => nc_mono (ti_nc (h2 x hx)) (by omega) hw
        rw [show n + 1 + m = n + m + 1 by omega]
        cases hk : xs[k]? with
        | none => exact nc_tup.mpr ⟨by omega, all⟩
        | some x =>
          refine nc_tup.mpr ⟨by rw [List.length_set]; omega, fun y hy => ?_⟩
          rcases List.mem_or_eq_of_mem_set hy with hy | rfl
          · exact all y hy
          · exact ih (h2 x (List.mem_of_getElem? hk)) hn hw
      | _ => simp [ti] at h
mutual
def smD (B : Nat) : D → Bool
  | .int i => decide (i.natAbs ≤ B)
  | .tup xs => smDs B xs
  | .lst xs => smDs B xs
  | _ => true
def smDs (B : Nat) : List D → Bool
  | [] => true
  | x :: xs => smD B x && smDs B xs
end
theorem smDs_iff {B : Nat} : ∀ {ds : List D}, smDs B ds = true ↔ ∀ d ∈ ds, smD B d = true
  | [] => by simp [smDs]
  | d :: ds => by simp [smDs, smDs_iff (ds := ds)]
theorem smD_tup {B : Nat} {xs : List D} : smD B (.tup xs) = true ↔ ∀ d ∈ xs, smD B d = true := by simp only [smD, smDs_iff]
theorem smD_at {B : Nat} : ∀ {p : List Nat} {d x : D}, atP d p = some x → smD B d = true → smD B x = true
  | [], d, x, h, hd => by simp only [atP, Option.some.injEq] at h; rw [← h]; exact hd
  | k :: p, .tup xs, x, h, hd => by
    simp only [atP] at h
    cases hk : xs[k]? with
    | none => rw [hk] at h; simp at h
    | some y => rw [hk] at h; exact smD_at (by simpa using h) (smD_tup.mp hd y (List.mem_of_getElem? hk))
  | _ :: _, .int _, _, h, _ => by simp [atP] at h
  | _ :: _, .non, _, h, _ => by simp [atP] at h
  | _ :: _, .bl _, _, h, _ => by simp [atP] at h
  | _ :: _, .str _, _, h, _ => by simp [atP] at h
  | _ :: _, .lst _, _, h, _ => by simp [atP] at h
  | _ :: _, .dct _, _, h, _ => by simp [atP] at h
  | _ :: _, .exc _, _, h, _ => by simp [atP] at h
  | _ :: _, .scr _, _, h, _ => by simp [atP] at h
  | _ :: _, .scr0, _, h, _ => by simp [atP] at h
  | _ :: _, .fnv, _, h, _ => by simp [atP] at h
  | _ :: _, .obj _, _, h, _ => by simp [atP] at h
  | _ :: _, .dcl _, _, h, _ => by simp [atP] at h
  | _ :: _, .scr1, _, h, _ => by simp [atP] at h
end Sm
namespace Kx
open PySem PySem.Spec L2 Sm
theorem range_it {g : DA} {ρ : Sm.Env} {n : Nat} (hg : g ρ = .ok [.int (n : Int)]) (h : n ≤ 16777216) : dRng rng1 g ρ = .ok ((List.range' 0 n).map fun i => D.int ((i : Nat) : Int)) := by
  rw [rng1_it hg h, List.range_eq_range']
theorem tup_at {xs : List D} {k : Nat} {x : D} (h : xs[k]? = some x) : oIx (.tup xs) (.int (k : Int)) = some x := by
  have hl := (List.getElem?_eq_some_iff.mp h).1
  show atI xs (k : Int) = _
  rw [atI_nat' hl, h]
theorem cons_P (k : Nat) (p : List Nat) (h : p.length ≤ 1000) : oAdd (.tup [.int (k : Int)]) (encP p) = some (encP (k :: p)) := by
  have hl : 1 + p.length ≤ sizeLine := Nat.le_trans (show 1 + p.length ≤ 100000 by omega) sizeLine_big
  unfold encP
  simp only [oAdd, List.length_cons, List.length_nil, List.length_map]
  rw [if_pos (by omega)]
  rfl
def plcB (self : List D → R D) : DS := dExt [1] 1 (dLc [3] (.v 3) (dItems (dCall self (dCons (dBin oIx (dVar 0) (dVar 2)) dNil))) dYes (dBin oAdd (dTup (dCons (dVar 2) dNil)) (dVar 3)))
theorem places_loop (n m w : Nat) (hm : m ≤ 1000) (xs : List D) (hn : ∀ d, ti m w d = true → (plc d).length ≤ 100000 → d__law_places n [d] = .ok (.lst ((plc d).map encP))) : ∀ (suf : List D) (k : Nat) (acc : List (List Nat)) (x2 x3 : Option D), (∀ i x, suf[i]? = some x → xs[k + i]? = some x) → (∀ d ∈ suf, ti m w d = true) → acc.length + (plcs k suf).length ≤ 100000 →
    ∃ y2 y3, forGo (.v 2) (plcB (d__law_places n)) ((List.range' k suf.length).map fun i => D.int ((i : Nat) : Int)) [some (.tup xs), some (.lst (acc.map encP)), x2, x3] = .nx [some (.tup xs), some (.lst ((acc ++ plcs k suf).map encP)), y2, y3]
  | [], k, acc, x2, x3, _, _, _ => ⟨x2, x3, by simp [forGo, plcs]⟩
  | x :: suf, k, acc, x2, x3, hx, ht, hl => by
    have hxk : xs[k]? = some x := hx 0 x rfl
    have tx := ht x (by simp)
    rw [plcs, List.length_append, List.length_map] at hl
    obtain ⟨y2, y3, e⟩ := places_loop n m w hm xs hn suf (k + 1) (acc ++ (plc x).map (k :: ·)) (some (.int (k : Int))) x3 (fun i y h => by rw [show k + 1 + i = k + (i + 1) by omega]; exact hx (i + 1) y (by simpa using h)) (fun d hd => ht d (by simp [hd])) (by rw [List.length_append, List.length_map]; omega)
    refine ⟨y2, y3, ?_⟩
    have lc : dLcs [3] (.v 3) (dItems (dCall (d__law_places n) (dCons (dBin oIx (dVar 0) (dVar 2)) dNil))) dYes (dBin oAdd (dTup (dCons (dVar 2) dNil)) (dVar 3)) [some (.tup xs), none, some (.int (k : Int)), x3] = .ok (((plc x).map (k :: ·)).map encP) := by
      have := lc_ok1 (vs := [3]) (pt := .v 3) (it := dItems (dCall (d__law_places n) (dCons (dBin oIx (dVar 0) (dVar 2)) dNil))) (fe := dBin oAdd (dTup (dCons (dVar 2) dNil)) (dVar 3)) (ρ := [some (.tup xs), none, some (.int (k : Int)), x3]) (xs := plc x) (enc := encP) (fun p => encP (k :: p)) (by simp only [tup_at hxk, hn x tx (by omega), defD, args, dSeq, dSet, dSetP, dSetN, lstAt, dApp, dAppP, dAsg, dPar, dDrop, dWhile, dIfS, dRet, dB, dCall, dCons, dNil, dVar, dC, dBin, dChain, asB, dTru, dNotT, dAndT, dOrT, dAnd, dOr, dNot, dIf, dUn, dTup, dLst, dItems, dYes, R.bind, R.to, O.seq, outR, ofO, noErr, mask, Sm.putIn, bindPat, bindPats, itemsOf, tru, List.foldr_cons, List.foldr_nil, List.length_cons, List.length_nil, List.map_cons, List.map_nil, List.cons_append, List.nil_append, Nat.sub_self, List.replicate_zero, List.replicate_succ, List.getElem?_cons_succ, List.getElem?_cons_zero, List.set_cons_zero, List.set_cons_succ, Nat.reduceAdd, Nat.reduceSub, ↓reduceIte, Bool.not_true, Bool.not_false, Bool.and_true, Bool.true_and, Bool.false_and, Bool.and_false, if_true, if_false, Bool.false_eq_true, oNeg, oAddI, oSubI, oAdd_ii, oLt, oLe, oGt, oGe, Option.bind_some, Option.map_some]) fun p hp => ⟨_, rfl, by
        have hl := (plc_at tx hp).1
        simp only [cons_P k p (by omega), defD, args, dSeq, dSet, dSetP, dSetN, lstAt, dApp, dAppP, dAsg, dPar, dDrop, dWhile, dIfS, dRet, dB, dCall, dCons, dNil, dVar, dC, dBin, dChain, asB, dTru, dNotT, dAndT, dOrT, dAnd, dOr, dNot, dIf, dUn, dTup, dLst, dItems, dYes, R.bind, R.to, O.seq, outR, ofO, noErr, mask, Sm.putIn, bindPat, bindPats, itemsOf, tru, List.foldr_cons, List.foldr_nil, List.length_cons, List.length_nil, List.map_cons, List.map_nil, List.cons_append, List.nil_append, Nat.sub_self, List.replicate_zero, List.replicate_succ, List.getElem?_cons_succ, List.getElem?_cons_zero, List.set_cons_zero, List.set_cons_succ, Nat.reduceAdd, Nat.reduceSub, ↓reduceIte, Bool.not_true, Bool.not_false, Bool.and_true, Bool.true_and, Bool.false_and, Bool.and_false, if_true, if_false, Bool.false_eq_true, oNeg, oAddI, oSubI, oAdd_ii, oLt, oLe, oGt, oGe, Option.bind_some, Option.map_some]⟩
      rw [this, List.map_map]; rfl
    have hz : (acc.map encP).length + (((plc x).map (k :: ·)).map encP).length ≤ sizeLine := by
      rw [List.length_map, List.length_map, List.length_map]
      exact Nat.le_trans (by omega) sizeLine_big
    have st : plcB (d__law_places n) [some (.tup xs), some (.lst (acc.map encP)), some (.int (k : Int)), x3] = .nx [some (.tup xs), some (.lst ((acc ++ (plc x).map (k :: ·)).map encP)), some (.int (k : Int)), x3] := by
      rw [List.map_append]
      generalize ((plc x).map (k :: ·)).map encP = P at *
      simp only [plcB, dExt, dLc, lc, if_pos hz, defD, args, dSeq, dSet, dSetP, dSetN, lstAt, dApp, dAppP, dAsg, dPar, dDrop, dWhile, dIfS, dRet, dB, dCall, dCons, dNil, dVar, dC, dBin, dChain, asB, dTru, dNotT, dAndT, dOrT, dAnd, dOr, dNot, dIf, dUn, dTup, dLst, dItems, dYes, R.bind, R.to, O.seq, outR, ofO, noErr, mask, Sm.putIn, bindPat, bindPats, itemsOf, tru, List.foldr_cons, List.foldr_nil, List.length_cons, List.length_nil, List.map_cons, List.map_nil, List.cons_append, List.nil_append, Nat.sub_self, List.replicate_zero, List.replicate_succ, List.getElem?_cons_succ, List.getElem?_cons_zero, List.set_cons_zero, List.set_cons_succ, Nat.reduceAdd, Nat.reduceSub, ↓reduceIte, Bool.not_true, Bool.not_false, Bool.and_true, Bool.true_and, Bool.false_and, Bool.and_false, if_true, if_false, Bool.false_eq_true, oNeg, oAddI, oSubI, oAdd_ii, oLt, oLe, oGt, oGe, Option.bind_some, Option.map_some]
    rw [List.length_cons, List.range'_succ, List.map_cons]
    unfold forGo
    rw [show bindPat (.v 2) (.int (k : Int)) [some (.tup xs), some (.lst (acc.map encP)), x2, x3] = some [some (.tup xs), some (.lst (acc.map encP)), some (.int (k : Int)), x3] from rfl]
    simp only [st, O.seq]
    rw [e]
    simp only [plcs, List.append_assoc]
theorem places_ok : ∀ (n m w : Nat) (d : D), m < n → m ≤ 1000 → w ≤ 1000 → ti m w d = true → (plc d).length ≤ 100000 → d__law_places n [d] = .ok (.lst ((plc d).map encP))
  | 0, _, _, _, h, _, _, _, _ => by omega
  | n + 1, m, w, d, hn, hm, hw, ht, hl => by
    cases d with
    | int i =>
      simp only [d__law_places, b__law_places, oIsTup, plc, encP, defD, args, dSeq, dSet, dSetP, dSetN, lstAt, dApp, dAppP, dAsg, dPar, dDrop, dWhile, dIfS, dRet, dB, dCall, dCons, dNil, dVar, dC, dBin, dChain, asB, dTru, dNotT, dAndT, dOrT, dAnd, dOr, dNot, dIf, dUn, dTup, dLst, dItems, dYes, R.bind, R.to, O.seq, outR, ofO, noErr, mask, Sm.putIn, bindPat, bindPats, itemsOf, tru, List.foldr_cons, List.foldr_nil, List.length_cons, List.length_nil, List.map_cons, List.map_nil, List.cons_append, List.nil_append, Nat.sub_self, List.replicate_zero, List.replicate_succ, List.getElem?_cons_succ, List.getElem?_cons_zero, List.set_cons_zero, List.set_cons_succ, Nat.reduceAdd, Nat.reduceSub, ↓reduceIte, Bool.not_true, Bool.not_false, Bool.and_true, Bool.true_and, Bool.false_and, Bool.and_false, if_true, if_false, Bool.false_eq_true, oNeg, oAddI, oSubI, oAdd_ii, oLt, oLe, oGt, oGe, Option.bind_some, Option.map_some]
    | tup xs =>
      cases m with
      | zero => simp [ti] at ht
      | succ m =>
        obtain ⟨h1, h2⟩ := ti_tup.mp ht
        rw [plc, List.length_cons] at hl
        obtain ⟨y2, y3, e⟩ := places_loop n m w (by omega) xs (fun d hd hl => places_ok n m w d (by omega) (by omega) hw hd hl) xs 0 [[]] none none (fun i x h => by rw [Nat.zero_add]; exact h) h2 (by simp only [List.length_cons, List.length_nil]; omega)
        refine defD_eq rfl ?_
        unfold b__law_places
        refine out_seq (ρ1 := [some (.tup xs), some (.lst ([[]].map encP)), none, none]) ?_ ?_
        · simp only [encP, defD, args, dSeq, dSet, dSetP, dSetN, lstAt, dApp, dAppP, dAsg, dPar, dDrop, dWhile, dIfS, dRet, dB, dCall, dCons, dNil, dVar, dC, dBin, dChain, asB, dTru, dNotT, dAndT, dOrT, dAnd, dOr, dNot, dIf, dUn, dTup, dLst, dItems, dYes, R.bind, R.to, O.seq, outR, ofO, noErr, mask, Sm.putIn, bindPat, bindPats, itemsOf, tru, List.foldr_cons, List.foldr_nil, List.length_cons, List.length_nil, List.map_cons, List.map_nil, List.cons_append, List.nil_append, Nat.sub_self, List.replicate_zero, List.replicate_succ, List.getElem?_cons_succ, List.getElem?_cons_zero, List.set_cons_zero, List.set_cons_succ, Nat.reduceAdd, Nat.reduceSub, ↓reduceIte, Bool.not_true, Bool.not_false, Bool.and_true, Bool.true_and, Bool.false_and, Bool.and_false, if_true, if_false, Bool.false_eq_true, oNeg, oAddI, oSubI, oAdd_ii, oLt, oLe, oGt, oGe, Option.bind_some, Option.map_some]
        refine out_seq (ρ1 := [some (.tup xs), some (.lst (([[]] ++ plcs 0 xs).map encP)), y2, y3]) ?_ (ret_of ?_)
        · refine ifs_t ?_ ?_
          · simp only [oIsTup, defD, args, dSeq, dSet, dSetP, dSetN, lstAt, dApp, dAppP, dAsg, dPar, dDrop, dWhile, dIfS, dRet, dB, dCall, dCons, dNil, dVar, dC, dBin, dChain, asB, dTru, dNotT, dAndT, dOrT, dAnd, dOr, dNot, dIf, dUn, dTup, dLst, dItems, dYes, R.bind, R.to, O.seq, outR, ofO, noErr, mask, Sm.putIn, bindPat, bindPats, itemsOf, tru, List.foldr_cons, List.foldr_nil, List.length_cons, List.length_nil, List.map_cons, List.map_nil, List.cons_append, List.nil_append, Nat.sub_self, List.replicate_zero, List.replicate_succ, List.getElem?_cons_succ, List.getElem?_cons_zero, List.set_cons_zero, List.set_cons_succ, Nat.reduceAdd, Nat.reduceSub, ↓reduceIte, Bool.not_true, Bool.not_false, Bool.and_true, Bool.true_and, Bool.false_and, Bool.and_false, if_true, if_false, Bool.false_eq_true, oNeg, oAddI, oSubI, oAdd_ii, oLt, oLe, oGt, oGe, Option.bind_some, Option.map_some]
          · unfold dFor
            rw [range_it (n := xs.length) (by simp only [oLen, defD, args, dSeq, dSet, dSetP, dSetN, lstAt, dApp, dAppP, dAsg, dPar, dDrop, dWhile, dIfS, dRet, dB, dCall, dCons, dNil, dVar, dC, dBin, dChain, asB, dTru, dNotT, dAndT, dOrT, dAnd, dOr, dNot, dIf, dUn, dTup, dLst, dItems, dYes, R.bind, R.to, O.seq, outR, ofO, noErr, mask, Sm.putIn, bindPat, bindPats, itemsOf, tru, List.foldr_cons, List.foldr_nil, List.length_cons, List.length_nil, List.map_cons, List.map_nil, List.cons_append, List.nil_append, Nat.sub_self, List.replicate_zero, List.replicate_succ, List.getElem?_cons_succ, List.getElem?_cons_zero, List.set_cons_zero, List.set_cons_succ, Nat.reduceAdd, Nat.reduceSub, ↓reduceIte, Bool.not_true, Bool.not_false, Bool.and_true, Bool.true_and, Bool.false_and, Bool.and_false, if_true, if_false, Bool.false_eq_true, oNeg, oAddI, oSubI, oAdd_ii, oLt, oLe, oGt, oGe, Option.bind_some, Option.map_some]) (by omega)]
            exact e
        · rw [plc]
          simp only [dVar, List.getElem?_cons_succ, List.getElem?_cons_zero]
          rfl
    | _ => cases m <;> simp [ti] at ht
theorem pl_ints (n : Nat) : ∀ p : List Nat, pls n (p.map fun i : Nat => D.int (i : Int)) = true
  | [] => rfl
  | i :: p => by simp [pls, pl, pl_ints n p]
theorem pl_P (n : Nat) (p : List Nat) : pl (n + 1) (encP p) = true := by simp only [encP, pl]; exact pl_ints n p
theorem eq_nilP (p : List Nat) : oEq (encP p) (.tup []) = some (.bl (decide (p = []))) := by
  unfold oEq
  rw [pl_pln _ 64 (pl_P 63 p), show pln 64 (.tup []) = true from rfl]
  cases p <;> simp [encP, deq, deqs]
theorem ixP0 (k : Nat) (p : List Nat) : oIx (encP (k :: p)) (.int 0) = some (.int (k : Int)) := oIx_t0 _ _
theorem sl_takeT (xs : List D) (k : Nat) : oSl (.tup xs) none (some (k : Int)) = some (.tup (xs.take k)) := by
  show some (D.tup (cutD xs none (some (k : Int)))) = _
  rw [cut_take]
theorem sl_dropT (xs : List D) (k : Nat) : oSl (.tup xs) (some (k : Int)) none = some (.tup (xs.drop k)) := by
  show some (D.tup (cutD xs (some (k : Int)) none)) = _
  rw [cut_drop]
theorem cut1P (k : Nat) (p : List Nat) : oSl (encP (k :: p)) (some 1) none = some (encP p) := by
  unfold encP
  rw [show (some (1 : Int)) = some ((1 : Nat) : Int) from rfl, sl_dropT]
  rfl
theorem put_ok : ∀ (p : List Nat) (n m w : Nat) (d x new : D), p.length < n → w ≤ 1000 → ti m w d = true → atP d p = some x → d__law_put n [d, encP p, new] = .ok (putP d p new)
  | _, 0, _, _, _, _, _, h, _, _, _ => by omega
  | [], n + 1, m, w, d, x, new, _, _, _, _ => by
    have e := eq_nilP []
    simp only [d__law_put, b__law_put, e, decide_true, putP, defD, args, dSeq, dSet, dSetP, dSetN, lstAt, dApp, dAppP, dAsg, dPar, dDrop, dWhile, dIfS, dRet, dB, dCall, dCons, dNil, dVar, dC, dBin, dChain, asB, dTru, dNotT, dAndT, dOrT, dAnd, dOr, dNot, dIf, dUn, dTup, dLst, dItems, dYes, R.bind, R.to, O.seq, outR, ofO, noErr, mask, Sm.putIn, bindPat, bindPats, itemsOf, tru, List.foldr_cons, List.foldr_nil, List.length_cons, List.length_nil, List.map_cons, List.map_nil, List.cons_append, List.nil_append, Nat.sub_self, List.replicate_zero, List.replicate_succ, List.getElem?_cons_succ, List.getElem?_cons_zero, List.set_cons_zero, List.set_cons_succ, Nat.reduceAdd, Nat.reduceSub, ↓reduceIte, Bool.not_true, Bool.not_false, Bool.and_true, Bool.true_and, Bool.false_and, Bool.and_false, if_true, if_false, Bool.false_eq_true, oNeg, oAddI, oSubI, oAdd_ii, oLt, oLe, oGt, oGe, Option.bind_some, Option.map_some]
  | k :: p, n + 1, m, w, d, x, new, hn, hw, ht, ha => by
    have e := eq_nilP (k :: p)
    rw [decide_eq_false (by simp)] at e
    cases d with
    | tup xs =>
      cases m with
      | zero => simp [ti] at ht
      | succ m =>
        obtain ⟨h1, h2⟩ := ti_tup.mp ht
        simp only [atP] at ha
        cases hk : xs[k]? with
        | none => rw [hk] at ha; cases ha
        | some y =>
          rw [hk] at ha
          have hkl := (List.getElem?_eq_some_iff.mp hk).1
          have ih := put_ok p n m w y x new (by simp at hn; omega) hw (h2 y (List.mem_of_getElem? hk)) ha
          have c1 : oSl (.tup xs) none (some (k : Int)) = some (.tup (xs.take k)) := sl_takeT xs k
          have c2 : oSl (.tup xs) (some ((k : Int) + 1)) none = some (.tup (xs.drop (k + 1))) := by
            rw [show ((k : Int) + 1) = ((k + 1 : Nat) : Int) by omega, sl_dropT]
          have a1 : ∀ z : D, oAdd (.tup (xs.take k)) (.tup [z]) = some (.tup (xs.take k ++ [z])) := fun z => by
            simp only [oAdd]
            rw [if_pos (Nat.le_trans (by rw [List.length_take]; simp; omega) sizeLine_big)]
          have a2 : ∀ z : D, oAdd (.tup (xs.take k ++ [z])) (.tup (xs.drop (k + 1))) = some (.tup (xs.set k z)) := fun z => by
            simp only [oAdd]
            rw [if_pos (Nat.le_trans (by rw [List.length_append, List.length_take, List.length_drop]; simp; omega) sizeLine_big)]
            rw [List.set_eq_take_append_cons_drop, if_pos hkl, List.append_assoc]; rfl
          simp only [putP, hk]
          simp only [d__law_put, b__law_put, e, ixP0, dSl, dNo, dSo, c1, c2, cut1P, tup_at hk, ih, a1, a2, defD, args, dSeq, dSet, dSetP, dSetN, lstAt, dApp, dAppP, dAsg, dPar, dDrop, dWhile, dIfS, dRet, dB, dCall, dCons, dNil, dVar, dC, dBin, dChain, asB, dTru, dNotT, dAndT, dOrT, dAnd, dOr, dNot, dIf, dUn, dTup, dLst, dItems, dYes, R.bind, R.to, O.seq, outR, ofO, noErr, mask, Sm.putIn, bindPat, bindPats, itemsOf, tru, List.foldr_cons, List.foldr_nil, List.length_cons, List.length_nil, List.map_cons, List.map_nil, List.cons_append, List.nil_append, Nat.sub_self, List.replicate_zero, List.replicate_succ, List.getElem?_cons_succ, List.getElem?_cons_zero, List.set_cons_zero, List.set_cons_succ, Nat.reduceAdd, Nat.reduceSub, ↓reduceIte, Bool.not_true, Bool.not_false, Bool.and_true, Bool.true_and, Bool.false_and, Bool.and_false, if_true, if_false, Bool.false_eq_true, oNeg, oAddI, oSubI, oAdd_ii, oLt, oLe, oGt, oGe, Option.bind_some, Option.map_some]
    | _ => simp [atP] at ha
theorem walk_place : ∀ (p : List Nat) (d x : D) (ρ : Sm.Env), atP d p = some x → ρ[5]? = some (some d) → 6 < ρ.length → ∃ z, forGo (.v 6) (dSet [] 5 (dBin oIx (dVar 5) (dVar 6))) (p.map fun i : Nat => D.int (i : Int)) ρ = .nx ((ρ.set 5 (some x)).set 6 z)
  | [], d, x, ρ, h, h5, hl => by
    cases h
    refine ⟨ρ[6], ?_⟩
    simp only [List.map_nil, forGo]
    congr 1
    apply List.ext_getElem?
    intro i
    by_cases h6 : i = 6
    · subst h6
      rw [List.getElem?_set_self (by rw [List.length_set]; exact hl), List.getElem?_eq_getElem hl]
    · rw [List.getElem?_set_ne (fun e => h6 e.symm)]
      by_cases h5' : i = 5
      · subst h5'; rw [List.getElem?_set_self (by omega), h5]
      · rw [List.getElem?_set_ne (fun e => h5' e.symm)]
  | k :: p, d, x, ρ, h, h5, hl => by
    cases d with
    | tup xs =>
      simp only [atP] at h
      cases hk : xs[k]? with
      | none => rw [hk] at h; cases h
      | some y =>
        rw [hk] at h
        have hl5 : 5 < ρ.length := by omega
        obtain ⟨z, e⟩ := walk_place p y x ((ρ.set 6 (some (.int (k : Int)))).set 5 (some y)) h (List.getElem?_set_self (by rw [List.length_set]; omega)) (by rw [List.length_set, List.length_set]; exact hl)
        refine ⟨z, ?_⟩
        have st : dSet [] 5 (dBin oIx (dVar 5) (dVar 6)) (ρ.set 6 (some (.int (k : Int)))) = .nx ((ρ.set 6 (some (.int (k : Int)))).set 5 (some y)) := by
          refine set_nx ?_
          have v5 : dVar 5 (ρ.set 6 (some (.int (k : Int)))) = .ok (.tup xs) := by
            unfold dVar; rw [List.getElem?_set_ne (by decide), h5]
          have v6 : dVar 6 (ρ.set 6 (some (.int (k : Int)))) = .ok (.int (k : Int)) := by
            unfold dVar; rw [List.getElem?_set_self hl]
          show dBin oIx (dVar 5) (dVar 6) (ρ.set 6 (some (.int (k : Int)))) = _
          simp only [dBin, v5, v6, R.bind, tup_at hk, ofO]
        rw [List.map_cons]
        unfold forGo
        rw [show bindPat (.v 6) (.int (k : Int)) ρ = some (ρ.set 6 (some (.int (k : Int)))) from rfl]
        simp only [st, O.seq]
        rw [e]
        congr 1
        apply List.ext_getElem?
        intro i
        by_cases h6 : i = 6
        · subst h6
          rw [List.getElem?_set_self (by simp [hl]), List.getElem?_set_self (by simp [hl])]
        · rw [List.getElem?_set_ne (fun e => h6 e.symm), List.getElem?_set_ne (fun e => h6 e.symm)]
          by_cases h5' : i = 5
          · subst h5'; rw [List.getElem?_set_self (by simp [hl5]), List.getElem?_set_self (by omega)]
          · rw [List.getElem?_set_ne (fun e => h5' e.symm), List.getElem?_set_ne (fun e => h5' e.symm), List.getElem?_set_ne (fun e => h5' e.symm), List.getElem?_set_ne (fun e => h6 e.symm)]
    | _ => simp [atP] at h
def oddL (x : D) : List D := [.int 0, .int 1, .int 9, .int 10, .int 20, .int 21, .int (-20), .int (-21), .bl true, .non, .str "1", .tup [], .tup [.int 1], .tup [.int 0, .int 1], .lst [.int 0], .tup [x], .tup [x, x]]
theorem oddL_nc {m w : Nat} {x : D} (hx : ti m w x = true) : ∀ y ∈ oddL x, nc (m + 2) (max (w + 1) 3) y = true := by
  have h := nc_mono (ti_nc hx) (Nat.le_succ m) (show w ≤ max (w + 1) 3 by omega)
  have e3 : ∀ n, n ≤ 3 → n ≤ max (w + 1) 3 := fun n h => by omega
  have one : ∀ z : D, nc (m + 1) (max (w + 1) 3) z = true → nc (m + 2) (max (w + 1) 3) (.tup [z]) = true := fun z hz => nc_tup.mpr ⟨by simp only [List.length_cons, List.length_nil]; omega, fun y hy => by rw [List.mem_singleton.mp hy]; exact hz⟩
  have two : ∀ z y : D, nc (m + 1) (max (w + 1) 3) z = true → nc (m + 1) (max (w + 1) 3) y = true → nc (m + 2) (max (w + 1) 3) (.tup [z, y]) = true := fun z y hz hy => nc_tup.mpr ⟨by simp only [List.length_cons, List.length_nil]; omega, fun u hu => by
    rcases List.mem_cons.mp hu with rfl | hu
    · exact hz
    · rw [List.mem_singleton.mp hu]; exact hy⟩
  have li : nc (m + 2) (max (w + 1) 3) (.lst [.int 0]) = true := nc_lst.mpr ⟨by simp only [List.length_cons, List.length_nil]; omega, fun y hy => by rw [List.mem_singleton.mp hy]; rfl⟩
  have no : nc (m + 2) (max (w + 1) 3) (.tup []) = true := nc_tup.mpr ⟨Nat.zero_le _, fun z hz => nomatch hz⟩
  have st : nc (m + 2) (max (w + 1) 3) (.str "1") = true := by simp only [nc]; decide +kernel
  intro y hy
  simp only [oddL, List.mem_cons, List.not_mem_nil, or_false] at hy
  rcases hy with rfl | rfl | rfl | rfl | rfl | rfl | rfl | rfl | rfl | rfl | rfl | rfl | rfl | rfl | rfl | rfl | rfl
  · rfl
  · rfl
  · rfl
  · rfl
  · rfl
  · rfl
  · rfl
  · rfl
  · rfl
  · rfl
  · exact st
  · exact no
  · exact one _ rfl
  · exact two _ _ rfl rfl
  · exact li
  · exact one _ h
  · exact two _ _ h h
theorem smD_odd {B : Nat} (hB : 21 ≤ B) {x : D} (hx : smD B x = true) : ∀ y ∈ oddL x, smD B y = true := by
  intro y hy
  simp only [oddL, List.mem_cons, List.not_mem_nil, or_false] at hy
  rcases hy with rfl | rfl | rfl | rfl | rfl | rfl | rfl | rfl | rfl | rfl | rfl | rfl | rfl | rfl | rfl | rfl | rfl <;> simp [smD, smDs, hx] <;> omega
theorem spoilt_okB {pk : Nat → Int → Int} (hp : PkOk pk) (at_ : Nat) {d : D} {m w : Nat} (ht : ti m w d = true) (hm : m ≤ 20) (hw : w ≤ 500) (hl : (plc d).length ≤ 100000) :
    ∃ p new, p ∈ plc d ∧ nc (m + 2) (max (w + 1) 3) new = true ∧ (∀ B : Nat, 21 ≤ B → smD B d = true → smD B new = true) ∧ d__law_spoilt_thing pk [.scr0, .int (at_ : Int), d] = .ok (putP d p new) := by
  have hne : 0 < (plc d).length := List.length_pos_iff.mpr (plc_ne d)
  obtain ⟨j, hj, ej⟩ := pick_at hp at_ hne
  have hpl : (plc d)[j]? = some (plc d)[j] := List.getElem?_eq_getElem hj
  have hmem : (plc d)[j] ∈ plc d := List.getElem_mem hj
  generalize (plc d)[j] = p at *
  obtain ⟨hpn, x, hx1, hx2⟩ := plc_at ht hmem
  have pl := places_ok 24 m w d (by omega) (by omega) (by omega) ht hl
  have pa := at_map (g := encP) hpl
  obtain ⟨v, hv, ev⟩ := pick_at hp (at_ + 1) (show 0 < 23 by decide)
  have pk1 := dPick_ok pk at_ (m := ((plc d).length : Int)) (by omega)
  have pk2 := dPick_ok pk (at_ + 1) (m := 23) (by decide)
  rw [ej] at pk1
  have ev' : pk (at_ + 1) 23 = (v : Int) := ev
  rw [ev'] at pk2
  have a1 : ((at_ : Int) + 1) = ((at_ + 1 : Nat) : Int) := by omega
  have put := fun new => put_ok p 24 m w d x new (by omega) (by omega) ht hx1
  have hlen : ((plc d).map encP).length = (plc d).length := List.length_map ..
  obtain ⟨z, wk⟩ := walk_place p d x [some .scr0, some (.int (at_ : Int)), some d, some (.lst ((plc d).map encP)), some (encP p), some d, none, none, none] hx1 rfl (by simp)
  -- up to the drawn way
  have main : ∀ r : R D, (∀ e : Sm.Env, e = [some .scr0, some (.int (at_ : Int)), some d, some (.lst ((plc d).map encP)), some (encP p), some x, z, some (.lst (oddL x)), some (.int (v : Int))] →
      outR ((dSeq (dIfS (asB (dBin oLt (dVar 8) (dC (.int 17)))) (dRet (dCall (d__law_put 24) (dCons (dVar 2) (dCons (dVar 4) (dCons (dBin oIx (dVar 7) (dVar 8)) dNil))))) .nx)
    (dSeq (dIfS (dAndT (dTru (dUn oIsTup (dVar 5))) (asB (dBin oNe (dVar 5) (dTup dNil)))) (dSeq (dSet [] 6 (dCall (dPick pk) (dCons (dVar 0) (dCons (dBin oAdd (dVar 1) (dC (.int 2))) (dCons (dB oLen (dCons (dVar 5) dNil)) dNil)))))
    (dRet (dCall (d__law_put 24) (dCons (dVar 2) (dCons (dVar 4) (dCons (dIf (asB (dBin oLt (dVar 8) (dC (.int 20)))) (dBin oAdd (dSl (dVar 5) dNo (dSo (dVar 6))) (dSl (dVar 5) (dSo (dBin oAdd (dVar 6) (dC (.int 1)))) dNo)) (dBin oAdd (dSl (dVar 5) dNo (dSo (dBin oAdd (dVar 6) (dC (.int 1))))) (dSl (dVar 5) (dSo (dVar 6)) dNo))) dNil)))))) .nx)
    (dRet (dCall (d__law_put 24) (dCons (dVar 2) (dCons (dVar 4) (dCons (dIf (dTru (dUn oIsInt (dVar 5))) (dBin oSubI (dC (.int 0)) (dVar 5)) (dC (.int 7))) dNil))))))) e) = r) → d__law_spoilt_thing pk [.scr0, .int (at_ : Int), d] = r := by
    intro r hr
    refine defD_eq rfl ?_
    unfold b__law_spoilt_thing
    refine out_seq (ρ1 := [some .scr0, some (.int (at_ : Int)), some d, some (.lst ((plc d).map encP)), none, none, none, none, none]) ?_ ?_
    · simp only [pl, defD, args, dSeq, dSet, dSetP, dSetN, lstAt, dApp, dAppP, dAsg, dPar, dDrop, dWhile, dIfS, dRet, dB, dCall, dCons, dNil, dVar, dC, dBin, dChain, asB, dTru, dNotT, dAndT, dOrT, dAnd, dOr, dNot, dIf, dUn, dTup, dLst, dItems, dYes, R.bind, R.to, O.seq, outR, ofO, noErr, mask, Sm.putIn, bindPat, bindPats, itemsOf, tru, List.foldr_cons, List.foldr_nil, List.length_cons, List.length_nil, List.map_cons, List.map_nil, List.cons_append, List.nil_append, Nat.sub_self, List.replicate_zero, List.replicate_succ, List.getElem?_cons_succ, List.getElem?_cons_zero, List.set_cons_zero, List.set_cons_succ, Nat.reduceAdd, Nat.reduceSub, ↓reduceIte, Bool.not_true, Bool.not_false, Bool.and_true, Bool.true_and, Bool.false_and, Bool.and_false, if_true, if_false, Bool.false_eq_true, oNeg, oAddI, oSubI, oAdd_ii, oLt, oLe, oGt, oGe, Option.bind_some, Option.map_some]
    refine out_seq (ρ1 := [some .scr0, some (.int (at_ : Int)), some d, some (.lst ((plc d).map encP)), some (encP p), none, none, none, none]) ?_ ?_
    · generalize (plc d).map encP = L at *
      rw [← hlen] at pk1
      simp only [oLen, pk1, pa, defD, args, dSeq, dSet, dSetP, dSetN, lstAt, dApp, dAppP, dAsg, dPar, dDrop, dWhile, dIfS, dRet, dB, dCall, dCons, dNil, dVar, dC, dBin, dChain, asB, dTru, dNotT, dAndT, dOrT, dAnd, dOr, dNot, dIf, dUn, dTup, dLst, dItems, dYes, R.bind, R.to, O.seq, outR, ofO, noErr, mask, Sm.putIn, bindPat, bindPats, itemsOf, tru, List.foldr_cons, List.foldr_nil, List.length_cons, List.length_nil, List.map_cons, List.map_nil, List.cons_append, List.nil_append, Nat.sub_self, List.replicate_zero, List.replicate_succ, List.getElem?_cons_succ, List.getElem?_cons_zero, List.set_cons_zero, List.set_cons_succ, Nat.reduceAdd, Nat.reduceSub, ↓reduceIte, Bool.not_true, Bool.not_false, Bool.and_true, Bool.true_and, Bool.false_and, Bool.and_false, if_true, if_false, Bool.false_eq_true, oNeg, oAddI, oSubI, oAdd_ii, oLt, oLe, oGt, oGe, Option.bind_some, Option.map_some]
    refine out_seq (ρ1 := [some .scr0, some (.int (at_ : Int)), some d, some (.lst ((plc d).map encP)), some (encP p), some d, none, none, none]) ?_ ?_
    · simp only [defD, args, dSeq, dSet, dSetP, dSetN, lstAt, dApp, dAppP, dAsg, dPar, dDrop, dWhile, dIfS, dRet, dB, dCall, dCons, dNil, dVar, dC, dBin, dChain, asB, dTru, dNotT, dAndT, dOrT, dAnd, dOr, dNot, dIf, dUn, dTup, dLst, dItems, dYes, R.bind, R.to, O.seq, outR, ofO, noErr, mask, Sm.putIn, bindPat, bindPats, itemsOf, tru, List.foldr_cons, List.foldr_nil, List.length_cons, List.length_nil, List.map_cons, List.map_nil, List.cons_append, List.nil_append, Nat.sub_self, List.replicate_zero, List.replicate_succ, List.getElem?_cons_succ, List.getElem?_cons_zero, List.set_cons_zero, List.set_cons_succ, Nat.reduceAdd, Nat.reduceSub, ↓reduceIte, Bool.not_true, Bool.not_false, Bool.and_true, Bool.true_and, Bool.false_and, Bool.and_false, if_true, if_false, Bool.false_eq_true, oNeg, oAddI, oSubI, oAdd_ii, oLt, oLe, oGt, oGe, Option.bind_some, Option.map_some]
    refine out_seq (ρ1 := [some .scr0, some (.int (at_ : Int)), some d, some (.lst ((plc d).map encP)), some (encP p), some x, z, none, none]) ?_ ?_
    · unfold dFor
      simp only [encP, defD, args, dSeq, dSet, dSetP, dSetN, lstAt, dApp, dAppP, dAsg, dPar, dDrop, dWhile, dIfS, dRet, dB, dCall, dCons, dNil, dVar, dC, dBin, dChain, asB, dTru, dNotT, dAndT, dOrT, dAnd, dOr, dNot, dIf, dUn, dTup, dLst, dItems, dYes, R.bind, R.to, O.seq, outR, ofO, noErr, mask, Sm.putIn, bindPat, bindPats, itemsOf, tru, List.foldr_cons, List.foldr_nil, List.length_cons, List.length_nil, List.map_cons, List.map_nil, List.cons_append, List.nil_append, Nat.sub_self, List.replicate_zero, List.replicate_succ, List.getElem?_cons_succ, List.getElem?_cons_zero, List.set_cons_zero, List.set_cons_succ, Nat.reduceAdd, Nat.reduceSub, ↓reduceIte, Bool.not_true, Bool.not_false, Bool.and_true, Bool.true_and, Bool.false_and, Bool.and_false, if_true, if_false, Bool.false_eq_true, oNeg, oAddI, oSubI, oAdd_ii, oLt, oLe, oGt, oGe, Option.bind_some, Option.map_some]
      exact wk
    refine out_seq (ρ1 := [some .scr0, some (.int (at_ : Int)), some d, some (.lst ((plc d).map encP)), some (encP p), some x, z, some (.lst (oddL x)), none]) ?_ ?_
    · simp only [oddL, defD, args, dSeq, dSet, dSetP, dSetN, lstAt, dApp, dAppP, dAsg, dPar, dDrop, dWhile, dIfS, dRet, dB, dCall, dCons, dNil, dVar, dC, dBin, dChain, asB, dTru, dNotT, dAndT, dOrT, dAnd, dOr, dNot, dIf, dUn, dTup, dLst, dItems, dYes, R.bind, R.to, O.seq, outR, ofO, noErr, mask, Sm.putIn, bindPat, bindPats, itemsOf, tru, List.foldr_cons, List.foldr_nil, List.length_cons, List.length_nil, List.map_cons, List.map_nil, List.cons_append, List.nil_append, Nat.sub_self, List.replicate_zero, List.replicate_succ, List.getElem?_cons_succ, List.getElem?_cons_zero, List.set_cons_zero, List.set_cons_succ, Nat.reduceAdd, Nat.reduceSub, ↓reduceIte, Bool.not_true, Bool.not_false, Bool.and_true, Bool.true_and, Bool.false_and, Bool.and_false, if_true, if_false, Bool.false_eq_true, oNeg, oAddI, oSubI, oAdd_ii, oLt, oLe, oGt, oGe, Option.bind_some, Option.map_some]
    refine out_seq (ρ1 := [some .scr0, some (.int (at_ : Int)), some d, some (.lst ((plc d).map encP)), some (encP p), some x, z, some (.lst (oddL x)), some (.int (v : Int))]) ?_ (hr _ rfl)
    · simp only [a1, pk2, defD, args, dSeq, dSet, dSetP, dSetN, lstAt, dApp, dAppP, dAsg, dPar, dDrop, dWhile, dIfS, dRet, dB, dCall, dCons, dNil, dVar, dC, dBin, dChain, asB, dTru, dNotT, dAndT, dOrT, dAnd, dOr, dNot, dIf, dUn, dTup, dLst, dItems, dYes, R.bind, R.to, O.seq, outR, ofO, noErr, mask, Sm.putIn, bindPat, bindPats, itemsOf, tru, List.foldr_cons, List.foldr_nil, List.length_cons, List.length_nil, List.map_cons, List.map_nil, List.cons_append, List.nil_append, Nat.sub_self, List.replicate_zero, List.replicate_succ, List.getElem?_cons_succ, List.getElem?_cons_zero, List.set_cons_zero, List.set_cons_succ, Nat.reduceAdd, Nat.reduceSub, ↓reduceIte, Bool.not_true, Bool.not_false, Bool.and_true, Bool.true_and, Bool.false_and, Bool.and_false, if_true, if_false, Bool.false_eq_true, oNeg, oAddI, oSubI, oAdd_ii, oLt, oLe, oGt, oGe, Option.bind_some, Option.map_some]
  by_cases h17 : v < 17
  · have hv17 : (oddL x)[v]? = some (oddL x)[v] := List.getElem?_eq_getElem (by simpa [oddL] using h17)
    have hmo : (oddL x)[v]'(by simpa [oddL] using h17) ∈ oddL x := List.getElem_mem _
    generalize (oddL x)[v]'(by simpa [oddL] using h17) = new at *
    refine ⟨p, new, hmem, oddL_nc hx2 new hmo, fun B hB hd => smD_odd hB (smD_at hx1 hd) new hmo, main _ ?_⟩
    rintro e rfl
    have pa2 : oIx (.lst (oddL x)) (.int (v : Int)) = some new := by
      have := at_map (g := fun d : D => d) hv17
      rwa [List.map_id'] at this
    generalize oddL x = L at *
    refine out_seqR ?_
    simp only [decide_eq_true (show (v : Int) < 17 by omega), pa2, put, defD, args, dSeq, dSet, dSetP, dSetN, lstAt, dApp, dAppP, dAsg, dPar, dDrop, dWhile, dIfS, dRet, dB, dCall, dCons, dNil, dVar, dC, dBin, dChain, asB, dTru, dNotT, dAndT, dOrT, dAnd, dOr, dNot, dIf, dUn, dTup, dLst, dItems, dYes, R.bind, R.to, O.seq, outR, ofO, noErr, mask, Sm.putIn, bindPat, bindPats, itemsOf, tru, List.foldr_cons, List.foldr_nil, List.length_cons, List.length_nil, List.map_cons, List.map_nil, List.cons_append, List.nil_append, Nat.sub_self, List.replicate_zero, List.replicate_succ, List.getElem?_cons_succ, List.getElem?_cons_zero, List.set_cons_zero, List.set_cons_succ, Nat.reduceAdd, Nat.reduceSub, ↓reduceIte, Bool.not_true, Bool.not_false, Bool.and_true, Bool.true_and, Bool.false_and, Bool.and_false, if_true, if_false, Bool.false_eq_true, oNeg, oAddI, oSubI, oAdd_ii, oLt, oLe, oGt, oGe, Option.bind_some, Option.map_some]
  · have e17 : decide ((v : Int) < 17) = false := decide_eq_false (by omega)
    cases x with
    | int i =>
      refine ⟨p, .int (0 - i), hmem, rfl, fun B hB hd => by
        have := smD_at hx1 hd
        simp only [smD, decide_eq_true_eq] at this ⊢
        omega, main _ ?_⟩
      rintro e rfl
      simp only [e17, oIsTup, oIsInt, put, defD, args, dSeq, dSet, dSetP, dSetN, lstAt, dApp, dAppP, dAsg, dPar, dDrop, dWhile, dIfS, dRet, dB, dCall, dCons, dNil, dVar, dC, dBin, dChain, asB, dTru, dNotT, dAndT, dOrT, dAnd, dOr, dNot, dIf, dUn, dTup, dLst, dItems, dYes, R.bind, R.to, O.seq, outR, ofO, noErr, mask, Sm.putIn, bindPat, bindPats, itemsOf, tru, List.foldr_cons, List.foldr_nil, List.length_cons, List.length_nil, List.map_cons, List.map_nil, List.cons_append, List.nil_append, Nat.sub_self, List.replicate_zero, List.replicate_succ, List.getElem?_cons_succ, List.getElem?_cons_zero, List.set_cons_zero, List.set_cons_succ, Nat.reduceAdd, Nat.reduceSub, ↓reduceIte, Bool.not_true, Bool.not_false, Bool.and_true, Bool.true_and, Bool.false_and, Bool.and_false, if_true, if_false, Bool.false_eq_true, oNeg, oAddI, oSubI, oAdd_ii, oLt, oLe, oGt, oGe, Option.bind_some, Option.map_some]
    | tup xs =>
      cases m with
      | zero => simp [ti] at hx2
      | succ m =>
      obtain ⟨h1, h2⟩ := ti_tup.mp hx2
      cases xs with
      | nil =>
        refine ⟨p, .int 7, hmem, rfl, fun B hB hd => by simp only [smD, decide_eq_true_eq]; omega, main _ ?_⟩
        rintro e rfl
        have : oNe (.tup []) (.tup []) = some (.bl false) := rfl
        simp only [e17, oIsTup, oIsInt, this, put, defD, args, dSeq, dSet, dSetP, dSetN, lstAt, dApp, dAppP, dAsg, dPar, dDrop, dWhile, dIfS, dRet, dB, dCall, dCons, dNil, dVar, dC, dBin, dChain, asB, dTru, dNotT, dAndT, dOrT, dAnd, dOr, dNot, dIf, dUn, dTup, dLst, dItems, dYes, R.bind, R.to, O.seq, outR, ofO, noErr, mask, Sm.putIn, bindPat, bindPats, itemsOf, tru, List.foldr_cons, List.foldr_nil, List.length_cons, List.length_nil, List.map_cons, List.map_nil, List.cons_append, List.nil_append, Nat.sub_self, List.replicate_zero, List.replicate_succ, List.getElem?_cons_succ, List.getElem?_cons_zero, List.set_cons_zero, List.set_cons_succ, Nat.reduceAdd, Nat.reduceSub, ↓reduceIte, Bool.not_true, Bool.not_false, Bool.and_true, Bool.true_and, Bool.false_and, Bool.and_false, if_true, if_false, Bool.false_eq_true, oNeg, oAddI, oSubI, oAdd_ii, oLt, oLe, oGt, oGe, Option.bind_some, Option.map_some]
      | cons y ys =>
        obtain ⟨k, hk, ek⟩ := pick_at hp (at_ + 2) (show 0 < (y :: ys).length by simp)
        have pk3 := dPick_ok pk (at_ + 2) (m := ((y :: ys).length : Int)) (by simp)
        rw [ek] at pk3
        have a2 : ((at_ : Int) + 2) = ((at_ + 2 : Nat) : Int) := by omega
        have hne2 : oNe (.tup (y :: ys)) (.tup []) = some (.bl true) := by
          unfold oNe
          rw [pl_pln _ 64 (by have := (nc_pl _ _ _ (nc_mono (ti_nc hx2) (show m + 1 ≤ 64 by omega) (Nat.le_refl _))).1; exact this), show pln 64 (.tup []) = true from rfl]
          simp [deq, deqs]
        have nn : ∀ zs : List D, zs.length ≤ w + 1 → (∀ z ∈ zs, z ∈ y :: ys) → nc (m + 1 + 2) (max (w + 1) 3) (.tup zs) = true := fun zs hz hs => by
          rw [show m + 1 + 2 = (m + 2) + 1 by omega]
          exact nc_tup.mpr ⟨by omega, fun z hz => nc_mono (ti_nc (h2 z (hs z hz))) (by omega) (by omega)⟩
        have c1 := sl_takeT (y :: ys) k
        have c2 : oSl (.tup (y :: ys)) (some ((k : Int) + 1)) none = some (.tup ((y :: ys).drop (k + 1))) := by
          rw [show ((k : Int) + 1) = ((k + 1 : Nat) : Int) by omega, sl_dropT]
        have c3 : oSl (.tup (y :: ys)) none (some ((k : Int) + 1)) = some (.tup ((y :: ys).take (k + 1))) := by
          rw [show ((k : Int) + 1) = ((k + 1 : Nat) : Int) by omega, sl_takeT]
        have c4 := sl_dropT (y :: ys) k
        have add : ∀ us vs : List D, us.length ≤ 1000 → vs.length ≤ 1000 → oAdd (.tup us) (.tup vs) = some (.tup (us ++ vs)) := fun us vs hu hv => by
          simp only [oAdd]
          rw [if_pos (Nat.le_trans (by omega) sizeLine_big)]
        have b1 := add ((y :: ys).take k) ((y :: ys).drop (k + 1)) (by rw [List.length_take]; omega) (by rw [List.length_drop]; omega)
        have b2 := add ((y :: ys).take (k + 1)) ((y :: ys).drop k) (by rw [List.length_take]; omega) (by rw [List.length_drop]; omega)
        have tw : oIsTup (.tup (y :: ys)) = some (.bl true) := rfl
        have ol : oLen [.tup (y :: ys)] = some (.int ((y :: ys).length : Int)) := rfl
        by_cases h20 : v < 20
        · refine ⟨p, .tup ((y :: ys).take k ++ (y :: ys).drop (k + 1)), hmem, nn _ (by rw [List.length_append, List.length_take, List.length_drop]; omega) (fun z hz => ?_), fun B hB hd => smD_tup.mpr fun z hz => smD_tup.mp (smD_at hx1 hd) z ?_, main _ ?_⟩
          · rcases List.mem_append.mp hz with hz | hz
            · exact List.mem_of_mem_take hz
            · exact List.mem_of_mem_drop hz
          · rcases List.mem_append.mp hz with hz | hz
            · exact List.mem_of_mem_take hz
            · exact List.mem_of_mem_drop hz
          · rintro e rfl
            generalize y :: ys = Y at *
            simp only [e17, tw, hne2, ol, a2, pk3, decide_eq_true (show (v : Int) < 20 by omega), dSl, dNo, dSo, c1, c2, b1, put, defD, args, dSeq, dSet, dSetP, dSetN, lstAt, dApp, dAppP, dAsg, dPar, dDrop, dWhile, dIfS, dRet, dB, dCall, dCons, dNil, dVar, dC, dBin, dChain, asB, dTru, dNotT, dAndT, dOrT, dAnd, dOr, dNot, dIf, dUn, dTup, dLst, dItems, dYes, R.bind, R.to, O.seq, outR, ofO, noErr, mask, Sm.putIn, bindPat, bindPats, itemsOf, tru, List.foldr_cons, List.foldr_nil, List.length_cons, List.length_nil, List.map_cons, List.map_nil, List.cons_append, List.nil_append, Nat.sub_self, List.replicate_zero, List.replicate_succ, List.getElem?_cons_succ, List.getElem?_cons_zero, List.set_cons_zero, List.set_cons_succ, Nat.reduceAdd, Nat.reduceSub, ↓reduceIte, Bool.not_true, Bool.not_false, Bool.and_true, Bool.true_and, Bool.false_and, Bool.and_false, if_true, if_false, Bool.false_eq_true, oNeg, oAddI, oSubI, oAdd_ii, oLt, oLe, oGt, oGe, Option.bind_some, Option.map_some]
        · refine ⟨p, .tup ((y :: ys).take (k + 1) ++ (y :: ys).drop k), hmem, nn _ (by rw [List.length_append, List.length_take, List.length_drop]; omega) (fun z hz => ?_), fun B hB hd => smD_tup.mpr fun z hz => smD_tup.mp (smD_at hx1 hd) z ?_, main _ ?_⟩
          · rcases List.mem_append.mp hz with hz | hz
            · exact List.mem_of_mem_take hz
            · exact List.mem_of_mem_drop hz
          · rcases List.mem_append.mp hz with hz | hz
            · exact List.mem_of_mem_take hz
            · exact List.mem_of_mem_drop hz
          · rintro e rfl
            generalize y :: ys = Y at *
            simp only [e17, tw, hne2, ol, a2, pk3, decide_eq_false (show ¬ ((v : Int) < 20) by omega), dSl, dNo, dSo, c3, c4, b2, put, defD, args, dSeq, dSet, dSetP, dSetN, lstAt, dApp, dAppP, dAsg, dPar, dDrop, dWhile, dIfS, dRet, dB, dCall, dCons, dNil, dVar, dC, dBin, dChain, asB, dTru, dNotT, dAndT, dOrT, dAnd, dOr, dNot, dIf, dUn, dTup, dLst, dItems, dYes, R.bind, R.to, O.seq, outR, ofO, noErr, mask, Sm.putIn, bindPat, bindPats, itemsOf, tru, List.foldr_cons, List.foldr_nil, List.length_cons, List.length_nil, List.map_cons, List.map_nil, List.cons_append, List.nil_append, Nat.sub_self, List.replicate_zero, List.replicate_succ, List.getElem?_cons_succ, List.getElem?_cons_zero, List.set_cons_zero, List.set_cons_succ, Nat.reduceAdd, Nat.reduceSub, ↓reduceIte, Bool.not_true, Bool.not_false, Bool.and_true, Bool.true_and, Bool.false_and, Bool.and_false, if_true, if_false, Bool.false_eq_true, oNeg, oAddI, oSubI, oAdd_ii, oLt, oLe, oGt, oGe, Option.bind_some, Option.map_some]
    | _ => cases m <;> simp [ti] at hx2
theorem spoilt_ok {pk : Nat → Int → Int} (hp : PkOk pk) (at_ : Nat) {d : D} {m w : Nat} (ht : ti m w d = true) (hm : m ≤ 20) (hw : w ≤ 500) (hl : (plc d).length ≤ 100000) :
    ∃ p new, p ∈ plc d ∧ nc (m + 2) (max (w + 1) 3) new = true ∧ d__law_spoilt_thing pk [.scr0, .int (at_ : Int), d] = .ok (putP d p new) := by
  obtain ⟨p, new, h1, h2, _, h4⟩ := spoilt_okB hp at_ ht hm hw hl
  exact ⟨p, new, h1, h2, h4⟩
end Kx
namespace Sm
open PySem PySem.Spec L2
theorem out_step {f g : DS} {ρ : Env} {o : O} {r : R D} (h : f ρ = o) (h2 : outR (o.seq g) = r) : outR (dSeq f g ρ) = r := by
  unfold dSeq; rw [h]; exact h2
section
variable {α β : Type} {own : List Nat} {pt : Pat} {it : DI} {f g : DS} {ρ : Env} {r : R D}
end
end Sm
namespace Kx
open PySem PySem.Spec L2 Sm
theorem ti_int (n w : Nat) (i : Int) : ti n w (.int i) = true := by cases n <;> rfl
theorem game_ti : ∀ {n : Nat} {g : Game}, g.Ok n → ti (3 * n) 3 g.enc = true
  | 0, _, h => h.elim
  | n + 1, .node w ws, h => by
    rw [show 3 * (n + 1) = 3 * n + 2 + 1 by omega]
    cases ws with
    | nil => rw [enc_end]; exact ti_tup.mpr ⟨by simp, fun d hd => by rw [List.mem_singleton.mp hd]; exact ti_int _ _ _⟩
    | cons x ws =>
      rw [enc_go]
      refine ti_tup.mpr ⟨by simp, fun d hd => ?_⟩
      rcases List.mem_cons.mp hd with rfl | hd
      · exact ti_int _ _ _
      · rw [List.mem_singleton.mp hd]
        refine ti_tup.mpr ⟨by rw [List.length_map]; exact h.2.1, fun d hd => ?_⟩
        obtain ⟨p, hp, rfl⟩ := List.mem_map.mp hd
        refine ti_tup.mpr ⟨by simp, fun d hd => ?_⟩
        rcases List.mem_cons.mp hd with rfl | hd
        · exact ti_int _ _ _
        · rw [List.mem_singleton.mp hd]
          exact game_ti (h.2.2 p hp).2
def szG : Nat → Nat
  | 0 => 0
  | n + 1 => 3 + 3 * (2 + szG n)
theorem plcs_le (b : Nat) : ∀ (xs : List D) (k : Nat), (∀ x ∈ xs, (plc x).length ≤ b) → (plcs k xs).length ≤ xs.length * b
  | [], _, _ => by simp [plcs]
  | x :: xs, k, h => by
    rw [plcs, List.length_append, List.length_map, List.length_cons, Nat.succ_mul]
    have := h x (by simp)
    have := plcs_le b xs (k + 1) fun y hy => h y (by simp [hy])
    omega
theorem game_plc : ∀ {n : Nat} {g : Game}, g.Ok n → (plc g.enc).length ≤ szG n
  | 0, _, h => h.elim
  | n + 1, .node w ws, h => by
    cases ws with
    | nil => rw [enc_end]; simp [plc, plcs, szG]; omega
    | cons x ws =>
      rw [enc_go]
      have h1 := plcs_le (2 + szG n) ((x :: ws).map fun p => D.tup [.int p.1, p.2.enc]) 0 (by
        intro d hd
        obtain ⟨p, hp, rfl⟩ := List.mem_map.mp hd
        have := game_plc (h.2.2 p hp).2
        simp only [plc, plcs, List.map_cons, List.map_nil, List.length_cons, List.length_append, List.length_map, List.length_nil]
        omega)
      rw [List.length_map] at h1
      have h2 := h.2.1
      have h3 : (x :: ws).length * (2 + szG n) ≤ 3 * (2 + szG n) := Nat.mul_le_mul_right _ h2
      generalize (x :: ws).map (fun p => D.tup [.int p.1, p.2.enc]) = L at *
      simp only [plc, plcs, List.map_cons, List.map_nil, List.length_cons, List.length_append, List.length_map, List.length_nil, szG]
      omega
theorem spoilt_game {pk : Nat → Int → Int} (hp : PkOk pk) (at_ : Nat) {g : Game} (h : g.Ok 4) : ∃ d, d__law_spoilt_thing pk [.scr0, .int (at_ : Int), g.enc] = .ok d ∧ nc 30 4 d = true := by
  have hl := game_plc h
  obtain ⟨p, new, h1, h2, h3⟩ := spoilt_ok hp at_ (game_ti h) (by decide) (by decide) (Nat.le_trans hl (by decide))
  exact ⟨_, h3, nc_mono (putP_nc (game_ti h) h2 (by decide)) (by decide) (by decide)⟩
theorem word_ok {c : Nat} (h : c = 1 ∨ c = 2 ∨ c = 3 ∨ c = 4 ∨ c = 5 ∨ c = 6) : d__law_word [.exc c] = .ok (.str (["", "no game", "no path", "no rule", "no bets", "unpaid", "no text"].getD c "")) := by
  rcases h with rfl | rfl | rfl | rfl | rfl | rfl <;> rfl
end Kx
namespace Kx
open PySem PySem.Spec L2 Sm
theorem ends_ok {g : Game} {d : Nat} (hg : g.Ok d) (hd : d ≤ 6) : d_ends_of [g.enc] = .ok (.lst ((g.paths.filter fun p => decide ((g.part p).ways = [])).map encP)) := by
  refine defD_eq rfl (ret_of (dLc_of ?_))
  refine lc_ok (xs := g.paths) (enc := encP) (fun p => decide ((g.part p).ways = [])) encP ?_ fun p hp => ⟨_, rfl, ?_, fun _ => rfl⟩
  · have := paths_of_ok 8 d (by omega) hd g hg
    simp only [this, defD, args, dSeq, dSet, dSetP, dSetN, lstAt, dApp, dAppP, dAsg, dPar, dDrop, dWhile, dIfS, dRet, dB, dCall, dCons, dNil, dVar, dC, dBin, dChain, asB, dTru, dNotT, dAndT, dOrT, dAnd, dOr, dNot, dIf, dUn, dTup, dLst, dItems, dYes, R.bind, R.to, O.seq, outR, ofO, noErr, mask, Sm.putIn, bindPat, bindPats, itemsOf, tru, List.foldr_cons, List.foldr_nil, List.length_cons, List.length_nil, List.map_cons, List.map_nil, List.cons_append, List.nil_append, Nat.sub_self, List.replicate_zero, List.replicate_succ, List.getElem?_cons_succ, List.getElem?_cons_zero, List.set_cons_zero, List.set_cons_succ, Nat.reduceAdd, Nat.reduceSub, ↓reduceIte, Bool.not_true, Bool.not_false, Bool.and_true, Bool.true_and, Bool.false_and, Bool.and_false, if_true, if_false, Bool.false_eq_true, oNeg, oAddI, oSubI, oAdd_ii, oLt, oLe, oGt, oGe, Option.bind_some, Option.map_some]
  · have hp := (Game.mem_paths g p).mp hp
    simp only [part_of_ok hp, end_ok, defD, args, dSeq, dSet, dSetP, dSetN, lstAt, dApp, dAppP, dAsg, dPar, dDrop, dWhile, dIfS, dRet, dB, dCall, dCons, dNil, dVar, dC, dBin, dChain, asB, dTru, dNotT, dAndT, dOrT, dAnd, dOr, dNot, dIf, dUn, dTup, dLst, dItems, dYes, R.bind, R.to, O.seq, outR, ofO, noErr, mask, Sm.putIn, bindPat, bindPats, itemsOf, tru, List.foldr_cons, List.foldr_nil, List.length_cons, List.length_nil, List.map_cons, List.map_nil, List.cons_append, List.nil_append, Nat.sub_self, List.replicate_zero, List.replicate_succ, List.getElem?_cons_succ, List.getElem?_cons_zero, List.set_cons_zero, List.set_cons_succ, Nat.reduceAdd, Nat.reduceSub, ↓reduceIte, Bool.not_true, Bool.not_false, Bool.and_true, Bool.true_and, Bool.false_and, Bool.and_false, if_true, if_false, Bool.false_eq_true, oNeg, oAddI, oSubI, oAdd_ii, oLt, oLe, oGt, oGe, Option.bind_some, Option.map_some]
theorem len_encP (p : List Nat) : oLen [encP p] = some (.int (p.length : Int)) := by
  unfold encP; simp only [oLen, List.length_map]
theorem deq_path : ∀ p q : List Nat, deqs (p.map fun i : Nat => D.int (i : Int)) (q.map fun i : Nat => D.int (i : Int)) = decide (p = q)
  | [], [] => rfl
  | [], _ :: _ => by simp [deqs]
  | _ :: _, [] => by simp [deqs]
  | i :: p, j :: q => by
    simp only [List.map_cons, deqs, deq_path p q, deq]
    by_cases h : i = j
    · subst h; simp
    · have : ((i : Int) == (j : Int)) = false := by simp; omega
      rw [this]; simp [h]
theorem oLen_enc (g : Game) : oLen [g.enc] = some (.int (if g.ways = [] then 1 else 2)) := by
  cases g with
  | node w ws =>
    cases ws with
    | nil => rw [enc_end]; rfl
    | cons x ws => rw [enc_go]; rfl
end Kx
namespace Kx
open PySem PySem.Spec L2 Sm
theorem shares_ok {n : Nat} {g : Game} (h : g.Ok n) : d_shares_of [g.enc] = .ok (.lst (g.ways.map fun x => encQ (Rat.divInt x.1 g.total))) := by
  have tb := Game.total_bd h
  refine defD_eq rfl ?_
  unfold b_shares_of
  have lc : dLcs [2, 3] (.t [(.v 2), (.v 3)]) (dItems (dCall d_ways_of (dCons (dVar 0) dNil))) dYes (dVar 2) [some g.enc, none, none, none] = .ok (g.ways.map fun p => D.int p.1) :=
    lc_ok1 (enc := fun p : Int × Game => D.tup [.int p.1, p.2.enc]) _ (by simp only [ways_ok, encW, defD, args, dSeq, dSet, dSetP, dSetN, lstAt, dApp, dAppP, dAsg, dPar, dDrop, dWhile, dIfS, dRet, dB, dCall, dCons, dNil, dVar, dC, dBin, dChain, asB, dTru, dNotT, dAndT, dOrT, dAnd, dOr, dNot, dIf, dUn, dTup, dLst, dItems, dYes, R.bind, R.to, O.seq, outR, ofO, noErr, mask, Sm.putIn, bindPat, bindPats, itemsOf, tru, List.foldr_cons, List.foldr_nil, List.length_cons, List.length_nil, List.map_cons, List.map_nil, List.cons_append, List.nil_append, Nat.sub_self, List.replicate_zero, List.replicate_succ, List.getElem?_cons_succ, List.getElem?_cons_zero, List.set_cons_zero, List.set_cons_succ, Nat.reduceAdd, Nat.reduceSub, ↓reduceIte, Bool.not_true, Bool.not_false, Bool.and_true, Bool.true_and, Bool.false_and, Bool.and_false, if_true, if_false, Bool.false_eq_true, oNeg, oAddI, oSubI, oAdd_ii, oLt, oLe, oGt, oGe, Option.bind_some, Option.map_some]) fun p hp => ⟨_, rfl, rfl⟩
  have im := ints_map (fun p : Int × Game => p.1) g.ways
  apply out_step (o := .nx [some g.enc, some (.int g.total), none, none])
  · generalize (g.ways.map fun p => D.int p.1) = L at *
    simp only [dLc, lc, oSum, im, Game.total, defD, args, dSeq, dSet, dSetP, dSetN, lstAt, dApp, dAppP, dAsg, dPar, dDrop, dWhile, dIfS, dRet, dB, dCall, dCons, dNil, dVar, dC, dBin, dChain, asB, dTru, dNotT, dAndT, dOrT, dAnd, dOr, dNot, dIf, dUn, dTup, dLst, dItems, dYes, R.bind, R.to, O.seq, outR, ofO, noErr, mask, Sm.putIn, bindPat, bindPats, itemsOf, tru, List.foldr_cons, List.foldr_nil, List.length_cons, List.length_nil, List.map_cons, List.map_nil, List.cons_append, List.nil_append, Nat.sub_self, List.replicate_zero, List.replicate_succ, List.getElem?_cons_succ, List.getElem?_cons_zero, List.set_cons_zero, List.set_cons_succ, Nat.reduceAdd, Nat.reduceSub, ↓reduceIte, Bool.not_true, Bool.not_false, Bool.and_true, Bool.true_and, Bool.false_and, Bool.and_false, if_true, if_false, Bool.false_eq_true, oNeg, oAddI, oSubI, oAdd_ii, oLt, oLe, oGt, oGe, Option.bind_some, Option.map_some]
  simp only [O.seq]
  refine ret_of (dLc_of ?_)
  refine lc_ok1 (enc := fun p : Int × Game => D.tup [.int p.1, p.2.enc]) _ (by simp only [ways_ok, encW, defD, args, dSeq, dSet, dSetP, dSetN, lstAt, dApp, dAppP, dAsg, dPar, dDrop, dWhile, dIfS, dRet, dB, dCall, dCons, dNil, dVar, dC, dBin, dChain, asB, dTru, dNotT, dAndT, dOrT, dAnd, dOr, dNot, dIf, dUn, dTup, dLst, dItems, dYes, R.bind, R.to, O.seq, outR, ofO, noErr, mask, Sm.putIn, bindPat, bindPats, itemsOf, tru, List.foldr_cons, List.foldr_nil, List.length_cons, List.length_nil, List.map_cons, List.map_nil, List.cons_append, List.nil_append, Nat.sub_self, List.replicate_zero, List.replicate_succ, List.getElem?_cons_succ, List.getElem?_cons_zero, List.set_cons_zero, List.set_cons_succ, Nat.reduceAdd, Nat.reduceSub, ↓reduceIte, Bool.not_true, Bool.not_false, Bool.and_true, Bool.true_and, Bool.false_and, Bool.and_false, if_true, if_false, Bool.false_eq_true, oNeg, oAddI, oSubI, oAdd_ii, oLt, oLe, oGt, oGe, Option.bind_some, Option.map_some]) fun p hp => ⟨_, rfl, ?_⟩
  have hpos : 1 ≤ g.ways.length := List.length_pos_of_mem hp
  have sh := share_ok (u := p.1) (d := g.total) (n := 6) (by omega) (by show _ < 64; omega) (by decide)
  simp only [sh, defD, args, dSeq, dSet, dSetP, dSetN, lstAt, dApp, dAppP, dAsg, dPar, dDrop, dWhile, dIfS, dRet, dB, dCall, dCons, dNil, dVar, dC, dBin, dChain, asB, dTru, dNotT, dAndT, dOrT, dAnd, dOr, dNot, dIf, dUn, dTup, dLst, dItems, dYes, R.bind, R.to, O.seq, outR, ofO, noErr, mask, Sm.putIn, bindPat, bindPats, itemsOf, tru, List.foldr_cons, List.foldr_nil, List.length_cons, List.length_nil, List.map_cons, List.map_nil, List.cons_append, List.nil_append, Nat.sub_self, List.replicate_zero, List.replicate_succ, List.getElem?_cons_succ, List.getElem?_cons_zero, List.set_cons_zero, List.set_cons_succ, Nat.reduceAdd, Nat.reduceSub, ↓reduceIte, Bool.not_true, Bool.not_false, Bool.and_true, Bool.true_and, Bool.false_and, Bool.and_false, if_true, if_false, Bool.false_eq_true, oNeg, oAddI, oSubI, oAdd_ii, oLt, oLe, oGt, oGe, Option.bind_some, Option.map_some]
theorem sz_one : Sz 1 (1 : Rat) := ⟨by decide, by decide⟩
theorem chance_loop : ∀ (p : List Nat) (n : Nat) (g : Game) (c : Rat) (m : Nat) (x1 x3 : Option D), g.Ok n → g.IsPath p → Sz m c → m + 5 * p.length ≤ 4000 →
    ∃ y, forGo (.v 3) (dSeq (dSet [] 2 (dCall d_times (dCons (dVar 2) (dCons (dBin oIx (dCall d_shares_of (dCons (dVar 0) dNil)) (dVar 3)) dNil)))) (dSet [] 0 (dBin oIx (dBin oIx (dCall d_ways_of (dCons (dVar 0) dNil)) (dVar 3)) (dC (.int 1))))) (p.map fun i : Nat => D.int (i : Int)) [some g.enc, x1, some (encQ c), x3]
      = .nx [some (g.part p).enc, x1, some (encQ (c * g.chance p)), y]
  | [], n, g, c, m, x1, x3, _, _, _, _ => ⟨x3, by simp only [List.map_nil, forGo, Game.part, Game.chance, Rat.mul_one]⟩
  | i :: p, n, g, c, m, x1, x3, hg, h, hc, hm => by
    simp only [Game.IsPath] at h
    simp only [Game.part, Game.chance]
    cases hx : g.ways[i]? with
    | none => rw [hx] at h; exact h.elim
    | some x =>
      rw [hx] at h
      obtain ⟨t1, t2, a1, a2, hk⟩ := Game.total_at hg hx
      have hs := Game.share_sz ⟨a1, a2⟩ ⟨t1, t2⟩
      rw [List.length_cons] at hm
      obtain ⟨y, e⟩ := chance_loop p (n - 1) x.2 (c * Rat.divInt x.1 g.total) (m + 5) x1 (some (.int (i : Int))) hk h (hc.mul hs) (by omega)
      refine ⟨y, ?_⟩
      have sa : oIx (.lst (g.ways.map fun x => encQ (Rat.divInt x.1 g.total))) (.int (i : Int)) = some (encQ (Rat.divInt x.1 g.total)) := at_map hx
      have tm := times_ok hc hs (by omega)
      rw [List.map_cons]
      unfold forGo
      have st : dSeq (dSet [] 2 (dCall d_times (dCons (dVar 2) (dCons (dBin oIx (dCall d_shares_of (dCons (dVar 0) dNil)) (dVar 3)) dNil)))) (dSet [] 0 (dBin oIx (dBin oIx (dCall d_ways_of (dCons (dVar 0) dNil)) (dVar 3)) (dC (.int 1)))) [some g.enc, x1, some (encQ c), some (.int (i : Int))] = .nx [some x.2.enc, x1, some (encQ (c * Rat.divInt x.1 g.total)), some (.int (i : Int))] := by
        have sh := shares_ok hg
        generalize (g.ways.map fun x => encQ (Rat.divInt x.1 g.total)) = L at *
        simp only [sh, sa, tm, ways_ok, encW_at hx, oIx_t1, defD, args, dSeq, dSet, dSetP, dSetN, lstAt, dApp, dAppP, dAsg, dPar, dDrop, dWhile, dIfS, dRet, dB, dCall, dCons, dNil, dVar, dC, dBin, dChain, asB, dTru, dNotT, dAndT, dOrT, dAnd, dOr, dNot, dIf, dUn, dTup, dLst, dItems, dYes, R.bind, R.to, O.seq, outR, ofO, noErr, mask, Sm.putIn, bindPat, bindPats, itemsOf, tru, List.foldr_cons, List.foldr_nil, List.length_cons, List.length_nil, List.map_cons, List.map_nil, List.cons_append, List.nil_append, Nat.sub_self, List.replicate_zero, List.replicate_succ, List.getElem?_cons_succ, List.getElem?_cons_zero, List.set_cons_zero, List.set_cons_succ, Nat.reduceAdd, Nat.reduceSub, ↓reduceIte, Bool.not_true, Bool.not_false, Bool.and_true, Bool.true_and, Bool.false_and, Bool.and_false, if_true, if_false, Bool.false_eq_true, oNeg, oAddI, oSubI, oAdd_ii, oLt, oLe, oGt, oGe, Option.bind_some, Option.map_some]
      rw [show bindPat (.v 3) (.int (i : Int)) [some g.enc, x1, some (encQ c), x3] = some [some g.enc, x1, some (encQ c), some (.int (i : Int))] from rfl]
      simp only [st, O.seq]
      rw [e, Rat.mul_assoc]
theorem chance_of_ok {n : Nat} {g : Game} {p : List Nat} (hg : g.Ok n) (hn : n ≤ 6) (h : g.IsPath p) : d_chance_of [g.enc, encP p] = .ok (encQ (g.chance p)) := by
  have hl := (Game.part_ok hg h).2
  obtain ⟨y, e⟩ := chance_loop p n g 1 1 (some (encP p)) none hg h sz_one (by omega)
  rw [Rat.one_mul] at e
  refine defD_eq rfl ?_
  unfold b_chance_of
  apply out_step (o := .nx [some g.enc, some (encP p), some (encQ 1), none])
  · simp only [defD, args, dSeq, dSet, dSetP, dSetN, lstAt, dApp, dAppP, dAsg, dPar, dDrop, dWhile, dIfS, dRet, dB, dCall, dCons, dNil, dVar, dC, dBin, dChain, asB, dTru, dNotT, dAndT, dOrT, dAnd, dOr, dNot, dIf, dUn, dTup, dLst, dItems, dYes, R.bind, R.to, O.seq, outR, ofO, noErr, mask, Sm.putIn, bindPat, bindPats, itemsOf, tru, List.foldr_cons, List.foldr_nil, List.length_cons, List.length_nil, List.map_cons, List.map_nil, List.cons_append, List.nil_append, Nat.sub_self, List.replicate_zero, List.replicate_succ, List.getElem?_cons_succ, List.getElem?_cons_zero, List.set_cons_zero, List.set_cons_succ, Nat.reduceAdd, Nat.reduceSub, ↓reduceIte, Bool.not_true, Bool.not_false, Bool.and_true, Bool.true_and, Bool.false_and, Bool.and_false, if_true, if_false, Bool.false_eq_true, oNeg, oAddI, oSubI, oAdd_ii, oLt, oLe, oGt, oGe, Option.bind_some, Option.map_some]
    rfl
  simp only [O.seq]
  refine out_seq (ρ1 := [some (g.part p).enc, some (encP p), some (encQ (g.chance p)), y]) ?_ (ret_of rfl)
  unfold dFor
  simp only [encP, defD, args, dSeq, dSet, dSetP, dSetN, lstAt, dApp, dAppP, dAsg, dPar, dDrop, dWhile, dIfS, dRet, dB, dCall, dCons, dNil, dVar, dC, dBin, dChain, asB, dTru, dNotT, dAndT, dOrT, dAnd, dOr, dNot, dIf, dUn, dTup, dLst, dItems, dYes, R.bind, R.to, O.seq, outR, ofO, noErr, mask, Sm.putIn, bindPat, bindPats, itemsOf, tru, List.foldr_cons, List.foldr_nil, List.length_cons, List.length_nil, List.map_cons, List.map_nil, List.cons_append, List.nil_append, Nat.sub_self, List.replicate_zero, List.replicate_succ, List.getElem?_cons_succ, List.getElem?_cons_zero, List.set_cons_zero, List.set_cons_succ, Nat.reduceAdd, Nat.reduceSub, ↓reduceIte, Bool.not_true, Bool.not_false, Bool.and_true, Bool.true_and, Bool.false_and, Bool.and_false, if_true, if_false, Bool.false_eq_true, oNeg, oAddI, oSubI, oAdd_ii, oLt, oLe, oGt, oGe, Option.bind_some, Option.map_some]
  exact e
end Kx
namespace Sm
open PySem PySem.Spec L2
theorem qsum_append : ∀ a b : List Rat, qsum (a ++ b) = qsum a + qsum b
  | [], b => by simp [qsum, Rat.zero_add]
  | x :: a, b => by simp only [List.cons_append, qsum, qsum_append a b, Rat.add_assoc]
theorem qsum_mul {α : Type} (c : Rat) (f : α → Rat) : ∀ l : List α, qsum (l.map fun x => c * f x) = c * qsum (l.map f)
  | [] => by simp [qsum, Rat.mul_zero]
  | x :: l => by simp only [List.map_cons, qsum, qsum_mul c f l, Rat.mul_add]
theorem qsum_congr {α : Type} {f g : α → Rat} {l : List α} (h : ∀ x ∈ l, f x = g x) : qsum (l.map f) = qsum (l.map g) := by
  rw [List.map_congr_left h]
inductive RT where
  | stop | go (rs : List RT)
namespace RT
theorem lt_of_mem {rs : List RT} {r : RT} (h : r ∈ rs) : sizeOf r < sizeOf (RT.go rs) := by
  have h1 := List.sizeOf_lt_of_mem h
  simp
  omega
def paths : RT → List (List Nat)
  | .stop => [[]]
  | .go rs => Game.idxs 0 (rs.map fun r => r.paths)
termination_by t => sizeOf t
decreasing_by exact lt_of_mem ‹_›
theorem paths_stop : paths .stop = [[]] := by rw [paths]
theorem paths_go (rs : List RT) : paths (.go rs) = Game.idxs 0 (rs.map paths) := by rw [paths]
end RT
mutual
inductive RuleOf : Game → RT → Prop
  | stop (g : Game) : RuleOf g .stop
  | go {w : Int} {ws : List (Int × Game)} {rs : List RT} : ws ≠ [] → RulesOf ws rs → RuleOf (.node w ws) (.go rs)
inductive RulesOf : List (Int × Game) → List RT → Prop
  | nil : RulesOf [] []
  | cons {x : Int × Game} {ws : List (Int × Game)} {r : RT} {rs : List RT} : RuleOf x.2 r → RulesOf ws rs → RulesOf (x :: ws) (r :: rs)
end
theorem RulesOf.length : ∀ {ws : List (Int × Game)} {rs : List RT}, RulesOf ws rs → ws.length = rs.length
  | _, _, .nil => rfl
  | _, _, .cons _ t => by rw [List.length_cons, List.length_cons, RulesOf.length t]
theorem RulesOf.get : ∀ {ws : List (Int × Game)} {rs : List RT} {i : Nat} {x : Int × Game} {r : RT}, RulesOf ws rs → ws[i]? = some x → rs[i]? = some r → RuleOf x.2 r
  | _, _, _, _, _, .nil, h, _ => by simp at h
  | _, _, 0, _, _, .cons h _, h1, h2 => by cases h1; cases h2; exact h
  | _, _, i + 1, _, _, .cons _ t, h1, h2 => RulesOf.get (i := i) t (by simpa using h1) (by simpa using h2)
namespace Game
theorem chance_c {g : Game} {i : Nat} {x : Int × Game} (p : List Nat) (h : g.ways[i]? = some x) : g.chance (i :: p) = Rat.divInt x.1 g.total * x.2.chance p := by
  simp only [chance, h]
theorem part_c {g : Game} {i : Nat} {x : Int × Game} (p : List Nat) (h : g.ways[i]? = some x) : g.part (i :: p) = x.2.part p := by
  simp only [part, h]
theorem isPath_c {g : Game} {i : Nat} {x : Int × Game} (p : List Nat) (h : g.ways[i]? = some x) : g.IsPath (i :: p) ↔ x.2.IsPath p := by
  simp only [IsPath, h]
def exR (g : Game) (t : RT) (f : List Nat → Rat) : Rat := qsum (t.paths.map fun p => g.chance p * f p)
def exRs (T : Int) : Nat → List (Int × Game) → List RT → (List Nat → Rat) → Rat
  | k, x :: ws, r :: rs, f => Rat.divInt x.1 T * exR x.2 r (fun p => f (k :: p)) + exRs T (k + 1) ws rs f
  | _, _, _, _ => 0
theorem exR_idxs (g : Game) (f : List Nat → Rat) : ∀ (ws : List (Int × Game)) (rs : List RT) (k : Nat), (∀ i x, ws[i]? = some x → g.ways[k + i]? = some x) → ws.length = rs.length →
    qsum ((idxs k (rs.map RT.paths)).map fun p => g.chance p * f p) = exRs g.total k ws rs f
  | [], [], k, _, _ => rfl
  | [], _ :: _, _, _, h => by simp at h
  | _ :: _, [], _, _, h => by simp at h
  | x :: ws, r :: rs, k, hx, hl => by
    have h0 : g.ways[k]? = some x := hx 0 x rfl
    rw [List.map_cons, idxs, List.map_append, qsum_append, List.map_map, exRs]
    congr 1
    · unfold exR
      rw [← qsum_mul]
      refine qsum_congr fun p _ => ?_
      show g.chance (k :: p) * f (k :: p) = _
      rw [chance_c p h0, Rat.mul_assoc]
    · exact exR_idxs g f ws rs (k + 1) (fun i y h => by rw [show k + 1 + i = k + (i + 1) by omega]; exact hx (i + 1) y (by simpa using h)) (by simpa using hl)
theorem exR_go {w : Int} {ws : List (Int × Game)} {rs : List RT} (f : List Nat → Rat) (h : RulesOf ws rs) : exR (.node w ws) (.go rs) f = exRs (Game.node w ws).total 0 ws rs f := by
  unfold exR
  rw [RT.paths_go]
  exact exR_idxs _ f ws rs 0 (fun i x h => by rw [Nat.zero_add]; exact h) h.length
theorem exR_stop (g : Game) (f : List Nat → Rat) : exR g .stop f = f [] := by
  unfold exR
  rw [RT.paths_stop]
  simp only [List.map_cons, List.map_nil, qsum, chance, Rat.one_mul, Rat.add_zero]
theorem divInt_add (a b T : Int) : Rat.divInt a T + Rat.divInt b T = Rat.divInt (a + b) T := by
  by_cases h : T = 0
  · subst h; simp [Rat.divInt_zero, Rat.add_zero]
  · rw [Rat.divInt_add_divInt _ _ h h]
    rw [show a * T + b * T = (a + b) * T by rw [Int.add_mul]]
    rw [Rat.divInt_mul_right h]
theorem exRs_one {T : Int} : ∀ {ws : List (Int × Game)} {rs : List RT} (k : Nat), (∀ (i : Nat) (x : Int × Game) (r : RT), ws[i]? = some x → rs[i]? = some r → exR x.2 r (fun _ => 1) = 1) → ws.length = rs.length → exRs T k ws rs (fun _ => 1) = Rat.divInt ((ws.map (·.1)).sum) T
  | [], [], k, _, _ => by simp [exRs, Rat.zero_divInt]
  | [], _ :: _, _, _, h => by simp at h
  | _ :: _, [], _, _, h => by simp at h
  | x :: ws, r :: rs, k, h, hl => by
    rw [exRs, h 0 x r rfl rfl, Rat.mul_one, exRs_one (k + 1) (fun i y s h1 h2 => h (i + 1) y s (by simpa using h1) (by simpa using h2)) (by simpa using hl), divInt_add]
    simp
theorem exR_one : ∀ {n : Nat} {g : Game} {t : RT}, g.Ok n → RuleOf g t → exR g t (fun _ => 1) = 1
  | 0, _, _, h, _ => h.elim
  | n + 1, g, _, h, .stop _ => exR_stop g _
  | n + 1, .node w ws, .go rs, h, .go hne hr => by
    rw [exR_go _ hr, exRs_one 0 (fun i x r h1 h2 => exR_one (h.2.2 x (List.mem_of_getElem? h1)).2 (hr.get h1 h2)) hr.length]
    have tb := total_bd h
    have hp : 1 ≤ ws.length := by
      cases ws with
      | nil => exact (hne rfl).elim
      | cons _ _ => simp
    show Rat.divInt (Game.node w ws).total (Game.node w ws).total = 1
    simp only [ways] at tb
    exact Rat.divInt_self' (by omega)
def endT : Game → RT
  | .node _ ws => if ws = [] then .stop else .go (ws.map fun p => p.2.endT)
termination_by g => sizeOf g
decreasing_by exact lt_of_mem ‹_›
theorem endT_end (w : Int) : endT (.node w []) = .stop := by rw [endT]; simp
theorem endT_go {w : Int} {ws : List (Int × Game)} (h : ws ≠ []) : endT (.node w ws) = .go (ws.map fun p => p.2.endT) := by rw [endT, if_neg h]
theorem rules_map {F : Game → RT} : ∀ {ws : List (Int × Game)}, (∀ p ∈ ws, RuleOf p.2 (F p.2)) → RulesOf ws (ws.map fun p => F p.2)
  | [], _ => .nil
  | x :: ws, h => .cons (h x (by simp)) (rules_map fun p hp => h p (by simp [hp]))
theorem endT_rule : ∀ g : Game, RuleOf g g.endT := by
  apply ind
  intro w ws ih
  by_cases h : ws = []
  · subst h; rw [endT_end]; exact .stop _
  · rw [endT_go h]; exact .go h (rules_map ih)
theorem idxs_filter (P : List Nat → Bool) : ∀ (l : List (List (List Nat))) (k : Nat) (Q : Nat → List Nat → Bool), (∀ i p, P ((k + i) :: p) = Q i p) → (idxs k l).filter P = idxs k (l.mapIdx fun i ps => ps.filter (Q i))
  | [], _, _, _ => rfl
  | ps :: l, k, Q, h => by
    rw [idxs, List.filter_append, List.filter_map, List.mapIdx_cons, idxs]
    congr 1
    · congr 1
      apply List.filter_congr
      intro p _
      exact h 0 p
    · exact idxs_filter P l (k + 1) (fun i => Q (i + 1)) fun i p => by rw [show k + 1 + i = k + (i + 1) by omega]; exact h (i + 1) p
theorem ends_eq : ∀ g : Game, (g.paths.filter fun p => decide ((g.part p).ways = [])) = g.endT.paths := by
  apply ind
  intro w ws ih
  by_cases h : ws = []
  · subst h
    rw [endT_end, RT.paths_stop, paths]
    simp [idxs, part, ways]
  · rw [endT_go h, RT.paths_go, paths, List.filter_cons_of_neg (by simp [part, ways, h])]
    rw [idxs_filter _ _ 0 (fun i p => match ws[i]? with | some x => decide ((x.2.part p).ways = []) | none => decide (ws = [])) ?_]
    · congr 1
      apply List.ext_getElem?
      intro i
      rw [List.getElem?_mapIdx, List.getElem?_map, List.getElem?_map, List.getElem?_map]
      cases hx : ws[i]? with
      | none => rfl
      | some x =>
        simp only [Option.map_some]
        rw [ih x (List.mem_of_getElem? hx)]
    · intro i p
      rw [Nat.zero_add]
      show decide (((match ws[i]? with | some x => part x.2 p | none => Game.node w ws).ways) = []) = _
      cases hx : ws[i]? with
      | none => rfl
      | some x => rfl
end Game
end Sm
namespace Sm
namespace Game
theorem chance_append : ∀ (p q : List Nat) (g : Game), g.IsPath p → g.chance (p ++ q) = g.chance p * (g.part p).chance q
  | [], q, g, _ => by simp only [List.nil_append, chance, part, Rat.one_mul]
  | i :: p, q, g, h => by
    simp only [IsPath] at h
    rw [List.cons_append]
    cases hx : g.ways[i]? with
    | none => rw [hx] at h; exact h.elim
    | some x =>
      rw [hx] at h
      rw [chance_c _ hx, chance_c _ hx, part_c _ hx, chance_append p q x.2 h, Rat.mul_assoc]
theorem isPath_append : ∀ (p q : List Nat) (g : Game), g.IsPath p → (g.IsPath (p ++ q) ↔ (g.part p).IsPath q)
  | [], q, g, _ => Iff.rfl
  | i :: p, q, g, h => by
    simp only [IsPath] at h
    rw [List.cons_append]
    cases hx : g.ways[i]? with
    | none => rw [hx] at h; exact h.elim
    | some x =>
      rw [hx] at h
      rw [isPath_c _ hx, part_c _ hx, isPath_append p q x.2 h]
theorem part_append : ∀ (p q : List Nat) (g : Game), g.IsPath p → g.part (p ++ q) = (g.part p).part q
  | [], q, g, _ => rfl
  | i :: p, q, g, h => by
    simp only [IsPath] at h
    rw [List.cons_append]
    cases hx : g.ways[i]? with
    | none => rw [hx] at h; exact h.elim
    | some x =>
      rw [hx] at h
      rw [part_c _ hx, part_c _ hx, part_append p q x.2 h]
theorem mem_ends {g : Game} {p : List Nat} : p ∈ g.endT.paths ↔ g.IsPath p ∧ (g.part p).ways = [] := by
  rw [← ends_eq, List.mem_filter, mem_paths, decide_eq_true_eq]
end Game
end Sm
namespace Kx
open PySem PySem.Spec L2 Sm
theorem ends_ok' {g : Game} {d : Nat} (hg : g.Ok d) (hd : d ≤ 6) : d_ends_of [g.enc] = .ok (.lst (g.endT.paths.map encP)) := by
  rw [ends_ok hg hd, Game.ends_eq]
theorem snoc_P (p : List Nat) (i : Nat) (h : p.length ≤ 1000) : oAdd (encP p) (.tup [.int (i : Int)]) = some (encP (p ++ [i])) := by
  unfold encP
  simp only [oAdd, List.length_cons, List.length_nil, List.length_map]
  rw [if_pos (Nat.le_trans (show p.length + 1 ≤ 100000 by omega) sizeLine_big)]
  simp
end Kx
namespace Sm
open PySem PySem.Spec L2
abbrev Rising (ps : List (List Nat)) : Prop := ps.Pairwise (· < ·)
theorem idxs_rising : ∀ (l : List (List (List Nat))) (k : Nat), (∀ ps ∈ l, Rising ps) → Rising (Game.idxs k l) ∧ ∀ p ∈ Game.idxs k l, ∃ i q, p = i :: q ∧ k ≤ i
  | [], k, _ => ⟨List.Pairwise.nil, by simp [Game.idxs]⟩
  | ps :: l, k, h => by
    obtain ⟨h1, h2⟩ := idxs_rising l (k + 1) fun q hq => h q (by simp [hq])
    rw [Game.idxs]
    refine ⟨List.pairwise_append.mpr ⟨?_, h1, ?_⟩, ?_⟩
    · rw [List.pairwise_map]
      exact (h ps (by simp)).imp fun hab => List.cons_lt_cons_iff.mpr (.inr ⟨rfl, hab⟩)
    · intro a ha b hb
      obtain ⟨q, _, rfl⟩ := List.mem_map.mp ha
      obtain ⟨i, q', rfl, hi⟩ := h2 b hb
      exact List.cons_lt_cons_iff.mpr (.inl (by omega))
    · intro p hp
      rcases List.mem_append.mp hp with hp | hp
      · obtain ⟨q, _, rfl⟩ := List.mem_map.mp hp
        exact ⟨k, q, rfl, Nat.le_refl _⟩
      · obtain ⟨i, q, rfl, hi⟩ := h2 p hp
        exact ⟨i, q, rfl, by omega⟩
namespace RT
theorem ind {P : RT → Prop} (h0 : P .stop) (h : ∀ rs, (∀ r ∈ rs, P r) → P (.go rs)) : ∀ t, P t
  | .stop => h0
  | .go rs => h rs fun r hr => ind h0 h r
termination_by t => sizeOf t
decreasing_by exact lt_of_mem hr
theorem rising (t : RT) : Rising t.paths := by
  induction t using ind with
  | h0 => rw [paths_stop]; exact List.pairwise_singleton _ _
  | h rs ih =>
    rw [paths_go]
    refine (idxs_rising _ 0 fun ps hp => ?_).1
    obtain ⟨r, hr, rfl⟩ := List.mem_map.mp hp
    exact ih r hr
end RT
theorem mem_idxs' {p : List Nat} {l : List (List (List Nat))} : p ∈ Game.idxs 0 l ↔ ∃ i q, p = i :: q ∧ ∃ ps, l[i]? = some ps ∧ q ∈ ps := by
  rw [Game.mem_idxs]
  simp only [Nat.zero_add]
theorem RulesOf.get2 : ∀ {ws : List (Int × Game)} {rs : List RT} {i : Nat} {r : RT}, RulesOf ws rs → rs[i]? = some r → ∃ x, ws[i]? = some x ∧ RuleOf x.2 r
  | _, _, _, _, .nil, h => by simp at h
  | _, _, 0, _, .cons h _, h2 => by cases h2; exact ⟨_, rfl, h⟩
  | _, _, i + 1, _, .cons _ t, h2 => by
    obtain ⟨x, h3, h4⟩ := RulesOf.get2 (i := i) t (by simpa using h2)
    exact ⟨x, by simpa using h3, h4⟩
namespace Game
theorem rule_path : ∀ {t : RT} {g : Game} {p : List Nat}, RuleOf g t → p ∈ t.paths → g.IsPath p := by
  intro t
  induction t using RT.ind with
  | h0 => intro g p _ hp; rw [RT.paths_stop, List.mem_singleton] at hp; subst hp; trivial
  | h rs ih =>
    intro g p hr hp
    cases hr with
    | go hne hr =>
      rw [RT.paths_go, mem_idxs'] at hp
      obtain ⟨i, q, rfl, ps, h1, h2⟩ := hp
      rw [List.getElem?_map, Option.map_eq_some_iff] at h1
      obtain ⟨r, h3, rfl⟩ := h1
      obtain ⟨x, h4, h5⟩ := hr.get2 h3
      rw [isPath_c q h4]
      exact ih r (List.mem_of_getElem? h3) h5 h2
theorem rising_nodup {ps : List (List Nat)} (h : Rising ps) : ps.Nodup := h.imp fun {a b} hab e => by subst e; exact absurd hab (List.lt_irrefl _)
theorem nodup_le {α : Type} [BEq α] [LawfulBEq α] : ∀ (l m : List α), l.Nodup → (∀ x ∈ l, x ∈ m) → l.length ≤ m.length
  | [], _, _, _ => Nat.zero_le _
  | x :: l, m, hn, hs => by
    obtain ⟨h1, h2⟩ := List.nodup_cons.mp hn
    have hx : x ∈ m := hs x List.mem_cons_self
    have ih := nodup_le l (m.erase x) h2 fun y hy => (List.mem_erase_of_ne (show y ≠ x from fun e => h1 (by rw [← e]; exact hy))).2 (hs y (List.mem_cons_of_mem _ hy))
    have e := List.length_erase_of_mem hx
    have hp : 0 < m.length := List.length_pos_of_mem hx
    rw [List.length_cons]
    omega
theorem rule_len {n : Nat} {g : Game} {t : RT} (hg : g.Ok n) (h : RuleOf g t) : t.paths.length ≤ most n := by
  refine Nat.le_trans ?_ (paths_len hg)
  have hn := rising_nodup t.rising
  exact nodup_le _ _ hn fun p hp => (mem_paths g p).mpr (rule_path h hp)
end Game
abbrev intsN (p : List Nat) : List Int := p.map fun i : Nat => (i : Int)
end Sm
namespace Kx
open PySem PySem.Spec L2 Sm
theorem encP_tI (p : List Nat) : encP p = tI (intsN p) := by unfold encP tI intsN; rw [List.map_map]; rfl
theorem encP_inj {p q : List Nat} (h : encP p = encP q) : p = q := by
  unfold encP at h
  injection h with h
  have := deq_path p q
  rw [h, deq_path q q] at this
  simpa using this.symm
end Kx
namespace Kx
open PySem PySem.Spec L2 Sm
theorem most4 : Game.most 4 = 40 := rfl
theorem rule_few {n : Nat} {g : Game} {t : RT} (hg : g.Ok n) (hn : n ≤ 4) (ht : RuleOf g t) : t.paths.length ≤ 40 := by
  have := Game.rule_len (hg.mono hn) ht
  rw [most4] at this
  exact this
def wAt (g : Game) (p : List Nat) : Rat := ((g.part p).worth : Rat)
theorem worth_bd {n : Nat} {g : Game} (h : g.Ok n) : -20 ≤ g.worth ∧ g.worth ≤ 20 := by
  cases n with
  | zero => exact h.elim
  | succ n => cases g with | node w ws => exact h.1
theorem enc_int1 (i : Int) : D.tup [.int i, .int 1] = encQ (i : Rat) := (encQ_int i).symm
theorem chance_sz4 {n : Nat} {g : Game} {p : List Nat} (h : g.Ok n) (hn : n ≤ 4) (hp : g.IsPath p) : Sz 16 (g.chance p) := by
  have := (Game.part_ok h hp).2
  exact (Game.chance_sz h hp).mono (by omega)
theorem isKT_tI (k a : List Int) : isKT a (tI k) = decide (k = a) := isKT_iff
theorem intsN_inj {p q : List Nat} (h : intsN p = intsN q) : p = q := encP_inj (by rw [encP_tI, encP_tI, h])
theorem mkT_eq (f : List Nat → D) : ∀ (ps : List (List Nat)) (acc : List (List Nat)), (acc ++ ps).Nodup →
    (ps.map fun p => (intsN p, f p)).foldl (fun es p => putE (isKT p.1) (tI p.1) p.2 es) (acc.map fun p => (encP p, f p)) = (acc ++ ps).map fun p => (encP p, f p)
  | [], acc, _ => by simp
  | p :: ps, acc, h => by
    rw [List.map_cons, List.foldl_cons]
    have hp : p ∉ acc := by
      rw [List.nodup_append] at h
      exact fun hm => h.2.2 p hm p (by simp) rfl
    have : putE (isKT (intsN p)) (tI (intsN p)) (f p) (acc.map fun p => (encP p, f p)) = (acc ++ [p]).map fun p => (encP p, f p) := by
      unfold putE
      rw [if_neg (by
        rw [List.any_map, List.any_eq_true]
        rintro ⟨q, hq, e⟩
        simp only [Function.comp_apply, encP_tI, isKT_tI, decide_eq_true_eq] at e
        exact hp (by rw [← intsN_inj e]; exact hq)), List.map_append, ← encP_tI]
      rfl
    rw [this, mkT_eq f ps (acc ++ [p]) (by rw [List.append_assoc]; exact h), List.append_assoc]
    rfl
theorem pairsI_P (f : List Nat → D) (p : List Nat) (ps : List (List Nat)) : pairsI ((p :: ps).map fun p => D.tup [encP p, f p]) = none := rfl
theorem pairsT_P (f : List Nat → D) : ∀ ps : List (List Nat), pairsT (ps.map fun p => D.tup [encP p, f p]) = some (ps.map fun p => (intsN p, f p))
  | [] => rfl
  | p :: ps => by
    rw [List.map_cons]
    show (match intsD (p.map fun i : Nat => D.int (i : Int)) with | some k => (pairsT (ps.map fun p => D.tup [encP p, f p])).map ((k, f p) :: ·) | none => none) = _
    have : (p.map fun i : Nat => D.int (i : Int)) = (intsN p).map D.int := by unfold intsN; rw [List.map_map]; rfl
    rw [this, intsD_map, pairsT_P f ps]
    rfl
theorem dict_paths (f : List Nat → D) {ps : List (List Nat)} (h : ps.Nodup) (hne : ps ≠ []) : oDict [.lst (ps.map fun p => D.tup [encP p, f p])] = some (.dct (ps.map fun p => (encP p, f p))) := by
  obtain ⟨q, qs, rfl⟩ := List.exists_cons_of_ne_nil hne
  simp only [oDict, pairsI_P, pairsT_P]
  rw [if_pos (by simp)]
  have := mkT_eq f (q :: qs) [] (by simpa using h)
  unfold mkT
  rw [show (([] : List (List Nat)).map fun p => (encP p, f p)) = [] from rfl] at this
  rw [this]
  rfl
theorem find_path (f : List Nat → D) {p : List Nat} : ∀ {ps : List (List Nat)}, p ∈ ps → findE (isKT (intsN p)) (ps.map fun q => (encP q, f q)) = some (f p)
  | q :: ps, h => by
    unfold findE
    rw [List.map_cons, List.find?_cons]
    by_cases e : q = p
    · subst e
      simp only [encP_tI, isKT_tI, decide_true, Option.map_some]
    · have : isKT (intsN p) (encP q) = false := by
        rw [encP_tI, isKT_tI]; exact decide_eq_false fun h => e (intsN_inj h)
      simp only [this]
      rcases List.mem_cons.mp h with rfl | h
      · exact (e rfl).elim
      · exact find_path f h
theorem ix_dict (f : List Nat → D) {p : List Nat} {ps : List (List Nat)} (h : p ∈ ps) : oIx (.dct (ps.map fun q => (encP q, f q))) (encP p) = some (f p) := by
  have ei : intsD (p.map fun i : Nat => D.int (i : Int)) = some (intsN p) := by
    have : (p.map fun i : Nat => D.int (i : Int)) = (intsN p).map D.int := by unfold intsN; rw [List.map_map]; rfl
    rw [this, intsD_map]
  have hall : ((ps.map fun q => (encP q, f q)).all fun e => Sm.kTup e.1) = true := by
    rw [List.all_map, List.all_eq_true]
    intro q _
    show Sm.kTup (encP q) = true
    rw [encP_tI]
    simp only [Sm.kTup, intsD_map, Option.isSome_some]
  have hne : (ps.map fun q => (encP q, f q)) ≠ [] := by
    intro e
    rw [List.map_eq_nil_iff] at e
    subst e
    simp at h
  show (oGetK (ps.map fun q => (encP q, f q)) (.tup (p.map fun i : Nat => D.int (i : Int)))).bind id = _
  simp only [oGetK, ei]
  rw [if_pos ⟨hne, hall⟩]
  simp only [Option.bind_some, id_eq]
  exact find_path f h
theorem paths_rising : ∀ g : Game, Rising g.paths := by
  apply Game.ind
  intro w ws ih
  rw [Game.paths]
  obtain ⟨h1, h2⟩ := idxs_rising (ws.map fun p => p.2.paths) 0 fun ps hp => by
    obtain ⟨x, hx, rfl⟩ := List.mem_map.mp hp
    exact ih x hx
  refine List.pairwise_cons.mpr ⟨fun p hp => ?_, h1⟩
  obtain ⟨i, q, rfl, _⟩ := h2 p hp
  exact List.nil_lt_cons _ _
theorem paths_nodup (g : Game) : g.paths.Nodup := Game.rising_nodup (paths_rising g)
end Kx
namespace Sm
abbrev PL := List (List Nat)
def more (S : List PL) (R : List PL) (k : Nat) : List PL := S.flatMap fun a => R.map fun r => a ++ r.map (k :: ·)
namespace Game
def rl : Game → List PL
  | .node _ ws => if ws = [] then [[[]]] else [[]] :: ((ws.map fun p => p.2.rl).zipIdx).foldl (fun S x => more S x.1 x.2) [[]]
termination_by g => sizeOf g
decreasing_by exact lt_of_mem ‹_›
end Game
namespace Game
def cnt : Nat → Nat
  | 0 => 0
  | n + 1 => 1 + cnt n * cnt n * cnt n
end Game
end Sm
namespace Kx
open PySem PySem.Spec L2 Sm
end Kx
namespace Kx
open PySem PySem.Spec L2 Sm
end Kx
namespace Sm
namespace Game
def shr (g : Game) (x : Int × Game) : Rat := Rat.divInt x.1 g.total
def gain (g : Game) : Rat := qsum (g.ways.map fun x => g.shr x * ((x.2.worth - g.worth : Int) : Rat))
def sumW (T : Int) : List (Int × Game) → List RT → (Game → RT → Rat) → Rat
  | x :: ws, r :: rs, h => Rat.divInt x.1 T * h x.2 r + sumW T ws rs h
  | _, _, _ => 0
def wq (g : Game) (p : List Nat) : Rat := ((g.part p).worth : Rat)
theorem wq_c {g : Game} {i : Nat} {x : Int × Game} (p : List Nat) (h : g.ways[i]? = some x) : g.wq (i :: p) = x.2.wq p := by
  unfold wq; rw [part_c p h]
theorem exR_congr {g : Game} {t : RT} {f f' : List Nat → Rat} (h : ∀ p ∈ t.paths, f p = f' p) : exR g t f = exR g t f' := by
  unfold exR
  exact qsum_congr fun p hp => by rw [h p hp]
theorem exRs_w {g : Game} : ∀ {ws : List (Int × Game)} {rs : List RT} (k : Nat), (∀ i x, ws[i]? = some x → g.ways[k + i]? = some x) → exRs g.total k ws rs g.wq = sumW g.total ws rs fun s r => exR s r s.wq
  | [], [], _, _ => rfl
  | [], _ :: _, _, _ => rfl
  | _ :: _, [], _, _ => rfl
  | x :: ws, r :: rs, k, h => by
    rw [exRs, sumW, exRs_w (k + 1) (fun i y hy => by rw [show k + 1 + i = k + (i + 1) by omega]; exact h (i + 1) y (by simpa using hy))]
    congr 2
    exact exR_congr fun p _ => wq_c p (h 0 x rfl)
def mean (g : Game) (t : RT) : Rat := exR g t g.wq
theorem mean_stop (g : Game) : g.mean .stop = (g.worth : Rat) := by unfold mean; rw [exR_stop]; rfl
theorem mean_go {w : Int} {ws : List (Int × Game)} {rs : List RT} (h : RulesOf ws rs) : mean (.node w ws) (.go rs) = sumW (Game.node w ws).total ws rs mean := by
  unfold mean
  rw [exR_go _ h]
  exact exRs_w (g := .node w ws) 0 fun i x hx => by rw [Nat.zero_add]; exact hx
theorem sumW_congr {T : Int} {h h' : Game → RT → Rat} : ∀ {ws : List (Int × Game)} {rs : List RT}, RulesOf ws rs → (∀ (i : Nat) (x : Int × Game) (r : RT), ws[i]? = some x → rs[i]? = some r → h x.2 r = h' x.2 r) → sumW T ws rs h = sumW T ws rs h'
  | _, _, .nil, _ => rfl
  | _, _, .cons (x := x) (r := r) _ t, hl => by
    rw [sumW, sumW, hl 0 x r rfl rfl, sumW_congr t fun i y s h1 h2 => hl (i + 1) y s (by simpa using h1) (by simpa using h2)]
theorem sumW_worth {T : Int} {c : Int} : ∀ {ws : List (Int × Game)} {rs : List RT}, RulesOf ws rs → sumW T ws rs (fun s _ => (s.worth : Rat)) = qsum (ws.map fun x => Rat.divInt x.1 T * ((x.2.worth - c : Int) : Rat)) + Rat.divInt ((ws.map (·.1)).sum) T * (c : Rat)
  | _, _, .nil => by simp [sumW, qsum, Rat.zero_divInt, Rat.zero_mul, Rat.add_zero]
  | _, _, .cons (x := x) (ws := ws) _ t => by
    rw [sumW, sumW_worth (c := c) t, List.map_cons, List.map_cons, qsum, List.sum_cons, ← divInt_add]
    have : ((x.2.worth - c : Int) : Rat) = (x.2.worth : Rat) - (c : Rat) := by rw [Rat.intCast_sub]
    rw [this]
    grind
theorem one_total {n : Nat} {w : Int} {ws : List (Int × Game)} (h : Ok n (.node w ws)) (hne : ws ≠ []) : Rat.divInt ((ws.map (·.1)).sum) (Game.node w ws).total = 1 := by
  have tb := total_bd h
  have hp : 1 ≤ ws.length := by
    cases ws with
    | nil => exact (hne rfl).elim
    | cons _ _ => simp
  simp only [ways] at tb
  exact Rat.divInt_self' (by show (Game.node w ws).total ≠ 0; omega)
theorem sumW_step {n : Nat} {w : Int} {ws : List (Int × Game)} {rs : List RT} (h : Ok n (.node w ws)) (hne : ws ≠ []) (hr : RulesOf ws rs) : sumW (Game.node w ws).total ws rs (fun s _ => (s.worth : Rat)) = (w : Rat) + gain (.node w ws) := by
  rw [sumW_worth (c := w) hr, one_total h hne, Rat.one_mul]
  unfold gain shr
  simp only [ways, worth]
  rw [Rat.add_comm]
inductive Gains (P : Rat → Prop) : Game → Prop
  | mk {w : Int} {ws : List (Int × Game)} : (ws ≠ [] → P (gain (.node w ws))) → (∀ p ∈ ws, Gains P p.2) → Gains P (.node w ws)
theorem Gains.at {P : Rat → Prop} : ∀ {p : List Nat} {g : Game}, Gains P g → g.IsPath p → Gains P (g.part p)
  | [], g, h, _ => h
  | i :: p, .node w ws, h, hp => by
    simp only [IsPath, ways] at hp
    cases hx : ws[i]? with
    | none => rw [hx] at hp; exact hp.elim
    | some x =>
      rw [hx] at hp
      rw [part_c (g := .node w ws) p hx]
      cases h with
      | mk _ h2 => exact (h2 x (List.mem_of_getElem? hx)).at hp
theorem gains_iff {P : Rat → Prop} : ∀ g : Game, Gains P g ↔ ∀ p, g.IsPath p → (g.part p).ways ≠ [] → P (g.part p).gain := by
  apply ind
  intro w ws ih
  constructor
  · intro h p hp hne
    have := h.at hp
    generalize (Game.node w ws).part p = s at *
    cases this with
    | mk h1 _ => exact h1 hne
  · intro h
    refine .mk (fun hne => h [] trivial hne) fun x hx => ?_
    obtain ⟨i, hi⟩ := List.getElem?_of_mem hx
    rw [ih x hx]
    intro p hp hne
    have := h (i :: p) ((isPath_c (g := .node w ws) p hi).mpr hp)
    rw [part_c (g := .node w ws) p hi] at this
    exact this hne
theorem fair_mean : ∀ {n : Nat} {g : Game} {t : RT}, g.Ok n → Gains (· = 0) g → RuleOf g t → g.mean t = (g.worth : Rat)
  | 0, _, _, h, _, _ => h.elim
  | n + 1, g, _, h, _, .stop _ => mean_stop g
  | n + 1, .node w ws, .go rs, h, .mk h1 h2, .go hne hr => by
    rw [mean_go hr, sumW_congr (h' := fun s _ => (s.worth : Rat)) hr fun i x r hx hr' => fair_mean (h.2.2 x (List.mem_of_getElem? hx)).2 (h2 x (List.mem_of_getElem? hx)) (hr.get hx hr'), sumW_step h hne hr, h1 hne, Rat.add_zero]
    rfl
end Game
end Sm
namespace Sm
namespace Game
theorem steps_part : ∀ {n : Nat} {p : List Nat} {g : Game}, g.Steps n → g.Ok n → g.IsPath p → -3 * (p.length : Int) ≤ (g.part p).worth - g.worth ∧ (g.part p).worth - g.worth ≤ 3 * (p.length : Int)
  | _, [], g, _, _, _ => by simp [part]
  | 0, _ :: _, g, _, ho, _ => ho.elim
  | n + 1, i :: p, .node w ws, h, ho, hp => by
    obtain ⟨x, hx, hp⟩ := isPath_at hp
    have hx' : ws[i]? = some x := hx
    have h1 := h x (List.mem_of_getElem? hx')
    have ih := steps_part (p := p) h1.2 (ho.2.2 x (List.mem_of_getElem? hx')).2 hp
    rw [part_cons hx, List.length_cons]
    show _ ≤ (x.2.part p).worth - w ∧ _
    simp only [worth] at *
    omega
def near (g : Game) (p : List Nat) : Game := g.put p (.node ((g.part p).worth + 1) (g.part p).ways)
end Game
end Sm
namespace Kx
open PySem PySem.Spec L2 Sm
end Kx
namespace Kx
open PySem PySem.Spec L2 Sm
theorem gain_loop {n : Nat} {g : Game} (hg : g.Ok n) : ∀ (ws : List (Int × Game)) (c : Rat) (m : Nat) (x2 x3 x4 : Option D), (∀ x ∈ ws, x ∈ g.ways) → Sz m c → m + 12 * ws.length ≤ 4000 →
    ∃ y2 y3 y4, forGo (.t [(.t [(.v 2), (.v 3)]), (.v 4)]) (dSet [] 1 (dCall d_plus (dCons (dVar 1) (dCons (dCall d_times (dCons (dVar 4) (dCons (dTup (dCons (dBin oSubI (dBin oIx (dVar 3) (dC (.int 0))) (dBin oIx (dVar 0) (dC (.int 0)))) (dCons (dC (.int 1)) dNil))) dNil))) dNil)))) (zipL (encW ws) (ws.map fun x => encQ (Rat.divInt x.1 g.total))) [some g.enc, some (encQ c), x2, x3, x4]
      = .nx [some g.enc, some (encQ (c + qsum (ws.map fun x => g.shr x * ((x.2.worth - g.worth : Int) : Rat)))), y2, y3, y4] ∧ Sz (m + 12 * ws.length) (c + qsum (ws.map fun x => g.shr x * ((x.2.worth - g.worth : Int) : Rat)))
  | [], c, m, x2, x3, x4, _, hc, _ => ⟨x2, x3, x4, by simp only [encW, List.map_nil, zipL, forGo, qsum, Rat.add_zero], by simpa [qsum, Rat.add_zero] using hc⟩
  | x :: ws, c, m, x2, x3, x4, hw, hc, hm => by
    obtain ⟨i, hi⟩ := List.getElem?_of_mem (hw x (by simp))
    obtain ⟨t1, t2, a1, a2, hk⟩ := Game.total_at hg hi
    have hs := Game.share_sz ⟨a1, a2⟩ ⟨t1, t2⟩
    have w1 := worth_bd hk
    have w2 := worth_bd hg
    have hd : Sz 6 ((x.2.worth - g.worth : Int) : Rat) := Sz.int (by show _ < 64; omega) (by decide)
    rw [List.length_cons] at hm
    have tm := times_ok hs hd (by decide)
    have ps := plus_ok hc (hs.mul hd) (by omega)
    obtain ⟨y2, y3, y4, e, hz⟩ := gain_loop hg ws (c + Rat.divInt x.1 g.total * ((x.2.worth - g.worth : Int) : Rat)) (m + 12) (some (.int x.1)) (some x.2.enc) (some (encQ (Rat.divInt x.1 g.total))) (fun y hy => hw y (by simp [hy])) ((hc.add (hs.mul hd)).mono (by omega)) (by omega)
    have ea : c + qsum ((x :: ws).map fun x => g.shr x * ((x.2.worth - g.worth : Int) : Rat)) = c + Rat.divInt x.1 g.total * ((x.2.worth - g.worth : Int) : Rat) + qsum (ws.map fun x => g.shr x * ((x.2.worth - g.worth : Int) : Rat)) := by
      rw [List.map_cons, qsum, ← Rat.add_assoc]; rfl
    refine ⟨y2, y3, y4, ?_, ?_⟩
    · rw [ea, ← e]
      unfold encW
      rw [List.map_cons, List.map_cons, zipL]
      rw [forGo]
      simp only [ix0_ok, enc_int1, tm, ps, oSubI, defD, args, dSeq, dSet, dSetP, dSetN, lstAt, dApp, dAppP, dAsg, dPar, dDrop, dWhile, dIfS, dRet, dB, dCall, dCons, dNil, dVar, dC, dBin, dChain, asB, dTru, dNotT, dAndT, dOrT, dAnd, dOr, dNot, dIf, dUn, dTup, dLst, dItems, dYes, R.bind, R.to, O.seq, outR, ofO, noErr, mask, Sm.putIn, bindPat, bindPats, itemsOf, tru, List.foldr_cons, List.foldr_nil, List.length_cons, List.length_nil, List.map_cons, List.map_nil, List.cons_append, List.nil_append, Nat.sub_self, List.replicate_zero, List.replicate_succ, List.getElem?_cons_succ, List.getElem?_cons_zero, List.set_cons_zero, List.set_cons_succ, Nat.reduceAdd, Nat.reduceSub, ↓reduceIte, Bool.not_true, Bool.not_false, Bool.and_true, Bool.true_and, Bool.false_and, Bool.and_false, if_true, if_false, Bool.false_eq_true, oNeg, oAddI, oSubI, oAdd_ii, oLt, oLe, oGt, oGe, Option.bind_some, Option.map_some]
    · rw [ea, List.length_cons, show m + 12 * (ws.length + 1) = m + 12 + 12 * ws.length by omega]
      exact hz
theorem ways_le {n : Nat} {g : Game} (h : g.Ok n) : g.ways.length ≤ 3 := by
  cases n with
  | zero => exact h.elim
  | succ n => cases g with | node w ws => exact h.2.1
theorem gain_ok {n : Nat} {g : Game} (hg : g.Ok n) : d_gain_at [g.enc] = .ok (encQ g.gain) ∧ Sz 40 g.gain := by
  have hl := ways_le hg
  obtain ⟨y2, y3, y4, e, hz⟩ := gain_loop hg g.ways 0 1 none none none (fun _ h => h) ⟨by decide, by decide⟩ (by omega)
  rw [Rat.zero_add] at e hz
  refine ⟨?_, hz.mono (by omega)⟩
  refine defD_eq rfl ?_
  unfold b_gain_at
  apply out_step (o := .nx [some g.enc, some (encQ 0), none, none, none])
  · simp only [defD, args, dSeq, dSet, dSetP, dSetN, lstAt, dApp, dAppP, dAsg, dPar, dDrop, dWhile, dIfS, dRet, dB, dCall, dCons, dNil, dVar, dC, dBin, dChain, asB, dTru, dNotT, dAndT, dOrT, dAnd, dOr, dNot, dIf, dUn, dTup, dLst, dItems, dYes, R.bind, R.to, O.seq, outR, ofO, noErr, mask, Sm.putIn, bindPat, bindPats, itemsOf, tru, List.foldr_cons, List.foldr_nil, List.length_cons, List.length_nil, List.map_cons, List.map_nil, List.cons_append, List.nil_append, Nat.sub_self, List.replicate_zero, List.replicate_succ, List.getElem?_cons_succ, List.getElem?_cons_zero, List.set_cons_zero, List.set_cons_succ, Nat.reduceAdd, Nat.reduceSub, ↓reduceIte, Bool.not_true, Bool.not_false, Bool.and_true, Bool.true_and, Bool.false_and, Bool.and_false, if_true, if_false, Bool.false_eq_true, oNeg, oAddI, oSubI, oAdd_ii, oLt, oLe, oGt, oGe, Option.bind_some, Option.map_some]
    rfl
  simp only [O.seq]
  refine out_seq (ρ1 := [some g.enc, some (encQ g.gain), y2, y3, y4]) ?_ (ret_of rfl)
  have sh := shares_ok hg
  have wo := ways_ok g
  unfold Game.gain
  unfold dFor
  generalize encQ (qsum (g.ways.map fun x => g.shr x * ((x.2.worth - g.worth : Int) : Rat))) = QQ at *
  generalize (g.ways.map fun x => encQ (Rat.divInt x.1 g.total)) = L at *
  generalize encW g.ways = W at *
  have it : dRng zipD (dCons (dCall d_ways_of (dCons (dVar 0) dNil)) (dCons (dCall d_shares_of (dCons (dVar 0) dNil)) dNil)) [some g.enc, some (encQ 0), none, none, none] = .ok (zipL W L) := by
    simp only [dRng, sh, wo, zipD, defD, args, dSeq, dSet, dSetP, dSetN, lstAt, dApp, dAppP, dAsg, dPar, dDrop, dWhile, dIfS, dRet, dB, dCall, dCons, dNil, dVar, dC, dBin, dChain, asB, dTru, dNotT, dAndT, dOrT, dAnd, dOr, dNot, dIf, dUn, dTup, dLst, dItems, dYes, R.bind, R.to, O.seq, outR, ofO, noErr, mask, Sm.putIn, bindPat, bindPats, itemsOf, tru, List.foldr_cons, List.foldr_nil, List.length_cons, List.length_nil, List.map_cons, List.map_nil, List.cons_append, List.nil_append, Nat.sub_self, List.replicate_zero, List.replicate_succ, List.getElem?_cons_succ, List.getElem?_cons_zero, List.set_cons_zero, List.set_cons_succ, Nat.reduceAdd, Nat.reduceSub, ↓reduceIte, Bool.not_true, Bool.not_false, Bool.and_true, Bool.true_and, Bool.false_and, Bool.and_false, if_true, if_false, Bool.false_eq_true, oNeg, oAddI, oSubI, oAdd_ii, oLt, oLe, oGt, oGe, Option.bind_some, Option.map_some]
  rw [show mask [] [some g.enc, some (encQ 0), none, none, none] = [some g.enc, some (encQ 0), none, none, none] from rfl, it]
  exact e
theorem gains_ok {n : Nat} {g : Game} (hg : g.Ok n) (hn : n ≤ 6) : d_gains_of [g.enc] = .ok (.lst ((g.paths.filter fun p => !decide ((g.part p).ways = [])).map fun p => encQ (g.part p).gain)) := by
  have gg : d_going [g.enc] = .ok (.lst ((g.paths.filter fun p => !decide ((g.part p).ways = [])).map encP)) := by
    refine defD_eq rfl (ret_of (dLc_of ?_))
    refine lc_ok (xs := g.paths) (enc := encP) (fun p => !decide ((g.part p).ways = [])) encP ?_ fun p hp => ⟨_, rfl, ?_, fun _ => rfl⟩
    · have := paths_of_ok 8 n (by omega) hn g hg
      simp only [this, defD, args, dSeq, dSet, dSetP, dSetN, lstAt, dApp, dAppP, dAsg, dPar, dDrop, dWhile, dIfS, dRet, dB, dCall, dCons, dNil, dVar, dC, dBin, dChain, asB, dTru, dNotT, dAndT, dOrT, dAnd, dOr, dNot, dIf, dUn, dTup, dLst, dItems, dYes, R.bind, R.to, O.seq, outR, ofO, noErr, mask, Sm.putIn, bindPat, bindPats, itemsOf, tru, List.foldr_cons, List.foldr_nil, List.length_cons, List.length_nil, List.map_cons, List.map_nil, List.cons_append, List.nil_append, Nat.sub_self, List.replicate_zero, List.replicate_succ, List.getElem?_cons_succ, List.getElem?_cons_zero, List.set_cons_zero, List.set_cons_succ, Nat.reduceAdd, Nat.reduceSub, ↓reduceIte, Bool.not_true, Bool.not_false, Bool.and_true, Bool.true_and, Bool.false_and, Bool.and_false, if_true, if_false, Bool.false_eq_true, oNeg, oAddI, oSubI, oAdd_ii, oLt, oLe, oGt, oGe, Option.bind_some, Option.map_some]
    · have hp := (Game.mem_paths g p).mp hp
      simp only [part_of_ok hp, end_ok, defD, args, dSeq, dSet, dSetP, dSetN, lstAt, dApp, dAppP, dAsg, dPar, dDrop, dWhile, dIfS, dRet, dB, dCall, dCons, dNil, dVar, dC, dBin, dChain, asB, dTru, dNotT, dAndT, dOrT, dAnd, dOr, dNot, dIf, dUn, dTup, dLst, dItems, dYes, R.bind, R.to, O.seq, outR, ofO, noErr, mask, Sm.putIn, bindPat, bindPats, itemsOf, tru, List.foldr_cons, List.foldr_nil, List.length_cons, List.length_nil, List.map_cons, List.map_nil, List.cons_append, List.nil_append, Nat.sub_self, List.replicate_zero, List.replicate_succ, List.getElem?_cons_succ, List.getElem?_cons_zero, List.set_cons_zero, List.set_cons_succ, Nat.reduceAdd, Nat.reduceSub, ↓reduceIte, Bool.not_true, Bool.not_false, Bool.and_true, Bool.true_and, Bool.false_and, Bool.and_false, if_true, if_false, Bool.false_eq_true, oNeg, oAddI, oSubI, oAdd_ii, oLt, oLe, oGt, oGe, Option.bind_some, Option.map_some]
  refine defD_eq rfl (ret_of (dLc_of ?_))
  refine lc_ok1 (enc := encP) _ (by simp only [gg, defD, args, dSeq, dSet, dSetP, dSetN, lstAt, dApp, dAppP, dAsg, dPar, dDrop, dWhile, dIfS, dRet, dB, dCall, dCons, dNil, dVar, dC, dBin, dChain, asB, dTru, dNotT, dAndT, dOrT, dAnd, dOr, dNot, dIf, dUn, dTup, dLst, dItems, dYes, R.bind, R.to, O.seq, outR, ofO, noErr, mask, Sm.putIn, bindPat, bindPats, itemsOf, tru, List.foldr_cons, List.foldr_nil, List.length_cons, List.length_nil, List.map_cons, List.map_nil, List.cons_append, List.nil_append, Nat.sub_self, List.replicate_zero, List.replicate_succ, List.getElem?_cons_succ, List.getElem?_cons_zero, List.set_cons_zero, List.set_cons_succ, Nat.reduceAdd, Nat.reduceSub, ↓reduceIte, Bool.not_true, Bool.not_false, Bool.and_true, Bool.true_and, Bool.false_and, Bool.and_false, if_true, if_false, Bool.false_eq_true, oNeg, oAddI, oSubI, oAdd_ii, oLt, oLe, oGt, oGe, Option.bind_some, Option.map_some]) fun p hp => ⟨_, rfl, ?_⟩
  have ip := (Game.mem_paths g p).mp (List.mem_filter.mp hp).1
  simp only [part_of_ok ip, (gain_ok (Game.part_ok hg ip).1).1, defD, args, dSeq, dSet, dSetP, dSetN, lstAt, dApp, dAppP, dAsg, dPar, dDrop, dWhile, dIfS, dRet, dB, dCall, dCons, dNil, dVar, dC, dBin, dChain, asB, dTru, dNotT, dAndT, dOrT, dAnd, dOr, dNot, dIf, dUn, dTup, dLst, dItems, dYes, R.bind, R.to, O.seq, outR, ofO, noErr, mask, Sm.putIn, bindPat, bindPats, itemsOf, tru, List.foldr_cons, List.foldr_nil, List.length_cons, List.length_nil, List.map_cons, List.map_nil, List.cons_append, List.nil_append, Nat.sub_self, List.replicate_zero, List.replicate_succ, List.getElem?_cons_succ, List.getElem?_cons_zero, List.set_cons_zero, List.set_cons_succ, Nat.reduceAdd, Nat.reduceSub, ↓reduceIte, Bool.not_true, Bool.not_false, Bool.and_true, Bool.true_and, Bool.false_and, Bool.and_false, if_true, if_false, Bool.false_eq_true, oNeg, oAddI, oSubI, oAdd_ii, oLt, oLe, oGt, oGe, Option.bind_some, Option.map_some]
def isF (P : Rat → Bool) (g : Game) : Bool := (g.paths.filter fun p => !decide ((g.part p).ways = [])).all fun p => P (g.part p).gain
theorem isF_iff {P : Rat → Bool} {g : Game} : isF P g = true ↔ Game.Gains (fun q => P q = true) g := by
  unfold isF
  rw [Game.gains_iff, List.all_eq_true]
  constructor
  · intro h p hp hne
    exact h p (List.mem_filter.mpr ⟨(Game.mem_paths g p).mpr hp, by simpa using hne⟩)
  · intro h p hp
    have := List.mem_filter.mp hp
    exact h p ((Game.mem_paths g p).mp this.1) (by simpa using this.2)
theorem gains_mono {P Q : Rat → Prop} {g : Game} (h : Game.Gains P g) (hq : ∀ q, P q → Q q) : Game.Gains Q g := by
  rw [Game.gains_iff] at h ⊢
  exact fun p hp hne => hq _ (h p hp hne)
theorem ixQ0 (q : Rat) : oIx (encQ q) (.int 0) = some (.int q.num) := oIx_t0 _ _
theorem fair_ok {g : Game} (hg : g.Ok 4) : d_is_fair [g.enc] = .ok (.bl (isF (fun q => q.num == 0) g)) := by
  have gs := gains_ok hg (by decide)
  refine defD_eq rfl ?_
  unfold b_is_fair
  apply out_step (o := .nx [some g.enc, none])
  · simp only [look_ok hg, defD, args, dSeq, dSet, dSetP, dSetN, lstAt, dApp, dAppP, dAsg, dPar, dDrop, dWhile, dIfS, dRet, dB, dCall, dCons, dNil, dVar, dC, dBin, dChain, asB, dTru, dNotT, dAndT, dOrT, dAnd, dOr, dNot, dIf, dUn, dTup, dLst, dItems, dYes, R.bind, R.to, O.seq, outR, ofO, noErr, mask, Sm.putIn, bindPat, bindPats, itemsOf, tru, List.foldr_cons, List.foldr_nil, List.length_cons, List.length_nil, List.map_cons, List.map_nil, List.cons_append, List.nil_append, Nat.sub_self, List.replicate_zero, List.replicate_succ, List.getElem?_cons_succ, List.getElem?_cons_zero, List.set_cons_zero, List.set_cons_succ, Nat.reduceAdd, Nat.reduceSub, ↓reduceIte, Bool.not_true, Bool.not_false, Bool.and_true, Bool.true_and, Bool.false_and, Bool.and_false, if_true, if_false, Bool.false_eq_true, oNeg, oAddI, oSubI, oAdd_ii, oLt, oLe, oGt, oGe, Option.bind_some, Option.map_some]
  simp only [O.seq]
  refine ret_of ?_
  have lc : dLcs [1] (.v 1) (dItems (dCall d_gains_of (dCons (dVar 0) dNil))) dYes (dBin oEq (dBin oIx (dVar 1) (dC (.int 0))) (dC (.int 0))) [some g.enc, none] = .ok ((g.paths.filter fun p => !decide ((g.part p).ways = [])).map fun p => D.bl ((g.part p).gain.num == 0)) :=
    lc_ok1 (enc := fun p => encQ (g.part p).gain) _ (by simp only [gs, defD, args, dSeq, dSet, dSetP, dSetN, lstAt, dApp, dAppP, dAsg, dPar, dDrop, dWhile, dIfS, dRet, dB, dCall, dCons, dNil, dVar, dC, dBin, dChain, asB, dTru, dNotT, dAndT, dOrT, dAnd, dOr, dNot, dIf, dUn, dTup, dLst, dItems, dYes, R.bind, R.to, O.seq, outR, ofO, noErr, mask, Sm.putIn, bindPat, bindPats, itemsOf, tru, List.foldr_cons, List.foldr_nil, List.length_cons, List.length_nil, List.map_cons, List.map_nil, List.cons_append, List.nil_append, Nat.sub_self, List.replicate_zero, List.replicate_succ, List.getElem?_cons_succ, List.getElem?_cons_zero, List.set_cons_zero, List.set_cons_succ, Nat.reduceAdd, Nat.reduceSub, ↓reduceIte, Bool.not_true, Bool.not_false, Bool.and_true, Bool.true_and, Bool.false_and, Bool.and_false, if_true, if_false, Bool.false_eq_true, oNeg, oAddI, oSubI, oAdd_ii, oLt, oLe, oGt, oGe, Option.bind_some, Option.map_some]) fun p hp => ⟨_, rfl, by simp only [ixQ0, oEq_int, defD, args, dSeq, dSet, dSetP, dSetN, lstAt, dApp, dAppP, dAsg, dPar, dDrop, dWhile, dIfS, dRet, dB, dCall, dCons, dNil, dVar, dC, dBin, dChain, asB, dTru, dNotT, dAndT, dOrT, dAnd, dOr, dNot, dIf, dUn, dTup, dLst, dItems, dYes, R.bind, R.to, O.seq, outR, ofO, noErr, mask, Sm.putIn, bindPat, bindPats, itemsOf, tru, List.foldr_cons, List.foldr_nil, List.length_cons, List.length_nil, List.map_cons, List.map_nil, List.cons_append, List.nil_append, Nat.sub_self, List.replicate_zero, List.replicate_succ, List.getElem?_cons_succ, List.getElem?_cons_zero, List.set_cons_zero, List.set_cons_succ, Nat.reduceAdd, Nat.reduceSub, ↓reduceIte, Bool.not_true, Bool.not_false, Bool.and_true, Bool.true_and, Bool.false_and, Bool.and_false, if_true, if_false, Bool.false_eq_true, oNeg, oAddI, oSubI, oAdd_ii, oLt, oLe, oGt, oGe, Option.bind_some, Option.map_some]⟩
  have ab := all_bools (fun p => (g.part p).gain.num == 0) (g.paths.filter fun p => !decide ((g.part p).ways = []))
  unfold isF
  generalize ((g.paths.filter fun p => !decide ((g.part p).ways = [])).map fun p => D.bl ((g.part p).gain.num == 0)) = L at *
  simp only [dLc, lc, ab, defD, args, dSeq, dSet, dSetP, dSetN, lstAt, dApp, dAppP, dAsg, dPar, dDrop, dWhile, dIfS, dRet, dB, dCall, dCons, dNil, dVar, dC, dBin, dChain, asB, dTru, dNotT, dAndT, dOrT, dAnd, dOr, dNot, dIf, dUn, dTup, dLst, dItems, dYes, R.bind, R.to, O.seq, outR, ofO, noErr, mask, Sm.putIn, bindPat, bindPats, itemsOf, tru, List.foldr_cons, List.foldr_nil, List.length_cons, List.length_nil, List.map_cons, List.map_nil, List.cons_append, List.nil_append, Nat.sub_self, List.replicate_zero, List.replicate_succ, List.getElem?_cons_succ, List.getElem?_cons_zero, List.set_cons_zero, List.set_cons_succ, Nat.reduceAdd, Nat.reduceSub, ↓reduceIte, Bool.not_true, Bool.not_false, Bool.and_true, Bool.true_and, Bool.false_and, Bool.and_false, if_true, if_false, Bool.false_eq_true, oNeg, oAddI, oSubI, oAdd_ii, oLt, oLe, oGt, oGe, Option.bind_some, Option.map_some]
theorem fair_zero {g : Game} (h : isF (fun q => q.num == 0) g = true) : Game.Gains (· = 0) g :=
  gains_mono (isF_iff.mp h) fun q hq => Rat.num_eq_zero.mp (by simpa using hq)
end Kx
namespace Sm
namespace RT
theorem mem_go {rs : List RT} {p : List Nat} : p ∈ (RT.go rs).paths ↔ ∃ i q r, p = i :: q ∧ rs[i]? = some r ∧ q ∈ r.paths := by
  rw [paths_go, mem_idxs']
  constructor
  · rintro ⟨i, q, h1, ps, h2, h3⟩
    rw [List.getElem?_map, Option.map_eq_some_iff] at h2
    obtain ⟨r, h4, rfl⟩ := h2
    exact ⟨i, q, r, h1, h4, h3⟩
  · rintro ⟨i, q, r, h1, h2, h3⟩
    exact ⟨i, q, h1, r.paths, by rw [List.getElem?_map, h2]; rfl, h3⟩
theorem mem_cons {rs : List RT} {i : Nat} {q : List Nat} {r : RT} (h : rs[i]? = some r) : i :: q ∈ (RT.go rs).paths ↔ q ∈ r.paths := by
  rw [mem_go]
  constructor
  · rintro ⟨j, q', r', h1, h2, h3⟩
    injection h1 with h1 h1'
    subst h1 h1'
    rw [h] at h2; cases h2; exact h3
  · exact fun hq => ⟨i, q, r, rfl, h, hq⟩
end RT
open RT
namespace Game
end Game
end Sm
namespace Kx
open PySem PySem.Spec L2 Sm
end Kx
namespace Kx
open PySem PySem.Spec L2 Sm
def stT : DT := asB (dBin oNe (dVar 4) (dLst dNil))
def stB (pk : Nat → Int → Int) : DS := (dSeq (dPop 4 (.t [(.v 5), (.v 6)]))
    (dSeq (dSet [4, 3] 1 (dBin oAdd (dVar 1) (dC (.int 1))))
    (dIfS (dOrT (asB (dBin oEq (dB oLen (dCons (dVar 6) dNil)) (dC (.int 1)))) (asB (dBin oEq (dCall (dPick pk) (dCons (dVar 0) (dCons (dVar 1) (dCons (dC (.int 3)) dNil)))) (dC (.int 0))))) (dApp [4, 3] 3 (dVar 5)) (dExt [4, 3] 4 (dLc [7, 8, 9] (.t [(.v 7), (.t [(.v 8), (.v 9)])]) (dRng enumD (dCons (dBin oIx (dVar 6) (dC (.int 1))) dNil)) dYes (dTup (dCons (dBin oAdd (dVar 5) (dTup (dCons (dVar 7) dNil))) (dCons (dVar 9) dNil))))))))
def encRow (x : List Nat × Game) : D := .tup [encP x.1, x.2.enc]
def stE (g : D) (k : Nat) (some_ : PL) (rows : List (List Nat × Game)) (x5 x6 : Option D) : Sm.Env := [some .scr0, some (.int (k : Int)), some g, some (.lst (some_.map encP)), some (.lst (rows.map encRow)), x5, x6, none, none, none]
def Sub (pk : Nat → Int → Int) (g : D) (s : Game) : Prop := ∀ (d : Nat), s.Ok d → d ≤ 4 → ∀ (road : List Nat) (rows : List (List Nat × Game)) (some_ : PL) (k : Nat) (x5 x6 : Option D), (∀ y ∈ rows, y.2.Ok 4) → road.length + d ≤ 90 → some_.length + rows.length + 3 * s.paths.length ≤ 50000 →
  ∃ (t : RT) (L : PL) (k' : Nat) (y5 y6 : Option D) (m : Nat), RuleOf s t ∧ L.Perm (t.paths.map (road ++ ·)) ∧ m ≤ s.paths.length ∧ L.length ≤ s.paths.length ∧ ∀ N, whileGo stT (stB pk) (N + m) (stE g k some_ (rows ++ [(road, s)]) x5 x6) = whileGo stT (stB pk) N (stE g k' (some_ ++ L) rows y5 y6)
end Kx
namespace Sm
namespace Game
theorem isPath_pre : ∀ (a b : List Nat) (g : Game), g.IsPath (a ++ b) → g.IsPath a
  | [], _, _, _ => trivial
  | i :: a, b, g, h => by
    obtain ⟨x, hx, hp⟩ := isPath_at h
    exact (isPath_cons hx).mpr (isPath_pre a b x.2 hp)
theorem part_snoc : ∀ {p : List Nat} {g : Game} {i : Nat} {x : Int × Game}, g.IsPath p → (g.part p).ways[i]? = some x → g.IsPath (p ++ [i]) ∧ g.part (p ++ [i]) = x.2
  | p, g, i, x, hp, hx => by
    refine ⟨(isPath_append p [i] g hp).mpr ((isPath_c [] hx).mpr trivial), ?_⟩
    rw [part_append p [i] g hp, part_c [] hx]; rfl
theorem chance_pos : ∀ {p : List Nat} {g : Game} {n : Nat}, g.Ok n → g.IsPath p → 0 < g.chance p
  | [], g, _, _, _ => by simp only [chance]; decide
  | i :: p, g, 0, h, _ => h.elim
  | i :: p, .node w ws, n + 1, h, hp => by
    simp only [IsPath, ways] at hp
    cases hx : ws[i]? with
    | none => rw [hx] at hp; exact hp.elim
    | some x =>
      rw [hx] at hp
      rw [chance_c (g := .node w ws) p hx]
      obtain ⟨t1, t2, a1, a2, hk⟩ := total_at (g := .node w ws) h hx
      refine Rat.mul_pos ?_ (chance_pos (h.2.2 x (List.mem_of_getElem? hx)).2 hp)
      refine Rat.lt_of_le_of_ne (Rat.divInt_nonneg (by omega) (by omega)) fun e => ?_
      rw [← Rat.zero_divInt (Game.node w ws).total] at e
      have := (Rat.divInt_eq_divInt_iff (by omega) (by omega)).mp e
      rw [Int.zero_mul] at this
      rcases Int.mul_eq_zero.mp this.symm with h | h <;> omega
end Game
end Sm
namespace Kx
open PySem PySem.Spec L2 Sm
end Kx
namespace Kx
open PySem PySem.Spec L2 Sm
end Kx
namespace Sm
theorem qsum_sz {n : Nat} : ∀ {qs : List Rat}, (∀ q ∈ qs, Sz n q) → Sz (1 + (n + 1) * qs.length) (qsum qs)
  | [], _ => by
    have : Sz 1 (0 : Rat) := ⟨by decide, by decide⟩
    simpa [qsum] using this
  | q :: qs, h => by
    have h1 := h q (by simp)
    have h2 := qsum_sz (qs := qs) fun x hx => h x (by simp [hx])
    rw [qsum, List.length_cons]
    exact (h1.add h2).mono (by rw [Nat.mul_add]; omega)
end Sm
namespace Kx
open PySem PySem.Spec L2 Sm
theorem max_min {α : Type} (f : α → Int) {l : List α} (hne : l ≠ []) : ∃ M m : Int, oMax [.lst (l.map fun x => D.int (f x))] = some (.int M) ∧ oMin [.lst (l.map fun x => D.int (f x))] = some (.int m) ∧ (decide (0 ≤ m) = l.all fun x => decide (0 ≤ f x)) ∧ (decide (M ≤ 0) = l.all fun x => decide (f x ≤ 0)) ∧ ((M == m && m == 0) = l.all fun x => f x == 0) := by
  obtain ⟨a, l', rfl⟩ := List.exists_cons_of_ne_nil hne
  have io : intsOf ((a :: l').map fun x => D.int (f x)) = some ((a :: l').map f) := ints_map f (a :: l')
  obtain ⟨h1, h2⟩ := foldl_max (l'.map f) (f a)
  obtain ⟨h3, h4⟩ := foldl_min (l'.map f) (f a)
  rw [← List.map_cons] at h1 h2 h3 h4
  obtain ⟨b, hb, eb⟩ := List.mem_map.mp h1
  obtain ⟨c, hc, ec⟩ := List.mem_map.mp h3
  have hM : ∀ x ∈ a :: l', f x ≤ (l'.map f).foldl max (f a) := fun x hx => h2 _ (List.mem_map.mpr ⟨x, hx, rfl⟩)
  have hm : ∀ x ∈ a :: l', (l'.map f).foldl min (f a) ≤ f x := fun x hx => h4 _ (List.mem_map.mpr ⟨x, hx, rfl⟩)
  refine ⟨(l'.map f).foldl max (f a), (l'.map f).foldl min (f a), ?_, ?_, ?_, ?_, ?_⟩
  · simp only [oMax, io, Option.bind_some]
    rfl
  · simp only [oMin, io, Option.bind_some]
    rfl
  · rw [Bool.eq_iff_iff, decide_eq_true_eq, List.all_eq_true]
    constructor
    · intro h x hx; rw [decide_eq_true_eq]; exact Int.le_trans h (hm x hx)
    · intro h; rw [← ec]; simpa using h c hc
  · rw [Bool.eq_iff_iff, decide_eq_true_eq, List.all_eq_true]
    constructor
    · intro h x hx; rw [decide_eq_true_eq]; exact Int.le_trans (hM x hx) h
    · intro h; rw [← eb]; simpa using h b hb
  · rw [Bool.eq_iff_iff, Bool.and_eq_true, beq_iff_eq, beq_iff_eq, List.all_eq_true]
    constructor
    · rintro ⟨e1, e2⟩ x hx
      have := hM x hx
      have := hm x hx
      rw [beq_iff_eq]; omega
    · intro h
      have h1 : f b = 0 := by simpa using h b hb
      have h2 : f c = 0 := by simpa using h c hc
      omega
end Kx
namespace Sm
end Sm
namespace Kx
open PySem PySem.Spec L2 Sm
end Kx
namespace Kx
open PySem PySem.Spec L2 Sm
theorem oSum2 {a b : Rat} {m n : Nat} (ha : Sz m a) (hb : Sz n b) (h : m + n < 4000) : d__law_sum [.lst [encQ a, encQ b]] = .ok (encQ (a + b)) := by
  have := lsum_ok (qs := [a, b]) (n := m + n) (by
    intro q hq
    rcases List.mem_cons.mp hq with rfl | hq
    · exact ha.mono (by omega)
    · rw [List.mem_singleton] at hq; subst hq; exact hb.mono (by omega)) (by simp; omega)
  simp only [qsum, Rat.add_zero] at this
  exact this
end Kx
namespace Sm
namespace Game
end Game
end Sm
namespace Kx
open PySem PySem.Spec L2 Sm
end Kx
namespace Sm
def bq (q : Rat) : Nat := max q.num.natAbs.log2 q.den.log2 + 1
def mu (qs : List Rat) : Nat := (qs.map fun q => bq q + 1).sum
end Sm
namespace Kx
open PySem PySem.Spec L2 Sm
theorem seq_nx {f h : DS} {ρ ρ1 : Sm.Env} {o : O} (h1 : f ρ = .nx ρ1) (h2 : h ρ1 = o) : dSeq f h ρ = o := by
  unfold dSeq; rw [h1]; exact h2
end Kx
namespace Sm
namespace Game
def exP (g : Game) (f : List Nat → Rat) : Rat := qsum (g.paths.map fun p => g.chance p * f p)
theorem idxs_sum {T : Int} (g : Game) (f : List Nat → Rat) (hT : g.total = T) : ∀ (ws : List (Int × Game)) (k : Nat), (∀ (i : Nat) (x : Int × Game), ws[i]? = some x → g.ways[k + i]? = some x) →
    qsum ((idxs k (ws.map fun p => p.2.paths)).map fun p => g.chance p * f p) = qsum ((ws.zipIdx k).map fun x => Rat.divInt x.1.1 T * x.1.2.exP fun p => f (x.2 :: p))
  | [], _, _ => rfl
  | x :: ws, k, h => by
    rw [List.map_cons, idxs, List.map_append, qsum_append, idxs_sum g f hT ws (k + 1) (fun i y hy => by rw [show k + 1 + i = k + (i + 1) by omega]; exact h (i + 1) y (by simpa using hy)), List.zipIdx_cons, List.map_cons, qsum]
    congr 1
    unfold exP
    rw [← qsum_mul, List.map_map]
    refine qsum_congr fun p _ => ?_
    have := h 0 x rfl
    rw [Nat.add_zero] at this
    simp only [Function.comp_apply]
    rw [chance_c p this, hT, Rat.mul_assoc]
theorem exP_node (w : Int) (ws : List (Int × Game)) (f : List Nat → Rat) : exP (.node w ws) f = f [] + qsum ((ws.zipIdx 0).map fun x => Rat.divInt x.1.1 (Game.node w ws).total * x.1.2.exP fun p => f (x.2 :: p)) := by
  have := idxs_sum (.node w ws) f rfl ws 0 (fun i x h => by rw [Nat.zero_add]; exact h)
  unfold exP at *
  rw [paths, List.map_cons, qsum, this]
  simp only [chance, Rat.one_mul]
def sqs (g : Game) : Rat := qsum (g.ways.map fun x => g.shr x * ((x.2.worth - g.worth : Int) : Rat) * ((x.2.worth - g.worth : Int) : Rat))
def allSq (g : Game) : Rat := g.exP fun p => (g.part p).sqs
theorem zip_fst {α : Type} (h : α → Rat) : ∀ (l : List α) (k : Nat), qsum ((l.zipIdx k).map fun x => h x.1) = qsum (l.map h)
  | [], _ => rfl
  | a :: l, k => by rw [List.zipIdx_cons, List.map_cons, List.map_cons, qsum, qsum, zip_fst h l (k + 1)]
theorem allSq_node (w : Int) (ws : List (Int × Game)) : allSq (.node w ws) = sqs (.node w ws) + qsum (ws.map fun x => Rat.divInt x.1 (Game.node w ws).total * x.2.allSq) := by
  unfold allSq
  rw [exP_node, show part (.node w ws) [] = .node w ws from rfl, ← zip_fst (fun x : Int × Game => Rat.divInt x.1 (Game.node w ws).total * x.2.exP fun p => (x.2.part p).sqs) ws 0]
  congr 2
  refine List.map_congr_left fun x hx => ?_
  obtain ⟨y, i⟩ := x
  have hi := List.mem_zipIdx_iff_getElem?.mp hx
  congr 2
  funext p
  rw [part_c (g := .node w ws) p (show ws[i]? = some y by simpa using hi)]
def mSq (g : Game) : Rat := exR g g.endT fun p => g.wq p * g.wq p
theorem mSq_end (w : Int) : mSq (.node w []) = (w : Rat) * (w : Rat) := by
  unfold mSq; rw [endT_end, exR_stop]; rfl
theorem exRs_f {T : Int} {f : Game → List Nat → Rat} {F : List Nat → Rat} {g : Game} (hF : ∀ (i : Nat) (x : Int × Game) (p : List Nat), g.ways[i]? = some x → F (i :: p) = f x.2 p) : ∀ {ws : List (Int × Game)} {rs : List RT} (k : Nat), (∀ (i : Nat) (x : Int × Game), ws[i]? = some x → g.ways[k + i]? = some x) → exRs T k ws rs F = sumW T ws rs fun s r => exR s r (f s)
  | [], [], _, _ => rfl
  | [], _ :: _, _, _ => rfl
  | _ :: _, [], _, _ => rfl
  | x :: ws, r :: rs, k, h => by
    rw [exRs, sumW, exRs_f hF (k + 1) (fun i y hy => by rw [show k + 1 + i = k + (i + 1) by omega]; exact h (i + 1) y (by simpa using hy))]
    congr 2
    exact exR_congr fun p _ => hF k x p (by have := h 0 x rfl; rwa [Nat.add_zero] at this)
theorem sumW_mapF {T : Int} (F : Game → RT → Rat) : ∀ ws : List (Int × Game), sumW T ws (ws.map fun p => p.2.endT) F = qsum (ws.map fun x => Rat.divInt x.1 T * F x.2 x.2.endT)
  | [] => rfl
  | x :: ws => by rw [List.map_cons, List.map_cons, sumW, qsum, sumW_mapF F ws]
theorem mSq_go {w : Int} {ws : List (Int × Game)} (h : ws ≠ []) : mSq (.node w ws) = qsum (ws.map fun x => Rat.divInt x.1 (Game.node w ws).total * x.2.mSq) := by
  have hr := endT_rule (Game.node w ws)
  unfold mSq
  rw [endT_go h] at hr ⊢
  cases hr with
  | go _ hr =>
    rw [exR_go _ hr, exRs_f (g := .node w ws) (f := fun s p => s.wq p * s.wq p) (fun i x p hx => by rw [wq_c p hx]) 0 (fun i x hx => by rw [Nat.zero_add]; exact hx), sumW_mapF]
theorem square_law : ∀ {n : Nat} {g : Game}, g.Ok n → Gains (· = 0) g → g.mSq = (g.worth : Rat) * (g.worth : Rat) + g.allSq
  | 0, _, h, _ => h.elim
  | n + 1, .node w ws, h, .mk h1 h2 => by
    rw [allSq_node]
    by_cases hw : ws = []
    · subst hw
      rw [mSq_end]
      simp only [sqs, ways, List.map_nil, qsum, worth]
      grind
    · rw [mSq_go hw]
      have hg := h1 hw
      have ht := one_total h hw
      have e1 : qsum (ws.map fun x => Rat.divInt x.1 (Game.node w ws).total * x.2.mSq) = qsum (ws.map fun x => Rat.divInt x.1 (Game.node w ws).total * ((x.2.worth : Rat) * (x.2.worth : Rat) + x.2.allSq)) :=
        qsum_congr fun x hx => by rw [square_law (h.2.2 x hx).2 (h2 x hx)]
      rw [e1]
      have hg : qsum (ws.map fun x => Rat.divInt x.1 (Game.node w ws).total * ((x.2.worth - w : Int) : Rat)) = 0 := hg
      show _ = (w : Rat) * (w : Rat) + (qsum (ws.map fun x => Rat.divInt x.1 (Game.node w ws).total * ((x.2.worth - w : Int) : Rat) * ((x.2.worth - w : Int) : Rat)) + _)
      generalize (Game.node w ws).total = T at *
      have key : ∀ l : List (Int × Game), qsum (l.map fun x => Rat.divInt x.1 T * ((x.2.worth : Rat) * (x.2.worth : Rat) + x.2.allSq)) = qsum (l.map fun x => Rat.divInt x.1 T * ((x.2.worth - w : Int) : Rat) * ((x.2.worth - w : Int) : Rat)) + qsum (l.map fun x => Rat.divInt x.1 T * x.2.allSq) + 2 * (w : Rat) * qsum (l.map fun x => Rat.divInt x.1 T * ((x.2.worth - w : Int) : Rat)) + (w : Rat) * (w : Rat) * Rat.divInt ((l.map (·.1)).sum) T := by
        intro l
        induction l with
        | nil => simp [qsum, Rat.zero_divInt]; grind
        | cons x l ih =>
          simp only [List.map_cons, qsum, List.sum_cons, ← divInt_add]
          rw [ih]
          have : ((x.2.worth - w : Int) : Rat) = (x.2.worth : Rat) - (w : Rat) := by rw [Rat.intCast_sub]
          rw [this]
          grind
      rw [key, hg, ht]
      grind
end Game
end Sm
namespace Kx
open PySem PySem.Spec L2 Sm
theorem mul_w {a b : Int} (h : -1000 ≤ a ∧ a ≤ 1000) : oMul (.int a) (.int b) = some (.int (a * b)) := oMul_ok (mulOk_l (by omega))
theorem max_is {α : Type} {f : α → Int} {l : List α} {M : Int} (h : oMax [.lst (l.map fun x => D.int (f x))] = some (.int M)) : M ∈ l.map f ∧ ∀ y ∈ l.map f, y ≤ M := by
  cases l with
  | nil => simp [oMax, intsOf, maxI] at h
  | cons a l =>
    have io : intsOf ((a :: l).map fun x => D.int (f x)) = some ((a :: l).map f) := ints_map f (a :: l)
    simp only [oMax, io, Option.bind_some] at h
    have h' : some (D.int ((l.map f).foldl max (f a))) = some (D.int M) := h
    injection h' with h'
    injection h' with h'
    rw [← h', List.map_cons]
    exact foldl_max (l.map f) (f a)
theorem isPath_pre0 : ∀ (a b : List Nat) (g : Game), g.IsPath (a ++ b) → g.IsPath a
  | [], _, _, _ => trivial
  | i :: a, b, g, h => by
    obtain ⟨x, hx, hp⟩ := Game.isPath_at h
    exact (Game.isPath_cons hx).mpr (isPath_pre0 a b x.2 hp)
theorem mean_square_ok {g : Game} (hg : g.Ok 4) : d_mean_square [g.enc] = .ok (encQ g.mSq) := by
  have ht := Game.endT_rule g
  have eo := ends_ok' hg (by decide)
  have hf := rule_few hg (by decide) ht
  have hpt : ∀ p ∈ g.endT.paths, g.IsPath p := fun p hp => Game.rule_path ht hp
  have lc1 : dLcs [2] (.v 2) (dItems (dCall d_ends_of (dCons (dVar 0) dNil))) dYes (dTup (dCons (dCall d_chance_of (dCons (dVar 0) (dCons (dVar 2) dNil))) (dCons (dBin oIx (dCall d_part_of (dCons (dVar 0) (dCons (dVar 2) dNil))) (dC (.int 0))) dNil))) [some g.enc, none, none, none, none] = .ok (g.endT.paths.map fun p => D.tup [encQ (g.chance p), .int (g.part p).worth]) := by
    refine lc_ok1 (enc := encP) _ (by simp only [eo, defD, args, dSeq, dSet, dSetP, dSetN, lstAt, dApp, dAppP, dAsg, dPar, dDrop, dWhile, dIfS, dRet, dB, dCall, dCons, dNil, dVar, dC, dBin, dChain, asB, dTru, dNotT, dAndT, dOrT, dAnd, dOr, dNot, dIf, dUn, dTup, dLst, dItems, dYes, R.bind, R.to, O.seq, outR, ofO, noErr, mask, Sm.putIn, bindPat, bindPats, itemsOf, tru, List.foldr_cons, List.foldr_nil, List.length_cons, List.length_nil, List.map_cons, List.map_nil, List.cons_append, List.nil_append, Nat.sub_self, List.replicate_zero, List.replicate_succ, List.getElem?_cons_succ, List.getElem?_cons_zero, List.set_cons_zero, List.set_cons_succ, Nat.reduceAdd, Nat.reduceSub, ↓reduceIte, Bool.not_true, Bool.not_false, Bool.and_true, Bool.true_and, Bool.false_and, Bool.and_false, if_true, if_false, Bool.false_eq_true, oNeg, oAddI, oSubI, oAdd_ii, oLt, oLe, oGt, oGe, Option.bind_some, Option.map_some]) fun p hp => ⟨_, rfl, ?_⟩
    simp only [chance_of_ok hg (by decide) (hpt p hp), part_of_ok (hpt p hp), ix0_ok, defD, args, dSeq, dSet, dSetP, dSetN, lstAt, dApp, dAppP, dAsg, dPar, dDrop, dWhile, dIfS, dRet, dB, dCall, dCons, dNil, dVar, dC, dBin, dChain, asB, dTru, dNotT, dAndT, dOrT, dAnd, dOr, dNot, dIf, dUn, dTup, dLst, dItems, dYes, R.bind, R.to, O.seq, outR, ofO, noErr, mask, Sm.putIn, bindPat, bindPats, itemsOf, tru, List.foldr_cons, List.foldr_nil, List.length_cons, List.length_nil, List.map_cons, List.map_nil, List.cons_append, List.nil_append, Nat.sub_self, List.replicate_zero, List.replicate_succ, List.getElem?_cons_succ, List.getElem?_cons_zero, List.set_cons_zero, List.set_cons_succ, Nat.reduceAdd, Nat.reduceSub, ↓reduceIte, Bool.not_true, Bool.not_false, Bool.and_true, Bool.true_and, Bool.false_and, Bool.and_false, if_true, if_false, Bool.false_eq_true, oNeg, oAddI, oSubI, oAdd_ii, oLt, oLe, oGt, oGe, Option.bind_some, Option.map_some]
  have hs : ∀ p ∈ g.endT.paths, Sz 11 (((g.part p).worth * (g.part p).worth : Int) : Rat) := fun p hp => by
    have w := worth_bd (Game.part_ok hg (hpt p hp)).1
    refine Sz.int ?_ (by decide)
    rw [Int.natAbs_mul]
    exact Nat.lt_of_le_of_lt (Nat.mul_le_mul (show _ ≤ 20 by omega) (show _ ≤ 20 by omega)) (by decide)
  have lc2 : dLcs [3, 4] (.t [(.v 3), (.v 4)]) (dItems (dVar 1)) dYes (dCall d_times (dCons (dVar 3) (dCons (dTup (dCons (dBin oMul (dVar 4) (dVar 4)) (dCons (dC (.int 1)) dNil))) dNil))) [some g.enc, some (.lst (g.endT.paths.map fun p => D.tup [encQ (g.chance p), .int (g.part p).worth])), none, none, none] = .ok ((g.endT.paths.map fun p => g.chance p * (g.wq p * g.wq p)).map encQ) := by
    rw [List.map_map]
    refine lc_ok1 (xs := g.endT.paths) (enc := fun p => D.tup [encQ (g.chance p), .int (g.part p).worth]) _ rfl fun p hp => ⟨_, rfl, ?_⟩
    have w := worth_bd (Game.part_ok hg (hpt p hp)).1
    have tm := times_ok (chance_sz4 hg (by decide) (hpt p hp)) (hs p hp) (by decide)
    rw [Rat.intCast_mul, ← Rat.intCast_mul] at tm
    simp only [mul_w (a := (g.part p).worth) (b := (g.part p).worth) (by omega), enc_int1, tm, defD, args, dSeq, dSet, dSetP, dSetN, lstAt, dApp, dAppP, dAsg, dPar, dDrop, dWhile, dIfS, dRet, dB, dCall, dCons, dNil, dVar, dC, dBin, dChain, asB, dTru, dNotT, dAndT, dOrT, dAnd, dOr, dNot, dIf, dUn, dTup, dLst, dItems, dYes, R.bind, R.to, O.seq, outR, ofO, noErr, mask, Sm.putIn, bindPat, bindPats, itemsOf, tru, List.foldr_cons, List.foldr_nil, List.length_cons, List.length_nil, List.map_cons, List.map_nil, List.cons_append, List.nil_append, Nat.sub_self, List.replicate_zero, List.replicate_succ, List.getElem?_cons_succ, List.getElem?_cons_zero, List.set_cons_zero, List.set_cons_succ, Nat.reduceAdd, Nat.reduceSub, ↓reduceIte, Bool.not_true, Bool.not_false, Bool.and_true, Bool.true_and, Bool.false_and, Bool.and_false, if_true, if_false, Bool.false_eq_true, oNeg, oAddI, oSubI, oAdd_ii, oLt, oLe, oGt, oGe, Option.bind_some, Option.map_some]
    simp only [Function.comp_apply, Game.wq, Rat.intCast_mul]
  have ap := all_plus_ok (qs := g.endT.paths.map fun p => g.chance p * (g.wq p * g.wq p)) (n := 27) (by
    intro q hq
    obtain ⟨p, hp, rfl⟩ := List.mem_map.mp hq
    have := hs p hp
    rw [Rat.intCast_mul] at this
    exact (chance_sz4 hg (by decide) (hpt p hp)).mul this) (by rw [List.length_map]; omega)
  refine defD_eq rfl ?_
  unfold b_mean_square
  apply out_seq; (focus (simp only [look_ok hg, defD, args, dSeq, dSet, dSetP, dSetN, lstAt, dApp, dAppP, dAsg, dPar, dDrop, dWhile, dIfS, dRet, dB, dCall, dCons, dNil, dVar, dC, dBin, dChain, asB, dTru, dNotT, dAndT, dOrT, dAnd, dOr, dNot, dIf, dUn, dTup, dLst, dItems, dYes, R.bind, R.to, O.seq, outR, ofO, noErr, mask, Sm.putIn, bindPat, bindPats, itemsOf, tru, List.foldr_cons, List.foldr_nil, List.length_cons, List.length_nil, List.map_cons, List.map_nil, List.cons_append, List.nil_append, Nat.sub_self, List.replicate_zero, List.replicate_succ, List.getElem?_cons_succ, List.getElem?_cons_zero, List.set_cons_zero, List.set_cons_succ, Nat.reduceAdd, Nat.reduceSub, ↓reduceIte, Bool.not_true, Bool.not_false, Bool.and_true, Bool.true_and, Bool.false_and, Bool.and_false, if_true, if_false, Bool.false_eq_true, oNeg, oAddI, oSubI, oAdd_ii, oLt, oLe, oGt, oGe, Option.bind_some, Option.map_some]; try exact rfl))
  apply out_seq
  · exact setN_nx lc1
  simp only [List.set_cons_succ, List.set_cons_zero]
  refine ret_of ?_
  unfold Game.mSq Game.exR
  generalize (g.endT.paths.map fun p => D.tup [encQ (g.chance p), .int (g.part p).worth]) = L1 at *
  generalize (g.endT.paths.map fun p => g.chance p * (g.wq p * g.wq p)).map encQ = L2 at *
  simp only [dLc, lc2, ap, defD, args, dSeq, dSet, dSetP, dSetN, lstAt, dApp, dAppP, dAsg, dPar, dDrop, dWhile, dIfS, dRet, dB, dCall, dCons, dNil, dVar, dC, dBin, dChain, asB, dTru, dNotT, dAndT, dOrT, dAnd, dOr, dNot, dIf, dUn, dTup, dLst, dItems, dYes, R.bind, R.to, O.seq, outR, ofO, noErr, mask, Sm.putIn, bindPat, bindPats, itemsOf, tru, List.foldr_cons, List.foldr_nil, List.length_cons, List.length_nil, List.map_cons, List.map_nil, List.cons_append, List.nil_append, Nat.sub_self, List.replicate_zero, List.replicate_succ, List.getElem?_cons_succ, List.getElem?_cons_zero, List.set_cons_zero, List.set_cons_succ, Nat.reduceAdd, Nat.reduceSub, ↓reduceIte, Bool.not_true, Bool.not_false, Bool.and_true, Bool.true_and, Bool.false_and, Bool.and_false, if_true, if_false, Bool.false_eq_true, oNeg, oAddI, oSubI, oAdd_ii, oLt, oLe, oGt, oGe, Option.bind_some, Option.map_some]
theorem most_lc {g : Game} {p : List Nat} (hl : p.length < 4) (hpre : ∀ k, g.IsPath (p.take k)) : dLcs [2] (.v 2) (dRng rng1 (dCons (dBin oAdd (dB oLen (dCons (dVar 1) dNil)) (dC (.int 1))) dNil)) dYes (dBin oIx (dCall d_part_of (dCons (dVar 0) (dCons (dSl (dVar 1) dNo (dSo (dVar 2))) dNil))) (dC (.int 0))) [some g.enc, some (encP p), none] = .ok ((List.range (p.length + 1)).map fun k => D.int (g.part (p.take k)).worth) := by
  have hr : dRng rng1 (dCons (dBin oAdd (dB oLen (dCons (dVar 1) dNil)) (dC (.int 1))) dNil) [some g.enc, some (encP p), none] = .ok ((List.range (p.length + 1)).map fun i => D.int ((i : Nat) : Int)) := by
    refine rng1_it ?_ (Nat.le_trans (Nat.succ_le_succ (Nat.le_of_lt hl)) (by decide))
    have e1 : (p.length : Int) + 1 = ((p.length + 1 : Nat) : Int) := by omega
    simp only [len_encP, e1, defD, args, dSeq, dSet, dSetP, dSetN, lstAt, dApp, dAppP, dAsg, dPar, dDrop, dWhile, dIfS, dRet, dB, dCall, dCons, dNil, dVar, dC, dBin, dChain, asB, dTru, dNotT, dAndT, dOrT, dAnd, dOr, dNot, dIf, dUn, dTup, dLst, dItems, dYes, R.bind, R.to, O.seq, outR, ofO, noErr, mask, Sm.putIn, bindPat, bindPats, itemsOf, tru, List.foldr_cons, List.foldr_nil, List.length_cons, List.length_nil, List.map_cons, List.map_nil, List.cons_append, List.nil_append, Nat.sub_self, List.replicate_zero, List.replicate_succ, List.getElem?_cons_succ, List.getElem?_cons_zero, List.set_cons_zero, List.set_cons_succ, Nat.reduceAdd, Nat.reduceSub, ↓reduceIte, Bool.not_true, Bool.not_false, Bool.and_true, Bool.true_and, Bool.false_and, Bool.and_false, if_true, if_false, Bool.false_eq_true, oNeg, oAddI, oSubI, oAdd_ii, oLt, oLe, oGt, oGe, Option.bind_some, Option.map_some]
  refine lc_ok1 _ hr fun k hk => ⟨_, rfl, ?_⟩
  simp only [dSl, dSo, dNo, sl_take, part_of_ok (hpre k), ix0_ok, defD, args, dSeq, dSet, dSetP, dSetN, lstAt, dApp, dAppP, dAsg, dPar, dDrop, dWhile, dIfS, dRet, dB, dCall, dCons, dNil, dVar, dC, dBin, dChain, asB, dTru, dNotT, dAndT, dOrT, dAnd, dOr, dNot, dIf, dUn, dTup, dLst, dItems, dYes, R.bind, R.to, O.seq, outR, ofO, noErr, mask, Sm.putIn, bindPat, bindPats, itemsOf, tru, List.foldr_cons, List.foldr_nil, List.length_cons, List.length_nil, List.map_cons, List.map_nil, List.cons_append, List.nil_append, Nat.sub_self, List.replicate_zero, List.replicate_succ, List.getElem?_cons_succ, List.getElem?_cons_zero, List.set_cons_zero, List.set_cons_succ, Nat.reduceAdd, Nat.reduceSub, ↓reduceIte, Bool.not_true, Bool.not_false, Bool.and_true, Bool.true_and, Bool.false_and, Bool.and_false, if_true, if_false, Bool.false_eq_true, oNeg, oAddI, oSubI, oAdd_ii, oLt, oLe, oGt, oGe, Option.bind_some, Option.map_some]
theorem most_pre {g : Game} {p : List Nat} (hp : g.IsPath p) (k : Nat) : g.IsPath (p.take k) := isPath_pre0 (p.take k) (p.drop k) g (by rw [List.take_append_drop]; exact hp)
theorem max_den {f : DE} {ρ : Sm.Env} {d e : D} (h : f ρ = .ok d) (hm : oMax [d] = some e) : dB oMax (dCons f dNil) ρ = .ok e := by
  unfold dB dCons dNil
  rw [h]
  show ofO (oMax [d]) = _
  rw [hm]; rfl
theorem most_ok {g : Game} (hg : g.Ok 4) {p : List Nat} (hp : g.IsPath p) : ∃ M : Int, d_most_along [g.enc, encP p] = .ok (.int M) ∧ (∃ k, k ≤ p.length ∧ M = (g.part (p.take k)).worth) ∧ ∀ k, k ≤ p.length → (g.part (p.take k)).worth ≤ M := by
  have hl := (Game.part_ok hg hp).2
  have lc := most_lc hl (most_pre hp)
  have hne : List.range (p.length + 1) ≠ [] := by
    intro h
    have := congrArg List.length h
    rw [List.length_range] at this
    simp at this
  obtain ⟨M, m, hM, _, _, _, _⟩ := max_min (fun k => (g.part (p.take k)).worth) (l := List.range (p.length + 1)) hne
  have hM2 : M ∈ (List.range (p.length + 1)).map (fun k => (g.part (p.take k)).worth) ∧ ∀ y ∈ (List.range (p.length + 1)).map (fun k => (g.part (p.take k)).worth), y ≤ M := max_is hM
  refine ⟨M, ?_, ?_, ?_⟩
  · refine defD_eq rfl ?_
    unfold b_most_along
    refine ret_of ?_
    exact max_den (dLc_of lc) hM
  · obtain ⟨k, hk, e⟩ := List.mem_map.mp hM2.1
    exact ⟨k, by have := List.mem_range.mp hk; omega, e.symm⟩
  · intro k hk
    exact hM2.2 _ (List.mem_map.mpr ⟨k, List.mem_range.mpr (by omega), rfl⟩)
end Kx
namespace Kx
open PySem PySem.Spec L2 Sm
def sqI (k : Int) : Rat := ((k * k : Int) : Rat)
section
variable {g : Game} {t : RT}
end
theorem sqI_w (k : Int) : sqI k = (k : Rat) * (k : Rat) := by unfold sqI; rw [Rat.intCast_mul]
end Kx
namespace Sm
namespace Game
theorem qsum_le {l : List (List Nat)} {f f' : List Nat → Rat} (h : ∀ p ∈ l, f p ≤ f' p) : qsum (l.map f) ≤ qsum (l.map f') := by
  induction l with
  | nil => exact Rat.le_refl
  | cons p l ih =>
    simp only [List.map_cons, qsum]
    have h1 := h p (by simp)
    have h2 := ih fun q hq => h q (by simp [hq])
    grind
theorem qsum_filter {P : List Nat → Bool} (f : List Nat → Rat) : ∀ l : List (List Nat), qsum ((l.filter P).map f) = qsum (l.map fun p => if P p then f p else 0)
  | [] => rfl
  | p :: l => by
    rw [List.filter_cons]
    cases q : P p with
    | true => simp only [if_true, List.map_cons, qsum, qsum_filter f l, q]
    | false => simp only [Bool.false_eq_true, if_false, List.map_cons, qsum, qsum_filter f l, q, Rat.zero_add]
end Game
end Sm
namespace Kx
open PySem PySem.Spec L2 Sm
theorem call1_den {F : List D → R D} {f : DE} {ρ : Sm.Env} {d : D} {r : R D} (h : f ρ = .ok d) (hF : F [d] = r) : dCall F (dCons f dNil) ρ = r := by
  unfold dCall dCons dNil
  rw [h]
  exact hF
theorem call2_den {F : List D → R D} {f h : DE} {ρ : Sm.Env} {d e : D} {r : R D} (hf : f ρ = .ok d) (hh : h ρ = .ok e) (hF : F [d, e] = r) : dCall F (dCons f (dCons h dNil)) ρ = r := by
  unfold dCall dCons dNil
  rw [hf, hh]
  exact hF
theorem ge_den {f h : DE} {ρ : Sm.Env} {a b : Int} (hf : f ρ = .ok (.int a)) (hh : h ρ = .ok (.int b)) : asB (dBin oGe f h) ρ = .ok (decide (b ≤ a)) := by
  unfold asB dBin
  rw [hf, hh]
  rfl
open Classical in
noncomputable def mx (g : Game) (p : List Nat) : Int := if h : ∃ M : Int, d_most_along [g.enc, encP p] = .ok (.int M) then h.choose else 0
theorem mx_ok {g : Game} (hg : g.Ok 4) {p : List Nat} (hp : g.IsPath p) : d_most_along [g.enc, encP p] = .ok (.int (mx g p)) ∧ (∃ k, k ≤ p.length ∧ mx g p = (g.part (p.take k)).worth) ∧ ∀ k, k ≤ p.length → (g.part (p.take k)).worth ≤ mx g p := by
  obtain ⟨M, h1, h2, h3⟩ := most_ok hg hp
  have h : ∃ M : Int, d_most_along [g.enc, encP p] = .ok (.int M) := ⟨M, h1⟩
  have hc : d_most_along [g.enc, encP p] = .ok (.int (mx g p)) := by
    unfold mx
    rw [dif_pos h]
    exact h.choose_spec
  have e : mx g p = M := D.int.inj (R.ok.inj (hc.symm.trans h1))
  rw [e]
  exact ⟨h1, h2, h3⟩
noncomputable def chR (g : Game) (l : Int) : Rat := qsum ((g.endT.paths.filter fun p => decide (l ≤ mx g p)).map g.chance)
theorem chR_sz {g : Game} (hg : g.Ok 4) (l : Int) : Sz 700 (chR g l) := by
  have ht := Game.endT_rule g
  have hl := rule_few hg (by decide) ht
  have := qsum_sz (n := 16) (qs := (g.endT.paths.filter fun p => decide (l ≤ mx g p)).map g.chance) (by
    intro q hq
    obtain ⟨p, hp, rfl⟩ := List.mem_map.mp hq
    exact chance_sz4 hg (by decide) (Game.rule_path ht (List.mem_filter.mp hp).1))
  have h2 := List.length_filter_le (fun p => decide (l ≤ mx g p)) g.endT.paths
  rw [List.length_map] at this
  exact this.mono (by omega)
theorem reached_ok {g : Game} (hg : g.Ok 4) (l : Int) : d_chance_reached [g.enc, .int l] = .ok (encQ (chR g l)) := by
  have ht := Game.endT_rule g
  have eo := ends_ok' hg (by decide)
  have hl := rule_few hg (by decide) ht
  have hf := List.length_filter_le (fun p => decide (l ≤ mx g p)) g.endT.paths
  have lc : dLcs [2] (.v 2) (dItems (dCall d_ends_of (dCons (dVar 0) dNil))) (asB (dBin oGe (dCall d_most_along (dCons (dVar 0) (dCons (dVar 2) dNil))) (dVar 1))) (dCall d_chance_of (dCons (dVar 0) (dCons (dVar 2) dNil))) [some g.enc, some (.int l), none] = .ok (((g.endT.paths.filter fun p => decide (l ≤ mx g p)).map g.chance).map encQ) := by
    rw [List.map_map]
    refine lc_ok (enc := encP) (fun p => decide (l ≤ mx g p)) _ (by simp only [eo, defD, args, dSeq, dSet, dSetP, dSetN, lstAt, dApp, dAppP, dAsg, dPar, dDrop, dWhile, dIfS, dRet, dB, dCall, dCons, dNil, dVar, dC, dBin, dChain, asB, dTru, dNotT, dAndT, dOrT, dAnd, dOr, dNot, dIf, dUn, dTup, dLst, dItems, dYes, R.bind, R.to, O.seq, outR, ofO, noErr, mask, Sm.putIn, bindPat, bindPats, itemsOf, tru, List.foldr_cons, List.foldr_nil, List.length_cons, List.length_nil, List.map_cons, List.map_nil, List.cons_append, List.nil_append, Nat.sub_self, List.replicate_zero, List.replicate_succ, List.getElem?_cons_succ, List.getElem?_cons_zero, List.set_cons_zero, List.set_cons_succ, Nat.reduceAdd, Nat.reduceSub, ↓reduceIte, Bool.not_true, Bool.not_false, Bool.and_true, Bool.true_and, Bool.false_and, Bool.and_false, if_true, if_false, Bool.false_eq_true, oNeg, oAddI, oSubI, oAdd_ii, oLt, oLe, oGt, oGe, Option.bind_some, Option.map_some]) fun p hp => ⟨_, rfl, ?_, fun _ => ?_⟩
    · exact ge_den (call2_den rfl rfl (mx_ok hg (Game.rule_path ht hp)).1) rfl
    · exact call2_den rfl rfl (chance_of_ok hg (by decide) (Game.rule_path ht hp))
  have ap := all_plus_ok (qs := (g.endT.paths.filter fun p => decide (l ≤ mx g p)).map g.chance) (n := 16) (by
    intro q hq
    obtain ⟨p, hp, rfl⟩ := List.mem_map.mp hq
    exact chance_sz4 hg (by decide) (Game.rule_path ht (List.mem_filter.mp hp).1)) (by rw [List.length_map]; omega)
  refine defD_eq rfl ?_
  unfold b_chance_reached
  apply out_seq; (focus (simp only [look_ok hg, defD, args, dSeq, dSet, dSetP, dSetN, lstAt, dApp, dAppP, dAsg, dPar, dDrop, dWhile, dIfS, dRet, dB, dCall, dCons, dNil, dVar, dC, dBin, dChain, asB, dTru, dNotT, dAndT, dOrT, dAnd, dOr, dNot, dIf, dUn, dTup, dLst, dItems, dYes, R.bind, R.to, O.seq, outR, ofO, noErr, mask, Sm.putIn, bindPat, bindPats, itemsOf, tru, List.foldr_cons, List.foldr_nil, List.length_cons, List.length_nil, List.map_cons, List.map_nil, List.cons_append, List.nil_append, Nat.sub_self, List.replicate_zero, List.replicate_succ, List.getElem?_cons_succ, List.getElem?_cons_zero, List.set_cons_zero, List.set_cons_succ, Nat.reduceAdd, Nat.reduceSub, ↓reduceIte, Bool.not_true, Bool.not_false, Bool.and_true, Bool.true_and, Bool.false_and, Bool.and_false, if_true, if_false, Bool.false_eq_true, oNeg, oAddI, oSubI, oAdd_ii, oLt, oLe, oGt, oGe, Option.bind_some, Option.map_some]; try exact rfl))
  refine ret_of ?_
  unfold chR
  exact call1_den (dLc_of lc) ap
theorem not_less {a b : Rat} (h : b ≤ a) : ¬ (a.num * (b.den : Nat) < b.num * (a.den : Nat)) := fun hl => by
  have := (Rat.lt_iff a b).mpr hl
  exact absurd h (Rat.not_le.mpr this)
end Kx
namespace Sm
namespace Game
def gos (g : Game) : List (List Nat) := g.paths.filter fun p => !decide ((g.part p).ways = [])
theorem mem_gos {g : Game} {p : List Nat} : p ∈ g.gos ↔ g.IsPath p ∧ (g.part p).ways ≠ [] := by
  unfold gos
  rw [List.mem_filter, mem_paths]
  simp
theorem gos_len {g : Game} (hg : g.Ok 4) : g.gos.length ≤ 40 := by
  have := Game.paths_len hg
  rw [Kx.most4] at this
  exact Nat.le_trans (List.length_filter_le _ _) this
end Game
end Sm
namespace Kx
open PySem PySem.Spec L2 Sm
theorem going_ok {n : Nat} {g : Game} (hg : g.Ok n) (hn : n ≤ 6) : d_going [g.enc] = .ok (.lst (g.gos.map encP)) := by
  refine defD_eq rfl (ret_of (dLc_of ?_))
  refine lc_ok (xs := g.paths) (enc := encP) (fun p => !decide ((g.part p).ways = [])) encP ?_ fun p hp => ⟨_, rfl, ?_, fun _ => rfl⟩
  · have := paths_of_ok 8 n (by omega) hn g hg
    simp only [this, defD, args, dSeq, dSet, dSetP, dSetN, lstAt, dApp, dAppP, dAsg, dPar, dDrop, dWhile, dIfS, dRet, dB, dCall, dCons, dNil, dVar, dC, dBin, dChain, asB, dTru, dNotT, dAndT, dOrT, dAnd, dOr, dNot, dIf, dUn, dTup, dLst, dItems, dYes, R.bind, R.to, O.seq, outR, ofO, noErr, mask, Sm.putIn, bindPat, bindPats, itemsOf, tru, List.foldr_cons, List.foldr_nil, List.length_cons, List.length_nil, List.map_cons, List.map_nil, List.cons_append, List.nil_append, Nat.sub_self, List.replicate_zero, List.replicate_succ, List.getElem?_cons_succ, List.getElem?_cons_zero, List.set_cons_zero, List.set_cons_succ, Nat.reduceAdd, Nat.reduceSub, ↓reduceIte, Bool.not_true, Bool.not_false, Bool.and_true, Bool.true_and, Bool.false_and, Bool.and_false, if_true, if_false, Bool.false_eq_true, oNeg, oAddI, oSubI, oAdd_ii, oLt, oLe, oGt, oGe, Option.bind_some, Option.map_some]
  · have hp := (Game.mem_paths g p).mp hp
    simp only [part_of_ok hp, end_ok, defD, args, dSeq, dSet, dSetP, dSetN, lstAt, dApp, dAppP, dAsg, dPar, dDrop, dWhile, dIfS, dRet, dB, dCall, dCons, dNil, dVar, dC, dBin, dChain, asB, dTru, dNotT, dAndT, dOrT, dAnd, dOr, dNot, dIf, dUn, dTup, dLst, dItems, dYes, R.bind, R.to, O.seq, outR, ofO, noErr, mask, Sm.putIn, bindPat, bindPats, itemsOf, tru, List.foldr_cons, List.foldr_nil, List.length_cons, List.length_nil, List.map_cons, List.map_nil, List.cons_append, List.nil_append, Nat.sub_self, List.replicate_zero, List.replicate_succ, List.getElem?_cons_succ, List.getElem?_cons_zero, List.set_cons_zero, List.set_cons_succ, Nat.reduceAdd, Nat.reduceSub, ↓reduceIte, Bool.not_true, Bool.not_false, Bool.and_true, Bool.true_and, Bool.false_and, Bool.and_false, if_true, if_false, Bool.false_eq_true, oNeg, oAddI, oSubI, oAdd_ii, oLt, oLe, oGt, oGe, Option.bind_some, Option.map_some]
def sts (g : Game) (p : List Nat) (ws : List (Int × Game)) (k : Nat) : List Rat := (ws.zipIdx k).map fun x => g.chance (p ++ [x.2]) * sqI (x.1.2.worth - (g.part p).worth)
def stepB : DS := (dSeq (dSet [1] 7 (dBin oSubI (dBin oIx (dVar 6) (dC (.int 0))) (dBin oIx (dVar 3) (dC (.int 0)))))
    (dApp [1] 1 (dCall d_times (dCons (dCall d_chance_of (dCons (dVar 0) (dCons (dBin oAdd (dVar 2) (dTup (dCons (dVar 4) dNil))) dNil))) (dCons (dTup (dCons (dBin oMul (dVar 7) (dVar 7)) (dCons (dC (.int 1)) dNil))) dNil)))))
theorem sq2_sz {k : Int} (h : -40 ≤ k ∧ k ≤ 40) : Sz 11 (sqI k) := by
  refine Sz.int ?_ (by decide)
  rw [Int.natAbs_mul]
  exact Nat.lt_of_le_of_lt (Nat.mul_le_mul (show _ ≤ 40 by omega) (show _ ≤ 40 by omega)) (by decide)
theorem way_ok {n : Nat} {g : Game} {p : List Nat} (hg : g.Ok n) (hp : g.IsPath p) {i : Nat} {x : Int × Game} (hx : (g.part p).ways[i]? = some x) : g.IsPath (p ++ [i]) ∧ (-20 ≤ x.2.worth ∧ x.2.worth ≤ 20) ∧ p.length < n := by
  have h1 := Game.part_snoc hp hx
  have h2 := worth_bd (Game.part_ok hg h1.1).1
  rw [h1.2] at h2
  exact ⟨h1.1, h2, (Game.part_ok hg hp).2⟩
theorem step_in {g : Game} (hg : g.Ok 4) {p : List Nat} (hp : g.IsPath p) : ∀ (ws : List (Int × Game)) (k : Nat) (acc : List Rat) (x4 x5 x6 x7 : Option D), (∀ (i : Nat) x, ws[i]? = some x → (g.part p).ways[k + i]? = some x) → acc.length + ws.length ≤ 1000 →
    ∃ y4 y5 y6 y7, forGo (.t [(.v 4), (.t [(.v 5), (.v 6)])]) stepB (enumFrom k (encW ws)) [some g.enc, some (.lst (acc.map encQ)), some (encP p), some (g.part p).enc, x4, x5, x6, x7] = .nx [some g.enc, some (.lst ((acc ++ sts g p ws k).map encQ)), some (encP p), some (g.part p).enc, y4, y5, y6, y7]
  | [], k, acc, x4, x5, x6, x7, _, _ => ⟨x4, x5, x6, x7, by simp [encW, enumFrom, forGo, sts]⟩
  | x :: ws, k, acc, x4, x5, x6, x7, hw, hl => by
    have hx : (g.part p).ways[k]? = some x := by have := hw 0 x rfl; rwa [Nat.add_zero] at this
    obtain ⟨ip, wb, lp⟩ := way_ok hg hp hx
    have wb0 := worth_bd (Game.part_ok hg hp).1
    rw [List.length_cons] at hl
    obtain ⟨y4, y5, y6, y7, e⟩ := step_in hg hp ws (k + 1) (acc ++ [g.chance (p ++ [k]) * sqI (x.2.worth - (g.part p).worth)]) (some (.int (k : Int))) (some (.int x.1)) (some x.2.enc) (some (.int (x.2.worth - (g.part p).worth))) (fun i y hy => by rw [show k + 1 + i = k + (i + 1) by omega]; exact hw (i + 1) y (by simpa using hy)) (by rw [List.length_append, List.length_singleton]; omega)
    refine ⟨y4, y5, y6, y7, ?_⟩
    have ch := chance_of_ok hg (by decide) ip
    have sn := snoc_P p k (by omega)
    have tm := times_ok (chance_sz4 hg (by decide) ip) (sq2_sz (k := x.2.worth - (g.part p).worth) (by omega)) (by decide)
    have hz : (acc.map encQ).length + 1 ≤ sizeLine := by rw [List.length_map]; exact Nat.le_trans (show _ ≤ 100000 by omega) sizeLine_big
    have em : D.tup [.int ((x.2.worth - (g.part p).worth) * (x.2.worth - (g.part p).worth)), .int 1] = encQ (sqI (x.2.worth - (g.part p).worth)) := enc_int1 _
    have st : stepB [some g.enc, some (.lst (acc.map encQ)), some (encP p), some (g.part p).enc, some (.int (k : Int)), some (.int x.1), some x.2.enc, x7] = .nx [some g.enc, some (.lst ((acc ++ [g.chance (p ++ [k]) * sqI (x.2.worth - (g.part p).worth)]).map encQ)), some (encP p), some (g.part p).enc, some (.int (k : Int)), some (.int x.1), some x.2.enc, some (.int (x.2.worth - (g.part p).worth))] := by
      rw [List.map_append, List.map_cons, List.map_nil]
      generalize acc.map encQ = L at *
      unfold stepB
      refine seq_nx (ρ1 := [some g.enc, some (.lst L), some (encP p), some (g.part p).enc, some (.int (k : Int)), some (.int x.1), some x.2.enc, some (.int (x.2.worth - (g.part p).worth))]) (by simp only [ix0_ok, defD, args, dSeq, dSet, dSetP, dSetN, lstAt, dApp, dAppP, dAsg, dPar, dDrop, dWhile, dIfS, dRet, dB, dCall, dCons, dNil, dVar, dC, dBin, dChain, asB, dTru, dNotT, dAndT, dOrT, dAnd, dOr, dNot, dIf, dUn, dTup, dLst, dItems, dYes, R.bind, R.to, O.seq, outR, ofO, noErr, mask, Sm.putIn, bindPat, bindPats, itemsOf, tru, List.foldr_cons, List.foldr_nil, List.length_cons, List.length_nil, List.map_cons, List.map_nil, List.cons_append, List.nil_append, Nat.sub_self, List.replicate_zero, List.replicate_succ, List.getElem?_cons_succ, List.getElem?_cons_zero, List.set_cons_zero, List.set_cons_succ, Nat.reduceAdd, Nat.reduceSub, ↓reduceIte, Bool.not_true, Bool.not_false, Bool.and_true, Bool.true_and, Bool.false_and, Bool.and_false, if_true, if_false, Bool.false_eq_true, oNeg, oAddI, oSubI, oAdd_ii, oLt, oLe, oGt, oGe, Option.bind_some, Option.map_some]) ?_
      simp only [sn, ch, mul_w (a := x.2.worth - (g.part p).worth) (b := x.2.worth - (g.part p).worth) (by omega), em, tm, hz, defD, args, dSeq, dSet, dSetP, dSetN, lstAt, dApp, dAppP, dAsg, dPar, dDrop, dWhile, dIfS, dRet, dB, dCall, dCons, dNil, dVar, dC, dBin, dChain, asB, dTru, dNotT, dAndT, dOrT, dAnd, dOr, dNot, dIf, dUn, dTup, dLst, dItems, dYes, R.bind, R.to, O.seq, outR, ofO, noErr, mask, Sm.putIn, bindPat, bindPats, itemsOf, tru, List.foldr_cons, List.foldr_nil, List.length_cons, List.length_nil, List.map_cons, List.map_nil, List.cons_append, List.nil_append, Nat.sub_self, List.replicate_zero, List.replicate_succ, List.getElem?_cons_succ, List.getElem?_cons_zero, List.set_cons_zero, List.set_cons_succ, Nat.reduceAdd, Nat.reduceSub, ↓reduceIte, Bool.not_true, Bool.not_false, Bool.and_true, Bool.true_and, Bool.false_and, Bool.and_false, if_true, if_false, Bool.false_eq_true, oNeg, oAddI, oSubI, oAdd_ii, oLt, oLe, oGt, oGe, Option.bind_some, Option.map_some]
    rw [show enumFrom k (encW (x :: ws)) = .tup [.int (k : Int), .tup [.int x.1, x.2.enc]] :: enumFrom (k + 1) (encW ws) from rfl]
    unfold forGo
    rw [show bindPat (.t [(.v 4), (.t [(.v 5), (.v 6)])]) (.tup [.int (k : Int), .tup [.int x.1, x.2.enc]]) [some g.enc, some (.lst (acc.map encQ)), some (encP p), some (g.part p).enc, x4, x5, x6, x7] = some [some g.enc, some (.lst (acc.map encQ)), some (encP p), some (g.part p).enc, some (.int (k : Int)), some (.int x.1), some x.2.enc, x7] from rfl]
    simp only [st, O.seq]
    rw [e]
    congr 5
    rw [List.append_assoc]
    rfl
def stepO : DS := (dSeq (dSet [1] 3 (dCall d_part_of (dCons (dVar 0) (dCons (dVar 2) dNil))))
    (dFor [1] (.t [(.v 4), (.t [(.v 5), (.v 6)])]) (dRng enumD (dCons (dCall d_ways_of (dCons (dVar 3) dNil)) dNil)) stepB))
theorem step_out {g : Game} (hg : g.Ok 4) : ∀ (ps : List (List Nat)) (acc : List Rat) (x2 x3 x4 x5 x6 x7 : Option D), (∀ p ∈ ps, g.IsPath p) → acc.length + 3 * ps.length ≤ 1000 →
    ∃ y2 y3 y4 y5 y6 y7, forGo (.v 2) stepO (ps.map encP) [some g.enc, some (.lst (acc.map encQ)), x2, x3, x4, x5, x6, x7] = .nx [some g.enc, some (.lst ((acc ++ (ps.map fun p => sts g p (g.part p).ways 0).flatten).map encQ)), y2, y3, y4, y5, y6, y7]
  | [], acc, x2, x3, x4, x5, x6, x7, _, _ => ⟨x2, x3, x4, x5, x6, x7, by simp [forGo]⟩
  | p :: ps, acc, x2, x3, x4, x5, x6, x7, hp, hl => by
    have ip := hp p (by simp)
    have hw := ways_le (Game.part_ok hg ip).1
    rw [List.length_cons] at hl
    obtain ⟨y4, y5, y6, y7, e1⟩ := step_in hg ip (g.part p).ways 0 acc x4 x5 x6 x7 (fun i x hx => by rw [Nat.zero_add]; exact hx) (by omega)
    obtain ⟨z2, z3, z4, z5, z6, z7, e2⟩ := step_out hg ps (acc ++ sts g p (g.part p).ways 0) (some (encP p)) (some (g.part p).enc) y4 y5 y6 y7 (fun q hq => hp q (by simp [hq])) (by
      have : (sts g p (g.part p).ways 0).length = (g.part p).ways.length := by unfold sts; simp
      rw [List.length_append, this]; omega)
    refine ⟨z2, z3, z4, z5, z6, z7, ?_⟩
    have st : stepO [some g.enc, some (.lst (acc.map encQ)), some (encP p), x3, x4, x5, x6, x7] = .nx [some g.enc, some (.lst ((acc ++ sts g p (g.part p).ways 0).map encQ)), some (encP p), some (g.part p).enc, y4, y5, y6, y7] := by
      unfold stepO
      refine seq_nx (ρ1 := [some g.enc, some (.lst (acc.map encQ)), some (encP p), some (g.part p).enc, x4, x5, x6, x7]) ?_ ?_
      · generalize acc.map encQ = L
        simp only [part_of_ok ip, defD, args, dSeq, dSet, dSetP, dSetN, lstAt, dApp, dAppP, dAsg, dPar, dDrop, dWhile, dIfS, dRet, dB, dCall, dCons, dNil, dVar, dC, dBin, dChain, asB, dTru, dNotT, dAndT, dOrT, dAnd, dOr, dNot, dIf, dUn, dTup, dLst, dItems, dYes, R.bind, R.to, O.seq, outR, ofO, noErr, mask, Sm.putIn, bindPat, bindPats, itemsOf, tru, List.foldr_cons, List.foldr_nil, List.length_cons, List.length_nil, List.map_cons, List.map_nil, List.cons_append, List.nil_append, Nat.sub_self, List.replicate_zero, List.replicate_succ, List.getElem?_cons_succ, List.getElem?_cons_zero, List.set_cons_zero, List.set_cons_succ, Nat.reduceAdd, Nat.reduceSub, ↓reduceIte, Bool.not_true, Bool.not_false, Bool.and_true, Bool.true_and, Bool.false_and, Bool.and_false, if_true, if_false, Bool.false_eq_true, oNeg, oAddI, oSubI, oAdd_ii, oLt, oLe, oGt, oGe, Option.bind_some, Option.map_some]
      · unfold dFor
        rw [show mask [1] [some g.enc, some (.lst (acc.map encQ)), some (encP p), some (g.part p).enc, x4, x5, x6, x7] = [some g.enc, none, some (encP p), some (g.part p).enc, x4, x5, x6, x7] from rfl, enum_it (ds := encW (g.part p).ways) (by simp only [ways_ok, defD, args, dSeq, dSet, dSetP, dSetN, lstAt, dApp, dAppP, dAsg, dPar, dDrop, dWhile, dIfS, dRet, dB, dCall, dCons, dNil, dVar, dC, dBin, dChain, asB, dTru, dNotT, dAndT, dOrT, dAnd, dOr, dNot, dIf, dUn, dTup, dLst, dItems, dYes, R.bind, R.to, O.seq, outR, ofO, noErr, mask, Sm.putIn, bindPat, bindPats, itemsOf, tru, List.foldr_cons, List.foldr_nil, List.length_cons, List.length_nil, List.map_cons, List.map_nil, List.cons_append, List.nil_append, Nat.sub_self, List.replicate_zero, List.replicate_succ, List.getElem?_cons_succ, List.getElem?_cons_zero, List.set_cons_zero, List.set_cons_succ, Nat.reduceAdd, Nat.reduceSub, ↓reduceIte, Bool.not_true, Bool.not_false, Bool.and_true, Bool.true_and, Bool.false_and, Bool.and_false, if_true, if_false, Bool.false_eq_true, oNeg, oAddI, oSubI, oAdd_ii, oLt, oLe, oGt, oGe, Option.bind_some, Option.map_some])]
        exact e1
    rw [List.map_cons]
    unfold forGo
    rw [show bindPat (.v 2) (encP p) [some g.enc, some (.lst (acc.map encQ)), x2, x3, x4, x5, x6, x7] = some [some g.enc, some (.lst (acc.map encQ)), some (encP p), x3, x4, x5, x6, x7] from rfl]
    simp only [st, O.seq]
    rw [e2]
    congr 5
    rw [List.append_assoc]
    rfl
theorem sts_sum {g : Game} {p : List Nat} (hp : g.IsPath p) : ∀ (ws : List (Int × Game)) (k : Nat), (∀ (i : Nat) x, ws[i]? = some x → (g.part p).ways[k + i]? = some x) → qsum (sts g p ws k) = g.chance p * qsum (ws.map fun x => (g.part p).shr x * ((x.2.worth - (g.part p).worth : Int) : Rat) * ((x.2.worth - (g.part p).worth : Int) : Rat))
  | [], k, _ => by simp [sts, qsum]
  | x :: ws, k, h => by
    have hx : (g.part p).ways[k]? = some x := by have := h 0 x rfl; rwa [Nat.add_zero] at this
    have ih := sts_sum hp ws (k + 1) fun i y hy => by rw [show k + 1 + i = k + (i + 1) by omega]; exact h (i + 1) y (by simpa using hy)
    unfold sts at *
    rw [List.zipIdx_cons, List.map_cons, List.map_cons, qsum, qsum, ih, sqI_w, Game.chance_append p [k] g hp, Game.chance_c [] hx]
    have : Game.chance x.2 [] = 1 := rfl
    rw [this]
    unfold Game.shr
    grind
theorem qsum_flat : ∀ ls : List (List Rat), qsum ls.flatten = qsum (ls.map qsum)
  | [] => rfl
  | l :: ls => by rw [List.flatten_cons, qsum_append, List.map_cons, qsum, qsum_flat ls]
theorem all_steps (g : Game) : qsum (g.gos.map fun p => sts g p (g.part p).ways 0).flatten = g.allSq := by
  rw [qsum_flat, List.map_map]
  unfold Game.allSq Game.exP Game.gos
  have e1 : qsum ((g.paths.filter fun p => !decide ((g.part p).ways = [])).map (qsum ∘ fun p => sts g p (g.part p).ways 0)) = qsum ((g.paths.filter fun p => !decide ((g.part p).ways = [])).map fun p => g.chance p * (g.part p).sqs) := by
    refine qsum_congr fun p hp => ?_
    have ip := (Game.mem_paths g p).mp (List.mem_filter.mp hp).1
    exact sts_sum ip _ 0 fun i x hx => by rw [Nat.zero_add]; exact hx
  rw [e1, Game.qsum_filter]
  refine qsum_congr fun p hp => ?_
  by_cases h : (g.part p).ways = []
  · have : (g.part p).sqs = 0 := by unfold Game.sqs; rw [h]; rfl
    have e0 : g.chance p * (g.part p).sqs = 0 := by rw [this, Rat.mul_zero]
    rw [e0]
    simp
  · simp [h]
theorem mean_steps_ok {g : Game} (hg : g.Ok 4) : d_mean_steps [g.enc] = .ok (encQ g.allSq) := by
  have hl := Game.gos_len hg
  have ip : ∀ p ∈ g.gos, g.IsPath p := fun p hp => (Game.mem_gos.mp hp).1
  have gg := going_ok hg (by decide)
  obtain ⟨y2, y3, y4, y5, y6, y7, e⟩ := step_out hg g.gos [] none none none none none none ip (by simp; omega)
  have ap := all_plus_ok (qs := (g.gos.map fun p => sts g p (g.part p).ways 0).flatten) (n := 27) (by
    intro q hq
    obtain ⟨l, hl1, hq2⟩ := List.mem_flatten.mp hq
    obtain ⟨p, hp, rfl⟩ := List.mem_map.mp hl1
    unfold sts at hq2
    obtain ⟨x, hx, rfl⟩ := List.mem_map.mp hq2
    have hx2 := List.mem_zipIdx_iff_getElem?.mp hx
    obtain ⟨i1, wb, _⟩ := way_ok hg (ip p hp) hx2
    have wb0 := worth_bd (Game.part_ok hg (ip p hp)).1
    exact (chance_sz4 hg (by decide) i1).mul (sq2_sz (by omega))) (by
    have : ∀ ps : List (List Nat), (∀ p ∈ ps, g.IsPath p) → (ps.map fun p => sts g p (g.part p).ways 0).flatten.length ≤ 3 * ps.length := by
      intro ps
      induction ps with
      | nil => intro _; simp
      | cons p ps ih =>
        intro h
        have h1 := ways_le (Game.part_ok hg (h p (by simp))).1
        have h2 := ih fun q hq => h q (by simp [hq])
        have h3 : (sts g p (g.part p).ways 0).length = (g.part p).ways.length := by unfold sts; simp
        rw [List.map_cons, List.flatten_cons, List.length_append, h3, List.length_cons]
        omega
    have := this g.gos ip
    omega)
  rw [all_steps] at ap
  rw [List.map_nil, List.nil_append] at e
  refine defD_eq rfl ?_
  unfold b_mean_steps
  apply out_seq; (focus (simp only [look_ok hg, defD, args, dSeq, dSet, dSetP, dSetN, lstAt, dApp, dAppP, dAsg, dPar, dDrop, dWhile, dIfS, dRet, dB, dCall, dCons, dNil, dVar, dC, dBin, dChain, asB, dTru, dNotT, dAndT, dOrT, dAnd, dOr, dNot, dIf, dUn, dTup, dLst, dItems, dYes, R.bind, R.to, O.seq, outR, ofO, noErr, mask, Sm.putIn, bindPat, bindPats, itemsOf, tru, List.foldr_cons, List.foldr_nil, List.length_cons, List.length_nil, List.map_cons, List.map_nil, List.cons_append, List.nil_append, Nat.sub_self, List.replicate_zero, List.replicate_succ, List.getElem?_cons_succ, List.getElem?_cons_zero, List.set_cons_zero, List.set_cons_succ, Nat.reduceAdd, Nat.reduceSub, ↓reduceIte, Bool.not_true, Bool.not_false, Bool.and_true, Bool.true_and, Bool.false_and, Bool.and_false, if_true, if_false, Bool.false_eq_true, oNeg, oAddI, oSubI, oAdd_ii, oLt, oLe, oGt, oGe, Option.bind_some, Option.map_some]; try exact rfl))
  apply out_seq; (focus (simp only [defD, args, dSeq, dSet, dSetP, dSetN, lstAt, dApp, dAppP, dAsg, dPar, dDrop, dWhile, dIfS, dRet, dB, dCall, dCons, dNil, dVar, dC, dBin, dChain, asB, dTru, dNotT, dAndT, dOrT, dAnd, dOr, dNot, dIf, dUn, dTup, dLst, dItems, dYes, R.bind, R.to, O.seq, outR, ofO, noErr, mask, Sm.putIn, bindPat, bindPats, itemsOf, tru, List.foldr_cons, List.foldr_nil, List.length_cons, List.length_nil, List.map_cons, List.map_nil, List.cons_append, List.nil_append, Nat.sub_self, List.replicate_zero, List.replicate_succ, List.getElem?_cons_succ, List.getElem?_cons_zero, List.set_cons_zero, List.set_cons_succ, Nat.reduceAdd, Nat.reduceSub, ↓reduceIte, Bool.not_true, Bool.not_false, Bool.and_true, Bool.true_and, Bool.false_and, Bool.and_false, if_true, if_false, Bool.false_eq_true, oNeg, oAddI, oSubI, oAdd_ii, oLt, oLe, oGt, oGe, Option.bind_some, Option.map_some]; try exact rfl))
  generalize ((g.gos.map fun p => sts g p (g.part p).ways 0).flatten).map encQ = L at *
  generalize g.gos.map encP = GP at *
  refine out_seq (ρ1 := [some g.enc, some (.lst L), y2, y3, y4, y5, y6, y7]) ?_ (ret_of ?_)
  · show dFor [1] (.v 2) (dItems (dCall d_going (dCons (dVar 0) dNil))) stepO _ = _
    unfold dFor
    have it : dItems (dCall d_going (dCons (dVar 0) dNil)) (mask [1] [some g.enc, some (.lst []), none, none, none, none, none, none]) = .ok GP := by simp only [gg, defD, args, dSeq, dSet, dSetP, dSetN, lstAt, dApp, dAppP, dAsg, dPar, dDrop, dWhile, dIfS, dRet, dB, dCall, dCons, dNil, dVar, dC, dBin, dChain, asB, dTru, dNotT, dAndT, dOrT, dAnd, dOr, dNot, dIf, dUn, dTup, dLst, dItems, dYes, R.bind, R.to, O.seq, outR, ofO, noErr, mask, Sm.putIn, bindPat, bindPats, itemsOf, tru, List.foldr_cons, List.foldr_nil, List.length_cons, List.length_nil, List.map_cons, List.map_nil, List.cons_append, List.nil_append, Nat.sub_self, List.replicate_zero, List.replicate_succ, List.getElem?_cons_succ, List.getElem?_cons_zero, List.set_cons_zero, List.set_cons_succ, Nat.reduceAdd, Nat.reduceSub, ↓reduceIte, Bool.not_true, Bool.not_false, Bool.and_true, Bool.true_and, Bool.false_and, Bool.and_false, if_true, if_false, Bool.false_eq_true, oNeg, oAddI, oSubI, oAdd_ii, oLt, oLe, oGt, oGe, Option.bind_some, Option.map_some]
    rw [it]
    exact e
  · simp only [ap, defD, args, dSeq, dSet, dSetP, dSetN, lstAt, dApp, dAppP, dAsg, dPar, dDrop, dWhile, dIfS, dRet, dB, dCall, dCons, dNil, dVar, dC, dBin, dChain, asB, dTru, dNotT, dAndT, dOrT, dAnd, dOr, dNot, dIf, dUn, dTup, dLst, dItems, dYes, R.bind, R.to, O.seq, outR, ofO, noErr, mask, Sm.putIn, bindPat, bindPats, itemsOf, tru, List.foldr_cons, List.foldr_nil, List.length_cons, List.length_nil, List.map_cons, List.map_nil, List.cons_append, List.nil_append, Nat.sub_self, List.replicate_zero, List.replicate_succ, List.getElem?_cons_succ, List.getElem?_cons_zero, List.set_cons_zero, List.set_cons_succ, Nat.reduceAdd, Nat.reduceSub, ↓reduceIte, Bool.not_true, Bool.not_false, Bool.and_true, Bool.true_and, Bool.false_and, Bool.and_false, if_true, if_false, Bool.false_eq_true, oNeg, oAddI, oSubI, oAdd_ii, oLt, oLe, oGt, oGe, Option.bind_some, Option.map_some]
end Kx
namespace Sm
namespace Game
def mapW (f : Int → Int) : Game → Game
  | .node w ws => .node (f w) (ws.map fun p => (p.1, p.2.mapW f))
termination_by g => sizeOf g
decreasing_by exact lt_of_mem ‹_›
theorem mapW_eq (f : Int → Int) (w : Int) (ws : List (Int × Game)) : (Game.node w ws).mapW f = .node (f w) (ws.map fun p => (p.1, p.2.mapW f)) := by
  rw [mapW]
theorem mapW_worth (f : Int → Int) (g : Game) : (g.mapW f).worth = f g.worth := by cases g with | node w ws => rw [mapW_eq]; rfl
theorem mapW_ways (f : Int → Int) (g : Game) : (g.mapW f).ways = g.ways.map fun p => (p.1, p.2.mapW f) := by cases g with | node w ws => rw [mapW_eq]; rfl
theorem mapW_way {f : Int → Int} {g : Game} {i : Nat} : (g.mapW f).ways[i]? = (g.ways[i]?).map fun p => (p.1, p.2.mapW f) := by rw [mapW_ways, List.getElem?_map]
theorem mapW_total (f : Int → Int) (g : Game) : (g.mapW f).total = g.total := by
  unfold total
  rw [mapW_ways, List.map_map]; rfl
theorem mapW_paths (f : Int → Int) : ∀ g : Game, (g.mapW f).paths = g.paths := by
  apply ind
  intro w ws ih
  rw [mapW_eq, paths, paths, List.map_map]
  congr 2
  exact List.map_congr_left fun p hp => ih p hp
theorem mapW_isPath (f : Int → Int) : ∀ (p : List Nat) (g : Game), (g.mapW f).IsPath p ↔ g.IsPath p := fun p g => by
  rw [← mem_paths, mapW_paths, mem_paths]
theorem mapW_part (f : Int → Int) : ∀ (p : List Nat) (g : Game), g.IsPath p → (g.mapW f).part p = (g.part p).mapW f
  | [], _, _ => rfl
  | i :: p, g, h => by
    obtain ⟨x, hx, hp⟩ := isPath_at h
    have hx' : (g.mapW f).ways[i]? = some (x.1, x.2.mapW f) := by rw [mapW_way, hx]; rfl
    rw [part_cons hx', part_cons hx]
    exact mapW_part f p x.2 hp
theorem mapW_ok {f : Int → Int} : ∀ {n : Nat} {g : Game}, g.Ok n → (∀ p, g.IsPath p → -20 ≤ f (g.part p).worth ∧ f (g.part p).worth ≤ 20) → (g.mapW f).Ok n
  | 0, _, h, _ => h.elim
  | n + 1, .node w ws, h, hw => by
    rw [mapW_eq]
    refine ⟨hw [] trivial, by rw [List.length_map]; exact h.2.1, fun p hp => ?_⟩
    obtain ⟨x, hx, rfl⟩ := List.mem_map.mp hp
    obtain ⟨i, hi⟩ := List.mem_iff_getElem?.mp hx
    refine ⟨(h.2.2 x hx).1, mapW_ok (h.2.2 x hx).2 fun q hq => ?_⟩
    have := hw (i :: q) ((isPath_cons (g := .node w ws) hi).mpr hq)
    rwa [part_cons (g := .node w ws) hi] at this
theorem exR_add (g : Game) (t : RT) (F F' : List Nat → Rat) : g.exR t (fun p => F p + F' p) = g.exR t F + g.exR t F' := by
  unfold exR
  generalize t.paths = l
  induction l with
  | nil => simp [qsum, Rat.add_zero]
  | cons p l ih => simp only [List.map_cons, qsum, ih]; grind
theorem exR_scale (g : Game) (t : RT) (c : Rat) (F : List Nat → Rat) : g.exR t (fun p => c * F p) = c * g.exR t F := by
  unfold exR
  generalize t.paths = l
  induction l with
  | nil => simp [qsum]
  | cons p l ih => simp only [List.map_cons, qsum, ih]; grind
theorem exR_const {n : Nat} {g : Game} {t : RT} (hg : g.Ok n) (ht : RuleOf g t) (c : Rat) : g.exR t (fun _ => c) = c := by
  have h1 := exR_scale g t c (fun _ => 1)
  have h2 : g.exR t (fun _ => 1) = 1 := exR_one hg ht
  simp only [Rat.mul_one] at h1
  rw [h1, h2, Rat.mul_one]
end Game
end Sm
namespace Kx
open PySem PySem.Spec L2 Sm
end Kx
namespace Kx
open PySem PySem.Spec L2 Sm
end Kx
namespace Sm
namespace Game
end Game
end Sm
namespace Kx
open PySem PySem.Spec L2 Sm
def hl (g : Game) (t : RT) : Rat := g.exR t fun p => ((p.length : Int) : Rat)
end Kx
namespace Sm
namespace Game
def metT : Nat → (List Nat → Bool) → Game → RT
  | 0, _, _ => .stop
  | n + 1, P, .node _ ws => if P [] || ws.isEmpty then .stop else .go ((ws.zipIdx 0).map fun x => metT n (fun q => P (x.2 :: q)) x.1.2)
theorem met_rules {n : Nat} {P : List Nat → Bool} : ∀ (ws : List (Int × Game)) (k : Nat), (∀ x ∈ ws, ∀ Q, RuleOf x.2 (metT n Q x.2)) → RulesOf ws ((ws.zipIdx k).map fun x => metT n (fun q => P (x.2 :: q)) x.1.2)
  | [], _, _ => .nil
  | x :: ws, k, h => by
    rw [List.zipIdx_cons, List.map_cons]
    exact .cons (h x (by simp) _) (met_rules ws (k + 1) fun y hy => h y (by simp [hy]))
theorem met_rule : ∀ {n : Nat} {g : Game} (P : List Nat → Bool), g.Ok n → RuleOf g (metT n P g)
  | 0, _, _, h => h.elim
  | n + 1, .node w ws, P, h => by
    unfold metT
    by_cases hc : (P [] || ws.isEmpty) = true
    · rw [if_pos hc]; exact .stop _
    · rw [if_neg hc]
      refine .go (fun e => hc (by rw [e]; simp)) (met_rules ws 0 fun x hx Q => met_rule Q (h.2.2 x hx).2)
theorem mem_met : ∀ {n : Nat} {g : Game} {P : List Nat → Bool} {p : List Nat}, g.Ok n → (p ∈ (metT n P g).paths ↔ g.IsPath p ∧ (P p = true ∨ (g.part p).ways = []) ∧ ∀ k, k < p.length → P (p.take k) = false)
  | 0, _, _, _, h => h.elim
  | n + 1, .node w ws, P, p, h => by
    unfold metT
    by_cases hc : (P [] || ws.isEmpty) = true
    · rw [if_pos hc, RT.paths_stop, List.mem_singleton]
      constructor
      · rintro rfl
        refine ⟨trivial, ?_, fun k hk => by simp at hk⟩
        rw [Bool.or_eq_true] at hc
        exact hc.imp id fun z => by show ws = []; simpa using z
      · rintro ⟨h1, h2, h3⟩
        cases p with
        | nil => rfl
        | cons i q =>
          exfalso
          have p0 := h3 0 (by simp)
          rw [List.take_zero] at p0
          obtain ⟨x, hx, _⟩ := isPath_at h1
          rw [p0, Bool.false_or] at hc
          have : ws = [] := by simpa using hc
          have hx : ws[i]? = some x := hx
          rw [this] at hx
          simp at hx
    · rw [if_neg hc, RT.mem_go]
      have hP : P [] = false := by
        cases q : P [] with
        | false => rfl
        | true => exact absurd (by rw [q]; rfl) hc
      have hw : ws ≠ [] := fun e => hc (by rw [e]; simp)
      have get : ∀ i r, (((ws.zipIdx 0).map fun x => metT n (fun q => P (x.2 :: q)) x.1.2)[i]? = some r) ↔ ∃ x, ws[i]? = some x ∧ r = metT n (fun q => P (i :: q)) x.2 := by
        intro i r
        rw [List.getElem?_map, List.getElem?_zipIdx]
        cases q : ws[i]? with
        | none => simp
        | some x =>
          simp only [Option.map_some, Option.some.injEq, Nat.zero_add]
          constructor
          · intro e; exact ⟨x, rfl, e.symm⟩
          · rintro ⟨y, e1, e2⟩; rw [e2, ← e1]
      constructor
      · rintro ⟨i, q, r, rfl, hr, hq⟩
        obtain ⟨x, hx, rfl⟩ := (get i r).mp hr
        have hx' : (Game.node w ws).ways[i]? = some x := hx
        obtain ⟨h1, h2, h3⟩ := (mem_met (h.2.2 x (List.mem_of_getElem? hx)).2).mp hq
        refine ⟨(isPath_cons hx').mpr h1, ?_, fun k hk => ?_⟩
        · rw [part_cons hx']; exact h2
        · cases k with
          | zero => rw [List.take_zero]; exact hP
          | succ k => rw [List.take_succ_cons]; exact h3 k (by simpa using hk)
      · rintro ⟨h1, h2, h3⟩
        cases p with
        | nil =>
          exfalso
          rcases h2 with z | z
          · rw [hP] at z; cases z
          · exact hw z
        | cons i q =>
          obtain ⟨x, hx, hq⟩ := isPath_at h1
          have hx' : ws[i]? = some x := hx
          rw [part_cons hx] at h2
          refine ⟨i, q, _, rfl, (get i _).mpr ⟨x, hx', rfl⟩, (mem_met (h.2.2 x (List.mem_of_getElem? hx')).2).mpr ⟨hq, h2, fun k hk => ?_⟩⟩
          have := h3 (k + 1) (by simpa using hk)
          rwa [List.take_succ_cons] at this
end Game
end Sm
namespace Kx
open PySem PySem.Spec L2 Sm
theorem bin_den {o : D → D → Option D} {f h : DE} {ρ : Sm.Env} {a b r : D} (hf : f ρ = .ok a) (hh : h ρ = .ok b) (ho : o a b = some r) : dBin o f h ρ = .ok r := by
  unfold dBin
  rw [hf, hh]
  show ofO (o a b) = _
  rw [ho]; rfl
def abT (l : Int) (g : Game) : RT := Game.metT 4 (fun p => decide (l ≤ (g.part p).worth)) g
theorem ab_rule {g : Game} (hg : g.Ok 4) (m : Int) : RuleOf g (abT m g) := Game.met_rule _ hg
end Kx
namespace Sm
namespace Game
end Game
end Sm
namespace Kx
open PySem PySem.Spec L2 Sm
end Kx
namespace Kx
open PySem PySem.Spec L2 Sm
end Kx
namespace Sm
namespace Game
theorem take_path {g : Game} {p : List Nat} (h : g.IsPath p) (k : Nat) : g.IsPath (p.take k) := isPath_pre (p.take k) (p.drop k) g (by rw [List.take_append_drop]; exact h)
end Game
end Sm
namespace Kx
open PySem PySem.Spec L2 Sm
end Kx
namespace Sm
namespace Game
end Game
end Sm
namespace Kx
open PySem PySem.Spec L2 Sm
end Kx
namespace Kx
open PySem PySem.Spec L2 Sm
end Kx
namespace Sm
namespace Game
end Game
end Sm
namespace Kx
open PySem PySem.Spec L2 Sm
end Kx
namespace Sm
namespace Game
end Game
end Sm
namespace Kx
open PySem PySem.Spec L2 Sm
end Kx
namespace Sm
namespace Game
def valB (b : Bool) (w a : Rat) : Rat := if b then (if w < a then a else w) else (if a < w then a else w)
def val (b : Bool) : Game → Rat
  | .node w ws => if ws = [] then (w : Rat) else valB b (w : Rat) (qsum (ws.map fun x => Rat.divInt x.1 ((ws.map (·.1)).sum) * val b x.2))
termination_by g => sizeOf g
decreasing_by exact lt_of_mem ‹_›
end Game
end Sm
namespace Sm
namespace Game
end Game
end Sm
namespace Kx
open PySem PySem.Spec L2 Sm
end Kx
namespace Kx
open PySem PySem.Spec L2 Sm
end Kx
namespace Kx
open PySem PySem.Spec L2 Sm
end Kx
namespace Kx
open PySem PySem.Spec L2 Sm
end Kx
namespace Sm
namespace Game
end Game
end Sm
namespace Sm
namespace RT
open Game
end RT
end Sm
namespace Kx
open PySem PySem.Spec L2 Sm
end Kx
namespace Kx
open PySem PySem.Spec L2 Sm
end Kx
namespace Sm
namespace RT
end RT
namespace Game
open RT
end Game
end Sm
namespace Kx
open PySem PySem.Spec L2 Sm
end Kx
namespace Sm
namespace Game
def Harm (f : List Nat → Rat) (g : Game) : Prop := ∀ p, g.IsPath p → (g.part p).ways ≠ [] → qsum (((g.part p).ways.zipIdx).map fun x => Rat.divInt x.1.1 (g.part p).total * f (p ++ [x.2])) = f p
theorem Harm.at {f : List Nat → Rat} {g : Game} (h : Harm f g) {i : Nat} {x : Int × Game} (hx : g.ways[i]? = some x) : Harm (fun p => f (i :: p)) x.2 := fun p hp hw => by
  have := h (i :: p) ((isPath_c p hx).mpr hp) (by rw [part_c p hx]; exact hw)
  rw [part_c p hx] at this
  exact this
mutual
theorem harm_exR : ∀ {g : Game} {t : RT} (f : List Nat → Rat), RuleOf g t → Harm f g → exR g t f = f []
  | g, _, f, .stop _, _ => exR_stop g f
  | .node w ws, _, f, .go hne hr, h => by
    rw [exR_go f hr]
    have := h [] trivial hne
    rw [show (Game.node w ws).part [] = .node w ws from rfl] at this
    exact (harm_exRs f (g := .node w ws) 0 hr (fun i x hx => by rw [Nat.zero_add]; exact hx) h).trans this
theorem harm_exRs : ∀ {ws : List (Int × Game)} {rs : List RT} (f : List Nat → Rat) {g : Game} (k : Nat), RulesOf ws rs → (∀ (i : Nat) x, ws[i]? = some x → g.ways[k + i]? = some x) → Harm f g → exRs g.total k ws rs f = qsum ((ws.zipIdx k).map fun x => Rat.divInt x.1.1 g.total * f ([] ++ [x.2]))
  | _, _, f, g, k, .nil, _, _ => rfl
  | x :: ws, r :: rs, f, g, k, .cons hx hr, hw, h => by
    have h0 : g.ways[k]? = some x := hw 0 x rfl
    rw [exRs, List.zipIdx_cons, List.map_cons, qsum, harm_exR _ hx (h.at h0), harm_exRs f (k + 1) hr (fun i y hy => by rw [show k + 1 + i = k + (i + 1) by omega]; exact hw (i + 1) y hy) h]
    rfl
end
def drS (g : Game) (p : List Nat) (k : Nat) : Rat := qsum ((List.range k).map fun j => (g.part (p.take j)).gain)
def dr (g : Game) (p : List Nat) : Rat := drS g p p.length
def fp (g : Game) (p : List Nat) : Rat := g.wq p - dr g p
end Game
end Sm
namespace Kx
open PySem PySem.Spec L2 Sm
end Kx
namespace Sm
namespace Game
theorem ends_at {T : Int} {f : List Nat → Rat} {h : Nat → Rat} : ∀ (ws : List (Int × Game)) (k : Nat), (∀ (i : Nat) x, ws[i]? = some x → h (k + i) = exR x.2 x.2.endT (fun e => f ((k + i) :: e))) → exRs T k ws (ws.map fun p => p.2.endT) f = qsum ((ws.zipIdx k).map fun x => Rat.divInt x.1.1 T * h x.2)
  | [], _, _ => rfl
  | x :: ws, k, hh => by
    have h0 := hh 0 x rfl
    rw [Nat.add_zero] at h0
    rw [List.map_cons, exRs, List.zipIdx_cons, List.map_cons, qsum, h0, ends_at ws (k + 1) fun i y hy => by
      have := hh (i + 1) y (by simpa using hy)
      rwa [show k + (i + 1) = k + 1 + i by omega] at this]
def onE (g : Game) (F : List Nat → Rat) (p : List Nat) : Rat := exR (g.part p) (g.part p).endT fun e => F (p ++ e)
theorem onE_harm (g : Game) (F : List Nat → Rat) : Harm (onE g F) g := fun p hp hw => by
  have key : ∀ (s : Game), g.part p = s → s.ways ≠ [] → qsum ((s.ways.zipIdx).map fun x => Rat.divInt x.1.1 s.total * onE g F (p ++ [x.2])) = exR s s.endT fun e => F (p ++ e) := fun s hs hsw => by
    cases s with
    | node w ws =>
      have hr : RulesOf ws (ws.map fun p => p.2.endT) := rules_map fun p _ => endT_rule p.2
      have et : (Game.node w ws).endT = .go (ws.map fun p => p.2.endT) := by
        cases ws with
        | nil => exact absurd rfl hsw
        | cons x xs => rw [endT]; simp
      rw [et, exR_go _ hr]
      refine (ends_at (T := (Game.node w ws).total) (f := fun e => F (p ++ e)) (h := fun i => onE g F (p ++ [i])) ws 0 fun i x hx => ?_).symm
      rw [Nat.zero_add]
      show onE g F (p ++ [i]) = _
      unfold onE
      have : g.part (p ++ [i]) = x.2 := by rw [part_append _ _ _ hp, hs]; simp [part, Game.ways, hx]
      rw [this]
      congr 1
      funext e
      rw [List.append_assoc]
      rfl
  exact key _ rfl hw
theorem onE_rule {g : Game} {t : RT} (ht : RuleOf g t) (F : List Nat → Rat) : exR g t (onE g F) = exR g g.endT F := by
  rw [harm_exR _ ht (onE_harm g F)]
  rfl
end Game
end Sm
namespace Kx
open PySem PySem.Spec L2 Sm
def ind (b : Bool) : Rat := if b then 1 else 0
theorem chR_ex {g : Game} (l : Int) : chR g l = g.exR g.endT fun e => ind (decide (l ≤ mx g e)) := by
  unfold chR Game.exR
  rw [Game.qsum_filter]
  congr 1
  refine List.map_congr_left fun p _ => ?_
  show (if decide (l ≤ mx g p) = true then g.chance p else 0) = g.chance p * ind (decide (l ≤ mx g p))
  cases decide (l ≤ mx g p) <;> simp [ind, Rat.mul_one, Rat.mul_zero]
theorem mx_ge {g : Game} (hg : g.Ok 4) {p : List Nat} (hp : g.IsPath p) (l : Int) : l ≤ mx g p ↔ ∃ k, k ≤ p.length ∧ l ≤ (g.part (p.take k)).worth := by
  obtain ⟨_, ⟨k, hk, e⟩, h⟩ := mx_ok hg hp
  constructor
  · intro hl
    exact ⟨k, hk, by rw [← e]; exact hl⟩
  · rintro ⟨k, hk, hl⟩
    exact Int.le_trans hl (h k hk)
def rcR (g : Game) (l : Int) : Rat := g.exR (abT l g) fun p => ind (decide (l ≤ (g.part p).worth))
theorem reach_ab {g : Game} (hg : g.Ok 4) (l : Int) : rcR g l = chR g l := by
  rw [chR_ex, ← Game.onE_rule (ab_rule hg l)]
  unfold rcR
  refine Game.exR_congr fun p hp => ?_
  have hp' := (Game.mem_met hg).mp hp
  obtain ⟨ip, h1, h2⟩ := hp'
  unfold Game.onE
  by_cases hl : l ≤ (g.part p).worth
  · have e1 : ∀ e ∈ (g.part p).endT.paths, ind (decide (l ≤ mx g (p ++ e))) = 1 := fun e he => by
      have ie : g.IsPath (p ++ e) := (Game.isPath_append _ _ _ ip).mpr (Game.mem_ends.mp he).1
      have : l ≤ mx g (p ++ e) := (mx_ge hg ie l).mpr ⟨p.length, by simp, by simpa using hl⟩
      rw [decide_eq_true this]; rfl
    rw [Game.exR_congr (f' := fun _ => 1) e1, Game.exR_one ((Game.part_ok hg ip).1) (Game.endT_rule _), decide_eq_true hl]
    rfl
  · have hw : (g.part p).ways = [] := by
      rcases h1 with h1 | h1
      · exact absurd (by simpa using h1) hl
      · exact h1
    have et : (g.part p).endT = .stop := by
      cases hs : g.part p with
      | node w ws => rw [hs] at hw; simp only [Game.ways] at hw; subst hw; rw [Game.endT]; simp
    rw [et, Game.exR_stop, List.append_nil, decide_eq_false hl]
    have : ¬ l ≤ mx g p := fun z => by
      obtain ⟨k, hk, hk2⟩ := (mx_ge hg ip l).mp z
      rcases Nat.lt_or_ge k p.length with h | h
      · have := h2 k h
        simp at this
        omega
      · rw [show k = p.length from by omega, List.take_length] at hk2
        exact hl hk2
    show ind false = ind (decide (l ≤ mx g p))
    rw [decide_eq_false this]
end Kx
namespace Kx
open PySem PySem.Spec L2 Sm
theorem exR_le {n : Nat} {g : Game} {t : RT} (hg : g.Ok n) (ht : RuleOf g t) {f f' : List Nat → Rat} (h : ∀ p ∈ t.paths, f p ≤ f' p) : g.exR t f ≤ g.exR t f' := by
  unfold Game.exR
  refine Game.qsum_le fun p hp => ?_
  have hc := Game.chance_pos hg (Game.rule_path ht hp)
  exact Rat.mul_le_mul_of_nonneg_left (h p hp) (Rat.le_of_lt hc)
theorem level_le {g : Game} (hg : g.Ok 4) (l : Int) (hf : Game.Gains (· = 0) g) (hn : ∀ p, g.IsPath p → 0 ≤ (g.part p).worth) : (l : Rat) * rcR g l ≤ (g.worth : Rat) := by
  have ht := ab_rule hg l
  have hm : g.exR (abT l g) (wAt g) = (g.worth : Rat) := Game.fair_mean hg hf ht
  rw [← hm]
  unfold rcR
  rw [← Game.exR_scale]
  refine exR_le hg ht fun p hp => ?_
  have ip := Game.rule_path ht hp
  have h0 := hn p ip
  unfold wAt
  by_cases h : l ≤ (g.part p).worth
  · rw [decide_eq_true h]
    simp only [ind, if_true, Rat.mul_one]
    exact_mod_cast h
  · rw [decide_eq_false h]
    simp only [ind, Bool.false_eq_true, if_false, Rat.mul_zero]
    exact_mod_cast h0
end Kx
namespace Sm
namespace Game
def sst : Game → List Nat → Int
  | _, [] => 0
  | g, i :: p => match g.ways[i]? with
    | some x => (x.2.worth - g.worth) * (x.2.worth - g.worth) + sst x.2 p
    | none => 0
theorem sst_c {g : Game} {i : Nat} {x : Int × Game} (p : List Nat) (h : g.ways[i]? = some x) : g.sst (i :: p) = (x.2.worth - g.worth) * (x.2.worth - g.worth) + x.2.sst p := by
  rw [sst, h]
theorem sst_ex : ∀ {n : Nat} {g : Game}, g.Ok n → g.exR g.endT (fun p => ((g.sst p : Int) : Rat)) = g.allSq
  | 0, _, h => h.elim
  | n + 1, .node w ws, h => by
    rw [allSq_node]
    by_cases hw : ws = []
    · subst hw
      rw [endT_end, exR_stop]
      simp only [sqs, ways, List.map_nil, qsum, sst]
      grind
    · have hr := endT_rule (Game.node w ws)
      rw [endT_go hw] at hr ⊢
      cases hr with
      | go _ hr =>
        rw [exR_go _ hr, exRs_f (g := .node w ws) (f := fun s p => (((s.worth - w) * (s.worth - w) : Int) : Rat) + ((s.sst p : Int) : Rat)) (fun i x p hx => by rw [sst_c p hx, Rat.intCast_add]; rfl) 0 (fun i x hx => by rw [Nat.zero_add]; exact hx), sumW_mapF]
        have e1 : qsum (ws.map fun x => Rat.divInt x.1 (Game.node w ws).total * exR x.2 x.2.endT (fun p => (((x.2.worth - w) * (x.2.worth - w) : Int) : Rat) + ((x.2.sst p : Int) : Rat))) = qsum (ws.map fun x => Rat.divInt x.1 (Game.node w ws).total * ((((x.2.worth - w) * (x.2.worth - w) : Int) : Rat) + x.2.allSq)) :=
          qsum_congr fun x hx => by
            have hx' := (h.2.2 x hx).2
            rw [exR_add, exR_const hx' (endT_rule x.2), sst_ex hx']
        rw [e1]
        show _ = qsum (ws.map fun x => Rat.divInt x.1 (Game.node w ws).total * ((x.2.worth - w : Int) : Rat) * ((x.2.worth - w : Int) : Rat)) + _
        generalize (Game.node w ws).total = T
        have key : ∀ l : List (Int × Game), qsum (l.map fun x => Rat.divInt x.1 T * ((((x.2.worth - w) * (x.2.worth - w) : Int) : Rat) + x.2.allSq)) = qsum (l.map fun x => Rat.divInt x.1 T * ((x.2.worth - w : Int) : Rat) * ((x.2.worth - w : Int) : Rat)) + qsum (l.map fun x => Rat.divInt x.1 T * x.2.allSq) := by
          intro l
          induction l with
          | nil => simp [qsum]; grind
          | cons x l ih =>
            simp only [List.map_cons, qsum]
            rw [ih, Rat.intCast_mul]
            grind
        exact key ws
def wl : Game → List Nat → List Int
  | g, [] => [g.worth]
  | g, i :: p => match g.ways[i]? with
    | some x => g.worth :: wl x.2 p
    | none => []
def stq : List Int → List Int
  | a :: b :: l => (b - a) * (b - a) :: stq (b :: l)
  | _ => []
theorem wl_hd : ∀ (p : List Nat) (g : Game), g.IsPath p → ∃ l, wl g p = g.worth :: l
  | [], g, _ => ⟨[], rfl⟩
  | i :: p, g, h => by
    cases e : g.ways[i]? with
    | none => simp only [IsPath, e] at h
    | some x => exact ⟨wl x.2 p, by rw [wl, e]⟩
theorem wl_stp : ∀ (p : List Nat) (g : Game), g.IsPath p → (stq (wl g p)).sum = g.sst p
  | [], g, _ => rfl
  | i :: p, g, h => by
    cases e : g.ways[i]? with
    | none => simp only [IsPath, e] at h
    | some x =>
      have hx := (isPath_c p e).mp h
      obtain ⟨l, hl⟩ := wl_hd p x.2 hx
      have ih := wl_stp p x.2 hx
      rw [wl, e, sst_c p e, ← ih]
      simp only [hl, stq, List.sum_cons]
theorem wl_eq : ∀ (p : List Nat) (g : Game), g.IsPath p → wl g p = (List.range (p.length + 1)).map fun k => (g.part (p.take k)).worth
  | [], g, _ => rfl
  | i :: p, g, h => by
    cases e : g.ways[i]? with
    | none => simp only [IsPath, e] at h
    | some x =>
      have ih := wl_eq p x.2 ((isPath_c p e).mp h)
      rw [wl, e]
      simp only
      rw [ih, List.length_cons, List.range_succ_eq_map (n := p.length + 1), List.map_cons, List.map_map]
      refine congr (congrArg _ rfl) (List.map_congr_left fun k _ => ?_)
      simp only [Function.comp_apply, List.take_succ_cons, part_c _ e]
end Game
end Sm
namespace Kx
open PySem PySem.Spec L2 Sm
theorem mx_len {g : Game} (hg : g.Ok 4) {p : List Nat} (hp : g.IsPath p) : -20 ≤ mx g p ∧ mx g p ≤ 20 := by
  obtain ⟨_, ⟨k, hk, e⟩, h⟩ := mx_ok hg hp
  have := worth_bd (Game.part_ok hg (most_pre hp k)).1
  omega
theorem tup2_den {f h : DE} {ρ : Sm.Env} {a b : D} (hf : f ρ = .ok a) (hh : h ρ = .ok b) : dTup (dCons f (dCons h dNil)) ρ = .ok (.tup [a, b]) := by
  simp only [hf, hh, defD, args, dSeq, dSet, dSetP, dSetN, lstAt, dApp, dAppP, dAsg, dPar, dDrop, dWhile, dIfS, dRet, dB, dCall, dCons, dNil, dVar, dC, dBin, dChain, asB, dTru, dNotT, dAndT, dOrT, dAnd, dOr, dNot, dIf, dUn, dTup, dLst, dItems, dYes, R.bind, R.to, O.seq, outR, ofO, noErr, mask, Sm.putIn, bindPat, bindPats, itemsOf, tru, List.foldr_cons, List.foldr_nil, List.length_cons, List.length_nil, List.map_cons, List.map_nil, List.cons_append, List.nil_append, Nat.sub_self, List.replicate_zero, List.replicate_succ, List.getElem?_cons_succ, List.getElem?_cons_zero, List.set_cons_zero, List.set_cons_succ, Nat.reduceAdd, Nat.reduceSub, ↓reduceIte, Bool.not_true, Bool.not_false, Bool.and_true, Bool.true_and, Bool.false_and, Bool.and_false, if_true, if_false, Bool.false_eq_true, oNeg, oAddI, oSubI, oAdd_ii, oLt, oLe, oGt, oGe, Option.bind_some, Option.map_some]
noncomputable def mMx (g : Game) : Rat := g.exR g.endT fun p => ((mx g p : Int) : Rat)
theorem mean_of_most_ok {g : Game} (hg : g.Ok 4) : d_mean_of_most [g.enc] = .ok (encQ (mMx g)) := by
  have ht := Game.endT_rule g
  have eo := ends_ok' hg (by decide)
  have hf := rule_few hg (by decide) ht
  have hpt : ∀ p ∈ g.endT.paths, g.IsPath p := fun p hp => Game.rule_path ht hp
  have hs : ∀ p ∈ g.endT.paths, Sz 11 ((mx g p : Int) : Rat) := fun p hp => by
    have w := mx_len hg (hpt p hp)
    exact Sz.int (Nat.lt_of_le_of_lt (show _ ≤ 20 by omega) (by decide)) (by decide)
  have lc : dLcs [1] (.v 1) (dItems (dCall d_ends_of (dCons (dVar 0) dNil))) dYes (dCall d_times (dCons (dCall d_chance_of (dCons (dVar 0) (dCons (dVar 1) dNil))) (dCons (dTup (dCons (dCall d_most_along (dCons (dVar 0) (dCons (dVar 1) dNil))) (dCons (dC (.int 1)) dNil))) dNil))) [some g.enc, none] = .ok ((g.endT.paths.map fun p => g.chance p * ((mx g p : Int) : Rat)).map encQ) := by
    rw [List.map_map]
    refine lc_ok1 (enc := encP) _ (by simp only [eo, defD, args, dSeq, dSet, dSetP, dSetN, lstAt, dApp, dAppP, dAsg, dPar, dDrop, dWhile, dIfS, dRet, dB, dCall, dCons, dNil, dVar, dC, dBin, dChain, asB, dTru, dNotT, dAndT, dOrT, dAnd, dOr, dNot, dIf, dUn, dTup, dLst, dItems, dYes, R.bind, R.to, O.seq, outR, ofO, noErr, mask, Sm.putIn, bindPat, bindPats, itemsOf, tru, List.foldr_cons, List.foldr_nil, List.length_cons, List.length_nil, List.map_cons, List.map_nil, List.cons_append, List.nil_append, Nat.sub_self, List.replicate_zero, List.replicate_succ, List.getElem?_cons_succ, List.getElem?_cons_zero, List.set_cons_zero, List.set_cons_succ, Nat.reduceAdd, Nat.reduceSub, ↓reduceIte, Bool.not_true, Bool.not_false, Bool.and_true, Bool.true_and, Bool.false_and, Bool.and_false, if_true, if_false, Bool.false_eq_true, oNeg, oAddI, oSubI, oAdd_ii, oLt, oLe, oGt, oGe, Option.bind_some, Option.map_some]) fun p hp => ⟨_, rfl, ?_⟩
    have tm := times_ok (chance_sz4 hg (by decide) (hpt p hp)) (hs p hp) (by decide)
    rw [← enc_int1] at tm
    exact call2_den (call2_den rfl rfl (chance_of_ok hg (by decide) (hpt p hp))) (tup2_den (call2_den rfl rfl (mx_ok hg (hpt p hp)).1) rfl) tm
  have ap := all_plus_ok (qs := g.endT.paths.map fun p => g.chance p * ((mx g p : Int) : Rat)) (n := 27) (by
    intro q hq
    obtain ⟨p, hp, rfl⟩ := List.mem_map.mp hq
    exact (chance_sz4 hg (by decide) (hpt p hp)).mul (hs p hp)) (by rw [List.length_map]; omega)
  refine defD_eq rfl ?_
  unfold b_mean_of_most
  apply out_seq; (focus (simp only [look_ok hg, defD, args, dSeq, dSet, dSetP, dSetN, lstAt, dApp, dAppP, dAsg, dPar, dDrop, dWhile, dIfS, dRet, dB, dCall, dCons, dNil, dVar, dC, dBin, dChain, asB, dTru, dNotT, dAndT, dOrT, dAnd, dOr, dNot, dIf, dUn, dTup, dLst, dItems, dYes, R.bind, R.to, O.seq, outR, ofO, noErr, mask, Sm.putIn, bindPat, bindPats, itemsOf, tru, List.foldr_cons, List.foldr_nil, List.length_cons, List.length_nil, List.map_cons, List.map_nil, List.cons_append, List.nil_append, Nat.sub_self, List.replicate_zero, List.replicate_succ, List.getElem?_cons_succ, List.getElem?_cons_zero, List.set_cons_zero, List.set_cons_succ, Nat.reduceAdd, Nat.reduceSub, ↓reduceIte, Bool.not_true, Bool.not_false, Bool.and_true, Bool.true_and, Bool.false_and, Bool.and_false, if_true, if_false, Bool.false_eq_true, oNeg, oAddI, oSubI, oAdd_ii, oLt, oLe, oGt, oGe, Option.bind_some, Option.map_some]; try exact rfl))
  refine ret_of ?_
  unfold mMx Game.exR
  exact call1_den (dLc_of lc) ap
theorem ind_le {a b : Bool} (h : a = true → b = true) : ind a ≤ ind b := by
  cases a <;> cases b <;> simp_all [ind] <;> decide
theorem chR_mono {g : Game} (hg : g.Ok 4) {l m : Int} (h : l ≤ m) : chR g m ≤ chR g l := by
  rw [chR_ex, chR_ex]
  refine exR_le hg (Game.endT_rule g) fun p _ => ind_le fun z => ?_
  have := of_decide_eq_true z
  exact decide_eq_true (by omega)
theorem chR_one {g : Game} (hg : g.Ok 4) : chR g g.worth = 1 := by
  rw [chR_ex]
  rw [Game.exR_congr (f' := fun _ => 1) fun p hp => ?_]
  · exact Game.exR_const hg (Game.endT_rule g) 1
  · have hp := Game.rule_path (Game.endT_rule g) hp
    have h := (mx_ok hg hp).2.2 0 (Nat.zero_le _)
    rw [decide_eq_true (show g.worth ≤ mx g p from h)]
    rfl
theorem mapW_gain (k : Int) (g : Game) : (g.mapW (· + k)).gain = g.gain := by
  unfold Game.gain
  rw [Game.mapW_ways, List.map_map]
  congr 1
  refine List.map_congr_left fun x _ => ?_
  simp only [Function.comp_apply, Game.shr, Game.mapW_total, Game.mapW_worth]
  rw [show x.2.worth + k - (g.worth + k) = x.2.worth - g.worth by omega]
theorem mapW_gains {P : Rat → Prop} (k : Int) {g : Game} (h : Game.Gains P g) : Game.Gains P (g.mapW (· + k)) := by
  rw [Game.gains_iff] at h ⊢
  intro p hp hw
  have hp' := (Game.mapW_isPath _ p g).mp hp
  rw [Game.mapW_part _ p g hp'] at hw ⊢
  rw [mapW_gain]
  refine h p hp' fun z => hw ?_
  rw [Game.mapW_ways, z]
  rfl
theorem llifted_ok (k : Int) : ∀ (n d : Nat) (g : Game), d ≤ n → g.Ok d → d__law_lifted n [g.enc, .int k] = .ok (g.mapW (· + k)).enc
  | 0, d, g, h, hg => by
    cases d with
    | zero => exact hg.elim
    | succ d => omega
  | n + 1, 0, _, _, hg => hg.elim
  | n + 1, d + 1, .node w ws, hn, hg => by
    rw [Game.mapW_eq]
    cases ws with
    | nil =>
      rw [enc_end, List.map_nil, enc_end]
      simp only [d__law_lifted, b__law_lifted, oLen, oEq_int, oIx_t0, defD, args, dSeq, dSet, dSetP, dSetN, lstAt, dApp, dAppP, dAsg, dPar, dDrop, dWhile, dIfS, dRet, dB, dCall, dCons, dNil, dVar, dC, dBin, dChain, asB, dTru, dNotT, dAndT, dOrT, dAnd, dOr, dNot, dIf, dUn, dTup, dLst, dItems, dYes, R.bind, R.to, O.seq, outR, ofO, noErr, mask, Sm.putIn, bindPat, bindPats, itemsOf, tru, List.foldr_cons, List.foldr_nil, List.length_cons, List.length_nil, List.map_cons, List.map_nil, List.cons_append, List.nil_append, Nat.sub_self, List.replicate_zero, List.replicate_succ, List.getElem?_cons_succ, List.getElem?_cons_zero, List.set_cons_zero, List.set_cons_succ, Nat.reduceAdd, Nat.reduceSub, ↓reduceIte, Bool.not_true, Bool.not_false, Bool.and_true, Bool.true_and, Bool.false_and, Bool.and_false, if_true, if_false, Bool.false_eq_true, oNeg, oAddI, oSubI, oAdd_ii, oLt, oLe, oGt, oGe, Option.bind_some, Option.map_some]
      rfl
    | cons x ws =>
      have lc : dLcs [2, 3] (.t [(.v 2), (.v 3)]) (dItems (dBin oIx (dVar 0) (dC (.int 1)))) dYes (dTup (dCons (dVar 2) (dCons (dCall (d__law_lifted n) (dCons (dVar 3) (dCons (dVar 1) dNil))) dNil))) [some (Game.node w (x :: ws)).enc, some (.int k), none, none] = .ok ((x :: ws).map fun p => D.tup [.int p.1, (p.2.mapW (· + k)).enc]) := by
        refine lc_ok1 (xs := x :: ws) (enc := fun p => D.tup [.int p.1, p.2.enc]) _ (by rw [enc_go]; simp only [oIx_t1, defD, args, dSeq, dSet, dSetP, dSetN, lstAt, dApp, dAppP, dAsg, dPar, dDrop, dWhile, dIfS, dRet, dB, dCall, dCons, dNil, dVar, dC, dBin, dChain, asB, dTru, dNotT, dAndT, dOrT, dAnd, dOr, dNot, dIf, dUn, dTup, dLst, dItems, dYes, R.bind, R.to, O.seq, outR, ofO, noErr, mask, Sm.putIn, bindPat, bindPats, itemsOf, tru, List.foldr_cons, List.foldr_nil, List.length_cons, List.length_nil, List.map_cons, List.map_nil, List.cons_append, List.nil_append, Nat.sub_self, List.replicate_zero, List.replicate_succ, List.getElem?_cons_succ, List.getElem?_cons_zero, List.set_cons_zero, List.set_cons_succ, Nat.reduceAdd, Nat.reduceSub, ↓reduceIte, Bool.not_true, Bool.not_false, Bool.and_true, Bool.true_and, Bool.false_and, Bool.and_false, if_true, if_false, Bool.false_eq_true, oNeg, oAddI, oSubI, oAdd_ii, oLt, oLe, oGt, oGe, Option.bind_some, Option.map_some]) fun p hp => ⟨_, rfl, ?_⟩
        have := llifted_ok k n d p.2 (by omega) (hg.2.2 p hp).2
        simp only [this, defD, args, dSeq, dSet, dSetP, dSetN, lstAt, dApp, dAppP, dAsg, dPar, dDrop, dWhile, dIfS, dRet, dB, dCall, dCons, dNil, dVar, dC, dBin, dChain, asB, dTru, dNotT, dAndT, dOrT, dAnd, dOr, dNot, dIf, dUn, dTup, dLst, dItems, dYes, R.bind, R.to, O.seq, outR, ofO, noErr, mask, Sm.putIn, bindPat, bindPats, itemsOf, tru, List.foldr_cons, List.foldr_nil, List.length_cons, List.length_nil, List.map_cons, List.map_nil, List.cons_append, List.nil_append, Nat.sub_self, List.replicate_zero, List.replicate_succ, List.getElem?_cons_succ, List.getElem?_cons_zero, List.set_cons_zero, List.set_cons_succ, Nat.reduceAdd, Nat.reduceSub, ↓reduceIte, Bool.not_true, Bool.not_false, Bool.and_true, Bool.true_and, Bool.false_and, Bool.and_false, if_true, if_false, Bool.false_eq_true, oNeg, oAddI, oSubI, oAdd_ii, oLt, oLe, oGt, oGe, Option.bind_some, Option.map_some]
      have e2 : (Game.node (w + k) ((x :: ws).map fun p => (p.1, p.2.mapW (· + k)))).enc = .tup [.int (w + k), .tup ((x :: ws).map fun p => D.tup [.int p.1, (p.2.mapW (· + k)).enc])] := by
        rw [List.map_cons, enc_go, ← List.map_cons (f := fun p : Int × Game => (p.1, p.2.mapW (· + k))), List.map_map]; rfl
      have ol : oLen [(Game.node w (x :: ws)).enc] = some (.int 2) := by rw [enc_go]; rfl
      have i0 := ix0_ok (.node w (x :: ws))
      have ot : oTuple [.lst ((x :: ws).map fun p => D.tup [.int p.1, (p.2.mapW (· + k)).enc])] = some (.tup ((x :: ws).map fun p => D.tup [.int p.1, (p.2.mapW (· + k)).enc])) := rfl
      rw [e2]
      generalize ((x :: ws).map fun p => D.tup [.int p.1, (p.2.mapW (· + k)).enc]) = L at *
      have e3 : ((2 : Int) == 1) = false := rfl
      simp only [d__law_lifted, b__law_lifted, ol, oEq_int, e3, i0, Game.worth, dLc, lc, ot, defD, args, dSeq, dSet, dSetP, dSetN, lstAt, dApp, dAppP, dAsg, dPar, dDrop, dWhile, dIfS, dRet, dB, dCall, dCons, dNil, dVar, dC, dBin, dChain, asB, dTru, dNotT, dAndT, dOrT, dAnd, dOr, dNot, dIf, dUn, dTup, dLst, dItems, dYes, R.bind, R.to, O.seq, outR, ofO, noErr, mask, Sm.putIn, bindPat, bindPats, itemsOf, tru, List.foldr_cons, List.foldr_nil, List.length_cons, List.length_nil, List.map_cons, List.map_nil, List.cons_append, List.nil_append, Nat.sub_self, List.replicate_zero, List.replicate_succ, List.getElem?_cons_succ, List.getElem?_cons_zero, List.set_cons_zero, List.set_cons_succ, Nat.reduceAdd, Nat.reduceSub, ↓reduceIte, Bool.not_true, Bool.not_false, Bool.and_true, Bool.true_and, Bool.false_and, Bool.and_false, if_true, if_false, Bool.false_eq_true, oNeg, oAddI, oSubI, oAdd_ii, oLt, oLe, oGt, oGe, Option.bind_some, Option.map_some]
end Kx
namespace Sm
namespace Game
def stA (g : Game) (F : List Nat → Int) (e : List Nat) (j : Nat) : Int := F (e.take j) * ((g.part (e.take (j + 1))).worth - (g.part (e.take j)).worth)
def gS (g : Game) (F : List Nat → Int) (e : List Nat) (k : Nat) : Int := ((List.range k).map (stA g F e)).sum
def gA (g : Game) (F : List Nat → Int) (e : List Nat) : Int := gS g F e e.length
end Game
end Sm
namespace Kx
open PySem PySem.Spec L2 Sm
end Kx
namespace Kx
open PySem PySem.Spec L2 Sm
end Kx
namespace Kx
open PySem PySem.Spec L2 Sm
def wD (g : Game) : D := .dct (g.paths.map fun p => (encP p, D.int (g.part p).worth))
end Kx
namespace Kx
open PySem PySem.Spec L2 Sm
theorem b1_ok {o : List D → Option D} {f : DE} {ρ : Sm.Env} {d r : D} (h : f ρ = .ok d) (ho : o [d] = some r) : dB o (dCons f dNil) ρ = .ok r := by
  unfold dB dCons dNil
  rw [h]
  simp only [R.bind, ho, ofO]
end Kx
namespace Kx
open PySem PySem.Spec L2 Sm
end Kx
namespace Kx
open PySem PySem.Spec L2 Sm
theorem oSum_i (l : List Int) : oSum [.lst (l.map .int)] = some (.int l.sum) := by
  have := ints_map (fun x : Int => x) l
  rw [List.map_id'] at this
  simp only [oSum, this, Option.map_some]
end Kx
namespace Sm
section
variable {f h : DSeB} {ρ ρ1 ρ2 : Env} {ps ps1 ps2 : PLB} {o : OEB} {own : List Nat}
theorem seqB_nx (h1 : f ρ ps = .nx ρ1 ps1) (h2 : h ρ1 ps1 = o) : eSeqB f h ρ ps = o := by
  unfold eSeqB; rw [h1]; exact h2
theorem pureB_nx {f : DS} (h : f ρ = .nx ρ1) : sPB f ρ ps = .nx ρ1 ps := by
  unfold sPB; rw [h]; rfl
theorem pushB_nx {fo fe : DE} {k : Nat} {ds : List D} {d : D} (h1 : fo (mask own ρ) = .ok (.obj k)) (h2 : ps[k]? = some (.lst ds)) (h3 : fe (mask own ρ) = .ok d) (h4 : ds.length + 1 ≤ PySem.sizeLine) : ePushB own fo (ePB fe) ρ ps = .nx ρ (ps.set k (.lst (ds ++ [d]))) := by
  unfold ePushB ePB
  rw [h1, h3]
  show (if isLB k ps then pshB k d ρ ps else .bad) = _
  unfold isLB pshB
  rw [h2]
  simp only [if_true]
  rw [if_pos h4]
theorem forB_step {pt : Pat} {d : D} {ds : List D} (h1 : bindPat pt d ρ = some ρ1) (h2 : f ρ1 ps = .nx ρ2 ps2) (h3 : forGoEB pt f ds ρ2 ps2 = o) : forGoEB pt f (d :: ds) ρ ps = o := by
  unfold forGoEB
  rw [h1]
  simp only [h2, OEB.seq]
  exact h3
theorem ifB_t {t : DT} (h1 : t (mask own ρ) = .ok true) (h2 : f ρ ps = o) : eIfSB own (eTB t) f h ρ ps = o := by
  unfold eIfSB eTB; rw [h1]; exact h2
theorem ifB_f {t : DT} (h1 : t (mask own ρ) = .ok false) (h2 : h ρ ps = o) : eIfSB own (eTB t) f h ρ ps = o := by
  unfold eIfSB eTB; rw [h1]; exact h2
end
namespace Game
def zp : List Int → List (Int × Int)
  | a :: b :: l => (a, b) :: zp (b :: l)
  | _ => []
theorem zp_stp : ∀ L : List Int, stq L = (zp L).map fun x => (x.2 - x.1) * (x.2 - x.1)
  | [] => rfl
  | [_] => rfl
  | a :: b :: l => by rw [stq, zp, List.map_cons, zp_stp (b :: l)]
theorem zp_mem : ∀ (L : List Int) (x : Int × Int), x ∈ zp L → x.1 ∈ L ∧ x.2 ∈ L
  | [], _, h => by cases h
  | [_], _, h => by cases h
  | a :: b :: l, x, h => by
    rw [zp] at h
    rcases List.mem_cons.mp h with h | h
    · subst h; simp
    · have := zp_mem (b :: l) x h
      exact ⟨List.mem_cons_of_mem _ this.1, List.mem_cons_of_mem _ this.2⟩
theorem zp_zip : ∀ L : List Int, zipL (L.map D.int) ((L.map D.int).drop 1) = (zp L).map fun x => D.tup [.int x.1, .int x.2]
  | [] => rfl
  | [_] => rfl
  | a :: b :: l => by
    have := zp_zip (b :: l)
    simp only [List.map_cons, List.drop_succ_cons, List.drop_zero] at this ⊢
    rw [zipL, this, zp, List.map_cons]
end Game
end Sm
namespace Kx
open PySem PySem.Spec L2 Sm
def nbT : DSeB := (eSeqB (sPB (dSetN [] 15 (dLcs [19] (.v 19) (dRng rng1 (dCons (dBin oAdd (dB oLen (dCons (dVar 6) dNil)) (dC (.int 1))) dNil)) dYes (dBin oIx (dVar 3) (dSl (dVar 6) dNo (dSo (dVar 19)))))))
    (eSeqB (sPB (dSetN [] 13 (dLcs [20, 21] (.t [(.v 20), (.v 21)]) (dRng zipD (dCons (dVar 15) (dCons (dSl (dVar 15) (dSo (dC (.int 1))) dNo) dNil))) dYes (dBin oMul (dBin oSubI (dVar 21) (dVar 20)) (dBin oSubI (dVar 21) (dVar 20))))))
    (eSeqB (ePushB [13] (dBin oIx (dVar 5) (dC (.int 0))) (ePB (dCall d__law_prod (dCons (dVar 8) (dCons (dTup (dCons (dB oMax (dCons (dVar 15) dNil)) (dCons (dC (.int 1)) dNil))) dNil)))))
    (eSeqB (ePushB [13] (dBin oIx (dVar 5) (dC (.int 1))) (ePB (dCall d__law_prod (dCons (dVar 8) (dCons (dTup (dCons (dBin oMul (dBin oIx (dVar 15) (dUn oNeg (dC (.int 1)))) (dBin oIx (dVar 15) (dUn oNeg (dC (.int 1))))) (dCons (dC (.int 1)) dNil))) dNil)))))
    (eSeqB (ePushB [] (dBin oIx (dVar 5) (dC (.int 2))) (ePB (dCall d__law_prod (dCons (dVar 8) (dCons (dTup (dCons (dB oSum (dCons (dVar 13) dNil)) (dCons (dC (.int 1)) dNil))) dNil)))))
    (ePushB [] (dBin oIx (dVar 5) (dC (.int 3))) (ePB (dIf (asB (dBin oGe (dB oMax (dCons (dVar 15) dNil)) (dVar 4))) (dVar 8) (dTup (dCons (dC (.int 0)) (dCons (dC (.int 1)) dNil)))))))))))
def nb : DSeB := (eIfSB [] (eTB (asB (dBin oEq (dB oLen (dCons (dVar 7) dNil)) (dC (.int 1))))) nbT .nx)
def En (g : Game) (l : Int) (x6 x7 x8 x13 x15 : Option D) : Sm.Env := [some .scr0, some g.enc, some (.lst (rowsD g)), some (wD g), some (.int l), some (.lst (objs 0 4)), x6, x7, x8, none, none, none, none, x13, none, x15, none, none, none, none, none, none]
noncomputable def q0 (g : Game) (e : List Nat) : Rat := g.chance e * ((mx g e : Int) : Rat)
def q1 (g : Game) (e : List Nat) : Rat := g.chance e * (((g.part e).worth * (g.part e).worth : Int) : Rat)
def q2 (g : Game) (e : List Nat) : Rat := g.chance e * ((g.sst e : Int) : Rat)
noncomputable def q3 (g : Game) (l : Int) (e : List Nat) : Rat := if decide (l ≤ mx g e) then g.chance e else 0
noncomputable def bx (g : Game) (l : Int) (es : PL) : PLB := [.lst ((es.map (q0 g)).map encQ), .lst ((es.map (q1 g)).map encQ), .lst ((es.map (q2 g)).map encQ), .lst ((es.map (q3 g l)).map encQ)]
theorem eq_den {f h : DE} {ρ : Sm.Env} {a b : Int} (hf : f ρ = .ok (.int a)) (hh : h ρ = .ok (.int b)) : asB (dBin oEq f h) ρ = .ok (a == b) := by
  have : dBin oEq f h ρ = .ok (.bl (a == b)) := bin_den hf hh (oEq_int a b)
  unfold asB
  rw [this]; rfl
theorem sl_drop1 (xs : List D) : oSl (.lst xs) (some 1) none = some (.lst (xs.drop 1)) := by
  have := sl_dropT xs 1
  simp only [oSl, Option.some.injEq, D.tup.injEq] at this
  have h : cutD xs (some 1) none = xs.drop 1 := this
  simp only [oSl, h]
theorem wl_D {g : Game} {e : List Nat} (he : g.IsPath e) : ((List.range (e.length + 1)).map fun k => D.int (g.part (e.take k)).worth) = (Game.wl g e).map D.int := by
  rw [Game.wl_eq e g he, List.map_map]; rfl
theorem way_lc {g : Game} {l : Int} (hg : g.Ok 4) {e : List Nat} (he : g.IsPath e) (x7 x8 x13 x15 : Option D) : dLcs [19] (.v 19) (dRng rng1 (dCons (dBin oAdd (dB oLen (dCons (dVar 6) dNil)) (dC (.int 1))) dNil)) dYes (dBin oIx (dVar 3) (dSl (dVar 6) dNo (dSo (dVar 19)))) (En g l (some (encP e)) x7 x8 x13 x15) = .ok ((Game.wl g e).map D.int) := by
  have hl := (Game.part_ok hg he).2
  rw [← wl_D he]
  have hr : dRng rng1 (dCons (dBin oAdd (dB oLen (dCons (dVar 6) dNil)) (dC (.int 1))) dNil) (En g l (some (encP e)) x7 x8 x13 x15) = .ok ((List.range (e.length + 1)).map fun i => D.int ((i : Nat) : Int)) := by
    refine rng1_it ?_ (Nat.le_trans (Nat.succ_le_succ (Nat.le_of_lt hl)) (by decide))
    have e1 : (e.length : Int) + 1 = ((e.length + 1 : Nat) : Int) := by omega
    have e2 := len_encP e
    unfold En
    generalize wD g = W
    generalize encP e = EE at *
    simp only [e2, e1, defD, args, dSeq, dSet, dSetP, dSetN, lstAt, dApp, dAppP, dAsg, dPar, dDrop, dWhile, dIfS, dRet, dB, dCall, dCons, dNil, dVar, dC, dBin, dChain, asB, dTru, dNotT, dAndT, dOrT, dAnd, dOr, dNot, dIf, dUn, dTup, dLst, dItems, dYes, R.bind, R.to, O.seq, outR, ofO, noErr, mask, Sm.putIn, bindPat, bindPats, itemsOf, tru, List.foldr_cons, List.foldr_nil, List.length_cons, List.length_nil, List.map_cons, List.map_nil, List.cons_append, List.nil_append, Nat.sub_self, List.replicate_zero, List.replicate_succ, List.getElem?_cons_succ, List.getElem?_cons_zero, List.set_cons_zero, List.set_cons_succ, Nat.reduceAdd, Nat.reduceSub, ↓reduceIte, Bool.not_true, Bool.not_false, Bool.and_true, Bool.true_and, Bool.false_and, Bool.and_false, if_true, if_false, Bool.false_eq_true, oNeg, oAddI, oSubI, oAdd_ii, oLt, oLe, oGt, oGe, Option.bind_some, Option.map_some]
  refine lc_ok1 _ hr fun k hk => ⟨[some .scr0, some g.enc, some (.lst (rowsD g)), some (wD g), some (.int l), some (.lst (objs 0 4)), some (encP e), x7, x8, none, none, none, none, x13, none, x15, none, none, none, some (.int (k : Int)), none, none], rfl, ?_⟩
  have i2 : oIx (wD g) (encP (e.take k)) = some (.int (g.part (e.take k)).worth) := ix_dict (fun p => D.int (g.part p).worth) ((Game.mem_paths g _).mpr (Game.take_path he k))
  have s2 := sl_take e k
  generalize wD g = W at *
  generalize encP (e.take k) = E1 at *
  generalize encP e = EE at *
  simp only [dSl, dSo, dNo, s2, i2, defD, args, dSeq, dSet, dSetP, dSetN, lstAt, dApp, dAppP, dAsg, dPar, dDrop, dWhile, dIfS, dRet, dB, dCall, dCons, dNil, dVar, dC, dBin, dChain, asB, dTru, dNotT, dAndT, dOrT, dAnd, dOr, dNot, dIf, dUn, dTup, dLst, dItems, dYes, R.bind, R.to, O.seq, outR, ofO, noErr, mask, Sm.putIn, bindPat, bindPats, itemsOf, tru, List.foldr_cons, List.foldr_nil, List.length_cons, List.length_nil, List.map_cons, List.map_nil, List.cons_append, List.nil_append, Nat.sub_self, List.replicate_zero, List.replicate_succ, List.getElem?_cons_succ, List.getElem?_cons_zero, List.set_cons_zero, List.set_cons_succ, Nat.reduceAdd, Nat.reduceSub, ↓reduceIte, Bool.not_true, Bool.not_false, Bool.and_true, Bool.true_and, Bool.false_and, Bool.and_false, if_true, if_false, Bool.false_eq_true, oNeg, oAddI, oSubI, oAdd_ii, oLt, oLe, oGt, oGe, Option.bind_some, Option.map_some]
theorem wl_bd {g : Game} (hg : g.Ok 4) {e : List Nat} (he : g.IsPath e) : ∀ x ∈ Game.wl g e, -20 ≤ x ∧ x ≤ 20 := by
  intro x hx
  rw [Game.wl_eq e g he] at hx
  obtain ⟨k, _, rfl⟩ := List.mem_map.mp hx
  exact worth_bd (Game.part_ok hg (Game.take_path he k)).1
theorem steps_lc {g : Game} {l : Int} (hg : g.Ok 4) {e : List Nat} (he : g.IsPath e) (x6 x7 x8 x13 : Option D) : dLcs [20, 21] (.t [(.v 20), (.v 21)]) (dRng zipD (dCons (dVar 15) (dCons (dSl (dVar 15) (dSo (dC (.int 1))) dNo) dNil))) dYes (dBin oMul (dBin oSubI (dVar 21) (dVar 20)) (dBin oSubI (dVar 21) (dVar 20))) (En g l x6 x7 x8 x13 (some (.lst ((Game.wl g e).map D.int)))) = .ok ((Game.stq (Game.wl g e)).map D.int) := by
  rw [Game.zp_stp, List.map_map]
  have bd := wl_bd hg he
  generalize Game.wl g e = L at *
  have it : dRng zipD (dCons (dVar 15) (dCons (dSl (dVar 15) (dSo (dC (.int 1))) dNo) dNil)) (En g l x6 x7 x8 x13 (some (.lst (L.map D.int)))) = .ok ((Game.zp L).map fun x => D.tup [.int x.1, .int x.2]) := by
    rw [← Game.zp_zip]
    have s := sl_drop1 (L.map D.int)
    unfold En
    generalize L.map D.int = M at *
    generalize wD g = W
    simp only [dRng, dSl, dSo, dNo, s, defD, args, dSeq, dSet, dSetP, dSetN, lstAt, dApp, dAppP, dAsg, dPar, dDrop, dWhile, dIfS, dRet, dB, dCall, dCons, dNil, dVar, dC, dBin, dChain, asB, dTru, dNotT, dAndT, dOrT, dAnd, dOr, dNot, dIf, dUn, dTup, dLst, dItems, dYes, R.bind, R.to, O.seq, outR, ofO, noErr, mask, Sm.putIn, bindPat, bindPats, itemsOf, tru, List.foldr_cons, List.foldr_nil, List.length_cons, List.length_nil, List.map_cons, List.map_nil, List.cons_append, List.nil_append, Nat.sub_self, List.replicate_zero, List.replicate_succ, List.getElem?_cons_succ, List.getElem?_cons_zero, List.set_cons_zero, List.set_cons_succ, Nat.reduceAdd, Nat.reduceSub, ↓reduceIte, Bool.not_true, Bool.not_false, Bool.and_true, Bool.true_and, Bool.false_and, Bool.and_false, if_true, if_false, Bool.false_eq_true, oNeg, oAddI, oSubI, oAdd_ii, oLt, oLe, oGt, oGe, Option.bind_some, Option.map_some]
    rfl
  refine lc_ok1 (xs := Game.zp L) (enc := fun x => D.tup [.int x.1, .int x.2]) _ it fun x hx => ⟨[some .scr0, some g.enc, some (.lst (rowsD g)), some (wD g), some (.int l), some (.lst (objs 0 4)), x6, x7, x8, none, none, none, none, x13, none, some (.lst (L.map D.int)), none, none, none, none, some (.int x.1), some (.int x.2)], rfl, ?_⟩
  have h1 := bd _ (Game.zp_mem L x hx).1
  have h2 := bd _ (Game.zp_mem L x hx).2
  have m := mul_w (a := x.2 - x.1) (b := x.2 - x.1) (by omega)
  have s : dBin oSubI (dVar 21) (dVar 20) [some .scr0, some g.enc, some (.lst (rowsD g)), some (wD g), some (.int l), some (.lst (objs 0 4)), x6, x7, x8, none, none, none, none, x13, none, some (.lst (L.map D.int)), none, none, none, none, some (.int x.1), some (.int x.2)] = .ok (.int (x.2 - x.1)) := bin_den rfl rfl rfl
  exact bin_den s s m
theorem max_wl {g : Game} (hg : g.Ok 4) {e : List Nat} (he : g.IsPath e) : oMax [.lst ((Game.wl g e).map D.int)] = some (.int (mx g e)) := by
  rw [← wl_D he]
  have hne : List.range (e.length + 1) ≠ [] := by
    intro h
    have := congrArg List.length h
    rw [List.length_range] at this
    simp at this
  obtain ⟨M, m, hM, _, _, _, _⟩ := max_min (fun k => (g.part (e.take k)).worth) (l := List.range (e.length + 1)) hne
  have h2 := max_is hM
  obtain ⟨_, ⟨k, hk, ek⟩, hx⟩ := mx_ok hg he
  obtain ⟨j, hj, ej⟩ := List.mem_map.mp h2.1
  have a1 := h2.2 _ (List.mem_map.mpr ⟨k, List.mem_range.mpr (by omega), rfl⟩)
  have a2 := hx j (by have := List.mem_range.mp hj; omega)
  have : M = mx g e := by
    have e1 : (g.part (e.take j)).worth = M := ej
    have e2 : (g.part (e.take k)).worth ≤ M := a1
    omega
  rw [hM, this]
theorem last_wl {g : Game} {e : List Nat} (he : g.IsPath e) : oIx (.lst ((Game.wl g e).map D.int)) (.int (-1)) = some (.int (g.part e).worth) := by
  rw [← wl_D he]
  show atI ((List.range (e.length + 1)).map _) (-1) = _
  rw [atI_neg1 (by simp)]
  simp [List.range_succ]
theorem sst_bd {g : Game} (hg : g.Ok 4) {e : List Nat} (he : g.IsPath e) : Sz 20 ((g.sst e : Int) : Rat) := by
  have key : ∀ (n : Nat) (p : List Nat) (g : Game), g.Ok n → n ≤ 4 → g.IsPath p → 0 ≤ g.sst p ∧ g.sst p ≤ 1600 * (p.length : Int) := by
    intro n p
    induction p generalizing n with
    | nil => intro g _ _ _; exact ⟨Int.le_refl _, by simp [Game.sst]⟩
    | cons i p ih =>
      intro g hg hn hp
      cases n with
      | zero => exact hg.elim
      | succ n =>
        cases ei : g.ways[i]? with
        | none => simp only [Game.IsPath, ei] at hp
        | some x =>
          have hx := (Game.isPath_c p ei).mp hp
          have p1 : g.IsPath [i] := (Game.isPath_c [] ei).mpr (by simp [Game.IsPath])
          have ox : x.2.Ok n := by
            cases g with
            | node w ws => exact (hg.2.2 x (List.mem_of_getElem? ei)).2
          obtain ⟨h1, h2⟩ := ih n x.2 ox (by omega) hx
          have w1 := worth_bd hg
          have w2 := worth_bd ox
          rw [Game.sst_c p ei, List.length_cons]
          have m1 : 0 ≤ (x.2.worth - g.worth) * (x.2.worth - g.worth) := by
            rcases Int.le_total 0 (x.2.worth - g.worth) with z | z
            · exact Int.mul_nonneg z z
            · exact Int.mul_nonneg_of_nonpos_of_nonpos z z
          have m2 : (x.2.worth - g.worth) * (x.2.worth - g.worth) ≤ 1600 := by
            have z : ((x.2.worth - g.worth) * (x.2.worth - g.worth)).natAbs ≤ 40 * 40 := by
              rw [Int.natAbs_mul]
              exact Nat.mul_le_mul (by omega) (by omega)
            omega
          exact ⟨by omega, by push_cast; omega⟩
  have hl := (Game.part_ok hg he).2
  obtain ⟨h1, h2⟩ := key 4 e g hg (by decide) he
  exact Sz.int (Nat.lt_of_le_of_lt (show _ ≤ 6400 by omega) (by decide)) (by decide)
theorem szw {g : Game} (hg : g.Ok 4) {e : List Nat} (he : g.IsPath e) : Sz 20 (((g.part e).worth * (g.part e).worth : Int) : Rat) := by
  have w := worth_bd (Game.part_ok hg he).1
  refine Sz.int ?_ (by decide)
  rw [Int.natAbs_mul]
  exact Nat.lt_of_le_of_lt (Nat.mul_le_mul (show _ ≤ 20 by omega) (show _ ≤ 20 by omega)) (by decide)
theorem szm {g : Game} (hg : g.Ok 4) {e : List Nat} (he : g.IsPath e) : Sz 20 ((mx g e : Int) : Rat) := by
  have w := mx_len hg he
  exact Sz.int (Nat.lt_of_le_of_lt (show _ ≤ 20 by omega) (by decide)) (by decide)
theorem prod_i {g : Game} (hg : g.Ok 4) {e : List Nat} (he : g.IsPath e) {k : Int} (h : Sz 20 (k : Rat)) : d__law_prod [encQ (g.chance e), .tup [.int k, .int 1]] = .ok (encQ (g.chance e * (k : Rat))) := by
  rw [enc_int1]
  exact prod_ok (chance_sz4 hg (by decide) he) h (by decide)
theorem if_den {t : DT} {f h : DE} {ρ : Sm.Env} {b : Bool} (ht : t ρ = .ok b) : dIf t f h ρ = if b then f ρ else h ρ := by
  unfold dIf; rw [ht]; cases b <;> rfl
theorem nb_end {g : Game} {l : Int} (hg : g.Ok 4) {e : List Nat} (he : g.IsPath e) (hw : (g.part e).ways = []) {acc : PL} (ha : acc.length ≤ 1000) (x13 x15 : Option D) :
    nb (En g l (some (encP e)) (some (g.part e).enc) (some (encQ (g.chance e))) x13 x15) (bx g l acc) = .nx (En g l (some (encP e)) (some (g.part e).enc) (some (encQ (g.chance e))) (some (.lst ((Game.stq (Game.wl g e)).map D.int))) (some (.lst ((Game.wl g e).map D.int)))) (bx g l (acc ++ [e])) := by
  have hz : acc.length + 1 ≤ sizeLine := Nat.le_trans (show _ ≤ 100000 by omega) sizeLine_big
  have hM := max_wl hg he
  have hL := last_wl he
  have hS : oSum [.lst ((Game.stq (Game.wl g e)).map D.int)] = some (.int (g.sst e)) := by rw [oSum_i, Game.wl_stp e g he]
  have wm := mul_w (a := (g.part e).worth) (b := (g.part e).worth) (by have := worth_bd (Game.part_ok hg he).1; omega)
  have lc1 := way_lc (l := l) hg he (some (g.part e).enc) (some (encQ (g.chance e))) x13 x15
  have lc2 := steps_lc (l := l) hg he (some (encP e)) (some (g.part e).enc) (some (encQ (g.chance e))) x13
  unfold nb
  refine ifB_t ?_ ?_
  · have ol := oLen_enc (g.part e)
    rw [if_pos hw] at ol
    exact eq_den (f := dB oLen (dCons (dVar 7) dNil)) (h := dC (.int 1)) (a := 1) (b := 1) (b1_ok (d := (g.part e).enc) rfl ol) rfl
  unfold nbT
  refine seqB_nx (ρ1 := En g l (some (encP e)) (some (g.part e).enc) (some (encQ (g.chance e))) x13 (some (.lst ((Game.wl g e).map D.int)))) (pureB_nx (setN_nx (own := []) lc1)) ?_
  refine seqB_nx (ρ1 := En g l (some (encP e)) (some (g.part e).enc) (some (encQ (g.chance e))) (some (.lst ((Game.stq (Game.wl g e)).map D.int))) (some (.lst ((Game.wl g e).map D.int)))) (pureB_nx (setN_nx (own := []) lc2)) ?_
  generalize (Game.wl g e).map D.int = WL at *
  generalize (Game.stq (Game.wl g e)).map D.int = SL at *
  refine seqB_nx (pushB_nx (k := 0) (ds := (acc.map (q0 g)).map encQ) (d := encQ (q0 g e)) rfl rfl (call2_den rfl (tup2_den (b1_ok rfl hM) rfl) (prod_i hg he (szm hg he))) (by rw [List.length_map, List.length_map]; exact hz)) ?_
  have ix : dBin oIx (dVar 15) (dUn oNeg (dC (.int 1))) (mask [13] (En g l (some (encP e)) (some (g.part e).enc) (some (encQ (g.chance e))) (some (.lst SL)) (some (.lst WL)))) = .ok (.int (g.part e).worth) := bin_den rfl rfl hL
  refine seqB_nx (pushB_nx (k := 1) (ds := (acc.map (q1 g)).map encQ) (d := encQ (q1 g e)) rfl rfl (call2_den rfl (tup2_den (bin_den ix ix wm) rfl) (prod_i hg he (szw hg he))) (by rw [List.length_map, List.length_map]; exact hz)) ?_
  refine seqB_nx (pushB_nx (k := 2) (ds := (acc.map (q2 g)).map encQ) (d := encQ (q2 g e)) rfl rfl (call2_den rfl (tup2_den (b1_ok rfl hS) rfl) (prod_i hg he (sst_bd hg he))) (by rw [List.length_map, List.length_map]; exact hz)) ?_
  refine (pushB_nx (k := 3) (ds := (acc.map (q3 g l)).map encQ) (d := encQ (q3 g l e)) rfl rfl ?_ (by rw [List.length_map, List.length_map]; exact hz)).trans ?_
  · rw [if_den (ge_den (b1_ok rfl hM) rfl)]
    unfold q3
    cases decide (l ≤ mx g e) <;> rfl
  · show OEB.nx _ _ = _
    unfold bx
    simp only [List.map_append, List.map_cons, List.map_nil, List.set_cons_zero, List.set_cons_succ]
theorem nb_go {g : Game} {l : Int} {e : List Nat} (hw : (g.part e).ways ≠ []) (B : PLB) (x6 x8 x13 x15 : Option D) : nb (En g l x6 (some (g.part e).enc) x8 x13 x15) B = .nx (En g l x6 (some (g.part e).enc) x8 x13 x15) B := by
  unfold nb
  refine ifB_f ?_ rfl
  have ol := oLen_enc (g.part e)
  rw [if_neg hw] at ol
  exact eq_den (f := dB oLen (dCons (dVar 7) dNil)) (h := dC (.int 1)) (a := 2) (b := 1) (b1_ok (d := (g.part e).enc) rfl ol) rfl
theorem nb_loop {g : Game} {l : Int} (hg : g.Ok 4) : ∀ (ps acc : PL) (x6 x7 x8 x13 x15 : Option D), (∀ p ∈ ps, g.IsPath p) → acc.length + ps.length ≤ 1000 →
    ∃ y6 y7 y8 y13 y15, forGoEB (.t [(.v 6), (.v 7), (.v 8)]) nb (ps.map fun p => rowD p (g.part p) (g.chance p)) (En g l x6 x7 x8 x13 x15) (bx g l acc) = .nx (En g l y6 y7 y8 y13 y15) (bx g l (acc ++ ps.filter fun p => decide ((g.part p).ways = [])))
  | [], acc, x6, x7, x8, x13, x15, _, _ => ⟨x6, x7, x8, x13, x15, by simp [forGoEB]⟩
  | p :: ps, acc, x6, x7, x8, x13, x15, h, hl => by
    rw [List.length_cons] at hl
    have hp := h p (by simp)
    by_cases hw : (g.part p).ways = []
    · obtain ⟨y6, y7, y8, y13, y15, e1⟩ := nb_loop (l := l) hg ps (acc ++ [p]) (some (encP p)) (some (g.part p).enc) (some (encQ (g.chance p))) (some (.lst ((Game.stq (Game.wl g p)).map D.int))) (some (.lst ((Game.wl g p).map D.int))) (fun q hq => h q (by simp [hq])) (by rw [List.length_append]; simp; omega)
      refine ⟨y6, y7, y8, y13, y15, ?_⟩
      rw [List.map_cons]
      refine forB_step (ρ1 := En g l (some (encP p)) (some (g.part p).enc) (some (encQ (g.chance p))) x13 x15) rfl (nb_end hg hp hw (by omega) x13 x15) ?_
      rw [e1, List.append_assoc, List.filter_cons_of_pos (by simp [hw])]
      rfl
    · obtain ⟨y6, y7, y8, y13, y15, e1⟩ := nb_loop (l := l) hg ps acc (some (encP p)) (some (g.part p).enc) (some (encQ (g.chance p))) x13 x15 (fun q hq => h q (by simp [hq])) (by omega)
      refine ⟨y6, y7, y8, y13, y15, ?_⟩
      rw [List.map_cons]
      refine forB_step (ρ1 := En g l (some (encP p)) (some (g.part p).enc) (some (encQ (g.chance p))) x13 x15) rfl (nb_go hw _ _ _ _ _) ?_
      rw [e1, List.filter_cons_of_neg (by simp [hw])]
end Kx
namespace Kx
open PySem PySem.Spec L2 Sm
theorem isNN5 : oIs .non .non = some (.bl true) := rfl
theorem isEN5 (c : Nat) : oIs (.exc c) .non = some (.bl false) := rfl
theorem do5 {d r : D} {l : Int} {F : List D → R D} {k : Nat} (hk : k < 3) (hF : ([d_mean_of_most, d_mean_square, d_mean_steps] : List (List D → R D))[(k : Int).toNat]? = some F) (h : F [d] = .ok r) : d__law_do [.int (k : Int), d, .int l] = .ok r := by
  have l4 : decide ((k : Int) < 3) = true := by rw [decide_eq_true_eq]; omega
  have k0 : (0 : Int) ≤ (k : Int) := by omega
  simp only [d__law_do, b__law_do, dTryK, dCallIx, l4, k0, hF, h, isNN5, defD, args, dSeq, dSet, dSetP, dSetN, lstAt, dApp, dAppP, dAsg, dPar, dDrop, dWhile, dIfS, dRet, dB, dCall, dCons, dNil, dVar, dC, dBin, dChain, asB, dTru, dNotT, dAndT, dOrT, dAnd, dOr, dNot, dIf, dUn, dTup, dLst, dItems, dYes, R.bind, R.to, O.seq, outR, ofO, noErr, mask, Sm.putIn, bindPat, bindPats, itemsOf, tru, List.foldr_cons, List.foldr_nil, List.length_cons, List.length_nil, List.map_cons, List.map_nil, List.cons_append, List.nil_append, Nat.sub_self, List.replicate_zero, List.replicate_succ, List.getElem?_cons_succ, List.getElem?_cons_zero, List.set_cons_zero, List.set_cons_succ, Nat.reduceAdd, Nat.reduceSub, ↓reduceIte, Bool.not_true, Bool.not_false, Bool.and_true, Bool.true_and, Bool.false_and, Bool.and_false, if_true, if_false, Bool.false_eq_true, oNeg, oAddI, oSubI, oAdd_ii, oLt, oLe, oGt, oGe, Option.bind_some, Option.map_some]
theorem do5c {d r : D} {l : Int} (h : d_chance_reached [d, .int l] = .ok r) : d__law_do [.int 3, d, .int l] = .ok r := by
  simp only [d__law_do, b__law_do, dTryK, show decide ((3 : Int) < 3) = false by decide, h, isNN5, defD, args, dSeq, dSet, dSetP, dSetN, lstAt, dApp, dAppP, dAsg, dPar, dDrop, dWhile, dIfS, dRet, dB, dCall, dCons, dNil, dVar, dC, dBin, dChain, asB, dTru, dNotT, dAndT, dOrT, dAnd, dOr, dNot, dIf, dUn, dTup, dLst, dItems, dYes, R.bind, R.to, O.seq, outR, ofO, noErr, mask, Sm.putIn, bindPat, bindPats, itemsOf, tru, List.foldr_cons, List.foldr_nil, List.length_cons, List.length_nil, List.map_cons, List.map_nil, List.cons_append, List.nil_append, Nat.sub_self, List.replicate_zero, List.replicate_succ, List.getElem?_cons_succ, List.getElem?_cons_zero, List.set_cons_zero, List.set_cons_succ, Nat.reduceAdd, Nat.reduceSub, ↓reduceIte, Bool.not_true, Bool.not_false, Bool.and_true, Bool.true_and, Bool.false_and, Bool.and_false, if_true, if_false, Bool.false_eq_true, oNeg, oAddI, oSubI, oAdd_ii, oLt, oLe, oGt, oGe, Option.bind_some, Option.map_some]
theorem do5n {d : D} (od : okD d = true) (h : isG 4 d = false) {k : Nat} (hk : k < 4) (l : Int) : d__law_do [.int (k : Int), d, .int l] = .ok (.str "no game") := by
  have lk := look_any od
  rw [h] at lk
  have wd : d__law_word [.exc 1] = .ok (.str "no game") := word_ok (c := 1) (.inl rfl)
  have cc : ([1, 2, 3, 4, 5, 6] : List Nat).contains 1 = true := rfl
  by_cases h4 : k = 3
  · subst h4
    have e : d_chance_reached [d, .int l] = .err 1 := by simp only [d_chance_reached, b_chance_reached, lk, Bool.false_eq_true, if_false, defD, args, dSeq, dSet, dSetP, dSetN, lstAt, dApp, dAppP, dAsg, dPar, dDrop, dWhile, dIfS, dRet, dB, dCall, dCons, dNil, dVar, dC, dBin, dChain, asB, dTru, dNotT, dAndT, dOrT, dAnd, dOr, dNot, dIf, dUn, dTup, dLst, dItems, dYes, R.bind, R.to, O.seq, outR, ofO, noErr, mask, Sm.putIn, bindPat, bindPats, itemsOf, tru, List.foldr_cons, List.foldr_nil, List.length_cons, List.length_nil, List.map_cons, List.map_nil, List.cons_append, List.nil_append, Nat.sub_self, List.replicate_zero, List.replicate_succ, List.getElem?_cons_succ, List.getElem?_cons_zero, List.set_cons_zero, List.set_cons_succ, Nat.reduceAdd, Nat.reduceSub, ↓reduceIte, Bool.not_true, Bool.not_false, Bool.and_true, Bool.true_and, Bool.false_and, Bool.and_false, if_true, if_false, Bool.false_eq_true, oNeg, oAddI, oSubI, oAdd_ii, oLt, oLe, oGt, oGe, Option.bind_some, Option.map_some]
    simp only [d__law_do, b__law_do, dTryK, show decide (((3 : Nat) : Int) < 3) = false by decide, e, isEN5, cc, wd, defD, args, dSeq, dSet, dSetP, dSetN, lstAt, dApp, dAppP, dAsg, dPar, dDrop, dWhile, dIfS, dRet, dB, dCall, dCons, dNil, dVar, dC, dBin, dChain, asB, dTru, dNotT, dAndT, dOrT, dAnd, dOr, dNot, dIf, dUn, dTup, dLst, dItems, dYes, R.bind, R.to, O.seq, outR, ofO, noErr, mask, Sm.putIn, bindPat, bindPats, itemsOf, tru, List.foldr_cons, List.foldr_nil, List.length_cons, List.length_nil, List.map_cons, List.map_nil, List.cons_append, List.nil_append, Nat.sub_self, List.replicate_zero, List.replicate_succ, List.getElem?_cons_succ, List.getElem?_cons_zero, List.set_cons_zero, List.set_cons_succ, Nat.reduceAdd, Nat.reduceSub, ↓reduceIte, Bool.not_true, Bool.not_false, Bool.and_true, Bool.true_and, Bool.false_and, Bool.and_false, if_true, if_false, Bool.false_eq_true, oNeg, oAddI, oSubI, oAdd_ii, oLt, oLe, oGt, oGe, Option.bind_some, Option.map_some]
  · have l4 : decide ((k : Int) < 3) = true := by rw [decide_eq_true_eq]; omega
    have k0 : (0 : Int) ≤ (k : Int) := by omega
    have : ∃ F, ([d_mean_of_most, d_mean_square, d_mean_steps] : List (List D → R D))[(k : Int).toNat]? = some F ∧ F [d] = .err 1 := by
      have hk4 : k = 0 ∨ k = 1 ∨ k = 2 := by omega
      rcases hk4 with rfl | rfl | rfl
      · exact ⟨_, rfl, by simp only [d_mean_of_most, b_mean_of_most, lk, Bool.false_eq_true, if_false, defD, args, dSeq, dSet, dSetP, dSetN, lstAt, dApp, dAppP, dAsg, dPar, dDrop, dWhile, dIfS, dRet, dB, dCall, dCons, dNil, dVar, dC, dBin, dChain, asB, dTru, dNotT, dAndT, dOrT, dAnd, dOr, dNot, dIf, dUn, dTup, dLst, dItems, dYes, R.bind, R.to, O.seq, outR, ofO, noErr, mask, Sm.putIn, bindPat, bindPats, itemsOf, tru, List.foldr_cons, List.foldr_nil, List.length_cons, List.length_nil, List.map_cons, List.map_nil, List.cons_append, List.nil_append, Nat.sub_self, List.replicate_zero, List.replicate_succ, List.getElem?_cons_succ, List.getElem?_cons_zero, List.set_cons_zero, List.set_cons_succ, Nat.reduceAdd, Nat.reduceSub, ↓reduceIte, Bool.not_true, Bool.not_false, Bool.and_true, Bool.true_and, Bool.false_and, Bool.and_false, if_true, if_false, Bool.false_eq_true, oNeg, oAddI, oSubI, oAdd_ii, oLt, oLe, oGt, oGe, Option.bind_some, Option.map_some]⟩
      · exact ⟨_, rfl, by simp only [d_mean_square, b_mean_square, lk, Bool.false_eq_true, if_false, defD, args, dSeq, dSet, dSetP, dSetN, lstAt, dApp, dAppP, dAsg, dPar, dDrop, dWhile, dIfS, dRet, dB, dCall, dCons, dNil, dVar, dC, dBin, dChain, asB, dTru, dNotT, dAndT, dOrT, dAnd, dOr, dNot, dIf, dUn, dTup, dLst, dItems, dYes, R.bind, R.to, O.seq, outR, ofO, noErr, mask, Sm.putIn, bindPat, bindPats, itemsOf, tru, List.foldr_cons, List.foldr_nil, List.length_cons, List.length_nil, List.map_cons, List.map_nil, List.cons_append, List.nil_append, Nat.sub_self, List.replicate_zero, List.replicate_succ, List.getElem?_cons_succ, List.getElem?_cons_zero, List.set_cons_zero, List.set_cons_succ, Nat.reduceAdd, Nat.reduceSub, ↓reduceIte, Bool.not_true, Bool.not_false, Bool.and_true, Bool.true_and, Bool.false_and, Bool.and_false, if_true, if_false, Bool.false_eq_true, oNeg, oAddI, oSubI, oAdd_ii, oLt, oLe, oGt, oGe, Option.bind_some, Option.map_some]⟩
      · exact ⟨_, rfl, by simp only [d_mean_steps, b_mean_steps, lk, Bool.false_eq_true, if_false, defD, args, dSeq, dSet, dSetP, dSetN, lstAt, dApp, dAppP, dAsg, dPar, dDrop, dWhile, dIfS, dRet, dB, dCall, dCons, dNil, dVar, dC, dBin, dChain, asB, dTru, dNotT, dAndT, dOrT, dAnd, dOr, dNot, dIf, dUn, dTup, dLst, dItems, dYes, R.bind, R.to, O.seq, outR, ofO, noErr, mask, Sm.putIn, bindPat, bindPats, itemsOf, tru, List.foldr_cons, List.foldr_nil, List.length_cons, List.length_nil, List.map_cons, List.map_nil, List.cons_append, List.nil_append, Nat.sub_self, List.replicate_zero, List.replicate_succ, List.getElem?_cons_succ, List.getElem?_cons_zero, List.set_cons_zero, List.set_cons_succ, Nat.reduceAdd, Nat.reduceSub, ↓reduceIte, Bool.not_true, Bool.not_false, Bool.and_true, Bool.true_and, Bool.false_and, Bool.and_false, if_true, if_false, Bool.false_eq_true, oNeg, oAddI, oSubI, oAdd_ii, oLt, oLe, oGt, oGe, Option.bind_some, Option.map_some]⟩
    obtain ⟨F, hF, e⟩ := this
    simp only [d__law_do, b__law_do, dTryK, dCallIx, l4, k0, hF, e, isEN5, cc, wd, defD, args, dSeq, dSet, dSetP, dSetN, lstAt, dApp, dAppP, dAsg, dPar, dDrop, dWhile, dIfS, dRet, dB, dCall, dCons, dNil, dVar, dC, dBin, dChain, asB, dTru, dNotT, dAndT, dOrT, dAnd, dOr, dNot, dIf, dUn, dTup, dLst, dItems, dYes, R.bind, R.to, O.seq, outR, ofO, noErr, mask, Sm.putIn, bindPat, bindPats, itemsOf, tru, List.foldr_cons, List.foldr_nil, List.length_cons, List.length_nil, List.map_cons, List.map_nil, List.cons_append, List.nil_append, Nat.sub_self, List.replicate_zero, List.replicate_succ, List.getElem?_cons_succ, List.getElem?_cons_zero, List.set_cons_zero, List.set_cons_succ, Nat.reduceAdd, Nat.reduceSub, ↓reduceIte, Bool.not_true, Bool.not_false, Bool.and_true, Bool.true_and, Bool.false_and, Bool.and_false, if_true, if_false, Bool.false_eq_true, oNeg, oAddI, oSubI, oAdd_ii, oLt, oLe, oGt, oGe, Option.bind_some, Option.map_some]
theorem noObs_all {l : List D} (h : ∀ d ∈ l, noOb d = true) : noObs l = true := by
  induction l with
  | nil => rw [noObs]
  | cons d l ih => rw [noObs, h d (by simp), ih fun x hx => h x (by simp [hx])]; rfl
theorem noObp_all {l : List (D × D)} (h : ∀ d ∈ l, noOb d.2 = true) : noObp l = true := by
  induction l with
  | nil => rw [noObp]
  | cons d l ih => cases d with | mk a b => rw [noObp, h (a, b) (by simp), ih fun x hx => h x (by simp [hx])]; rfl
theorem noOb_enc : ∀ g : Game, noOb g.enc = true := by
  apply Game.ind
  intro w ws ih
  cases ws with
  | nil => rw [enc_end]; simp [noOb, noObs]
  | cons x ws =>
    rw [enc_go]
    simp only [noOb, noObs, Bool.true_and, Bool.and_true]
    refine noObs_all fun d hd => ?_
    obtain ⟨p, hp, rfl⟩ := List.mem_map.mp hd
    simp only [noOb, noObs, Bool.true_and, Bool.and_true]
    exact ih p hp
theorem noOb_q (q : Rat) : noOb (encQ q) = true := by simp [encQ, noOb, noObs]
theorem noOb_P (p : List Nat) : noOb (encP p) = true := by
  unfold encP
  rw [noOb]
  refine noObs_all fun d hd => ?_
  obtain ⟨p, _, rfl⟩ := List.mem_map.mp hd
  rw [noOb]; rintro _ h; cases h; all_goals (intros; rename_i h; cases h)
theorem noOb_i (i : Int) : noOb (.int i) = true := by simp [noOb]
theorem noOb_rows (g : Game) : noOb (.lst (rowsD g)) = true := by
  rw [noOb]
  refine noObs_all fun d hd => ?_
  obtain ⟨p, _, rfl⟩ := List.mem_map.mp hd
  unfold rowD
  simp only [noOb, noObs, noOb_P, noOb_enc, noOb_q, Bool.and_self]
theorem noOb_wD (g : Game) : noOb (wD g) = true := by
  unfold wD
  rw [noOb]
  refine noObp_all fun d hd => ?_
  obtain ⟨p, _, rfl⟩ := List.mem_map.mp hd
  exact noOb_i _
theorem noOb_qs (qs : List Rat) : noOb (.lst (qs.map encQ)) = true := by
  rw [noOb]
  refine noObs_all fun d hd => ?_
  obtain ⟨p, _, rfl⟩ := List.mem_map.mp hd
  exact noOb_q _
theorem opn_no {ps : PLB} {d : D} (h : noOb d = true) : opn ps d = some d := by unfold opn; rw [if_pos h]
theorem opn_rows (a b c e : List Rat) : opn [.lst (a.map encQ), .lst (b.map encQ), .lst (c.map encQ), .lst (e.map encQ)] (.lst (objs 0 4)) = some (.lst [.lst (a.map encQ), .lst (b.map encQ), .lst (c.map encQ), .lst (e.map encQ)]) := by
  have h1 : noOb (.lst (objs 0 4)) = false := by simp [objs, noOb, noObs]
  unfold opn
  rw [h1]
  simp only [Bool.false_eq_true, if_false]
  simp only [objs, opns, List.getElem?_cons_zero, List.getElem?_cons_succ, noOb_qs, if_true, Option.map_some]
def Ep (g : Game) (l : Int) (R : D) (x6 x7 x8 x13 x15 : Option D) : Sm.Env := [some .scr0, some g.enc, some (.lst (rowsD g)), some (wD g), some (.int l), some R, x6, x7, x8, none, none, none, none, x13, none, x15, none, none, none, none, none, none]
theorem opn_En (g : Game) (l : Int) (es : PL) (x6 x7 x8 x13 x15 : Option D) : ∃ y6 y7 y8 y13 y15, opnE (bx g l es) (En g l x6 x7 x8 x13 x15) = Ep g l (.lst (bx g l es)) y6 y7 y8 y13 y15 := by
  refine ⟨x6.bind (opn (bx g l es)), x7.bind (opn (bx g l es)), x8.bind (opn (bx g l es)), x13.bind (opn (bx g l es)), x15.bind (opn (bx g l es)), ?_⟩
  have h0 : opn (bx g l es) .scr0 = some .scr0 := opn_no (by simp [noOb])
  have h1 : opn (bx g l es) g.enc = some g.enc := opn_no (noOb_enc g)
  have h2 : opn (bx g l es) (.lst (rowsD g)) = some (.lst (rowsD g)) := opn_no (noOb_rows g)
  have h3 : opn (bx g l es) (wD g) = some (wD g) := opn_no (noOb_wD g)
  have h4 : opn (bx g l es) (.int l) = some (.int l) := opn_no (noOb_i l)
  have h5 : opn (bx g l es) (.lst (objs 0 4)) = some (.lst (bx g l es)) := opn_rows _ _ _ _
  unfold opnE En Ep
  simp only [List.map_cons, List.map_nil, Option.bind_some, Option.bind_none, h0, h1, h2, h3, h4, h5]
theorem sum_row {g : Game} (hg : g.Ok 4) {f : List Nat → Rat} (hf : ∀ e ∈ g.endT.paths, Sz 36 (f e)) : d__law_sum [.lst ((g.endT.paths.map f).map encQ)] = .ok (encQ (qsum (g.endT.paths.map f))) := by
  have hl := rule_few hg (by decide) (Game.endT_rule g)
  refine lsum_ok (n := 36) (fun q hq => ?_) (by rw [List.length_map]; omega)
  obtain ⟨e, he, rfl⟩ := List.mem_map.mp hq
  exact hf e he
theorem row0 {g : Game} (hg : g.Ok 4) : d__law_sum [.lst ((g.endT.paths.map (q0 g)).map encQ)] = .ok (encQ (mMx g)) :=
  sum_row hg fun e he => (chance_sz4 hg (by decide) (Game.rule_path (Game.endT_rule g) he)).mul (szm hg (Game.rule_path (Game.endT_rule g) he))
theorem row1 {g : Game} (hg : g.Ok 4) : d__law_sum [.lst ((g.endT.paths.map (q1 g)).map encQ)] = .ok (encQ g.mSq) := by
  rw [sum_row (f := q1 g) hg fun e he => (chance_sz4 hg (by decide) (Game.rule_path (Game.endT_rule g) he)).mul (szw hg (Game.rule_path (Game.endT_rule g) he))]
  unfold Game.mSq Game.exR
  congr 3
  refine List.map_congr_left fun p _ => ?_
  unfold q1 Game.wq
  rw [Rat.intCast_mul]
theorem row2 {g : Game} (hg : g.Ok 4) : d__law_sum [.lst ((g.endT.paths.map (q2 g)).map encQ)] = .ok (encQ g.allSq) := by
  rw [sum_row (f := q2 g) hg fun e he => (chance_sz4 hg (by decide) (Game.rule_path (Game.endT_rule g) he)).mul (sst_bd hg (Game.rule_path (Game.endT_rule g) he)), ← Game.sst_ex hg]
  rfl
theorem row3 {g : Game} (hg : g.Ok 4) (l : Int) : d__law_sum [.lst ((g.endT.paths.map (q3 g l)).map encQ)] = .ok (encQ (chR g l)) := by
  rw [sum_row hg fun e he => ?_]
  · unfold chR
    rw [Game.qsum_filter]
    rfl
  · unfold q3
    split
    · exact (chance_sz4 hg (by decide) (Game.rule_path (Game.endT_rule g) he)).mono (by decide)
    · exact ⟨by decide, by decide⟩
end Kx
namespace Kx
open PySem PySem.Spec L2 Sm
theorem lock_w {ρ : Sm.Env} {g : Game} (hg : g.Ok 4) (hi : ρ[3]? = some (some (wD g))) (hj : 16 < ρ.length) :
    dLock 3 (dLc [16] (.v 16) (dItemsL (dVar 3)) dYes (dBin oIx (dVar 3) (dVar 16))) ρ = .ok (.lst (g.paths.map fun p => D.int (g.part p).worth)) := by
  have hl : g.paths.length ≤ 1000 := by
    have := Game.paths_len hg
    rw [most4] at this
    omega
  have hp : ∀ p ∈ g.paths, p.length ≤ 1000 := fun p hp => by
    have := (Game.part_ok hg ((Game.mem_paths g p).mp hp)).2
    omega
  have hi : ρ[3]? = some (some (.dct (g.paths.map fun p => (encP p, D.int (g.part p).worth)))) := hi
  have ixa : ∀ p ∈ g.paths, oIx (.dcl (g.paths.map fun p => (encP p, D.int (g.part p).worth))) (encP p) = some (.int (g.part p).worth) := fun p hp => ix_dict (fun p => D.int (g.part p).worth) hp
  generalize g.paths = ps at *
  have hc : clnp (ps.map fun p => (encP p, D.int (g.part p).worth)) = true := by
    unfold clnp
    rw [List.all_map, List.all_eq_true]
    intro p _
    simp [cln, clns]
  have il : 3 < ρ.length := (List.getElem?_eq_some_iff.mp hi).1
  generalize hE : lockE 3 (ps.map fun p => (encP p, D.int (g.part p).worth)) ρ = ρ'
  have li : ρ'[3]? = some (some (.dcl (ps.map fun p => (encP p, D.int (g.part p).worth)))) := by
    rw [← hE]
    unfold lockE
    exact List.getElem?_set_self (by rw [List.length_map]; exact il)
  have ll : ρ'.length = ρ.length := by
    rw [← hE]
    unfold lockE
    rw [List.length_set, List.length_map]
  have lc := lc_ok1 (vs := [16]) (pt := .v 16) (it := dItemsL (dVar 3)) (fe := dBin oIx (dVar 3) (dVar 16)) (ρ := ρ') (xs := ps) (enc := encP) (fun p => D.int (g.part p).worth) (by
      unfold dItemsL dVar
      rw [li]
      simp only [R.bind, itemsL]
      rw [if_pos ⟨by rw [List.length_map]; exact hl, by
        rw [List.all_map, List.all_eq_true]
        intro p hpp
        simp [kLen, encP, hp p hpp]⟩]
      simp only [ofO, List.map_map]
      rfl) fun p hpp => ⟨(mask [16] ρ').set 16 (some (encP p)), rfl, by
      have v1 : ((mask [16] ρ').set 16 (some (encP p)))[16]? = some (some (encP p)) := List.getElem?_set_self (by rw [mask_len, ll]; exact hj)
      have v2 : ((mask [16] ρ').set 16 (some (encP p)))[3]? = some (some (.dcl (ps.map fun p => (encP p, D.int (g.part p).worth)))) := by
        rw [List.getElem?_set_ne (by decide)]
        show (ρ'.set 16 none)[3]? = _
        rw [List.getElem?_set_ne (by decide)]
        exact li
      have ix := ixa p hpp
      generalize (mask [16] ρ').set 16 (some (encP p)) = ρ2 at *
      generalize (ps.map fun p => (encP p, D.int (g.part p).worth)) = ES at *
      simp only [dVar, v1, v2, ix, dBin, R.bind, ofO]⟩
  have hcl : cln (.lst (ps.map fun p => D.int (g.part p).worth)) = true := by
    simp only [cln]
    generalize ps = qs
    induction qs with
    | nil => rfl
    | cons a qs ih =>
      simp only [List.map_cons, clns, Bool.and_eq_true]
      exact ⟨rfl, ih⟩
  unfold dLock
  rw [hi]
  simp only [hc, if_true, hE, dLc_of lc, hcl]
theorem min_is {α : Type} (f : α → Int) {l : List α} (hne : l ≠ []) : ∃ m : Int, oMin [.lst (l.map fun x => D.int (f x))] = some (.int m) ∧ (∃ x ∈ l, f x = m) ∧ ∀ x ∈ l, m ≤ f x := by
  obtain ⟨a, l', rfl⟩ := List.exists_cons_of_ne_nil hne
  have io : intsOf ((a :: l').map fun x => D.int (f x)) = some ((a :: l').map f) := ints_map f (a :: l')
  obtain ⟨h3, h4⟩ := foldl_min (l'.map f) (f a)
  rw [← List.map_cons] at h3 h4
  obtain ⟨c, hc, ec⟩ := List.mem_map.mp h3
  refine ⟨(l'.map f).foldl min (f a), ?_, ⟨c, hc, ec⟩, fun x hx => h4 _ (List.mem_map.mpr ⟨x, hx, rfl⟩)⟩
  simp only [oMin, io, Option.bind_some]
  rfl
theorem high_ok {g : Game} (hg : g.Ok 3) (hs : g.Steps 3) {m : Int} (hm : ∃ x ∈ g.paths, (g.part x).worth = m) (hl : ∀ x ∈ g.paths, m ≤ (g.part x).worth) :
    (g.mapW (· + (0 - m))).Ok 4 ∧ ∀ p, (g.mapW (· + (0 - m))).IsPath p → 0 ≤ ((g.mapW (· + (0 - m))).part p).worth := by
  have near : ∀ p, g.IsPath p → -6 ≤ (g.part p).worth - g.worth ∧ (g.part p).worth - g.worth ≤ 6 := fun p hp => by
    have h1 := Game.steps_part hs hg hp
    have h2 := (Game.part_ok hg hp).2
    omega
  obtain ⟨x, hx, ex⟩ := hm
  have nx := near x ((Game.mem_paths g x).mp hx)
  refine ⟨(Game.mapW_ok hg fun p hp => ?_).mono (by decide), fun p hp => ?_⟩
  · have h1 := near p hp
    have h2 := hl p ((Game.mem_paths g p).mpr hp)
    show -20 ≤ (g.part p).worth + (0 - m) ∧ (g.part p).worth + (0 - m) ≤ 20
    omega
  · have hp' := (Game.mapW_isPath _ p g).mp hp
    rw [Game.mapW_part _ p g hp', Game.mapW_worth]
    have h2 := hl p ((Game.mem_paths g p).mpr hp')
    omega
theorem msq_sz {g : Game} (hg : g.Ok 4) : Sz 1600 g.mSq := by
  have ht := Game.endT_rule g
  have hl := rule_few hg (by decide) ht
  have := qsum_sz (n := 36) (qs := g.endT.paths.map (q1 g)) (by
    intro q hq
    obtain ⟨p, hp, rfl⟩ := List.mem_map.mp hq
    exact (chance_sz4 hg (by decide) (Game.rule_path ht hp)).mul (szw hg (Game.rule_path ht hp)))
  have e : qsum (g.endT.paths.map (q1 g)) = g.mSq := by
    unfold Game.mSq Game.exR
    congr 1
    refine List.map_congr_left fun p _ => ?_
    unfold q1 Game.wq
    rw [Rat.intCast_mul]
  rw [e, List.length_map] at this
  exact this.mono (by omega)
theorem square_sum {g : Game} (hg : g.Ok 4) (hf : Game.Gains (· = 0) g) : d__law_sum [.lst [.tup [.int (g.worth * g.worth), .int 1], encQ g.allSq]] = .ok (encQ g.mSq) := by
  have sq := Game.square_law hg hf
  have w := worth_bd hg
  have s1 : Sz 20 ((g.worth * g.worth : Int) : Rat) := by
    refine Sz.int ?_ (by decide)
    rw [Int.natAbs_mul]
    exact Nat.lt_of_le_of_lt (Nat.mul_le_mul (show _ ≤ 20 by omega) (show _ ≤ 20 by omega)) (by decide)
  have e : g.allSq = g.mSq - ((g.worth * g.worth : Int) : Rat) := by rw [sq, Rat.intCast_mul]; grind
  have s2 : Sz 1621 g.allSq := by rw [e]; exact (msq_sz hg).sub s1
  rw [enc_int1, oSum2 s1 s2 (by decide)]
  rw [e]
  congr 2
  grind
end Kx
namespace Kx
open PySem PySem.Spec L2 Sm
theorem out_nest {f : DSeB} {h : DS} {ρ ρ1 : Sm.Env} {ps : PLB} {r : R D} (h1 : f ρ [] = .nx ρ1 ps) (h2 : outR (h (opnE ps ρ1)) = r) : outR (dNest f h ρ) = r := by
  unfold dNest; rw [h1]; exact h2
theorem ifS_f {t : DT} {f h : DS} {ρ : Sm.Env} (ht : t ρ = .ok false) : dIfS t f h ρ = h ρ := by
  unfold dIfS; rw [ht]; rfl
theorem ifS_t {t : DT} {f h : DS} {ρ : Sm.Env} (ht : t ρ = .ok true) : dIfS t f h ρ = f ρ := by
  unfold dIfS; rw [ht]; rfl
theorem asB_den {f : DE} {ρ : Sm.Env} {b : Bool} (h : f ρ = .ok (.bl b)) : asB f ρ = .ok b := by
  unfold asB; rw [h]; rfl
theorem tru_den {f : DE} {ρ : Sm.Env} {b : Bool} (h : f ρ = .ok (.bl b)) : dTru f ρ = .ok b := by
  unfold dTru; rw [h]; rfl
theorem orT_f {f h : DT} {ρ : Sm.Env} (hf : f ρ = .ok false) (hh : h ρ = .ok false) : dOrT f h ρ = .ok false := by
  unfold dOrT; rw [hf]; exact hh
theorem call3_den {F : List D → R D} {f h k : DE} {ρ : Sm.Env} {a b c : D} {r : R D} (hf : f ρ = .ok a) (hh : h ρ = .ok b) (hk : k ρ = .ok c) (hF : F [a, b, c] = r) : dCall F (dCons f (dCons h (dCons k dNil))) ρ = r := by
  simp only [dCall, dCons, dNil, hf, hh, hk, R.bind, hF]
theorem cons2_den {f h : DE} {ρ : Sm.Env} {a b : D} (hf : f ρ = .ok a) (hh : h ρ = .ok b) : dCons f (dCons h dNil) ρ = .ok [a, b] := by
  simp only [dCons, dNil, hf, hh, R.bind]
theorem lst2_den {f h : DE} {ρ : Sm.Env} {a b : D} (hf : f ρ = .ok a) (hh : h ρ = .ok b) : dLst (dCons f (dCons h dNil)) ρ = .ok (.lst [a, b]) := by
  unfold dLst; rw [cons2_den hf hh]; rfl
theorem par_nx {own : List Nat} {i j : Nat} {g : DA} {ρ : Sm.Env} {a b : D} (h : g (mask own ρ) = .ok [a, b]) : dPar own i j g ρ = .nx ((ρ.set i (some a)).set j (some b)) := by
  unfold dPar; rw [h]; rfl
theorem den_mul (c : Rat) : c * ((c.den : Nat) : Rat) = (c.num : Rat) := by
  have h0 : (((c.den : Nat) : Int) : Rat) ≠ 0 := by
    intro z
    have : (c.den : Int) = 0 := by exact_mod_cast z
    have := c.den_nz
    omega
  have h1 := Rat.num_divInt_den c
  rw [Rat.divInt_eq_div] at h1
  have h2 := Rat.div_mul_cancel (a := (c.num : Rat)) h0
  rw [h1] at h2
  exact h2
theorem level_no {l w : Int} {c : Rat} (h : (l : Rat) * c ≤ (w : Rat)) : decide (w * ((c.den : Nat) : Int) < l * c.num) = false := by
  refine decide_eq_false (Int.not_lt.mpr ?_)
  have hd : (0 : Rat) ≤ ((c.den : Nat) : Rat) := by exact_mod_cast Nat.zero_le _
  have h1 := Rat.mul_le_mul_of_nonneg_right h hd
  rw [Rat.mul_assoc, den_mul] at h1
  exact_mod_cast h1
noncomputable def an (g : Game) (l : Int) : Nat → Rat
  | 0 => mMx g
  | 1 => g.mSq
  | 2 => g.allSq
  | _ => chR g l
def Eq5 (g : Game) (l : Int) (R : D) (x6 x7 x8 x9 x10 x11 x12 x13 x14 x15 : Option D) : Sm.Env := [some .scr0, some g.enc, some (.lst (rowsD g)), some (wD g), some (.int l), some R, x6, x7, x8, x9, x10, x11, x12, x13, x14, x15, none, none, none, none, none, none]
theorem do_lc {g : Game} (hg : g.Ok 4) (l : Int) (R : D) (x6 x7 x8 x9 x10 x11 x12 x13 x14 x15 : Option D) : dLcs [17] (.v 17) (dRng rng1 (dCons (dC (.int 4)) dNil)) dYes (dCall d__law_do (dCons (dVar 17) (dCons (dVar 1) (dCons (dVar 4) dNil)))) (Eq5 g l R x6 x7 x8 x9 x10 x11 x12 x13 x14 x15) = .ok ((List.range 4).map fun k => encQ (an g l k)) := by
  refine lc_ok1 (xs := List.range 4) (enc := fun i : Nat => D.int (i : Int)) _ (rng1_it (n := 4) rfl (by decide)) fun k hk => ⟨[some .scr0, some g.enc, some (.lst (rowsD g)), some (wD g), some (.int l), some R, x6, x7, x8, x9, x10, x11, x12, x13, x14, x15, none, some (.int (k : Int)), none, none, none, none], rfl, ?_⟩
  refine call3_den rfl rfl rfl ?_
  have hk := List.mem_range.mp hk
  have hk4 : k = 0 ∨ k = 1 ∨ k = 2 ∨ k = 3 := by omega
  rcases hk4 with rfl | rfl | rfl | rfl
  · exact do5 (k := 0) (by decide) rfl (mean_of_most_ok hg)
  · exact do5 (k := 1) (by decide) rfl (mean_square_ok hg)
  · exact do5 (k := 2) (by decide) rfl (mean_steps_ok hg)
  · exact do5c (reached_ok hg l)
theorem sum_lc {g : Game} (hg : g.Ok 4) (l : Int) (x6 x7 x8 x9 x10 x11 x12 x13 x14 x15 : Option D) : dLcs [18] (.v 18) (dItems (dVar 5)) dYes (dCall d__law_sum (dCons (dVar 18) dNil)) (Eq5 g l (.lst (bx g l g.endT.paths)) x6 x7 x8 x9 x10 x11 x12 x13 x14 x15) = .ok ((List.range 4).map fun k => encQ (an g l k)) := by
  refine lc_ok1 (xs := List.range 4) (enc := fun k : Nat => (bx g l g.endT.paths)[k]?.getD .non) _ rfl fun k hk => ⟨[some .scr0, some g.enc, some (.lst (rowsD g)), some (wD g), some (.int l), some (.lst (bx g l g.endT.paths)), x6, x7, x8, x9, x10, x11, x12, x13, x14, x15, none, none, some ((bx g l g.endT.paths)[k]?.getD .non), none, none, none], rfl, ?_⟩
  refine call1_den rfl ?_
  have hk := List.mem_range.mp hk
  have hk4 : k = 0 ∨ k = 1 ∨ k = 2 ∨ k = 3 := by omega
  rcases hk4 with rfl | rfl | rfl | rfl
  · exact row0 hg
  · exact row1 hg
  · exact row2 hg
  · exact row3 hg l
theorem pl_an (f : Nat → Rat) : pl 64 (.lst ((List.range 4).map fun k => encQ (f k))) = true := by
  simp only [pl]
  exact pls_map _ _ fun _ _ => pl_q 62 _
end Kx
namespace Kx
open PySem PySem.Spec L2 Sm
def FIF (pk : Nat → Int → Int) : DS := (dIfS (dTru (dCall d_is_fair (dCons (dVar 1) dNil))) (dSeq (dPar [] 12 13 (dCons (dCall d_mean_square (dCons (dVar 1) dNil)) (dCons (dCall d_mean_steps (dCons (dVar 1) dNil)) dNil)))
    (dSeq (dIfS (asB (dBin oNe (dVar 12) (dCall d__law_sum (dCons (dLst (dCons (dTup (dCons (dBin oMul (dBin oIx (dVar 1) (dC (.int 0))) (dBin oIx (dVar 1) (dC (.int 0)))) (dCons (dC (.int 1)) dNil))) (dCons (dVar 13) dNil))) dNil)))) (dRet (dC (.bl false))) .nx)
    (dSeq (dSet [] 14 (dCall (d__law_lifted 8) (dCons (dVar 1) (dCons (dBin oSubI (dC (.int 0)) (dB oMin (dCons (dLock 3 (dLc [16] (.v 16) (dItemsL (dVar 3)) dYes (dBin oIx (dVar 3) (dVar 16)))) dNil))) dNil))))
    (dSeq (dSet [] 4 (dBin oAdd (dC (.int 1)) (dCall (dPick pk) (dCons (dVar 0) (dCons (dC (.int 9002)) (dCons (dC (.int 12)) dNil))))))
    (dSeq (dSet [] 8 (dCall d_chance_reached (dCons (dVar 14) (dCons (dVar 4) dNil))))
    (dIfS (asB (dBin oGt (dBin oMul (dVar 4) (dBin oIx (dVar 8) (dC (.int 0)))) (dBin oMul (dBin oIx (dVar 14) (dC (.int 0))) (dBin oIx (dVar 8) (dC (.int 1)))))) (dRet (dC (.bl false))) .nx)))))) .nx)
theorem lst1_den {f : DE} {ρ : Sm.Env} {a : D} (hf : f ρ = .ok a) : dLst (dCons f dNil) ρ = .ok (.lst [a]) := by
  simp only [dLst, dCons, dNil, hf, R.bind]
theorem fair_if {pk : Nat → Int → Int} (ok : PkOk pk) {g : Game} (g3 : g.Ok 3) (hs : g.Steps 3) (l : Int) (R : D) (x6 x7 x8 x9 x10 x13 x15 : Option D) :
    ∃ l' y8 y12 y13 y14, FIF pk (Eq5 g l R x6 x7 x8 x9 x10 none none x13 none x15) = .nx (Eq5 g l' R x6 x7 y8 x9 x10 none y12 y13 y14 x15) := by
  have g4 : g.Ok 4 := g3.mono (by decide)
  have fo := fair_ok g4
  unfold FIF
  cases hf : isF (fun q => q.num == 0) g with
  | false =>
    rw [hf] at fo
    exact ⟨l, x8, none, x13, none, by rw [ifS_f (tru_den (call1_den rfl fo))]⟩
  | true =>
    rw [hf] at fo
    have fg := fair_zero hf
    have hne : g.paths ≠ [] := by cases g with | node w ws => rw [Game.paths]; simp
    obtain ⟨m, hm, m1, m2⟩ := min_is (fun p => (g.part p).worth) hne
    obtain ⟨hi, hi0⟩ := high_ok g3 hs m1 m2
    obtain ⟨z, pz, z1, z2⟩ := pickD ok (i := 9002) (m := 12) (by decide) (by decide)
    have lf := llifted_ok (0 - m) 8 4 g (by decide) g4
    have hg' := mapW_gains (0 - m) fg
    have w := worth_bd g4
    have wm := mul_w (a := g.worth) (b := g.worth) (by omega)
    have ss := square_sum g4 fg
    generalize hH : g.mapW (· + (0 - m)) = h at *
    have lv := level_le hi (1 + z) hg' hi0
    rw [reach_ab hi] at lv
    have no := level_no lv
    have wh := worth_bd hi
    have cz := chR_sz hi (1 + z)
    have rh := reached_ok hi (1 + z)
    generalize chR h (1 + z) = c at *
    have k1 := oMul_ok (mulOk_of (i := 1 + z) (j := c.num) (m := 10) (n := 700) (by omega) cz.1 (by decide))
    have k2 := oMul_ok (mulOk_of (i := h.worth) (j := ((c.den : Nat) : Int)) (m := 10) (n := 700) (by omega) (den_nat cz) (by decide))
    refine ⟨1 + z, some (encQ c), some (encQ g.mSq), some (encQ g.allSq), some h.enc, ?_⟩
    rw [ifS_t (tru_den (call1_den rfl fo))]
    refine seq_nx (ρ1 := Eq5 g l R x6 x7 x8 x9 x10 none (some (encQ g.mSq)) (some (encQ g.allSq)) none x15) (par_nx (cons2_den (call1_den rfl (mean_square_ok g4)) (call1_den rfl (mean_steps_ok g4)))) ?_
    refine seq_nx (ρ1 := Eq5 g l R x6 x7 x8 x9 x10 none (some (encQ g.mSq)) (some (encQ g.allSq)) none x15) ?_ ?_
    · have g0 : dBin oIx (dVar 1) (dC (.int 0)) (Eq5 g l R x6 x7 x8 x9 x10 none (some (encQ g.mSq)) (some (encQ g.allSq)) none x15) = .ok (.int g.worth) := bin_den rfl rfl (ix0_ok g)
      rw [ifS_f (asB_den (bin_den (a := encQ g.mSq) rfl (call1_den (lst2_den (tup2_den (bin_den g0 g0 wm) rfl) rfl) ss) (oNe_self (pl_q 63 _))))]
    refine seq_nx (ρ1 := Eq5 g l R x6 x7 x8 x9 x10 none (some (encQ g.mSq)) (some (encQ g.allSq)) (some h.enc) x15) (set_nx (own := []) (call2_den rfl (bin_den rfl (b1_ok (lock_w g4 rfl (by simp [mask, Eq5])) hm) rfl) lf)) ?_
    refine seq_nx (ρ1 := Eq5 g (1 + z) R x6 x7 x8 x9 x10 none (some (encQ g.mSq)) (some (encQ g.allSq)) (some h.enc) x15) (set_nx (own := []) (bin_den rfl (call3_den rfl rfl rfl pz) rfl)) ?_
    refine seq_nx (ρ1 := Eq5 g (1 + z) R x6 x7 (some (encQ c)) x9 x10 none (some (encQ g.mSq)) (some (encQ g.allSq)) (some h.enc) x15) (set_nx (own := []) (call2_den rfl rfl rh)) ?_
    have i0 : dBin oIx (dVar 14) (dC (.int 0)) (Eq5 g (1 + z) R x6 x7 (some (encQ c)) x9 x10 none (some (encQ g.mSq)) (some (encQ g.allSq)) (some h.enc) x15) = .ok (.int h.worth) := bin_den rfl rfl (ix0_ok h)
    have c0 : dBin oIx (dVar 8) (dC (.int 0)) (Eq5 g (1 + z) R x6 x7 (some (encQ c)) x9 x10 none (some (encQ g.mSq)) (some (encQ g.allSq)) (some h.enc) x15) = .ok (.int c.num) := bin_den rfl rfl rfl
    have c1 : dBin oIx (dVar 8) (dC (.int 1)) (Eq5 g (1 + z) R x6 x7 (some (encQ c)) x9 x10 none (some (encQ g.mSq)) (some (encQ g.allSq)) (some h.enc) x15) = .ok (.int ((c.den : Nat) : Int)) := bin_den rfl rfl rfl
    have gt : oGt (.int ((1 + z) * c.num)) (.int (h.worth * ((c.den : Nat) : Int))) = some (.bl false) := by
      show some (D.bl (decide _)) = _
      rw [no]
    rw [ifS_f (asB_den (bin_den (bin_den rfl c0 k1) (bin_den i0 c1 k2) gt))]
theorem law_true : ∀ pk, PkOk pk → d_law pk [.scr0] = .ok (.bl true) := by
  intro pk ok
  obtain ⟨g, even, top, eg, dg, _⟩ := drawn_ok ok 3 (by decide)
  have eg : d__law_drawn pk [.scr0, .int 3] = .ok g.enc := eg
  have g3 := dg.ok
  have g4 : g.Ok 4 := g3.mono (by decide)
  have wk := walk_ok 8 4 (by decide) (by decide) g g4
  have hne : g.paths ≠ [] := by cases g with | node w ws => rw [Game.paths]; simp
  obtain ⟨v, pv, v1, v2⟩ := pickD ok (i := 9000) (m := 21) (by decide) (by decide)
  obtain ⟨u, pu, u1, u2⟩ := pickD ok (i := 9001) (m := 3) (by decide) (by decide)
  have hpl := Game.paths_len g4
  rw [most4] at hpl
  refine defD_eq rfl ?_
  unfold b_law
  refine out_seq (ρ1 := [some .scr0, some g.enc, none, none, none, none, none, none, none, none, none, none, none, none, none, none, none, none, none, none, none, none]) (set_nx (own := []) (call2_den rfl rfl eg)) ?_
  refine out_seq (ρ1 := [some .scr0, some g.enc, some (.lst (rowsD g)), none, none, none, none, none, none, none, none, none, none, none, none, none, none, none, none, none, none, none]) (set_nx (own := []) (call1_den rfl wk)) ?_
  have od : oDict [.lst (g.paths.map fun p => D.tup [encP p, .int (g.part p).worth])] = some (wD g) := dict_paths (fun p => D.int (g.part p).worth) (paths_nodup g) hne
  have lc1 : dLcs [16, 7, 8] (.t [(.v 16), (.v 7), (.v 8)]) (dItems (dVar 2)) dYes (dTup (dCons (dVar 16) (dCons (dBin oIx (dVar 7) (dC (.int 0))) dNil))) [some .scr0, some g.enc, some (.lst (rowsD g)), none, none, none, none, none, none, none, none, none, none, none, none, none, none, none, none, none, none, none] = .ok (g.paths.map fun p => D.tup [encP p, .int (g.part p).worth]) :=
    lc_ok1 (xs := g.paths) (enc := fun p => rowD p (g.part p) (g.chance p)) _ rfl fun p hp => ⟨[some .scr0, some g.enc, some (.lst (rowsD g)), none, none, none, none, some (g.part p).enc, some (encQ (g.chance p)), none, none, none, none, none, none, none, some (encP p), none, none, none, none, none], rfl, tup2_den rfl (bin_den rfl rfl (ix0_ok (g.part p)))⟩
  refine out_seq (ρ1 := [some .scr0, some g.enc, some (.lst (rowsD g)), some (wD g), none, none, none, none, none, none, none, none, none, none, none, none, none, none, none, none, none, none]) (set_nx (own := []) (b1_ok (dLc_of lc1) od)) ?_
  generalize hl : v - 10 = l
  refine out_seq (ρ1 := [some .scr0, some g.enc, some (.lst (rowsD g)), some (wD g), some (.int l), none, none, none, none, none, none, none, none, none, none, none, none, none, none, none, none, none]) (set_nx (own := []) (bin_den (call3_den rfl rfl rfl pv) rfl (by rw [← hl]; rfl))) ?_
  obtain ⟨y6, y7, y8, y13, y15, lp⟩ := nb_loop (l := l) g4 g.paths [] none none none none none (fun p hp => (Game.mem_paths g p).mp hp) (by rw [List.length_nil]; omega)
  rw [List.nil_append, Game.ends_eq] at lp
  refine out_nest (ρ1 := En g l y6 y7 y8 y13 y15) (ps := bx g l g.endT.paths) ?_ ?_
  · refine seqB_nx (ρ1 := En g l none none none none none) (ps1 := bx g l []) rfl ?_
    exact lp
  obtain ⟨x6, x7, x8, x13, x15, oe⟩ := opn_En g l g.endT.paths y6 y7 y8 y13 y15
  rw [oe]
  clear oe lp
  have lcA := do_lc g4 l (.lst (bx g l g.endT.paths)) x6 x7 x8 none none none none x13 none x15
  have lcB := sum_lc g4 l x6 x7 x8 none none none none x13 none x15
  refine out_seq (ρ1 := Eq5 g l (.lst (bx g l g.endT.paths)) x6 x7 x8 none none none none x13 none x15) ?_ ?_
  · show dIfS _ _ _ (Eq5 g l (.lst (bx g l g.endT.paths)) x6 x7 x8 none none none none x13 none x15) = _
    rw [ifS_f (asB_den (bin_den (dLc_of lcA) (dLc_of lcB) (oNe_self (pl_an (an g l)))))]
  clear lcA lcB
  have ra := reached_ok g4 (l + 1 + u)
  have mo := chR_mono g4 (show l ≤ l + 1 + u by omega)
  have sa := chR_sz g4 (l + 1 + u)
  have sb := chR_sz g4 l
  have one := reached_ok g4 g.worth
  rw [chR_one g4] at one
  refine out_seq (ρ1 := Eq5 g l (.lst (bx g l g.endT.paths)) x6 x7 x8 (some (encQ (chR g (l + 1 + u)))) none none none x13 none x15) (set_nx (own := []) (call2_den rfl (bin_den (bin_den rfl rfl rfl) (call3_den rfl rfl rfl pu) rfl) ra)) ?_
  refine out_seq (ρ1 := Eq5 g l (.lst (bx g l g.endT.paths)) x6 x7 x8 (some (encQ (chR g (l + 1 + u)))) (some (encQ (chR g l))) none none x13 none x15) (set_nx (own := []) (call1_den (bin_den rfl rfl rfl) (row3 g4 l))) ?_
  generalize chR g (l + 1 + u) = a at *
  generalize chR g l = b at *
  have nl := not_less mo
  have k1 := oMul_ok (mulOk_of (i := a.num) (j := ((b.den : Nat) : Int)) sa.1 (den_nat sb) (by decide))
  have k2 := oMul_ok (mulOk_of (i := b.num) (j := ((a.den : Nat) : Int)) sb.1 (den_nat sa) (by decide))
  have gt : oGt (.int (a.num * ((b.den : Nat) : Int))) (.int (b.num * ((a.den : Nat) : Int))) = some (.bl false) := by
    show some (D.bl (decide _)) = _
    rw [decide_eq_false nl]
  refine out_seq (ρ1 := Eq5 g l (.lst (bx g l g.endT.paths)) x6 x7 x8 (some (encQ a)) (some (encQ b)) none none x13 none x15) ?_ ?_
  · have e1 : encQ 1 = .tup [.int 1, .int 1] := rfl
    have ne1 : oNe (encQ 1) (.tup [.int 1, .int 1]) = some (.bl false) := by rw [← e1]; exact oNe_self (pl_q 63 _)
    rw [ifS_f (orT_f (asB_den (bin_den (bin_den (bin_den rfl rfl rfl) (bin_den rfl rfl rfl) k1) (bin_den (bin_den rfl rfl rfl) (bin_den rfl rfl rfl) k2) gt)) (asB_den (bin_den (call2_den rfl (bin_den rfl rfl (ix0_ok g)) one) rfl ne1)))]
  obtain ⟨l', z8, z12, z13, z14, fi⟩ := fair_if ok g3 dg.steps l (.lst (bx g l g.endT.paths)) x6 x7 x8 (some (encQ a)) (some (encQ b)) x13 x15
  refine out_seq fi ?_
  obtain ⟨bd, hs, hn⟩ := spoilt_game ok 9050 g4
  have hs : d__law_spoilt_thing pk [.scr0, .int 9050, g.enc] = .ok bd := hs
  have ob : okD bd = true := (nc_pl _ _ _ hn).2
  have h2 : d__law_is_game 8 [bd, .int 4] = _ := lgame_any 8 4 bd (by decide) ob
  refine out_seq (ρ1 := Eq5 g l' (.lst (bx g l g.endT.paths)) x6 x7 z8 (some (encQ a)) (some (encQ b)) (some bd) z12 z13 z14 x15) (set_nx (own := []) (call3_den rfl rfl rfl hs)) ?_
  refine ret_of ?_
  cases hg : isG 4 bd with
  | true =>
    rw [hg] at h2
    have : dCall (d__law_is_game 8) (dCons (dVar 11) (dCons (dC (.int 4)) dNil)) (Eq5 g l' (.lst (bx g l g.endT.paths)) x6 x7 z8 (some (encQ a)) (some (encQ b)) (some bd) z12 z13 z14 x15) = .ok (.bl true) := call2_den rfl rfl h2
    unfold dOr
    rw [this]; rfl
  | false =>
    rw [hg] at h2
    have : dCall (d__law_is_game 8) (dCons (dVar 11) (dCons (dC (.int 4)) dNil)) (Eq5 g l' (.lst (bx g l g.endT.paths)) x6 x7 z8 (some (encQ a)) (some (encQ b)) (some bd) z12 z13 z14 x15) = .ok (.bl false) := call2_den rfl rfl h2
    have lcg : dLcs [17] (.v 17) (dRng rng1 (dCons (dC (.int 4)) dNil)) dYes (dCall d__law_do (dCons (dVar 17) (dCons (dVar 11) (dCons (dVar 4) dNil)))) (Eq5 g l' (.lst (bx g l g.endT.paths)) x6 x7 z8 (some (encQ a)) (some (encQ b)) (some bd) z12 z13 z14 x15) = .ok ((List.range 4).map fun _ => D.str "no game") :=
      lc_ok1 (xs := List.range 4) (enc := fun i : Nat => D.int (i : Int)) _ (rng1_it (n := 4) rfl (by decide)) fun i hi => ⟨[some .scr0, some g.enc, some (.lst (rowsD g)), some (wD g), some (.int l'), some (.lst (bx g l g.endT.paths)), x6, x7, z8, some (encQ a), some (encQ b), some bd, z12, z13, z14, x15, none, some (.int (i : Int)), none, none, none, none], rfl, call3_den rfl rfl rfl (do5n ob hg (List.mem_range.mp hi) l')⟩
    have m5 : oMul (.lst [.str "no game"]) (.int 4) = some (.lst ((List.range 4).map fun _ => D.str "no game")) := by
      simp only [oMul]
      rw [if_pos ⟨by decide, by decide, Nat.le_trans (show _ ≤ 100000 by decide) sizeLine_big⟩]
      rfl
    have e5 : oEq (.lst ((List.range 4).map fun _ => D.str "no game")) (.lst ((List.range 4).map fun _ => D.str "no game")) = some (.bl true) := oEq_self (by
      simp only [pl]
      exact pls_map _ _ fun _ _ => by simp only [pl]; decide +kernel)
    unfold dOr
    rw [this]
    exact bin_den (dLc_of lcg) (bin_den (lst1_den rfl) rfl m5) e5
end Kx
namespace Kx
open PySem PySem.Spec L2 Sm
def topS (i : Nat) : Stmt := PySem.Challenge.pw_fairstops_k50_whole_bounds.main.body.getD i (.Pass ⟨0, 0, 0, 0⟩)
abbrev N_divisor : List Str := ["one", "other"]
theorem sc_divisor : FnScope N_divisor ["one", "other"] (defScope (topS 1)) := ⟨rfl, rfl, rfl, by decide +kernel, rfl, by decide +kernel, by decide +kernel⟩
abbrev N_share : List Str := ["up", "down", "by"]
theorem sc_share : FnScope N_share ["up", "down"] (defScope (topS 2)) := ⟨rfl, rfl, rfl, by decide +kernel, rfl, by decide +kernel, by decide +kernel⟩
abbrev N_plus : List Str := ["one", "other"]
theorem sc_plus : FnScope N_plus ["one", "other"] (defScope (topS 3)) := ⟨rfl, rfl, rfl, by decide +kernel, rfl, by decide +kernel, by decide +kernel⟩
abbrev N_times : List Str := ["one", "other"]
theorem sc_times : FnScope N_times ["one", "other"] (defScope (topS 4)) := ⟨rfl, rfl, rfl, by decide +kernel, rfl, by decide +kernel, by decide +kernel⟩
abbrev N_all_plus : List Str := ["some", "made", "one"]
theorem sc_all_plus : FnScope N_all_plus ["some"] (defScope (topS 5)) := ⟨rfl, rfl, rfl, by decide +kernel, rfl, by decide +kernel, by decide +kernel⟩
abbrev N_is_whole : List Str := ["thing", "low", "high"]
theorem sc_is_whole : FnScope N_is_whole ["thing", "low", "high"] (defScope (topS 19)) := ⟨rfl, rfl, rfl, by decide +kernel, rfl, by decide +kernel, by decide +kernel⟩
abbrev N_is_game_in : List Str := ["thing", "deep", "way"]
theorem sc_is_game_in : FnScope N_is_game_in ["thing", "deep"] (defScope (topS 20)) := ⟨rfl, rfl, rfl, by decide +kernel, rfl, by decide +kernel, by decide +kernel⟩
abbrev N_is_game : List Str := ["thing"]
theorem sc_is_game : FnScope N_is_game ["thing"] (defScope (topS 21)) := ⟨rfl, rfl, rfl, by decide +kernel, rfl, by decide +kernel, by decide +kernel⟩
abbrev N_look_game : List Str := ["game"]
theorem sc_look_game : FnScope N_look_game ["game"] (defScope (topS 22)) := ⟨rfl, rfl, rfl, by decide +kernel, rfl, by decide +kernel, by decide +kernel⟩
abbrev N_is_end : List Str := ["game"]
theorem sc_is_end : FnScope N_is_end ["game"] (defScope (topS 23)) := ⟨rfl, rfl, rfl, by decide +kernel, rfl, by decide +kernel, by decide +kernel⟩
abbrev N_ways_of : List Str := ["game"]
theorem sc_ways_of : FnScope N_ways_of ["game"] (defScope (topS 24)) := ⟨rfl, rfl, rfl, by decide +kernel, rfl, by decide +kernel, by decide +kernel⟩
abbrev N_paths_of : List Str := ["game", "made", "number", "weight", "later", "path"]
theorem sc_paths_of : FnScope N_paths_of ["game"] (defScope (topS 25)) := ⟨rfl, rfl, rfl, by decide +kernel, rfl, by decide +kernel, by decide +kernel⟩
abbrev N_part_of : List Str := ["game", "path", "number"]
theorem sc_part_of : FnScope N_part_of ["game", "path"] (defScope (topS 26)) := ⟨rfl, rfl, rfl, by decide +kernel, rfl, by decide +kernel, by decide +kernel⟩
abbrev N_ends_of : List Str := ["game", "path"]
theorem sc_ends_of : FnScope N_ends_of ["game"] (defScope (topS 27)) := ⟨rfl, rfl, rfl, by decide +kernel, rfl, by decide +kernel, by decide +kernel⟩
abbrev N_shares_of : List Str := ["game", "total", "weight", "later"]
theorem sc_shares_of : FnScope N_shares_of ["game"] (defScope (topS 28)) := ⟨rfl, rfl, rfl, by decide +kernel, rfl, by decide +kernel, by decide +kernel⟩
abbrev N_chance_of : List Str := ["game", "path", "made", "number"]
theorem sc_chance_of : FnScope N_chance_of ["game", "path"] (defScope (topS 29)) := ⟨rfl, rfl, rfl, by decide +kernel, rfl, by decide +kernel, by decide +kernel⟩
abbrev N_going : List Str := ["game", "path"]
theorem sc_going : FnScope N_going ["game"] (defScope (topS 30)) := ⟨rfl, rfl, rfl, by decide +kernel, rfl, by decide +kernel, by decide +kernel⟩
abbrev N_most_along : List Str := ["game", "end", "deep"]
theorem sc_most_along : FnScope N_most_along ["game", "end"] (defScope (topS 32)) := ⟨rfl, rfl, rfl, by decide +kernel, rfl, by decide +kernel, by decide +kernel⟩
abbrev N_mean_of_most : List Str := ["game", "end"]
theorem sc_mean_of_most : FnScope N_mean_of_most ["game"] (defScope (topS 33)) := ⟨rfl, rfl, rfl, by decide +kernel, rfl, by decide +kernel, by decide +kernel⟩
abbrev N_chance_reached : List Str := ["game", "level", "end"]
theorem sc_chance_reached : FnScope N_chance_reached ["game", "level"] (defScope (topS 34)) := ⟨rfl, rfl, rfl, by decide +kernel, rfl, by decide +kernel, by decide +kernel⟩
abbrev N_mean_square : List Str := ["game", "some", "end", "here", "one"]
theorem sc_mean_square : FnScope N_mean_square ["game"] (defScope (topS 35)) := ⟨rfl, rfl, rfl, by decide +kernel, rfl, by decide +kernel, by decide +kernel⟩
abbrev N_mean_steps : List Str := ["game", "made", "path", "here", "number", "weight", "later", "step"]
theorem sc_mean_steps : FnScope N_mean_steps ["game"] (defScope (topS 36)) := ⟨rfl, rfl, rfl, by decide +kernel, rfl, by decide +kernel, by decide +kernel⟩
abbrev N_gain_at : List Str := ["game", "made", "weight", "later", "here"]
theorem sc_gain_at : FnScope N_gain_at ["game"] (defScope (topS 38)) := ⟨rfl, rfl, rfl, by decide +kernel, rfl, by decide +kernel, by decide +kernel⟩
abbrev N_gains_of : List Str := ["game", "path"]
theorem sc_gains_of : FnScope N_gains_of ["game"] (defScope (topS 39)) := ⟨rfl, rfl, rfl, by decide +kernel, rfl, by decide +kernel, by decide +kernel⟩
abbrev N_is_fair : List Str := ["game", "one"]
theorem sc_is_fair : FnScope N_is_fair ["game"] (defScope (topS 40)) := ⟨rfl, rfl, rfl, by decide +kernel, rfl, by decide +kernel, by decide +kernel⟩
abbrev N__law_cell : List Str := ["script", "k"]
theorem sc__law_cell : FnScope N__law_cell ["script", "k"] (defScope (topS 42)) := ⟨rfl, rfl, rfl, by decide +kernel, rfl, by decide +kernel, by decide +kernel⟩
abbrev N__law_pick : List Str := ["script", "k", "many", "drawn"]
theorem sc__law_pick : FnScope N__law_pick ["script", "k", "many"] (defScope (topS 43)) := ⟨rfl, rfl, rfl, by decide +kernel, rfl, by decide +kernel, by decide +kernel⟩
abbrev N__law_game : List Str := ["script", "at", "top", "deep", "is_even", "base", "many", "rows", "some", "k", "weight", "step", "a", "b"]
theorem sc__law_game : FnScope N__law_game ["script", "at", "top", "deep", "is_even"] (defScope (topS 44)) := ⟨rfl, rfl, rfl, by decide +kernel, rfl, by decide +kernel, by decide +kernel⟩
abbrev N__law_drawn : List Str := ["script", "deep"]
theorem sc__law_drawn : FnScope N__law_drawn ["script", "deep"] (defScope (topS 45)) := ⟨rfl, rfl, rfl, by decide +kernel, rfl, by decide +kernel, by decide +kernel⟩
abbrev N__law_ways : List Str := ["game"]
theorem sc__law_ways : FnScope N__law_ways ["game"] (defScope (topS 46)) := ⟨rfl, rfl, rfl, by decide +kernel, rfl, by decide +kernel, by decide +kernel⟩
abbrev N__law_low : List Str := ["up", "down", "one", "other"]
theorem sc__law_low : FnScope N__law_low ["up", "down"] (defScope (topS 48)) := ⟨rfl, rfl, rfl, by decide +kernel, rfl, by decide +kernel, by decide +kernel⟩
abbrev N__law_walk : List Str := ["game", "made", "total", "k", "weight", "later", "path", "some", "chance_here"]
theorem sc__law_walk : FnScope N__law_walk ["game"] (defScope (topS 47)) := ⟨rfl, rfl, rfl, by decide +kernel, rfl, by decide +kernel, by decide +kernel⟩
abbrev N__law_sum : List Str := ["some", "up", "down", "one"]
theorem sc__law_sum : FnScope N__law_sum ["some"] (defScope (topS 49)) := ⟨rfl, rfl, rfl, by decide +kernel, rfl, by decide +kernel, by decide +kernel⟩
abbrev N__law_prod : List Str := ["one", "other"]
theorem sc__law_prod : FnScope N__law_prod ["one", "other"] (defScope (topS 50)) := ⟨rfl, rfl, rfl, by decide +kernel, rfl, by decide +kernel, by decide +kernel⟩
abbrev N__law_places : List Str := ["thing", "made", "k", "place"]
theorem sc__law_places : FnScope N__law_places ["thing"] (defScope (topS 51)) := ⟨rfl, rfl, rfl, by decide +kernel, rfl, by decide +kernel, by decide +kernel⟩
abbrev N__law_put : List Str := ["thing", "place", "new", "k"]
theorem sc__law_put : FnScope N__law_put ["thing", "place", "new"] (defScope (topS 52)) := ⟨rfl, rfl, rfl, by decide +kernel, rfl, by decide +kernel, by decide +kernel⟩
abbrev N__law_spoilt_thing : List Str := ["script", "at", "thing", "places", "place", "here", "k", "some", "way"]
theorem sc__law_spoilt_thing : FnScope N__law_spoilt_thing ["script", "at", "thing"] (defScope (topS 53)) := ⟨rfl, rfl, rfl, by decide +kernel, rfl, by decide +kernel, by decide +kernel⟩
abbrev N__law_whole : List Str := ["thing", "low", "high"]
theorem sc__law_whole : FnScope N__law_whole ["thing", "low", "high"] (defScope (topS 54)) := ⟨rfl, rfl, rfl, by decide +kernel, rfl, by decide +kernel, by decide +kernel⟩
abbrev N__law_is_game : List Str := ["thing", "deep", "way"]
theorem sc__law_is_game : FnScope N__law_is_game ["thing", "deep"] (defScope (topS 55)) := ⟨rfl, rfl, rfl, by decide +kernel, rfl, by decide +kernel, by decide +kernel⟩
abbrev N__law_word : List Str := ["kept", "kinds"]
theorem sc__law_word : FnScope N__law_word ["kept"] (defScope (topS 56)) := ⟨rfl, rfl, rfl, by decide +kernel, rfl, by decide +kernel, by decide +kernel⟩
abbrev N__law_do : List Str := ["what", "game", "level", "kept", "answer", "e"]
theorem sc__law_do : FnScope N__law_do ["what", "game", "level"] (defScope (topS 57)) := ⟨rfl, rfl, rfl, by decide +kernel, rfl, by decide +kernel, by decide +kernel⟩
abbrev N__law_lifted : List Str := ["game", "more", "weight", "later"]
theorem sc__law_lifted : FnScope N__law_lifted ["game", "more"] (defScope (topS 58)) := ⟨rfl, rfl, rfl, by decide +kernel, rfl, by decide +kernel, by decide +kernel⟩
abbrev N_law : List Str := ["script", "game", "walk", "worths", "level", "rows", "end", "some", "here", "fewer", "told", "bad", "square", "steps", "high", "way", "path", "what", "row", "deep", "one", "later"]
theorem sc_law : FnScope N_law ["script"] (defScope (topS 59)) := ⟨rfl, rfl, rfl, by decide +kernel, rfl, by decide +kernel, by decide +kernel⟩
structure Top (K : PySem.W.Frag) (mg : Str → Option Value) (cc : Nat → Addr) : Prop where
  x_NoGame : XC K mg "NoGame" (cc 1)
  x_NoRule : XC K mg "NoRule" (cc 3)
  x_NoPath : XC K mg "NoPath" (cc 2)
  x_NoBets : XC K mg "NoBets" (cc 4)
  x_Unpaid : XC K mg "Unpaid" (cc 5)
  x_NoText : XC K mg "NoText" (cc 6)
  x_StopError : XC K mg "StopError" (cc 0)
  xt : XT K cc [1, 2, 3, 4, 5, 6]
  k_NoGame : ∀ k ∈ [1, 2, 3, 4, 5, 6], PySem.W.kitOne K (.ref (cc k)) (.ref (cc 1)) = some (k == 1)
  k_NoPath : ∀ k ∈ [1, 2, 3, 4, 5, 6], PySem.W.kitOne K (.ref (cc k)) (.ref (cc 2)) = some (k == 2)
  k_NoRule : ∀ k ∈ [1, 2, 3, 4, 5, 6], PySem.W.kitOne K (.ref (cc k)) (.ref (cc 3)) = some (k == 3)
  k_NoBets : ∀ k ∈ [1, 2, 3, 4, 5, 6], PySem.W.kitOne K (.ref (cc k)) (.ref (cc 4)) = some (k == 4)
  k_Unpaid : ∀ k ∈ [1, 2, 3, 4, 5, 6], PySem.W.kitOne K (.ref (cc k)) (.ref (cc 5)) = some (k == 5)
  k_NoText : ∀ k ∈ [1, 2, 3, 4, 5, 6], PySem.W.kitOne K (.ref (cc k)) (.ref (cc 6)) = some (k == 6)
  kv : ∀ k ∈ [1, 2, 3, 4, 5, 6], PySem.W.kitOne K (.ref (cc k)) (.type "ValueError") = some true
  xs : ∀ k ∈ [1, 2, 3, 4, 5, 6], PySem.W.exmOne K (.ref (cc k)) (.ref (cc 0)) = some true
  m_abs : mg "abs" = none
  m_isinstance : mg "isinstance" = none
  m_int : mg "int" = none
  m_bool : mg "bool" = none
  m_tuple : mg "tuple" = none
  m_len : mg "len" = none
  m_all : mg "all" = none
  m_enumerate : mg "enumerate" = none
  m_sum : mg "sum" = none
  m_range : mg "range" = none
  m_max : mg "max" = none
  m_zip : mg "zip" = none
  m_ValueError : mg "ValueError" = none
  m_dict : mg "dict" = none
  m_min : mg "min" = none
  c_GREATEST : ∃ t, mg "GREATEST" = some (.int 20 t)
  c_MOST_WAYS : ∃ t, mg "MOST_WAYS" = some (.int 3 t)
  c_HEAVIEST : ∃ t, mg "HEAVIEST" = some (.int 9 t)
  c_DEEPEST : ∃ t, mg "DEEPEST" = some (.int 4 t)
  f_divisor : ∃ f fd, Fun K "divisor" "divisor" (topS 1) f fd ∧ mg "divisor" = some (.ref f) ∧ Binds K fd ["one", "other"] []
  f_share : ∃ f fd, Fun K "share" "share" (topS 2) f fd ∧ mg "share" = some (.ref f) ∧ Binds K fd ["up", "down"] []
  f_plus : ∃ f fd, Fun K "plus" "plus" (topS 3) f fd ∧ mg "plus" = some (.ref f) ∧ Binds K fd ["one", "other"] []
  f_times : ∃ f fd, Fun K "times" "times" (topS 4) f fd ∧ mg "times" = some (.ref f) ∧ Binds K fd ["one", "other"] []
  f_all_plus : ∃ f fd, Fun K "all_plus" "all_plus" (topS 5) f fd ∧ mg "all_plus" = some (.ref f) ∧ Binds K fd ["some"] []
  f_is_whole : ∃ f fd, Fun K "is_whole" "is_whole" (topS 19) f fd ∧ mg "is_whole" = some (.ref f) ∧ Binds K fd ["thing", "low", "high"] []
  f_is_game_in : ∃ f fd, Fun K "is_game_in" "is_game_in" (topS 20) f fd ∧ mg "is_game_in" = some (.ref f) ∧ Binds K fd ["thing", "deep"] []
  f_is_game : ∃ f fd, Fun K "is_game" "is_game" (topS 21) f fd ∧ mg "is_game" = some (.ref f) ∧ Binds K fd ["thing"] []
  f_look_game : ∃ f fd, Fun K "look_game" "look_game" (topS 22) f fd ∧ mg "look_game" = some (.ref f) ∧ Binds K fd ["game"] []
  f_is_end : ∃ f fd, Fun K "is_end" "is_end" (topS 23) f fd ∧ mg "is_end" = some (.ref f) ∧ Binds K fd ["game"] []
  f_ways_of : ∃ f fd, Fun K "ways_of" "ways_of" (topS 24) f fd ∧ mg "ways_of" = some (.ref f) ∧ Binds K fd ["game"] []
  f_paths_of : ∃ f fd, Fun K "paths_of" "paths_of" (topS 25) f fd ∧ mg "paths_of" = some (.ref f) ∧ Binds K fd ["game"] []
  f_part_of : ∃ f fd, Fun K "part_of" "part_of" (topS 26) f fd ∧ mg "part_of" = some (.ref f) ∧ Binds K fd ["game", "path"] []
  f_ends_of : ∃ f fd, Fun K "ends_of" "ends_of" (topS 27) f fd ∧ mg "ends_of" = some (.ref f) ∧ Binds K fd ["game"] []
  f_shares_of : ∃ f fd, Fun K "shares_of" "shares_of" (topS 28) f fd ∧ mg "shares_of" = some (.ref f) ∧ Binds K fd ["game"] []
  f_chance_of : ∃ f fd, Fun K "chance_of" "chance_of" (topS 29) f fd ∧ mg "chance_of" = some (.ref f) ∧ Binds K fd ["game", "path"] []
  f_going : ∃ f fd, Fun K "going" "going" (topS 30) f fd ∧ mg "going" = some (.ref f) ∧ Binds K fd ["game"] []
  f_most_along : ∃ f fd, Fun K "most_along" "most_along" (topS 32) f fd ∧ mg "most_along" = some (.ref f) ∧ Binds K fd ["game", "end"] []
  f_mean_of_most : ∃ f fd, Fun K "mean_of_most" "mean_of_most" (topS 33) f fd ∧ mg "mean_of_most" = some (.ref f) ∧ Binds K fd ["game"] []
  f_chance_reached : ∃ f fd, Fun K "chance_reached" "chance_reached" (topS 34) f fd ∧ mg "chance_reached" = some (.ref f) ∧ Binds K fd ["game", "level"] []
  f_mean_square : ∃ f fd, Fun K "mean_square" "mean_square" (topS 35) f fd ∧ mg "mean_square" = some (.ref f) ∧ Binds K fd ["game"] []
  f_mean_steps : ∃ f fd, Fun K "mean_steps" "mean_steps" (topS 36) f fd ∧ mg "mean_steps" = some (.ref f) ∧ Binds K fd ["game"] []
  f_gain_at : ∃ f fd, Fun K "gain_at" "gain_at" (topS 38) f fd ∧ mg "gain_at" = some (.ref f) ∧ Binds K fd ["game"] []
  f_gains_of : ∃ f fd, Fun K "gains_of" "gains_of" (topS 39) f fd ∧ mg "gains_of" = some (.ref f) ∧ Binds K fd ["game"] []
  f_is_fair : ∃ f fd, Fun K "is_fair" "is_fair" (topS 40) f fd ∧ mg "is_fair" = some (.ref f) ∧ Binds K fd ["game"] []
  f__law_cell : ∃ f fd, Fun K "_law_cell" "_law_cell" (topS 42) f fd ∧ mg "_law_cell" = some (.ref f) ∧ Binds K fd ["script", "k"] []
  f__law_pick : ∃ f fd, Fun K "_law_pick" "_law_pick" (topS 43) f fd ∧ mg "_law_pick" = some (.ref f) ∧ Binds K fd ["script", "k", "many"] []
  f__law_game : ∃ f fd, Fun K "_law_game" "_law_game" (topS 44) f fd ∧ mg "_law_game" = some (.ref f) ∧ Binds K fd ["script", "at", "top", "deep", "is_even"] []
  f__law_drawn : ∃ f fd, Fun K "_law_drawn" "_law_drawn" (topS 45) f fd ∧ mg "_law_drawn" = some (.ref f) ∧ Binds K fd ["script", "deep"] []
  f__law_ways : ∃ f fd, Fun K "_law_ways" "_law_ways" (topS 46) f fd ∧ mg "_law_ways" = some (.ref f) ∧ Binds K fd ["game"] []
  f__law_low : ∃ f fd, Fun K "_law_low" "_law_low" (topS 48) f fd ∧ mg "_law_low" = some (.ref f) ∧ Binds K fd ["up", "down"] []
  f__law_walk : ∃ f fd, Fun K "_law_walk" "_law_walk" (topS 47) f fd ∧ mg "_law_walk" = some (.ref f) ∧ Binds K fd ["game"] []
  f__law_sum : ∃ f fd, Fun K "_law_sum" "_law_sum" (topS 49) f fd ∧ mg "_law_sum" = some (.ref f) ∧ Binds K fd ["some"] []
  f__law_prod : ∃ f fd, Fun K "_law_prod" "_law_prod" (topS 50) f fd ∧ mg "_law_prod" = some (.ref f) ∧ Binds K fd ["one", "other"] []
  f__law_places : ∃ f fd, Fun K "_law_places" "_law_places" (topS 51) f fd ∧ mg "_law_places" = some (.ref f) ∧ Binds K fd ["thing"] []
  f__law_put : ∃ f fd, Fun K "_law_put" "_law_put" (topS 52) f fd ∧ mg "_law_put" = some (.ref f) ∧ Binds K fd ["thing", "place", "new"] []
  f__law_spoilt_thing : ∃ f fd, Fun K "_law_spoilt_thing" "_law_spoilt_thing" (topS 53) f fd ∧ mg "_law_spoilt_thing" = some (.ref f) ∧ Binds K fd ["script", "at", "thing"] []
  f__law_whole : ∃ f fd, Fun K "_law_whole" "_law_whole" (topS 54) f fd ∧ mg "_law_whole" = some (.ref f) ∧ Binds K fd ["thing", "low", "high"] []
  f__law_is_game : ∃ f fd, Fun K "_law_is_game" "_law_is_game" (topS 55) f fd ∧ mg "_law_is_game" = some (.ref f) ∧ Binds K fd ["thing", "deep"] []
  f__law_word : ∃ f fd, Fun K "_law_word" "_law_word" (topS 56) f fd ∧ mg "_law_word" = some (.ref f) ∧ Binds K fd ["kept"] []
  f__law_do : ∃ f fd, Fun K "_law_do" "_law_do" (topS 57) f fd ∧ mg "_law_do" = some (.ref f) ∧ Binds K fd ["what", "game", "level"] []
  f__law_lifted : ∃ f fd, Fun K "_law_lifted" "_law_lifted" (topS 58) f fd ∧ mg "_law_lifted" = some (.ref f) ∧ Binds K fd ["game", "more"] []
  f_law : ∃ f fd, Fun K "law" "law" (topS 59) f fd ∧ mg "law" = some (.ref f) ∧ Binds K fd ["script"] []
section
variable {P : Program} {w : World} {K : PySem.W.Frag} {mg : Str → Option Value} {base : Heap} {cl : Glb} {pk : Nat → Int → Int}
theorem s_divisor (T : Top K mg cl.c)  : Fn P w K mg base cl 1 "divisor" 2 d_divisor := by
  obtain ⟨f, fd, F, hm, hb⟩ := T.f_divisor
  exact fn_mk (k := 0) (own := []) F sc_divisor hm hb rfl rfl fun cdv A outer s H E gd hr =>
      (ss_cons (ss_while (own := []) (fuelI 1) gd (st_cmp (os_ne hr.units) (se_var 1) se_int) (ss_one (ss_par (own := []) (i := 0) (j := 1) gd (sa_cons (se_var 1) (sa_cons (se_op os_mod (se_var 0) (se_var 1)) sa_nil)))))
      (ss_one (ss_ret (own := []) (se_callB cs_abs (by decide +kernel) (sa_cons (se_var 0) sa_nil) T.m_abs))))
theorem s_share (T : Top K mg cl.c) (g_divisor : Fn P w K mg base cl 1 "divisor" 2 d_divisor) : Fn P w K mg base cl 2 "share" 2 d_share := by
  obtain ⟨f, fd, F, hm, hb⟩ := T.f_share
  exact fn_mk (k := 1) (own := []) F sc_share hm hb rfl rfl fun cdv A outer s H E gd hr =>
      (ss_cons (ss_set (own := []) (i := 2) gd (se_call g_divisor (hr.mono (by decide)) gd.tk (sa_cons (se_var 0) (sa_cons (se_var 1) sa_nil))))
      (ss_cons (ss_if (own := []) (own1 := []) (st_cmp os_lt (se_var 1) se_int) (ss_one (ss_set (own := []) (i := 2) gd (se_op os_sub se_int (se_var 2)))) ss_nil)
      (ss_one (ss_ret (own := []) (se_tup (sa_cons (se_op os_div (se_var 0) (se_var 2)) (sa_cons (se_op os_div (se_var 1) (se_var 2)) sa_nil)))))))
theorem s_plus (T : Top K mg cl.c) (g_share : Fn P w K mg base cl 2 "share" 2 d_share) : Fn P w K mg base cl 3 "plus" 2 d_plus := by
  obtain ⟨f, fd, F, hm, hb⟩ := T.f_plus
  exact fn_mk (k := 2) (own := []) F sc_plus hm hb rfl rfl fun cdv A outer s H E gd hr =>
      (ss_one (ss_ret (own := []) (se_call g_share (hr.mono (by decide)) gd.tk (sa_cons (se_op os_plus (se_op os_times (se_ixD (u65 hr) (se_var 0) se_int) (se_ixD (u65 hr) (se_var 1) se_int)) (se_op os_times (se_ixD (u65 hr) (se_var 1) se_int) (se_ixD (u65 hr) (se_var 0) se_int))) (sa_cons (se_op os_times (se_ixD (u65 hr) (se_var 0) se_int) (se_ixD (u65 hr) (se_var 1) se_int)) sa_nil)))))
theorem s_times (T : Top K mg cl.c) (g_share : Fn P w K mg base cl 2 "share" 2 d_share) : Fn P w K mg base cl 3 "times" 2 d_times := by
  obtain ⟨f, fd, F, hm, hb⟩ := T.f_times
  exact fn_mk (k := 2) (own := []) F sc_times hm hb rfl rfl fun cdv A outer s H E gd hr =>
      (ss_one (ss_ret (own := []) (se_call g_share (hr.mono (by decide)) gd.tk (sa_cons (se_op os_times (se_ixD (u65 hr) (se_var 0) se_int) (se_ixD (u65 hr) (se_var 1) se_int)) (sa_cons (se_op os_times (se_ixD (u65 hr) (se_var 0) se_int) (se_ixD (u65 hr) (se_var 1) se_int)) sa_nil)))))
theorem s_all_plus (T : Top K mg cl.c) (g_plus : Fn P w K mg base cl 3 "plus" 2 d_plus) : Fn P w K mg base cl 4 "all_plus" 1 d_all_plus := by
  obtain ⟨f, fd, F, hm, hb⟩ := T.f_all_plus
  exact fn_mk (k := 3) (own := []) F sc_all_plus hm hb rfl rfl fun cdv A outer s H E gd hr =>
      (ss_cons (ss_set (own := []) (i := 1) gd (se_tup (sa_cons se_int (sa_cons se_int sa_nil))))
      (ss_cons (ss_for (own := []) gd (si_seq (se_var 0)) (sg_name 2 gd.nd) (ss_one (ss_set (own := []) (i := 1) gd (se_call g_plus (hr.mono (by decide)) gd.tk (sa_cons (se_var 1) (sa_cons (se_var 2) sa_nil))))))
      (ss_one (ss_ret (own := []) (se_var 1)))))
theorem s_is_whole (T : Top K mg cl.c)  : Fn P w K mg base cl 1 "is_whole" 3 d_is_whole := by
  obtain ⟨f, fd, F, hm, hb⟩ := T.f_is_whole
  exact fn_mk (k := 0) (own := []) F sc_is_whole hm hb rfl rfl fun cdv A outer s H E gd hr =>
      (ss_one (ss_ret (own := []) (se_and (se_isiT kit_int (by decide +kernel) (se_var 0) T.m_isinstance T.m_int) (se_and (se_not (se_isiT kit_bool (by decide +kernel) (se_var 0) T.m_isinstance T.m_bool)) (se_one (se_chain os_le os_le (se_var 1) (se_var 0) (se_var 2)))))))
theorem s_is_game_in (T : Top K mg cl.c) (g_is_whole : Fn P w K mg base cl 1 "is_whole" 3 d_is_whole) : ∀ n : Nat, Fn P w K mg base cl (2 + n) "is_game_in" 2 (d_is_game_in n) := by
  intro n
  induction n with
  | zero =>
    skip
    obtain ⟨f, fd, F, hm, hb⟩ := T.f_is_game_in
    exact Fn.none F hm hb rfl
  | succ n ih =>
    have G_is_game_in := ih
    skip
    · obtain ⟨f, fd, F, hm, hb⟩ := T.f_is_game_in
      obtain ⟨t_GREATEST, c_GREATEST⟩ := T.c_GREATEST
      obtain ⟨t_GREATEST, c_GREATEST⟩ := T.c_GREATEST
      obtain ⟨t_MOST_WAYS, c_MOST_WAYS⟩ := T.c_MOST_WAYS
      obtain ⟨t_HEAVIEST, c_HEAVIEST⟩ := T.c_HEAVIEST
      exact fn_mk (k := 2 + n) (own := []) F sc_is_game_in hm hb rfl rfl fun cdv A outer s H E gd hr =>
        (ss_cons (ss_if (own := []) (own1 := []) (SW.st (sw_or (st_cmp (os_eq hr.units) (se_var 1) se_int) (sw_or (st_not (st_truth (se_isiT kit_tup (by decide +kernel) (se_var 0) T.m_isinstance T.m_tuple))) (sw_or (st_not (st_truth (se_var 0))) (sw_one (st_not (st_truth (se_call g_is_whole (hr.mono (by omega)) gd.tk (sa_cons (se_ixD (u65 hr) (se_var 0) se_int) (sa_cons (se_op os_sub se_int (se_globI rfl c_GREATEST)) (sa_cons (se_globI rfl c_GREATEST) sa_nil))))))))))) (ss_one (ss_ret (own := []) se_bl)) ss_nil)
      (ss_cons (ss_if (own := []) (own1 := []) (st_cmp (os_eq hr.units) (se_callB cs_len (by decide +kernel) (sa_cons (se_var 0) sa_nil) T.m_len) se_int) (ss_one (ss_ret (own := []) se_bl)) ss_nil)
      (ss_cons (ss_if (own := []) (own1 := []) (SW.st (sw_or (st_cmp (os_ne hr.units) (se_callB cs_len (by decide +kernel) (sa_cons (se_var 0) sa_nil) T.m_len) se_int) (sw_or (st_not (st_truth (se_isiT kit_tup (by decide +kernel) (se_ixD (u65 hr) (se_var 0) se_int) T.m_isinstance T.m_tuple))) (sw_one (st_not (st_chain os_le os_le se_int (se_callB cs_len (by decide +kernel) (sa_cons (se_ixD (u65 hr) (se_var 0) se_int) sa_nil) T.m_len) (se_globI rfl c_MOST_WAYS))))))) (ss_one (ss_ret (own := []) se_bl)) ss_nil)
      (ss_cons (ss_for (own := []) gd (si_seq (se_ixD (u65 hr) (se_var 0) se_int)) (sg_name 2 gd.nd) (ss_one (ss_if (own := []) (own1 := []) (SW.st (sw_or (st_not (st_truth (se_isiT kit_tup (by decide +kernel) (se_var 2) T.m_isinstance T.m_tuple))) (sw_or (st_cmp (os_ne hr.units) (se_callB cs_len (by decide +kernel) (sa_cons (se_var 2) sa_nil) T.m_len) se_int) (sw_one (st_not (st_truth (se_call g_is_whole (hr.mono (by omega)) gd.tk (sa_cons (se_ixD (u65 hr) (se_var 2) se_int) (sa_cons se_int (sa_cons (se_globI rfl c_HEAVIEST) sa_nil)))))))))) (ss_one (ss_ret (own := []) se_bl)) ss_nil)))
      (ss_one (ss_ret (own := []) (se_callB (cs_all gd.calm) (by decide +kernel) (sa_cons (se_lc gd.calm gd.nd (si_seq (se_ixD (u65 hr) (se_var 0) se_int)) (blkOk_by (own := [("way", 2)]) (N := N_is_game_in) (sc := defScope (topS 20)) (by decide +kernel)) (fun _ _ _ _ _ => (sg_name 2 gd.nd)) (fun _ _ _ _ _ => sts_nil) (fun _ _ _ _ _ => (se_call G_is_game_in (hr.mono (by omega)) takes0 (sa_cons (se_ixD (u65 hr) (se_var 2) se_int) (sa_cons (se_op os_sub (se_var 1) se_int) sa_nil))))) sa_nil) T.m_all)))))))
theorem s_is_game (T : Top K mg cl.c) (g_is_game_in : Fn P w K mg base cl 10 "is_game_in" 2 (d_is_game_in 8)) : Fn P w K mg base cl 11 "is_game" 1 d_is_game := by
  obtain ⟨f, fd, F, hm, hb⟩ := T.f_is_game
  obtain ⟨t_DEEPEST, c_DEEPEST⟩ := T.c_DEEPEST
  exact fn_mk (k := 10) (own := []) F sc_is_game hm hb rfl rfl fun cdv A outer s H E gd hr =>
      (ss_one (ss_ret (own := []) (se_call g_is_game_in (hr.mono (by decide)) gd.tk (sa_cons (se_var 0) (sa_cons (se_globI rfl c_DEEPEST) sa_nil)))))
theorem s_look_game (T : Top K mg cl.c) (g_is_game : Fn P w K mg base cl 11 "is_game" 1 d_is_game) : Fn P w K mg base cl 12 "look_game" 1 d_look_game := by
  obtain ⟨f, fd, F, hm, hb⟩ := T.f_look_game
  exact fn_mk (k := 11) (own := []) F sc_look_game hm hb rfl rfl fun cdv A outer s H E gd hr =>
      (ss_one (ss_if (own := []) (own1 := []) (st_not (st_truth (se_call g_is_game (hr.mono (by decide)) gd.tk (sa_cons (se_var 0) sa_nil)))) (ss_one (ss_raise (own := []) (c := 1) gd T.x_NoGame)) ss_nil))
theorem s_is_end (T : Top K mg cl.c)  : Fn P w K mg base cl 1 "is_end" 1 d_is_end := by
  obtain ⟨f, fd, F, hm, hb⟩ := T.f_is_end
  exact fn_mk (k := 0) (own := []) F sc_is_end hm hb rfl rfl fun cdv A outer s H E gd hr =>
      (ss_one (ss_ret (own := []) (se_cmp (os_eq hr.units) (se_callB cs_len (by decide +kernel) (sa_cons (se_var 0) sa_nil) T.m_len) se_int)))
theorem s_ways_of (T : Top K mg cl.c)  : Fn P w K mg base cl 1 "ways_of" 1 d_ways_of := by
  obtain ⟨f, fd, F, hm, hb⟩ := T.f_ways_of
  exact fn_mk (k := 0) (own := []) F sc_ways_of hm hb rfl rfl fun cdv A outer s H E gd hr =>
      (ss_one (ss_ret (own := []) (se_if (st_cmp (os_eq hr.units) (se_callB cs_len (by decide +kernel) (sa_cons (se_var 0) sa_nil) T.m_len) se_int) (se_ixD (u65 hr) (se_var 0) se_int) (se_tup sa_nil))))
theorem s_paths_of (T : Top K mg cl.c) (g_ways_of : Fn P w K mg base cl 1 "ways_of" 1 d_ways_of) : ∀ n : Nat, Fn P w K mg base cl (2 + n) "paths_of" 1 (d_paths_of n) := by
  intro n
  induction n with
  | zero =>
    skip
    obtain ⟨f, fd, F, hm, hb⟩ := T.f_paths_of
    exact Fn.none F hm hb rfl
  | succ n ih =>
    have G_paths_of := ih
    skip
    · obtain ⟨f, fd, F, hm, hb⟩ := T.f_paths_of
      exact fn_mk (k := 2 + n) (own := []) F sc_paths_of hm hb rfl rfl fun cdv A outer s H E gd hr =>
        (ss_cons (ss_setN (own := []) (i := 1) gd (sn_lst (sa_cons (se_tup sa_nil) sa_nil)))
      (ss_cons (ss_for (own := [1]) gd (si_enum (sa_cons (se_call g_ways_of (hr.mono (by omega)) gd.tk (sa_cons (se_var 0) sa_nil)) sa_nil) T.m_enumerate) (sg_tup gd.calm (sgs_cons (sg_name 2 gd.nd) (sgs_cons (sg_tup gd.calm (sgs_cons (sg_name 3 gd.nd) (sgs_cons (sg_name 4 gd.nd) sgs_nil))) sgs_nil))) (ss_one (ss_ext (own := [1]) (i := 1) (se_lc gd.calm gd.nd (si_seq (se_call G_paths_of (hr.mono (by omega)) gd.tk (sa_cons (se_var 4) sa_nil))) (blkOk_by (own := [("path", 5)]) (N := N_paths_of) (sc := defScope (topS 25)) (by decide +kernel)) (fun _ _ _ _ _ => (sg_name 5 gd.nd)) (fun _ _ _ _ _ => sts_nil) (fun _ _ _ _ _ => (se_op os_plus (se_tup (sa_cons (se_var 2) sa_nil)) (se_var 5)))))))
      (ss_one (ss_ret (own := [1]) (se_var 1)))))
theorem s_part_of (T : Top K mg cl.c) (g_ways_of : Fn P w K mg base cl 1 "ways_of" 1 d_ways_of) : Fn P w K mg base cl 2 "part_of" 2 d_part_of := by
  obtain ⟨f, fd, F, hm, hb⟩ := T.f_part_of
  exact fn_mk (k := 1) (own := []) F sc_part_of hm hb rfl rfl fun cdv A outer s H E gd hr =>
      (ss_cons (ss_for (own := []) gd (si_seq (se_var 1)) (sg_name 2 gd.nd) (ss_one (ss_set (own := []) (i := 0) gd (se_ixD (u65 hr) (se_ixD (u65 hr) (se_call g_ways_of (hr.mono (by decide)) gd.tk (sa_cons (se_var 0) sa_nil)) (se_var 2)) se_int))))
      (ss_one (ss_ret (own := []) (se_var 0))))
theorem s_ends_of (T : Top K mg cl.c) (g_paths_of : Fn P w K mg base cl 10 "paths_of" 1 (d_paths_of 8)) (g_part_of : Fn P w K mg base cl 2 "part_of" 2 d_part_of) (g_is_end : Fn P w K mg base cl 1 "is_end" 1 d_is_end) : Fn P w K mg base cl 11 "ends_of" 1 d_ends_of := by
  obtain ⟨f, fd, F, hm, hb⟩ := T.f_ends_of
  exact fn_mk (k := 10) (own := []) F sc_ends_of hm hb rfl rfl fun cdv A outer s H E gd hr =>
      (ss_one (ss_ret (own := []) (se_lc gd.calm gd.nd (si_seq (se_call g_paths_of (hr.mono (by decide)) gd.tk (sa_cons (se_var 0) sa_nil))) (blkOk_by (own := [("path", 1)]) (N := N_ends_of) (sc := defScope (topS 27)) (by decide +kernel)) (fun _ _ _ _ _ => (sg_name 1 gd.nd)) (fun _ _ _ _ _ => (sts_one (st_truth (se_call g_is_end (hr.mono (by decide)) takes0 (sa_cons (se_call g_part_of (hr.mono (by decide)) takes0 (sa_cons (se_var 0) (sa_cons (se_var 1) sa_nil))) sa_nil))))) (fun _ _ _ _ _ => (se_var 1)))))
theorem s_shares_of (T : Top K mg cl.c) (g_ways_of : Fn P w K mg base cl 1 "ways_of" 1 d_ways_of) (g_share : Fn P w K mg base cl 2 "share" 2 d_share) : Fn P w K mg base cl 3 "shares_of" 1 d_shares_of := by
  obtain ⟨f, fd, F, hm, hb⟩ := T.f_shares_of
  exact fn_mk (k := 2) (own := []) F sc_shares_of hm hb rfl rfl fun cdv A outer s H E gd hr =>
      (ss_cons (ss_set (own := []) (i := 1) gd (se_callB (cs_sum gd.calm) (by decide +kernel) (sa_cons (se_lc gd.calm gd.nd (si_seq (se_call g_ways_of (hr.mono (by decide)) gd.tk (sa_cons (se_var 0) sa_nil))) (blkOk_by (own := [("weight", 2), ("later", 3)]) (N := N_shares_of) (sc := defScope (topS 28)) (by decide +kernel)) (fun _ _ _ _ _ => (sg_tup gd.calm (sgs_cons (sg_name 2 gd.nd) (sgs_cons (sg_name 3 gd.nd) sgs_nil)))) (fun _ _ _ _ _ => sts_nil) (fun _ _ _ _ _ => (se_var 2))) sa_nil) T.m_sum))
      (ss_one (ss_ret (own := []) (se_lc gd.calm gd.nd (si_seq (se_call g_ways_of (hr.mono (by decide)) gd.tk (sa_cons (se_var 0) sa_nil))) (blkOk_by (own := [("weight", 2), ("later", 3)]) (N := N_shares_of) (sc := defScope (topS 28)) (by decide +kernel)) (fun _ _ _ _ _ => (sg_tup gd.calm (sgs_cons (sg_name 2 gd.nd) (sgs_cons (sg_name 3 gd.nd) sgs_nil)))) (fun _ _ _ _ _ => sts_nil) (fun _ _ _ _ _ => (se_call g_share (hr.mono (by decide)) takes0 (sa_cons (se_var 2) (sa_cons (se_var 1) sa_nil))))))))
theorem s_chance_of (T : Top K mg cl.c) (g_shares_of : Fn P w K mg base cl 3 "shares_of" 1 d_shares_of) (g_times : Fn P w K mg base cl 3 "times" 2 d_times) (g_ways_of : Fn P w K mg base cl 1 "ways_of" 1 d_ways_of) : Fn P w K mg base cl 4 "chance_of" 2 d_chance_of := by
  obtain ⟨f, fd, F, hm, hb⟩ := T.f_chance_of
  exact fn_mk (k := 3) (own := []) F sc_chance_of hm hb rfl rfl fun cdv A outer s H E gd hr =>
      (ss_cons (ss_set (own := []) (i := 2) gd (se_tup (sa_cons se_int (sa_cons se_int sa_nil))))
      (ss_cons (ss_for (own := []) gd (si_seq (se_var 1)) (sg_name 3 gd.nd) (ss_cons (ss_set (own := []) (i := 2) gd (se_call g_times (hr.mono (by decide)) gd.tk (sa_cons (se_var 2) (sa_cons (se_ixD (u65 hr) (se_call g_shares_of (hr.mono (by decide)) gd.tk (sa_cons (se_var 0) sa_nil)) (se_var 3)) sa_nil))))
      (ss_one (ss_set (own := []) (i := 0) gd (se_ixD (u65 hr) (se_ixD (u65 hr) (se_call g_ways_of (hr.mono (by decide)) gd.tk (sa_cons (se_var 0) sa_nil)) (se_var 3)) se_int)))))
      (ss_one (ss_ret (own := []) (se_var 2)))))
theorem s_going (T : Top K mg cl.c) (g_paths_of : Fn P w K mg base cl 10 "paths_of" 1 (d_paths_of 8)) (g_part_of : Fn P w K mg base cl 2 "part_of" 2 d_part_of) (g_is_end : Fn P w K mg base cl 1 "is_end" 1 d_is_end) : Fn P w K mg base cl 11 "going" 1 d_going := by
  obtain ⟨f, fd, F, hm, hb⟩ := T.f_going
  exact fn_mk (k := 10) (own := []) F sc_going hm hb rfl rfl fun cdv A outer s H E gd hr =>
      (ss_one (ss_ret (own := []) (se_lc gd.calm gd.nd (si_seq (se_call g_paths_of (hr.mono (by decide)) gd.tk (sa_cons (se_var 0) sa_nil))) (blkOk_by (own := [("path", 1)]) (N := N_going) (sc := defScope (topS 30)) (by decide +kernel)) (fun _ _ _ _ _ => (sg_name 1 gd.nd)) (fun _ _ _ _ _ => (sts_one (st_not (st_truth (se_call g_is_end (hr.mono (by decide)) takes0 (sa_cons (se_call g_part_of (hr.mono (by decide)) takes0 (sa_cons (se_var 0) (sa_cons (se_var 1) sa_nil))) sa_nil)))))) (fun _ _ _ _ _ => (se_var 1)))))
theorem s_most_along (T : Top K mg cl.c) (g_part_of : Fn P w K mg base cl 2 "part_of" 2 d_part_of) : Fn P w K mg base cl 3 "most_along" 2 d_most_along := by
  obtain ⟨f, fd, F, hm, hb⟩ := T.f_most_along
  exact fn_mk (k := 2) (own := []) F sc_most_along hm hb rfl rfl fun cdv A outer s H E gd hr =>
      (ss_one (ss_ret (own := []) (se_callB (cs_max gd.calm) (by decide +kernel) (sa_cons (se_lc gd.calm gd.nd (si_range1 (sa_cons (se_op os_plus (se_callB cs_len (by decide +kernel) (sa_cons (se_var 1) sa_nil) T.m_len) se_int) sa_nil) T.m_range) (blkOk_by (own := [("deep", 2)]) (N := N_most_along) (sc := defScope (topS 32)) (by decide +kernel)) (fun _ _ _ _ _ => (sg_name 2 gd.nd)) (fun _ _ _ _ _ => sts_nil) (fun _ _ _ _ _ => (se_ixD (u65 hr) (se_call g_part_of (hr.mono (by decide)) takes0 (sa_cons (se_var 0) (sa_cons (se_slice (se_var 1) so_none (so_some (se_var 2))) sa_nil))) se_int))) sa_nil) T.m_max)))
theorem s_mean_of_most (T : Top K mg cl.c) (g_look_game : Fn P w K mg base cl 12 "look_game" 1 d_look_game) (g_ends_of : Fn P w K mg base cl 11 "ends_of" 1 d_ends_of) (g_most_along : Fn P w K mg base cl 3 "most_along" 2 d_most_along) (g_chance_of : Fn P w K mg base cl 4 "chance_of" 2 d_chance_of) (g_times : Fn P w K mg base cl 3 "times" 2 d_times) (g_all_plus : Fn P w K mg base cl 4 "all_plus" 1 d_all_plus) : Fn P w K mg base cl 13 "mean_of_most" 1 d_mean_of_most := by
  obtain ⟨f, fd, F, hm, hb⟩ := T.f_mean_of_most
  exact fn_mk (k := 12) (own := []) F sc_mean_of_most hm hb rfl rfl fun cdv A outer s H E gd hr =>
      (ss_cons (ss_expr (own := []) (se_call g_look_game (hr.mono (by decide)) gd.tk (sa_cons (se_var 0) sa_nil)))
      (ss_one (ss_ret (own := []) (se_call g_all_plus (hr.mono (by decide)) gd.tk (sa_cons (se_lc gd.calm gd.nd (si_seq (se_call g_ends_of (hr.mono (by decide)) gd.tk (sa_cons (se_var 0) sa_nil))) (blkOk_by (own := [("end", 1)]) (N := N_mean_of_most) (sc := defScope (topS 33)) (by decide +kernel)) (fun _ _ _ _ _ => (sg_name 1 gd.nd)) (fun _ _ _ _ _ => sts_nil) (fun _ _ _ _ _ => (se_call g_times (hr.mono (by decide)) takes0 (sa_cons (se_call g_chance_of (hr.mono (by decide)) takes0 (sa_cons (se_var 0) (sa_cons (se_var 1) sa_nil))) (sa_cons (se_tup (sa_cons (se_call g_most_along (hr.mono (by decide)) takes0 (sa_cons (se_var 0) (sa_cons (se_var 1) sa_nil))) (sa_cons se_int sa_nil))) sa_nil))))) sa_nil)))))
theorem s_chance_reached (T : Top K mg cl.c) (g_look_game : Fn P w K mg base cl 12 "look_game" 1 d_look_game) (g_ends_of : Fn P w K mg base cl 11 "ends_of" 1 d_ends_of) (g_most_along : Fn P w K mg base cl 3 "most_along" 2 d_most_along) (g_chance_of : Fn P w K mg base cl 4 "chance_of" 2 d_chance_of) (g_all_plus : Fn P w K mg base cl 4 "all_plus" 1 d_all_plus) : Fn P w K mg base cl 13 "chance_reached" 2 d_chance_reached := by
  obtain ⟨f, fd, F, hm, hb⟩ := T.f_chance_reached
  exact fn_mk (k := 12) (own := []) F sc_chance_reached hm hb rfl rfl fun cdv A outer s H E gd hr =>
      (ss_cons (ss_expr (own := []) (se_call g_look_game (hr.mono (by decide)) gd.tk (sa_cons (se_var 0) sa_nil)))
      (ss_one (ss_ret (own := []) (se_call g_all_plus (hr.mono (by decide)) gd.tk (sa_cons (se_lc gd.calm gd.nd (si_seq (se_call g_ends_of (hr.mono (by decide)) gd.tk (sa_cons (se_var 0) sa_nil))) (blkOk_by (own := [("end", 2)]) (N := N_chance_reached) (sc := defScope (topS 34)) (by decide +kernel)) (fun _ _ _ _ _ => (sg_name 2 gd.nd)) (fun _ _ _ _ _ => (sts_one (st_cmp os_ge (se_call g_most_along (hr.mono (by decide)) takes0 (sa_cons (se_var 0) (sa_cons (se_var 2) sa_nil))) (se_var 1)))) (fun _ _ _ _ _ => (se_call g_chance_of (hr.mono (by decide)) takes0 (sa_cons (se_var 0) (sa_cons (se_var 2) sa_nil))))) sa_nil)))))
theorem s_mean_square (T : Top K mg cl.c) (g_look_game : Fn P w K mg base cl 12 "look_game" 1 d_look_game) (g_ends_of : Fn P w K mg base cl 11 "ends_of" 1 d_ends_of) (g_part_of : Fn P w K mg base cl 2 "part_of" 2 d_part_of) (g_chance_of : Fn P w K mg base cl 4 "chance_of" 2 d_chance_of) (g_times : Fn P w K mg base cl 3 "times" 2 d_times) (g_all_plus : Fn P w K mg base cl 4 "all_plus" 1 d_all_plus) : Fn P w K mg base cl 13 "mean_square" 1 d_mean_square := by
  obtain ⟨f, fd, F, hm, hb⟩ := T.f_mean_square
  exact fn_mk (k := 12) (own := []) F sc_mean_square hm hb rfl rfl fun cdv A outer s H E gd hr =>
      (ss_cons (ss_expr (own := []) (se_call g_look_game (hr.mono (by decide)) gd.tk (sa_cons (se_var 0) sa_nil)))
      (ss_cons (ss_setLc (ow := []) (i := 1) gd (si_seq (se_call g_ends_of (hr.mono (by decide)) gd.tk (sa_cons (se_var 0) sa_nil))) (blkOk_by (own := [("end", 2)]) (N := N_mean_square) (sc := defScope (topS 35)) (by decide +kernel)) (fun _ _ _ _ _ => (sg_name 2 gd.nd)) (fun _ _ _ _ _ => sts_nil) (fun _ _ _ _ _ => (se_tup (sa_cons (se_call g_chance_of (hr.mono (by decide)) takes0 (sa_cons (se_var 0) (sa_cons (se_var 2) sa_nil))) (sa_cons (se_ixD (u65 hr) (se_call g_part_of (hr.mono (by decide)) takes0 (sa_cons (se_var 0) (sa_cons (se_var 2) sa_nil))) se_int) sa_nil)))))
      (ss_one (ss_ret (own := [1]) (se_call g_all_plus (hr.mono (by decide)) gd.tk (sa_cons (se_lc gd.calm gd.nd (si_seq (se_var 1)) (blkOk_by (own := [("here", 3), ("one", 4)]) (N := N_mean_square) (sc := defScope (topS 35)) (by decide +kernel)) (fun _ _ _ _ _ => (sg_tup gd.calm (sgs_cons (sg_name 3 gd.nd) (sgs_cons (sg_name 4 gd.nd) sgs_nil)))) (fun _ _ _ _ _ => sts_nil) (fun _ _ _ _ _ => (se_call g_times (hr.mono (by decide)) takes0 (sa_cons (se_var 3) (sa_cons (se_tup (sa_cons (se_op os_times (se_var 4) (se_var 4)) (sa_cons se_int sa_nil))) sa_nil))))) sa_nil))))))
theorem s_mean_steps (T : Top K mg cl.c) (g_look_game : Fn P w K mg base cl 12 "look_game" 1 d_look_game) (g_part_of : Fn P w K mg base cl 2 "part_of" 2 d_part_of) (g_chance_of : Fn P w K mg base cl 4 "chance_of" 2 d_chance_of) (g_times : Fn P w K mg base cl 3 "times" 2 d_times) (g_ways_of : Fn P w K mg base cl 1 "ways_of" 1 d_ways_of) (g_going : Fn P w K mg base cl 11 "going" 1 d_going) (g_all_plus : Fn P w K mg base cl 4 "all_plus" 1 d_all_plus) : Fn P w K mg base cl 13 "mean_steps" 1 d_mean_steps := by
  obtain ⟨f, fd, F, hm, hb⟩ := T.f_mean_steps
  exact fn_mk (k := 12) (own := []) F sc_mean_steps hm hb rfl rfl fun cdv A outer s H E gd hr =>
      (ss_cons (ss_expr (own := []) (se_call g_look_game (hr.mono (by decide)) gd.tk (sa_cons (se_var 0) sa_nil)))
      (ss_cons (ss_setN (own := []) (i := 1) gd (sn_lst sa_nil))
      (ss_cons (ss_for (own := [1]) gd (si_seq (se_call g_going (hr.mono (by decide)) gd.tk (sa_cons (se_var 0) sa_nil))) (sg_name 2 gd.nd) (ss_cons (ss_set (own := [1]) (i := 3) gd (se_call g_part_of (hr.mono (by decide)) gd.tk (sa_cons (se_var 0) (sa_cons (se_var 2) sa_nil))))
      (ss_one (ss_for (own := [1]) gd (si_enum (sa_cons (se_call g_ways_of (hr.mono (by decide)) gd.tk (sa_cons (se_var 3) sa_nil)) sa_nil) T.m_enumerate) (sg_tup gd.calm (sgs_cons (sg_name 4 gd.nd) (sgs_cons (sg_tup gd.calm (sgs_cons (sg_name 5 gd.nd) (sgs_cons (sg_name 6 gd.nd) sgs_nil))) sgs_nil))) (ss_cons (ss_set (own := [1]) (i := 7) gd (se_op os_sub (se_ixD (u65 hr) (se_var 6) se_int) (se_ixD (u65 hr) (se_var 3) se_int)))
      (ss_one (ss_app (own := [1]) (i := 1) (se_call g_times (hr.mono (by decide)) gd.tk (sa_cons (se_call g_chance_of (hr.mono (by decide)) gd.tk (sa_cons (se_var 0) (sa_cons (se_op os_plus (se_var 2) (se_tup (sa_cons (se_var 4) sa_nil))) sa_nil))) (sa_cons (se_tup (sa_cons (se_op os_times (se_var 7) (se_var 7)) (sa_cons se_int sa_nil))) sa_nil))))))))))
      (ss_one (ss_ret (own := [1]) (se_call g_all_plus (hr.mono (by decide)) gd.tk (sa_cons (se_var 1) sa_nil)))))))
theorem s_gain_at (T : Top K mg cl.c) (g_times : Fn P w K mg base cl 3 "times" 2 d_times) (g_plus : Fn P w K mg base cl 3 "plus" 2 d_plus) (g_shares_of : Fn P w K mg base cl 3 "shares_of" 1 d_shares_of) (g_ways_of : Fn P w K mg base cl 1 "ways_of" 1 d_ways_of) : Fn P w K mg base cl 4 "gain_at" 1 d_gain_at := by
  obtain ⟨f, fd, F, hm, hb⟩ := T.f_gain_at
  exact fn_mk (k := 3) (own := []) F sc_gain_at hm hb rfl rfl fun cdv A outer s H E gd hr =>
      (ss_cons (ss_set (own := []) (i := 1) gd (se_tup (sa_cons se_int (sa_cons se_int sa_nil))))
      (ss_cons (ss_for (own := []) gd (si_zip (sa_cons (se_call g_ways_of (hr.mono (by decide)) gd.tk (sa_cons (se_var 0) sa_nil)) (sa_cons (se_call g_shares_of (hr.mono (by decide)) gd.tk (sa_cons (se_var 0) sa_nil)) sa_nil)) T.m_zip) (sg_tup gd.calm (sgs_cons (sg_tup gd.calm (sgs_cons (sg_name 2 gd.nd) (sgs_cons (sg_name 3 gd.nd) sgs_nil))) (sgs_cons (sg_name 4 gd.nd) sgs_nil))) (ss_one (ss_set (own := []) (i := 1) gd (se_call g_plus (hr.mono (by decide)) gd.tk (sa_cons (se_var 1) (sa_cons (se_call g_times (hr.mono (by decide)) gd.tk (sa_cons (se_var 4) (sa_cons (se_tup (sa_cons (se_op os_sub (se_ixD (u65 hr) (se_var 3) se_int) (se_ixD (u65 hr) (se_var 0) se_int)) (sa_cons se_int sa_nil))) sa_nil))) sa_nil))))))
      (ss_one (ss_ret (own := []) (se_var 1)))))
theorem s_gains_of (T : Top K mg cl.c) (g_going : Fn P w K mg base cl 11 "going" 1 d_going) (g_part_of : Fn P w K mg base cl 2 "part_of" 2 d_part_of) (g_gain_at : Fn P w K mg base cl 4 "gain_at" 1 d_gain_at) : Fn P w K mg base cl 12 "gains_of" 1 d_gains_of := by
  obtain ⟨f, fd, F, hm, hb⟩ := T.f_gains_of
  exact fn_mk (k := 11) (own := []) F sc_gains_of hm hb rfl rfl fun cdv A outer s H E gd hr =>
      (ss_one (ss_ret (own := []) (se_lc gd.calm gd.nd (si_seq (se_call g_going (hr.mono (by decide)) gd.tk (sa_cons (se_var 0) sa_nil))) (blkOk_by (own := [("path", 1)]) (N := N_gains_of) (sc := defScope (topS 39)) (by decide +kernel)) (fun _ _ _ _ _ => (sg_name 1 gd.nd)) (fun _ _ _ _ _ => sts_nil) (fun _ _ _ _ _ => (se_call g_gain_at (hr.mono (by decide)) takes0 (sa_cons (se_call g_part_of (hr.mono (by decide)) takes0 (sa_cons (se_var 0) (sa_cons (se_var 1) sa_nil))) sa_nil))))))
theorem s_is_fair (T : Top K mg cl.c) (g_look_game : Fn P w K mg base cl 12 "look_game" 1 d_look_game) (g_gains_of : Fn P w K mg base cl 12 "gains_of" 1 d_gains_of) : Fn P w K mg base cl 13 "is_fair" 1 d_is_fair := by
  obtain ⟨f, fd, F, hm, hb⟩ := T.f_is_fair
  exact fn_mk (k := 12) (own := []) F sc_is_fair hm hb rfl rfl fun cdv A outer s H E gd hr =>
      (ss_cons (ss_expr (own := []) (se_call g_look_game (hr.mono (by decide)) gd.tk (sa_cons (se_var 0) sa_nil)))
      (ss_one (ss_ret (own := []) (se_callB (cs_all gd.calm) (by decide +kernel) (sa_cons (se_lc gd.calm gd.nd (si_seq (se_call g_gains_of (hr.mono (by decide)) gd.tk (sa_cons (se_var 0) sa_nil))) (blkOk_by (own := [("one", 1)]) (N := N_is_fair) (sc := defScope (topS 40)) (by decide +kernel)) (fun _ _ _ _ _ => (sg_name 1 gd.nd)) (fun _ _ _ _ _ => sts_nil) (fun _ _ _ _ _ => (se_cmp (os_eq hr.units) (se_ixD (u65 hr) (se_var 1) se_int) se_int))) sa_nil) T.m_all))))
theorem s__law_cell (T : Top K mg cl.c)  : Fn P w K mg base cl 1 "_law_cell" 2 d__law_cell := by
  obtain ⟨f, fd, F, hm, hb⟩ := T.f__law_cell
  exact fn_mk (k := 0) (own := []) F sc__law_cell hm hb rfl rfl fun cdv A outer s H E gd hr =>
      (ss_cons (ss_if (own := []) (own1 := []) (st_cmp os_lt (se_var 1) (se_callB cs_len (by decide +kernel) (sa_cons (se_var 0) sa_nil) T.m_len)) (ss_one (ss_ret (own := []) (se_ixD (u65 hr) (se_var 0) (se_var 1)))) ss_nil)
      (ss_cons (ss_if (own := []) (own1 := []) (st_cmp (os_eq hr.units) (se_var 0) (se_lst sa_nil)) (ss_one (ss_ret (own := []) se_int)) ss_nil)
      (ss_one (ss_ret (own := []) (se_op os_plus (se_op os_times (se_ixD (u65 hr) (se_var 0) (se_op os_mod (se_var 1) (se_callB cs_len (by decide +kernel) (sa_cons (se_var 0) sa_nil) T.m_len))) se_int) (se_var 1))))))
theorem s__law_pick (T : Top K mg cl.c) (g__law_cell : Fn P w K mg base cl 1 "_law_cell" 2 d__law_cell) : Fn P w K mg base cl 2 "_law_pick" 3 d__law_pick := by
  obtain ⟨f, fd, F, hm, hb⟩ := T.f__law_pick
  exact fn_mk (k := 1) (own := []) F sc__law_pick hm hb rfl rfl fun cdv A outer s H E gd hr =>
      (ss_cons (ss_set (own := []) (i := 3) gd (se_op os_mod (se_op os_times (se_op os_plus (se_call g__law_cell (hr.mono (by decide)) gd.tk (sa_cons (se_var 0) (sa_cons (se_var 1) sa_nil))) (se_op os_times se_int (se_op os_plus (se_var 1) se_int))) se_int) se_int))
      (ss_one (ss_ret (own := []) (se_op os_mod (se_op os_mod (se_op os_plus (se_op os_times (se_var 3) (se_var 3)) (se_op os_div (se_var 3) se_int)) se_int) (se_var 2)))))
theorem s__law_game (T : Top K mg cl.c) (g__law_pick : Fn P w K mg base cl 2 "_law_pick" 3 (dPick pk)) : ∀ n : Nat, Fn P w K mg base cl (3 + n) "_law_game" 5 (d__law_game pk n) := by
  intro n
  induction n with
  | zero =>
    skip
    obtain ⟨f, fd, F, hm, hb⟩ := T.f__law_game
    exact Fn.none F hm hb rfl
  | succ n ih =>
    have G__law_game := ih
    skip
    · obtain ⟨f, fd, F, hm, hb⟩ := T.f__law_game
      exact fn_mk (k := 3 + n) (own := []) F sc__law_game hm hb rfl rfl fun cdv A outer s H E gd hr =>
        (ss_cons (ss_set (own := []) (i := 5) gd (se_op os_times se_int (se_var 1)))
      (ss_cons (ss_set (own := []) (i := 6) gd (se_ixD (u65 hr) (se_lst (sa_cons se_int (sa_cons se_int (sa_cons se_int (sa_cons se_int (sa_cons se_int sa_nil)))))) (se_call g__law_pick (hr.mono (by omega)) gd.tk (sa_cons (se_var 0) (sa_cons (se_var 5) (sa_cons se_int sa_nil))))))
      (ss_cons (ss_if (own := []) (own1 := []) (st_cmp (os_eq hr.units) (se_var 1) se_int) (ss_one (ss_set (own := []) (i := 6) gd (se_callB (cs_max2 gd.calm) (by decide +kernel) (sa_cons se_int (sa_cons (se_var 6) sa_nil)) T.m_max))) ss_nil)
      (ss_cons (ss_if (own := []) (own1 := []) (SW.st (sw_or (st_cmp (os_eq hr.units) (se_var 3) se_int) (sw_one (st_cmp (os_eq hr.units) (se_var 6) se_int)))) (ss_one (ss_ret (own := []) (se_tup (sa_cons (se_var 2) sa_nil)))) ss_nil)
      (ss_cons (ss_setN (own := []) (i := 7) gd (sn_lst sa_nil))
      (ss_cons (ss_if (own := [7]) (own1 := []) (st_truth (se_var 4)) (ss_cons (ss_par (own := [7]) (i := 12) (j := 13) gd (sa_cons (se_op os_plus se_int (se_call g__law_pick (hr.mono (by omega)) gd.tk (sa_cons (se_var 0) (sa_cons (se_op os_plus (se_var 5) se_int) (sa_cons se_int sa_nil))))) (sa_cons (se_op os_plus se_int (se_call g__law_pick (hr.mono (by omega)) gd.tk (sa_cons (se_var 0) (sa_cons (se_op os_plus (se_var 5) se_int) (sa_cons se_int sa_nil))))) sa_nil)))
      (ss_cons (ss_setN (own := [7]) (i := 7) gd (sn_lst (sa_cons (se_tup (sa_cons (se_var 13) (sa_cons (se_var 12) sa_nil))) (sa_cons (se_tup (sa_cons (se_var 12) (sa_cons (se_op os_sub se_int (se_var 13)) sa_nil))) (sa_cons (se_tup (sa_cons (se_op os_plus se_int (se_call g__law_pick (hr.mono (by omega)) gd.tk (sa_cons (se_var 0) (sa_cons (se_op os_plus (se_var 5) se_int) (sa_cons se_int sa_nil))))) (sa_cons se_int sa_nil))) sa_nil)))))
      (ss_one (SS.pre (own := [7]) (ss_set (own := []) (i := 7) gd (se_if (st_cmp (os_eq hr.units) (se_var 6) se_int) (se_slice (se_var 7) (so_some se_int) so_none) (se_slice (se_var 7) so_none (so_some (se_var 6))))))))) (SSs.post (own2 := []) (ss_one (ss_for (own := [7]) gd (si_range1 (sa_cons (se_var 6) sa_nil) T.m_range) (sg_name 9 gd.nd) (ss_one (ss_app (own := [7]) (i := 7) (se_tup (sa_cons (se_op os_plus se_int (se_call g__law_pick (hr.mono (by omega)) gd.tk (sa_cons (se_var 0) (sa_cons (se_op os_plus (se_op os_plus (se_var 5) se_int) (se_var 9)) (sa_cons se_int sa_nil))))) (sa_cons (se_op os_sub (se_call g__law_pick (hr.mono (by omega)) gd.tk (sa_cons (se_var 0) (sa_cons (se_op os_plus (se_op os_plus (se_var 5) se_int) (se_var 9)) (sa_cons se_int sa_nil)))) se_int) sa_nil)))))))))
      (ss_cons (ss_if (own := []) (own1 := []) (st_cmp (os_eq hr.units) (se_call g__law_pick (hr.mono (by omega)) gd.tk (sa_cons (se_var 0) (sa_cons (se_op os_plus (se_var 5) se_int) (sa_cons se_int sa_nil)))) se_int) (ss_one (ss_set (own := []) (i := 7) gd (se_revA (se_var 7)))) ss_nil)
      (ss_cons (ss_setN (own := []) (i := 8) gd (sn_lst sa_nil))
      (ss_cons (ss_for (own := [8]) gd (si_enum (sa_cons (se_var 7) sa_nil) T.m_enumerate) (sg_tup gd.calm (sgs_cons (sg_name 9 gd.nd) (sgs_cons (sg_tup gd.calm (sgs_cons (sg_name 10 gd.nd) (sgs_cons (sg_name 11 gd.nd) sgs_nil))) sgs_nil))) (ss_one (ss_app (own := [8]) (i := 8) (se_tup (sa_cons (se_var 10) (sa_cons (se_call G__law_game (hr.mono (by omega)) gd.tk (sa_cons (se_var 0) (sa_cons (se_op os_plus (se_op os_plus (se_op os_times se_int (se_var 1)) se_int) (se_var 9)) (sa_cons (se_op os_plus (se_var 2) (se_var 11)) (sa_cons (se_op os_sub (se_var 3) se_int) (sa_cons (se_var 4) sa_nil)))))) sa_nil))))))
      (ss_one (ss_ret (own := [8]) (se_tup (sa_cons (se_var 2) (sa_cons (se_callTy cs_tuple (by decide +kernel) (sa_cons (se_var 8) sa_nil) T.m_tuple) sa_nil))))))))))))))
theorem s__law_drawn (T : Top K mg cl.c) (g__law_pick : Fn P w K mg base cl 2 "_law_pick" 3 (dPick pk)) (g__law_game : Fn P w K mg base cl 11 "_law_game" 5 (d__law_game pk 8)) : Fn P w K mg base cl 12 "_law_drawn" 2 (d__law_drawn pk) := by
  obtain ⟨f, fd, F, hm, hb⟩ := T.f__law_drawn
  exact fn_mk (k := 11) (own := []) F sc__law_drawn hm hb rfl rfl fun cdv A outer s H E gd hr =>
      (ss_one (ss_ret (own := []) (se_call g__law_game (hr.mono (by decide)) gd.tk (sa_cons (se_var 0) (sa_cons se_int (sa_cons (se_op os_sub (se_call g__law_pick (hr.mono (by decide)) gd.tk (sa_cons (se_var 0) (sa_cons se_int (sa_cons se_int sa_nil)))) se_int) (sa_cons (se_var 1) (sa_cons (se_cmp (os_eq hr.units) (se_call g__law_pick (hr.mono (by decide)) gd.tk (sa_cons (se_var 0) (sa_cons se_int (sa_cons se_int sa_nil)))) se_int) sa_nil))))))))
theorem s__law_ways (T : Top K mg cl.c)  : Fn P w K mg base cl 1 "_law_ways" 1 d__law_ways := by
  obtain ⟨f, fd, F, hm, hb⟩ := T.f__law_ways
  exact fn_mk (k := 0) (own := []) F sc__law_ways hm hb rfl rfl fun cdv A outer s H E gd hr =>
      (ss_one (ss_ret (own := []) (se_if (st_cmp (os_eq hr.units) (se_callB cs_len (by decide +kernel) (sa_cons (se_var 0) sa_nil) T.m_len) se_int) (se_ixD (u65 hr) (se_var 0) se_int) (se_tup sa_nil))))
theorem s__law_low (T : Top K mg cl.c)  : Fn P w K mg base cl 1 "_law_low" 2 d__law_low := by
  obtain ⟨f, fd, F, hm, hb⟩ := T.f__law_low
  exact fn_mk (k := 0) (own := []) F sc__law_low hm hb rfl rfl fun cdv A outer s H E gd hr =>
      (ss_cons (ss_par (own := []) (i := 2) (j := 3) gd (sa_cons (se_callB cs_abs (by decide +kernel) (sa_cons (se_var 0) sa_nil) T.m_abs) (sa_cons (se_callB cs_abs (by decide +kernel) (sa_cons (se_var 1) sa_nil) T.m_abs) sa_nil)))
      (ss_cons (ss_while (own := []) (fuelI 3) gd (st_cmp (os_ne hr.units) (se_var 3) se_int) (ss_one (ss_par (own := []) (i := 2) (j := 3) gd (sa_cons (se_var 3) (sa_cons (se_op os_mod (se_var 2) (se_var 3)) sa_nil)))))
      (ss_one (ss_ret (own := []) (se_if (st_cmp os_gt (se_var 1) se_int) (se_tup (sa_cons (se_op os_div (se_var 0) (se_var 2)) (sa_cons (se_op os_div (se_var 1) (se_var 2)) sa_nil))) (se_tup (sa_cons (se_op os_sub se_int (se_op os_div (se_var 0) (se_var 2))) (sa_cons (se_op os_sub se_int (se_op os_div (se_var 1) (se_var 2))) sa_nil))))))))
theorem s__law_walk (T : Top K mg cl.c) (g__law_ways : Fn P w K mg base cl 1 "_law_ways" 1 d__law_ways) (g__law_low : Fn P w K mg base cl 1 "_law_low" 2 d__law_low) : ∀ n : Nat, Fn P w K mg base cl (2 + n) "_law_walk" 1 (d__law_walk n) := by
  intro n
  induction n with
  | zero =>
    skip
    obtain ⟨f, fd, F, hm, hb⟩ := T.f__law_walk
    exact Fn.none F hm hb rfl
  | succ n ih =>
    have G__law_walk := ih
    skip
    · obtain ⟨f, fd, F, hm, hb⟩ := T.f__law_walk
      exact fn_mk (k := 2 + n) (own := []) F sc__law_walk hm hb rfl rfl fun cdv A outer s H E gd hr =>
        (ss_cons (ss_setN (own := []) (i := 1) gd (sn_lst (sa_cons (se_tup (sa_cons (se_tup sa_nil) (sa_cons (se_var 0) (sa_cons (se_tup (sa_cons se_int (sa_cons se_int sa_nil))) sa_nil)))) sa_nil)))
      (ss_cons (ss_set (own := [1]) (i := 2) gd (se_callB (cs_sum gd.calm) (by decide +kernel) (sa_cons (se_lc gd.calm gd.nd (si_seq (se_call g__law_ways (hr.mono (by omega)) gd.tk (sa_cons (se_var 0) sa_nil))) (blkOk_by (own := [("weight", 4), ("later", 5)]) (N := N__law_walk) (sc := defScope (topS 47)) (by decide +kernel)) (fun _ _ _ _ _ => (sg_tup gd.calm (sgs_cons (sg_name 4 gd.nd) (sgs_cons (sg_name 5 gd.nd) sgs_nil)))) (fun _ _ _ _ _ => sts_nil) (fun _ _ _ _ _ => (se_var 4))) sa_nil) T.m_sum))
      (ss_cons (ss_for (own := [1]) gd (si_enum (sa_cons (se_call g__law_ways (hr.mono (by omega)) gd.tk (sa_cons (se_var 0) sa_nil)) sa_nil) T.m_enumerate) (sg_tup gd.calm (sgs_cons (sg_name 3 gd.nd) (sgs_cons (sg_tup gd.calm (sgs_cons (sg_name 4 gd.nd) (sgs_cons (sg_name 5 gd.nd) sgs_nil))) sgs_nil))) (ss_one (ss_for (own := [1]) gd (si_seq (se_call G__law_walk (hr.mono (by omega)) gd.tk (sa_cons (se_var 5) sa_nil))) (sg_tup gd.calm (sgs_cons (sg_name 6 gd.nd) (sgs_cons (sg_name 7 gd.nd) (sgs_cons (sg_name 8 gd.nd) sgs_nil)))) (ss_one (ss_app (own := [1]) (i := 1) (se_tup (sa_cons (se_op os_plus (se_tup (sa_cons (se_var 3) sa_nil)) (se_var 6)) (sa_cons (se_var 7) (sa_cons (se_call g__law_low (hr.mono (by omega)) gd.tk (sa_cons (se_op os_times (se_ixD (u65 hr) (se_var 8) se_int) (se_var 4)) (sa_cons (se_op os_times (se_ixD (u65 hr) (se_var 8) se_int) (se_var 2)) sa_nil))) sa_nil)))))))))
      (ss_one (ss_ret (own := [1]) (se_var 1))))))
theorem s__law_sum (T : Top K mg cl.c) (g__law_low : Fn P w K mg base cl 1 "_law_low" 2 d__law_low) : Fn P w K mg base cl 2 "_law_sum" 1 d__law_sum := by
  obtain ⟨f, fd, F, hm, hb⟩ := T.f__law_sum
  exact fn_mk (k := 1) (own := []) F sc__law_sum hm hb rfl rfl fun cdv A outer s H E gd hr =>
      (ss_cons (ss_asg (own := []) (se_tup (sa_cons se_int (sa_cons se_int sa_nil))) (sg_tup gd.calm (sgs_cons (sg_name 1 gd.nd) (sgs_cons (sg_name 2 gd.nd) sgs_nil))))
      (ss_cons (ss_for (own := []) gd (si_seq (se_var 0)) (sg_name 3 gd.nd) (ss_one (ss_asg (own := []) (se_call g__law_low (hr.mono (by decide)) gd.tk (sa_cons (se_op os_plus (se_op os_times (se_var 1) (se_ixD (u65 hr) (se_var 3) se_int)) (se_op os_times (se_ixD (u65 hr) (se_var 3) se_int) (se_var 2))) (sa_cons (se_op os_times (se_var 2) (se_ixD (u65 hr) (se_var 3) se_int)) sa_nil))) (sg_tup gd.calm (sgs_cons (sg_name 1 gd.nd) (sgs_cons (sg_name 2 gd.nd) sgs_nil))))))
      (ss_one (ss_ret (own := []) (se_tup (sa_cons (se_var 1) (sa_cons (se_var 2) sa_nil)))))))
theorem s__law_prod (T : Top K mg cl.c) (g__law_low : Fn P w K mg base cl 1 "_law_low" 2 d__law_low) : Fn P w K mg base cl 2 "_law_prod" 2 d__law_prod := by
  obtain ⟨f, fd, F, hm, hb⟩ := T.f__law_prod
  exact fn_mk (k := 1) (own := []) F sc__law_prod hm hb rfl rfl fun cdv A outer s H E gd hr =>
      (ss_one (ss_ret (own := []) (se_call g__law_low (hr.mono (by decide)) gd.tk (sa_cons (se_op os_times (se_ixD (u65 hr) (se_var 0) se_int) (se_ixD (u65 hr) (se_var 1) se_int)) (sa_cons (se_op os_times (se_ixD (u65 hr) (se_var 0) se_int) (se_ixD (u65 hr) (se_var 1) se_int)) sa_nil)))))
theorem s__law_places (T : Top K mg cl.c)  : ∀ n : Nat, Fn P w K mg base cl (1 + n) "_law_places" 1 (d__law_places n) := by
  intro n
  induction n with
  | zero =>
    skip
    obtain ⟨f, fd, F, hm, hb⟩ := T.f__law_places
    exact Fn.none F hm hb rfl
  | succ n ih =>
    have G__law_places := ih
    skip
    · obtain ⟨f, fd, F, hm, hb⟩ := T.f__law_places
      exact fn_mk (k := 1 + n) (own := []) F sc__law_places hm hb rfl rfl fun cdv A outer s H E gd hr =>
        (ss_cons (ss_setN (own := []) (i := 1) gd (sn_lst (sa_cons (se_tup sa_nil) sa_nil)))
      (ss_cons (ss_if (own := [1]) (own1 := [1]) (st_truth (se_isiT kit_tup (by decide +kernel) (se_var 0) T.m_isinstance T.m_tuple)) (ss_one (ss_for (own := [1]) gd (si_range1 (sa_cons (se_callB cs_len (by decide +kernel) (sa_cons (se_var 0) sa_nil) T.m_len) sa_nil) T.m_range) (sg_name 2 gd.nd) (ss_one (ss_ext (own := [1]) (i := 1) (se_lc gd.calm gd.nd (si_seq (se_call G__law_places (hr.mono (by omega)) gd.tk (sa_cons (se_ixD (u65 hr) (se_var 0) (se_var 2)) sa_nil))) (blkOk_by (own := [("place", 3)]) (N := N__law_places) (sc := defScope (topS 51)) (by decide +kernel)) (fun _ _ _ _ _ => (sg_name 3 gd.nd)) (fun _ _ _ _ _ => sts_nil) (fun _ _ _ _ _ => (se_op os_plus (se_tup (sa_cons (se_var 2) sa_nil)) (se_var 3)))))))) ss_nil)
      (ss_one (ss_ret (own := [1]) (se_var 1)))))
theorem s__law_put (T : Top K mg cl.c)  : ∀ n : Nat, Fn P w K mg base cl (1 + n) "_law_put" 3 (d__law_put n) := by
  intro n
  induction n with
  | zero =>
    skip
    obtain ⟨f, fd, F, hm, hb⟩ := T.f__law_put
    exact Fn.none F hm hb rfl
  | succ n ih =>
    have G__law_put := ih
    skip
    · obtain ⟨f, fd, F, hm, hb⟩ := T.f__law_put
      exact fn_mk (k := 1 + n) (own := []) F sc__law_put hm hb rfl rfl fun cdv A outer s H E gd hr =>
        (ss_cons (ss_if (own := []) (own1 := []) (st_cmp (os_eq hr.units) (se_var 1) (se_tup sa_nil)) (ss_one (ss_ret (own := []) (se_var 2))) ss_nil)
      (ss_cons (ss_set (own := []) (i := 3) gd (se_ixD (u65 hr) (se_var 1) se_int))
      (ss_one (ss_ret (own := []) (se_op os_plus (se_op os_plus (se_slice (se_var 0) so_none (so_some (se_var 3))) (se_tup (sa_cons (se_call G__law_put (hr.mono (by omega)) gd.tk (sa_cons (se_ixD (u65 hr) (se_var 0) (se_var 3)) (sa_cons (se_slice (se_var 1) (so_some se_int) so_none) (sa_cons (se_var 2) sa_nil)))) sa_nil))) (se_slice (se_var 0) (so_some (se_op os_plus (se_var 3) se_int)) so_none))))))
theorem s__law_spoilt_thing (T : Top K mg cl.c) (g__law_places : Fn P w K mg base cl 25 "_law_places" 1 (d__law_places 24)) (g__law_pick : Fn P w K mg base cl 2 "_law_pick" 3 (dPick pk)) (g__law_put : Fn P w K mg base cl 25 "_law_put" 3 (d__law_put 24)) : Fn P w K mg base cl 26 "_law_spoilt_thing" 3 (d__law_spoilt_thing pk) := by
  obtain ⟨f, fd, F, hm, hb⟩ := T.f__law_spoilt_thing
  exact fn_mk (k := 25) (own := []) F sc__law_spoilt_thing hm hb rfl rfl fun cdv A outer s H E gd hr =>
      (ss_cons (ss_set (own := []) (i := 3) gd (se_call g__law_places (hr.mono (by decide)) gd.tk (sa_cons (se_var 2) sa_nil)))
      (ss_cons (ss_set (own := []) (i := 4) gd (se_ixD (u65 hr) (se_var 3) (se_call g__law_pick (hr.mono (by decide)) gd.tk (sa_cons (se_var 0) (sa_cons (se_var 1) (sa_cons (se_callB cs_len (by decide +kernel) (sa_cons (se_var 3) sa_nil) T.m_len) sa_nil))))))
      (ss_cons (ss_set (own := []) (i := 5) gd (se_var 2))
      (ss_cons (ss_for (own := []) gd (si_seq (se_var 4)) (sg_name 6 gd.nd) (ss_one (ss_set (own := []) (i := 5) gd (se_ixD (u65 hr) (se_var 5) (se_var 6)))))
      (ss_cons (ss_set (own := []) (i := 7) gd (se_lst (sa_cons se_int (sa_cons se_int (sa_cons se_int (sa_cons se_int (sa_cons se_int (sa_cons se_int (sa_cons (se_neg se_int) (sa_cons (se_neg se_int) (sa_cons se_bl (sa_cons se_non (sa_cons se_str (sa_cons (se_tup sa_nil) (sa_cons (se_tup (sa_cons se_int sa_nil)) (sa_cons (se_tup (sa_cons se_int (sa_cons se_int sa_nil))) (sa_cons (se_lst (sa_cons se_int sa_nil)) (sa_cons (se_tup (sa_cons (se_var 5) sa_nil)) (sa_cons (se_tup (sa_cons (se_var 5) (sa_cons (se_var 5) sa_nil))) sa_nil)))))))))))))))))))
      (ss_cons (ss_set (own := []) (i := 8) gd (se_call g__law_pick (hr.mono (by decide)) gd.tk (sa_cons (se_var 0) (sa_cons (se_op os_plus (se_var 1) se_int) (sa_cons se_int sa_nil)))))
      (ss_cons (ss_if (own := []) (own1 := []) (st_cmp os_lt (se_var 8) se_int) (ss_one (ss_ret (own := []) (se_call g__law_put (hr.mono (by decide)) gd.tk (sa_cons (se_var 2) (sa_cons (se_var 4) (sa_cons (se_ixD (u65 hr) (se_var 7) (se_var 8)) sa_nil)))))) ss_nil)
      (ss_cons (ss_if (own := []) (own1 := []) (SW.st (sw_and (st_truth (se_isiT kit_tup (by decide +kernel) (se_var 5) T.m_isinstance T.m_tuple)) (sw_one (st_cmp (os_ne hr.units) (se_var 5) (se_tup sa_nil))))) (ss_cons (ss_set (own := []) (i := 6) gd (se_call g__law_pick (hr.mono (by decide)) gd.tk (sa_cons (se_var 0) (sa_cons (se_op os_plus (se_var 1) se_int) (sa_cons (se_callB cs_len (by decide +kernel) (sa_cons (se_var 5) sa_nil) T.m_len) sa_nil)))))
      (ss_one (ss_ret (own := []) (se_call g__law_put (hr.mono (by decide)) gd.tk (sa_cons (se_var 2) (sa_cons (se_var 4) (sa_cons (se_if (st_cmp os_lt (se_var 8) se_int) (se_op os_plus (se_slice (se_var 5) so_none (so_some (se_var 6))) (se_slice (se_var 5) (so_some (se_op os_plus (se_var 6) se_int)) so_none)) (se_op os_plus (se_slice (se_var 5) so_none (so_some (se_op os_plus (se_var 6) se_int))) (se_slice (se_var 5) (so_some (se_var 6)) so_none))) sa_nil))))))) ss_nil)
      (ss_one (ss_ret (own := []) (se_call g__law_put (hr.mono (by decide)) gd.tk (sa_cons (se_var 2) (sa_cons (se_var 4) (sa_cons (se_if (st_truth (se_isiT kit_int (by decide +kernel) (se_var 5) T.m_isinstance T.m_int)) (se_op os_sub se_int (se_var 5)) se_int) sa_nil))))))))))))))
theorem s__law_whole (T : Top K mg cl.c)  : Fn P w K mg base cl 1 "_law_whole" 3 d__law_whole := by
  obtain ⟨f, fd, F, hm, hb⟩ := T.f__law_whole
  exact fn_mk (k := 0) (own := []) F sc__law_whole hm hb rfl rfl fun cdv A outer s H E gd hr =>
      (ss_one (ss_ret (own := []) (se_and (se_isiT kit_int (by decide +kernel) (se_var 0) T.m_isinstance T.m_int) (se_and (se_not (se_isiT kit_bool (by decide +kernel) (se_var 0) T.m_isinstance T.m_bool)) (se_one (se_chain os_le os_le (se_var 1) (se_var 0) (se_var 2)))))))
theorem s__law_is_game (T : Top K mg cl.c) (g__law_whole : Fn P w K mg base cl 1 "_law_whole" 3 d__law_whole) : ∀ n : Nat, Fn P w K mg base cl (2 + n) "_law_is_game" 2 (d__law_is_game n) := by
  intro n
  induction n with
  | zero =>
    skip
    obtain ⟨f, fd, F, hm, hb⟩ := T.f__law_is_game
    exact Fn.none F hm hb rfl
  | succ n ih =>
    have G__law_is_game := ih
    skip
    · obtain ⟨f, fd, F, hm, hb⟩ := T.f__law_is_game
      exact fn_mk (k := 2 + n) (own := []) F sc__law_is_game hm hb rfl rfl fun cdv A outer s H E gd hr =>
        (ss_cons (ss_if (own := []) (own1 := []) (SW.st (sw_or (st_cmp os_lt (se_var 1) se_int) (sw_or (st_not (st_truth (se_isiT kit_tup (by decide +kernel) (se_var 0) T.m_isinstance T.m_tuple))) (sw_or (st_not (st_chain os_le os_le se_int (se_callB cs_len (by decide +kernel) (sa_cons (se_var 0) sa_nil) T.m_len) se_int)) (sw_one (st_not (st_truth (se_call g__law_whole (hr.mono (by omega)) gd.tk (sa_cons (se_ixD (u65 hr) (se_var 0) se_int) (sa_cons (se_neg se_int) (sa_cons se_int sa_nil))))))))))) (ss_one (ss_ret (own := []) se_bl)) ss_nil)
      (ss_cons (ss_if (own := []) (own1 := []) (st_cmp (os_eq hr.units) (se_callB cs_len (by decide +kernel) (sa_cons (se_var 0) sa_nil) T.m_len) se_int) (ss_one (ss_ret (own := []) se_bl)) ss_nil)
      (ss_cons (ss_if (own := []) (own1 := []) (SW.st (sw_or (st_not (st_truth (se_isiT kit_tup (by decide +kernel) (se_ixD (u65 hr) (se_var 0) se_int) T.m_isinstance T.m_tuple))) (sw_one (st_not (st_chain os_le os_le se_int (se_callB cs_len (by decide +kernel) (sa_cons (se_ixD (u65 hr) (se_var 0) se_int) sa_nil) T.m_len) se_int))))) (ss_one (ss_ret (own := []) se_bl)) ss_nil)
      (ss_cons (ss_for (own := []) gd (si_seq (se_ixD (u65 hr) (se_var 0) se_int)) (sg_name 2 gd.nd) (ss_cons (ss_if (own := []) (own1 := []) (SW.st (sw_or (st_not (st_truth (se_isiT kit_tup (by decide +kernel) (se_var 2) T.m_isinstance T.m_tuple))) (sw_or (st_cmp (os_ne hr.units) (se_callB cs_len (by decide +kernel) (sa_cons (se_var 2) sa_nil) T.m_len) se_int) (sw_one (st_not (st_truth (se_call g__law_whole (hr.mono (by omega)) gd.tk (sa_cons (se_ixD (u65 hr) (se_var 2) se_int) (sa_cons se_int (sa_cons se_int sa_nil)))))))))) (ss_one (ss_ret (own := []) se_bl)) ss_nil)
      (ss_one (ss_if (own := []) (own1 := []) (st_not (st_truth (se_call G__law_is_game (hr.mono (by omega)) gd.tk (sa_cons (se_ixD (u65 hr) (se_var 2) se_int) (sa_cons (se_op os_sub (se_var 1) se_int) sa_nil))))) (ss_one (ss_ret (own := []) se_bl)) ss_nil))))
      (ss_one (ss_ret (own := []) se_bl))))))
theorem s__law_word (T : Top K mg cl.c)  : Fn P w K mg base cl 1 "_law_word" 1 d__law_word := by
  obtain ⟨f, fd, F, hm, hb⟩ := T.f__law_word
  exact fn_mk (k := 0) (own := []) F sc__law_word hm hb rfl rfl fun cdv A outer s H E gd hr =>
      (ss_cons (ss_setN (own := []) (i := 1) gd (sn_lst (sa_cons (se_isiC T.xt T.k_NoBets T.x_NoBets.g (se_var 0) T.m_isinstance) (sa_cons (se_isiC T.xt T.k_NoGame T.x_NoGame.g (se_var 0) T.m_isinstance) (sa_cons (se_isiC T.xt T.k_NoPath T.x_NoPath.g (se_var 0) T.m_isinstance) (sa_cons (se_isiC T.xt T.k_NoRule T.x_NoRule.g (se_var 0) T.m_isinstance) sa_nil))))))
      (ss_cons (ss_ext (own := [1]) (i := 1) (se_lst (sa_cons (se_isiC T.xt T.k_NoText T.x_NoText.g (se_var 0) T.m_isinstance) (sa_cons (se_isiC T.xt T.k_Unpaid T.x_Unpaid.g (se_var 0) T.m_isinstance) sa_nil))))
      (ss_cons (ss_if (own := [1]) (own1 := [1]) (SW.st (sw_or (st_cmp (os_ne hr.units) (se_count (u65 hr) (se_var 1) se_bl) se_int) (sw_one (st_not (st_truth (se_isiB T.xt T.kv (by decide +kernel) (se_var 0) T.m_isinstance T.m_ValueError)))))) (ss_one (ss_ret (own := [1]) se_str)) ss_nil)
      (ss_one (ss_ret (own := [1]) (se_ixD (u65 hr) (se_lst (sa_cons se_str (sa_cons se_str (sa_cons se_str (sa_cons se_str (sa_cons se_str (sa_cons se_str sa_nil))))))) (se_index (u65 hr) (se_var 1) se_bl)))))))
theorem s__law_do (T : Top K mg cl.c) (g_mean_steps : Fn P w K mg base cl 13 "mean_steps" 1 d_mean_steps) (g_mean_square : Fn P w K mg base cl 13 "mean_square" 1 d_mean_square) (g_mean_of_most : Fn P w K mg base cl 13 "mean_of_most" 1 d_mean_of_most) (g_chance_reached : Fn P w K mg base cl 13 "chance_reached" 2 d_chance_reached) (g__law_word : Fn P w K mg base cl 1 "_law_word" 1 d__law_word) : Fn P w K mg base cl 14 "_law_do" 3 d__law_do := by
  obtain ⟨f, fd, F, hm, hb⟩ := T.f__law_do
  exact fn_mk (k := 13) (own := []) F sc__law_do hm hb rfl rfl fun cdv A outer s H E gd hr =>
      (ss_cons (ss_set (own := []) (i := 3) gd se_non)
      (ss_cons (ss_set (own := []) (i := 4) gd se_non)
      (ss_cons (ss_tryK (own := []) (own1 := []) (k := 3) (j := 5) gd rfl rfl rfl T.x_StopError.g T.xs (fun W' pn xe gd => (ss_one (ss_if (own := []) (own1 := []) (st_cmp os_lt (se_var 0) se_int) (ss_one (ss_set (own := []) (i := 4) gd (se_callIx (k := 13) (fl_cons g_mean_of_most (by decide) (fl_cons g_mean_square (by decide) (fl_cons g_mean_steps (by decide) fl_nil))) (se_var 0) (hr.mono (by decide)) gd.tk (sa_cons (se_var 1) sa_nil)))) (ss_one (ss_set (own := []) (i := 4) gd (se_call g_chance_reached (hr.mono (by decide)) gd.tk (sa_cons (se_var 1) (sa_cons (se_var 2) sa_nil)))))))))
      (ss_cons (ss_if (own := []) (own1 := []) (st_cmp os_is (se_var 3) se_non) (ss_one (ss_ret (own := []) (se_var 4))) ss_nil)
      (ss_one (ss_ret (own := []) (se_call g__law_word (hr.mono (by decide)) gd.tk (sa_cons (se_var 3) sa_nil))))))))
theorem s__law_lifted (T : Top K mg cl.c)  : ∀ n : Nat, Fn P w K mg base cl (1 + n) "_law_lifted" 2 (d__law_lifted n) := by
  intro n
  induction n with
  | zero =>
    skip
    obtain ⟨f, fd, F, hm, hb⟩ := T.f__law_lifted
    exact Fn.none F hm hb rfl
  | succ n ih =>
    have G__law_lifted := ih
    skip
    · obtain ⟨f, fd, F, hm, hb⟩ := T.f__law_lifted
      exact fn_mk (k := 1 + n) (own := []) F sc__law_lifted hm hb rfl rfl fun cdv A outer s H E gd hr =>
        (ss_cons (ss_if (own := []) (own1 := []) (st_cmp (os_eq hr.units) (se_callB cs_len (by decide +kernel) (sa_cons (se_var 0) sa_nil) T.m_len) se_int) (ss_one (ss_ret (own := []) (se_tup (sa_cons (se_op os_plus (se_ixD (u65 hr) (se_var 0) se_int) (se_var 1)) sa_nil)))) ss_nil)
      (ss_one (ss_ret (own := []) (se_tup (sa_cons (se_op os_plus (se_ixD (u65 hr) (se_var 0) se_int) (se_var 1)) (sa_cons (se_callTy cs_tuple (by decide +kernel) (sa_cons (se_lc gd.calm gd.nd (si_seq (se_ixD (u65 hr) (se_var 0) se_int)) (blkOk_by (own := [("weight", 2), ("later", 3)]) (N := N__law_lifted) (sc := defScope (topS 58)) (by decide +kernel)) (fun _ _ _ _ _ => (sg_tup gd.calm (sgs_cons (sg_name 2 gd.nd) (sgs_cons (sg_name 3 gd.nd) sgs_nil)))) (fun _ _ _ _ _ => sts_nil) (fun _ _ _ _ _ => (se_tup (sa_cons (se_var 2) (sa_cons (se_call G__law_lifted (hr.mono (by omega)) takes0 (sa_cons (se_var 3) (sa_cons (se_var 1) sa_nil))) sa_nil))))) sa_nil) T.m_tuple) sa_nil))))))
set_option maxHeartbeats 0 in
theorem s_law (T : Top K mg cl.c) (q__law_pick : ∀ F, Fn P w K mg base (cl.at F) 2 "_law_pick" 3 (dPick pk)) (h0 : ∀ k a, ¬ cl.ob k a) {f : Addr} {fd : FuncData} (F : Fun K "law" "law" (topS 59) f fd) : FnOk P w K mg base (L2.CX P w) 27 f fd ["script"] (spF K cl 1 (d_law pk)) := by
  have q_divisor : ∀ F, Fn P w K mg base (cl.at F) 1 "divisor" 2 d_divisor := fun F => s_divisor (cl := cl.at F) T 
  have q_share : ∀ F, Fn P w K mg base (cl.at F) 2 "share" 2 d_share := fun F => s_share (cl := cl.at F) T (q_divisor F)
  have q_plus : ∀ F, Fn P w K mg base (cl.at F) 3 "plus" 2 d_plus := fun F => s_plus (cl := cl.at F) T (q_share F)
  have q_times : ∀ F, Fn P w K mg base (cl.at F) 3 "times" 2 d_times := fun F => s_times (cl := cl.at F) T (q_share F)
  have q_all_plus : ∀ F, Fn P w K mg base (cl.at F) 4 "all_plus" 1 d_all_plus := fun F => s_all_plus (cl := cl.at F) T (q_plus F)
  have q_is_whole : ∀ F, Fn P w K mg base (cl.at F) 1 "is_whole" 3 d_is_whole := fun F => s_is_whole (cl := cl.at F) T 
  have q_is_game_in : ∀ F, Fn P w K mg base (cl.at F) 10 "is_game_in" 2 (d_is_game_in 8) := fun F => s_is_game_in (cl := cl.at F) T (q_is_whole F) 8
  have q_is_game : ∀ F, Fn P w K mg base (cl.at F) 11 "is_game" 1 d_is_game := fun F => s_is_game (cl := cl.at F) T (q_is_game_in F)
  have q_look_game : ∀ F, Fn P w K mg base (cl.at F) 12 "look_game" 1 d_look_game := fun F => s_look_game (cl := cl.at F) T (q_is_game F)
  have q_is_end : ∀ F, Fn P w K mg base (cl.at F) 1 "is_end" 1 d_is_end := fun F => s_is_end (cl := cl.at F) T 
  have q_ways_of : ∀ F, Fn P w K mg base (cl.at F) 1 "ways_of" 1 d_ways_of := fun F => s_ways_of (cl := cl.at F) T 
  have q_paths_of : ∀ F, Fn P w K mg base (cl.at F) 10 "paths_of" 1 (d_paths_of 8) := fun F => s_paths_of (cl := cl.at F) T (q_ways_of F) 8
  have q_part_of : ∀ F, Fn P w K mg base (cl.at F) 2 "part_of" 2 d_part_of := fun F => s_part_of (cl := cl.at F) T (q_ways_of F)
  have q_ends_of : ∀ F, Fn P w K mg base (cl.at F) 11 "ends_of" 1 d_ends_of := fun F => s_ends_of (cl := cl.at F) T (q_paths_of F) (q_part_of F) (q_is_end F)
  have q_shares_of : ∀ F, Fn P w K mg base (cl.at F) 3 "shares_of" 1 d_shares_of := fun F => s_shares_of (cl := cl.at F) T (q_ways_of F) (q_share F)
  have q_chance_of : ∀ F, Fn P w K mg base (cl.at F) 4 "chance_of" 2 d_chance_of := fun F => s_chance_of (cl := cl.at F) T (q_shares_of F) (q_times F) (q_ways_of F)
  have q_going : ∀ F, Fn P w K mg base (cl.at F) 11 "going" 1 d_going := fun F => s_going (cl := cl.at F) T (q_paths_of F) (q_part_of F) (q_is_end F)
  have q_most_along : ∀ F, Fn P w K mg base (cl.at F) 3 "most_along" 2 d_most_along := fun F => s_most_along (cl := cl.at F) T (q_part_of F)
  have q_mean_of_most : ∀ F, Fn P w K mg base (cl.at F) 13 "mean_of_most" 1 d_mean_of_most := fun F => s_mean_of_most (cl := cl.at F) T (q_look_game F) (q_ends_of F) (q_most_along F) (q_chance_of F) (q_times F) (q_all_plus F)
  have q_chance_reached : ∀ F, Fn P w K mg base (cl.at F) 13 "chance_reached" 2 d_chance_reached := fun F => s_chance_reached (cl := cl.at F) T (q_look_game F) (q_ends_of F) (q_most_along F) (q_chance_of F) (q_all_plus F)
  have q_mean_square : ∀ F, Fn P w K mg base (cl.at F) 13 "mean_square" 1 d_mean_square := fun F => s_mean_square (cl := cl.at F) T (q_look_game F) (q_ends_of F) (q_part_of F) (q_chance_of F) (q_times F) (q_all_plus F)
  have q_mean_steps : ∀ F, Fn P w K mg base (cl.at F) 13 "mean_steps" 1 d_mean_steps := fun F => s_mean_steps (cl := cl.at F) T (q_look_game F) (q_part_of F) (q_chance_of F) (q_times F) (q_ways_of F) (q_going F) (q_all_plus F)
  have q_gain_at : ∀ F, Fn P w K mg base (cl.at F) 4 "gain_at" 1 d_gain_at := fun F => s_gain_at (cl := cl.at F) T (q_times F) (q_plus F) (q_shares_of F) (q_ways_of F)
  have q_gains_of : ∀ F, Fn P w K mg base (cl.at F) 12 "gains_of" 1 d_gains_of := fun F => s_gains_of (cl := cl.at F) T (q_going F) (q_part_of F) (q_gain_at F)
  have q_is_fair : ∀ F, Fn P w K mg base (cl.at F) 13 "is_fair" 1 d_is_fair := fun F => s_is_fair (cl := cl.at F) T (q_look_game F) (q_gains_of F)
  have q__law_game : ∀ F, Fn P w K mg base (cl.at F) 11 "_law_game" 5 (d__law_game pk 8) := fun F => s__law_game (cl := cl.at F) T (q__law_pick F) 8
  have q__law_drawn : ∀ F, Fn P w K mg base (cl.at F) 12 "_law_drawn" 2 (d__law_drawn pk) := fun F => s__law_drawn (cl := cl.at F) T (q__law_pick F) (q__law_game F)
  have q__law_ways : ∀ F, Fn P w K mg base (cl.at F) 1 "_law_ways" 1 d__law_ways := fun F => s__law_ways (cl := cl.at F) T 
  have q__law_low : ∀ F, Fn P w K mg base (cl.at F) 1 "_law_low" 2 d__law_low := fun F => s__law_low (cl := cl.at F) T 
  have q__law_walk : ∀ F, Fn P w K mg base (cl.at F) 10 "_law_walk" 1 (d__law_walk 8) := fun F => s__law_walk (cl := cl.at F) T (q__law_ways F) (q__law_low F) 8
  have q__law_sum : ∀ F, Fn P w K mg base (cl.at F) 2 "_law_sum" 1 d__law_sum := fun F => s__law_sum (cl := cl.at F) T (q__law_low F)
  have q__law_prod : ∀ F, Fn P w K mg base (cl.at F) 2 "_law_prod" 2 d__law_prod := fun F => s__law_prod (cl := cl.at F) T (q__law_low F)
  have q__law_places : ∀ F, Fn P w K mg base (cl.at F) 25 "_law_places" 1 (d__law_places 24) := fun F => s__law_places (cl := cl.at F) T  24
  have q__law_put : ∀ F, Fn P w K mg base (cl.at F) 25 "_law_put" 3 (d__law_put 24) := fun F => s__law_put (cl := cl.at F) T  24
  have q__law_spoilt_thing : ∀ F, Fn P w K mg base (cl.at F) 26 "_law_spoilt_thing" 3 (d__law_spoilt_thing pk) := fun F => s__law_spoilt_thing (cl := cl.at F) T (q__law_places F) (q__law_pick F) (q__law_put F)
  have q__law_whole : ∀ F, Fn P w K mg base (cl.at F) 1 "_law_whole" 3 d__law_whole := fun F => s__law_whole (cl := cl.at F) T 
  have q__law_is_game : ∀ F, Fn P w K mg base (cl.at F) 10 "_law_is_game" 2 (d__law_is_game 8) := fun F => s__law_is_game (cl := cl.at F) T (q__law_whole F) 8
  have q__law_word : ∀ F, Fn P w K mg base (cl.at F) 1 "_law_word" 1 d__law_word := fun F => s__law_word (cl := cl.at F) T 
  have q__law_do : ∀ F, Fn P w K mg base (cl.at F) 14 "_law_do" 3 d__law_do := fun F => s__law_do (cl := cl.at F) T (q_mean_steps F) (q_mean_square F) (q_mean_of_most F) (q_chance_reached F) (q__law_word F)
  have q__law_lifted : ∀ F, Fn P w K mg base (cl.at F) 9 "_law_lifted" 2 (d__law_lifted 8) := fun F => s__law_lifted (cl := cl.at F) T  8
  have g__law_pick : Fn P w K mg base cl 2 "_law_pick" 3 (dPick pk) := by
    have z := q__law_pick []
    rw [at_nil h0] at z
    exact z
  have g_divisor : Fn P w K mg base cl 1 "divisor" 2 d_divisor := by
    have z := q_divisor []
    rw [at_nil h0] at z
    exact z
  have g_share : Fn P w K mg base cl 2 "share" 2 d_share := by
    have z := q_share []
    rw [at_nil h0] at z
    exact z
  have g_plus : Fn P w K mg base cl 3 "plus" 2 d_plus := by
    have z := q_plus []
    rw [at_nil h0] at z
    exact z
  have g_times : Fn P w K mg base cl 3 "times" 2 d_times := by
    have z := q_times []
    rw [at_nil h0] at z
    exact z
  have g_all_plus : Fn P w K mg base cl 4 "all_plus" 1 d_all_plus := by
    have z := q_all_plus []
    rw [at_nil h0] at z
    exact z
  have g_is_whole : Fn P w K mg base cl 1 "is_whole" 3 d_is_whole := by
    have z := q_is_whole []
    rw [at_nil h0] at z
    exact z
  have g_is_game_in : Fn P w K mg base cl 10 "is_game_in" 2 (d_is_game_in 8) := by
    have z := q_is_game_in []
    rw [at_nil h0] at z
    exact z
  have g_is_game : Fn P w K mg base cl 11 "is_game" 1 d_is_game := by
    have z := q_is_game []
    rw [at_nil h0] at z
    exact z
  have g_look_game : Fn P w K mg base cl 12 "look_game" 1 d_look_game := by
    have z := q_look_game []
    rw [at_nil h0] at z
    exact z
  have g_is_end : Fn P w K mg base cl 1 "is_end" 1 d_is_end := by
    have z := q_is_end []
    rw [at_nil h0] at z
    exact z
  have g_ways_of : Fn P w K mg base cl 1 "ways_of" 1 d_ways_of := by
    have z := q_ways_of []
    rw [at_nil h0] at z
    exact z
  have g_paths_of : Fn P w K mg base cl 10 "paths_of" 1 (d_paths_of 8) := by
    have z := q_paths_of []
    rw [at_nil h0] at z
    exact z
  have g_part_of : Fn P w K mg base cl 2 "part_of" 2 d_part_of := by
    have z := q_part_of []
    rw [at_nil h0] at z
    exact z
  have g_ends_of : Fn P w K mg base cl 11 "ends_of" 1 d_ends_of := by
    have z := q_ends_of []
    rw [at_nil h0] at z
    exact z
  have g_shares_of : Fn P w K mg base cl 3 "shares_of" 1 d_shares_of := by
    have z := q_shares_of []
    rw [at_nil h0] at z
    exact z
  have g_chance_of : Fn P w K mg base cl 4 "chance_of" 2 d_chance_of := by
    have z := q_chance_of []
    rw [at_nil h0] at z
    exact z
  have g_going : Fn P w K mg base cl 11 "going" 1 d_going := by
    have z := q_going []
    rw [at_nil h0] at z
    exact z
  have g_most_along : Fn P w K mg base cl 3 "most_along" 2 d_most_along := by
    have z := q_most_along []
    rw [at_nil h0] at z
    exact z
  have g_mean_of_most : Fn P w K mg base cl 13 "mean_of_most" 1 d_mean_of_most := by
    have z := q_mean_of_most []
    rw [at_nil h0] at z
    exact z
  have g_chance_reached : Fn P w K mg base cl 13 "chance_reached" 2 d_chance_reached := by
    have z := q_chance_reached []
    rw [at_nil h0] at z
    exact z
  have g_mean_square : Fn P w K mg base cl 13 "mean_square" 1 d_mean_square := by
    have z := q_mean_square []
    rw [at_nil h0] at z
    exact z
  have g_mean_steps : Fn P w K mg base cl 13 "mean_steps" 1 d_mean_steps := by
    have z := q_mean_steps []
    rw [at_nil h0] at z
    exact z
  have g_gain_at : Fn P w K mg base cl 4 "gain_at" 1 d_gain_at := by
    have z := q_gain_at []
    rw [at_nil h0] at z
    exact z
  have g_gains_of : Fn P w K mg base cl 12 "gains_of" 1 d_gains_of := by
    have z := q_gains_of []
    rw [at_nil h0] at z
    exact z
  have g_is_fair : Fn P w K mg base cl 13 "is_fair" 1 d_is_fair := by
    have z := q_is_fair []
    rw [at_nil h0] at z
    exact z
  have g__law_game : Fn P w K mg base cl 11 "_law_game" 5 (d__law_game pk 8) := by
    have z := q__law_game []
    rw [at_nil h0] at z
    exact z
  have g__law_drawn : Fn P w K mg base cl 12 "_law_drawn" 2 (d__law_drawn pk) := by
    have z := q__law_drawn []
    rw [at_nil h0] at z
    exact z
  have g__law_ways : Fn P w K mg base cl 1 "_law_ways" 1 d__law_ways := by
    have z := q__law_ways []
    rw [at_nil h0] at z
    exact z
  have g__law_low : Fn P w K mg base cl 1 "_law_low" 2 d__law_low := by
    have z := q__law_low []
    rw [at_nil h0] at z
    exact z
  have g__law_walk : Fn P w K mg base cl 10 "_law_walk" 1 (d__law_walk 8) := by
    have z := q__law_walk []
    rw [at_nil h0] at z
    exact z
  have g__law_sum : Fn P w K mg base cl 2 "_law_sum" 1 d__law_sum := by
    have z := q__law_sum []
    rw [at_nil h0] at z
    exact z
  have g__law_prod : Fn P w K mg base cl 2 "_law_prod" 2 d__law_prod := by
    have z := q__law_prod []
    rw [at_nil h0] at z
    exact z
  have g__law_places : Fn P w K mg base cl 25 "_law_places" 1 (d__law_places 24) := by
    have z := q__law_places []
    rw [at_nil h0] at z
    exact z
  have g__law_put : Fn P w K mg base cl 25 "_law_put" 3 (d__law_put 24) := by
    have z := q__law_put []
    rw [at_nil h0] at z
    exact z
  have g__law_spoilt_thing : Fn P w K mg base cl 26 "_law_spoilt_thing" 3 (d__law_spoilt_thing pk) := by
    have z := q__law_spoilt_thing []
    rw [at_nil h0] at z
    exact z
  have g__law_whole : Fn P w K mg base cl 1 "_law_whole" 3 d__law_whole := by
    have z := q__law_whole []
    rw [at_nil h0] at z
    exact z
  have g__law_is_game : Fn P w K mg base cl 10 "_law_is_game" 2 (d__law_is_game 8) := by
    have z := q__law_is_game []
    rw [at_nil h0] at z
    exact z
  have g__law_word : Fn P w K mg base cl 1 "_law_word" 1 d__law_word := by
    have z := q__law_word []
    rw [at_nil h0] at z
    exact z
  have g__law_do : Fn P w K mg base cl 14 "_law_do" 3 d__law_do := by
    have z := q__law_do []
    rw [at_nil h0] at z
    exact z
  have g__law_lifted : Fn P w K mg base cl 9 "_law_lifted" 2 (d__law_lifted 8) := by
    have z := q__law_lifted []
    rw [at_nil h0] at z
    exact z
  exact fn_ok (k := 26) (own := []) F sc_law rfl rfl fun cdv A outer s H E gd hr =>
      (ss_cons (ss_set (own := []) (i := 1) gd (se_call g__law_drawn (hr.mono (by decide)) gd.tk (sa_cons (se_var 0) (sa_cons se_int sa_nil))))
      (ss_cons (ss_set (own := []) (i := 2) gd (se_call g__law_walk (hr.mono (by decide)) gd.tk (sa_cons (se_var 1) sa_nil)))
      (ss_cons (ss_set (own := []) (i := 3) gd (se_callTy (cs_dict gd.calm (u65 hr)) (by decide +kernel) (sa_cons (se_lc gd.calm gd.nd (si_seq (se_var 2)) (blkOk_by (own := [("path", 16), ("some", 7), ("here", 8)]) (N := N_law) (sc := defScope (topS 59)) (by decide +kernel)) (fun _ _ _ _ _ => (sg_tup gd.calm (sgs_cons (sg_name 16 gd.nd) (sgs_cons (sg_name 7 gd.nd) (sgs_cons (sg_name 8 gd.nd) sgs_nil))))) (fun _ _ _ _ _ => sts_nil) (fun _ _ _ _ _ => (se_tup (sa_cons (se_var 16) (sa_cons (se_ixD (u65 hr) (se_var 7) se_int) sa_nil))))) sa_nil) T.m_dict))
      (ss_cons (ss_set (own := []) (i := 4) gd (se_op os_sub (se_call g__law_pick (hr.mono (by decide)) gd.tk (sa_cons (se_var 0) (sa_cons se_int (sa_cons se_int sa_nil)))) se_int))
      (ss_nest (C := 0) h0 (es_setB (own := []) (i := 5) gd (ee_rowsB (sx_consB (sx_consB (sx_consB (sx_consB sx_nilB))))))
      (es_forB (own := []) gd (ie_pureB fun F => (si_seq (se_var 2))) (fun F => (sg_tup gd.calm (sgs_cons (sg_name 6 gd.nd) (sgs_cons (sg_name 7 gd.nd) (sgs_cons (sg_name 8 gd.nd) sgs_nil))))) (es_oneB (es_ifB (own := []) (own1 := []) (te_pureB fun F => (st_cmp (os_eq hr.units) (se_callB cs_len (by decide +kernel) (sa_cons (se_var 7) sa_nil) T.m_len) se_int)) (es_consB (es_pureB fun F => (ss_setLc (ow := []) (i := 15) gd (si_range1 (sa_cons (se_op os_plus (se_callB cs_len (by decide +kernel) (sa_cons (se_var 6) sa_nil) T.m_len) se_int) sa_nil) T.m_range) (blkOk_by (own := [("deep", 19)]) (N := N_law) (sc := defScope (topS 59)) (by decide +kernel)) (fun _ _ _ _ _ => (sg_name 19 gd.nd)) (fun _ _ _ _ _ => sts_nil) (fun _ _ _ _ _ => (se_ixD (u65 hr) (se_var 3) (se_slice (se_var 6) so_none (so_some (se_var 19)))))))
      (es_consB (es_pureB fun F => (SS.pre (own := [15]) (ss_setLc (ow := []) (i := 13) gd (si_zip (sa_cons (se_var 15) (sa_cons (se_slice (se_var 15) (so_some se_int) so_none) sa_nil)) T.m_zip) (blkOk_by (own := [("one", 20), ("later", 21)]) (N := N_law) (sc := defScope (topS 59)) (by decide +kernel)) (fun _ _ _ _ _ => (sg_tup gd.calm (sgs_cons (sg_name 20 gd.nd) (sgs_cons (sg_name 21 gd.nd) sgs_nil)))) (fun _ _ _ _ _ => sts_nil) (fun _ _ _ _ _ => (se_op os_times (se_op os_sub (se_var 21) (se_var 20)) (se_op os_sub (se_var 21) (se_var 20)))))))
      (es_consB (es_pushB (own := [13]) (fun F => (se_ixD (u65 hr) (se_var 5) se_int)) (ee_pureB fun F => (se_call (q__law_prod F) (hr.mono (by decide)) gd.tk (sa_cons (se_var 8) (sa_cons (se_tup (sa_cons (se_callB (cs_max gd.calm) (by decide +kernel) (sa_cons (se_var 15) sa_nil) T.m_max) (sa_cons se_int sa_nil))) sa_nil)))))
      (es_consB (es_pushB (own := [13]) (fun F => (se_ixD (u65 hr) (se_var 5) se_int)) (ee_pureB fun F => (se_call (q__law_prod F) (hr.mono (by decide)) gd.tk (sa_cons (se_var 8) (sa_cons (se_tup (sa_cons (se_op os_times (se_ixD (u65 hr) (se_var 15) (se_neg se_int)) (se_ixD (u65 hr) (se_var 15) (se_neg se_int))) (sa_cons se_int sa_nil))) sa_nil)))))
      (es_consB (SSeB.pre (own := [13]) (es_pushB (own := []) (fun F => (se_ixD (u65 hr) (se_var 5) se_int)) (ee_pureB fun F => (se_call (q__law_prod F) (hr.mono (by decide)) gd.tk (sa_cons (se_var 8) (sa_cons (se_tup (sa_cons (se_callB (cs_sum gd.calm) (by decide +kernel) (sa_cons (se_var 13) sa_nil) T.m_sum) (sa_cons se_int sa_nil))) sa_nil))))))
      (es_oneB (es_pushB (own := []) (fun F => (se_ixD (u65 hr) (se_var 5) se_int)) (ee_pureB fun F => (se_if (st_cmp os_ge (se_callB (cs_max gd.calm) (by decide +kernel) (sa_cons (se_var 15) sa_nil) T.m_max) (se_var 4)) (se_var 8) (se_tup (sa_cons se_int (sa_cons se_int sa_nil)))))))))))) es_nilB)))
      (ss_cons (ss_if (own := []) (own1 := []) (st_cmp (os_ne hr.units) (se_lc gd.calm gd.nd (si_range1 (sa_cons se_int sa_nil) T.m_range) (blkOk_by (own := [("what", 17)]) (N := N_law) (sc := defScope (topS 59)) (by decide +kernel)) (fun _ _ _ _ _ => (sg_name 17 gd.nd)) (fun _ _ _ _ _ => sts_nil) (fun _ _ _ _ _ => (se_call g__law_do (hr.mono (by decide)) takes0 (sa_cons (se_var 17) (sa_cons (se_var 1) (sa_cons (se_var 4) sa_nil)))))) (se_lc gd.calm gd.nd (si_seq (se_var 5)) (blkOk_by (own := [("row", 18)]) (N := N_law) (sc := defScope (topS 59)) (by decide +kernel)) (fun _ _ _ _ _ => (sg_name 18 gd.nd)) (fun _ _ _ _ _ => sts_nil) (fun _ _ _ _ _ => (se_call g__law_sum (hr.mono (by decide)) takes0 (sa_cons (se_var 18) sa_nil))))) (ss_one (ss_ret (own := []) se_bl)) ss_nil)
      (ss_cons (ss_set (own := []) (i := 9) gd (se_call g_chance_reached (hr.mono (by decide)) gd.tk (sa_cons (se_var 1) (sa_cons (se_op os_plus (se_op os_plus (se_var 4) se_int) (se_call g__law_pick (hr.mono (by decide)) gd.tk (sa_cons (se_var 0) (sa_cons se_int (sa_cons se_int sa_nil))))) sa_nil))))
      (ss_cons (ss_set (own := []) (i := 10) gd (se_call g__law_sum (hr.mono (by decide)) gd.tk (sa_cons (se_ixD (u65 hr) (se_var 5) se_int) sa_nil)))
      (ss_cons (ss_if (own := []) (own1 := []) (SW.st (sw_or (st_cmp os_gt (se_op os_times (se_ixD (u65 hr) (se_var 9) se_int) (se_ixD (u65 hr) (se_var 10) se_int)) (se_op os_times (se_ixD (u65 hr) (se_var 10) se_int) (se_ixD (u65 hr) (se_var 9) se_int))) (sw_one (st_cmp (os_ne hr.units) (se_call g_chance_reached (hr.mono (by decide)) gd.tk (sa_cons (se_var 1) (sa_cons (se_ixD (u65 hr) (se_var 1) se_int) sa_nil))) (se_tup (sa_cons se_int (sa_cons se_int sa_nil))))))) (ss_one (ss_ret (own := []) se_bl)) ss_nil)
      (ss_cons (ss_if (own := []) (own1 := []) (st_truth (se_call g_is_fair (hr.mono (by decide)) gd.tk (sa_cons (se_var 1) sa_nil))) (ss_cons (ss_par (own := []) (i := 12) (j := 13) gd (sa_cons (se_call g_mean_square (hr.mono (by decide)) gd.tk (sa_cons (se_var 1) sa_nil)) (sa_cons (se_call g_mean_steps (hr.mono (by decide)) gd.tk (sa_cons (se_var 1) sa_nil)) sa_nil)))
      (ss_cons (ss_if (own := []) (own1 := []) (st_cmp (os_ne hr.units) (se_var 12) (se_call g__law_sum (hr.mono (by decide)) gd.tk (sa_cons (se_lst (sa_cons (se_tup (sa_cons (se_op os_times (se_ixD (u65 hr) (se_var 1) se_int) (se_ixD (u65 hr) (se_var 1) se_int)) (sa_cons se_int sa_nil))) (sa_cons (se_var 13) sa_nil))) sa_nil))) (ss_one (ss_ret (own := []) se_bl)) ss_nil)
      (ss_cons (ss_set (own := []) (i := 14) gd (se_call g__law_lifted (hr.mono (by decide)) gd.tk (sa_cons (se_var 1) (sa_cons (se_op os_sub se_int (se_callB (cs_min gd.calm) (by decide +kernel) (sa_cons (se_lock 3 (se_lc gd.calm gd.nd (si_dictL (se_var 3)) (blkOk_by (own := [("path", 16)]) (N := N_law) (sc := defScope (topS 59)) (by decide +kernel)) (fun _ _ _ _ _ => (sg_name 16 gd.nd)) (fun _ _ _ _ _ => sts_nil) (fun _ _ _ _ _ => (se_ixD (u65 hr) (se_var 3) (se_var 16))))) sa_nil) T.m_min)) sa_nil))))
      (ss_cons (ss_set (own := []) (i := 4) gd (se_op os_plus se_int (se_call g__law_pick (hr.mono (by decide)) gd.tk (sa_cons (se_var 0) (sa_cons se_int (sa_cons se_int sa_nil))))))
      (ss_cons (ss_set (own := []) (i := 8) gd (se_call g_chance_reached (hr.mono (by decide)) gd.tk (sa_cons (se_var 14) (sa_cons (se_var 4) sa_nil))))
      (ss_one (ss_if (own := []) (own1 := []) (st_cmp os_gt (se_op os_times (se_var 4) (se_ixD (u65 hr) (se_var 8) se_int)) (se_op os_times (se_ixD (u65 hr) (se_var 14) se_int) (se_ixD (u65 hr) (se_var 8) se_int))) (ss_one (ss_ret (own := []) se_bl)) ss_nil))))))) ss_nil)
      (ss_cons (ss_set (own := []) (i := 11) gd (se_call g__law_spoilt_thing (hr.mono (by decide)) gd.tk (sa_cons (se_var 0) (sa_cons se_int (sa_cons (se_var 1) sa_nil)))))
      (ss_one (ss_ret (own := []) (se_or (se_call g__law_is_game (hr.mono (by decide)) gd.tk (sa_cons (se_var 11) (sa_cons se_int sa_nil))) (se_one (se_cmp (os_eq hr.units) (se_lc gd.calm gd.nd (si_range1 (sa_cons se_int sa_nil) T.m_range) (blkOk_by (own := [("what", 17)]) (N := N_law) (sc := defScope (topS 59)) (by decide +kernel)) (fun _ _ _ _ _ => (sg_name 17 gd.nd)) (fun _ _ _ _ _ => sts_nil) (fun _ _ _ _ _ => (se_call g__law_do (hr.mono (by decide)) takes0 (sa_cons (se_var 17) (sa_cons (se_var 11) (sa_cons (se_var 4) sa_nil)))))) (se_op os_times (se_lst (sa_cons se_str sa_nil)) se_int)))))))))))))))))
end
end Kx
namespace Kx
open PySem PySem.Spec L2 Sm
set_option maxHeartbeats 0 in
theorem all_mk {l : PySem.W.OpenLaw} {w : World} {K : PySem.W.Frag} {h : Heap} {mg : Str → Option Value} {fa : Addr} (X : K.In h) (G : h.Ns mainGlobals mg) (hfa : mg "law" = some (.ref fa))
    {f1 : Addr} {od1 an1 : Option Addr} {sl1 : Array (Option Value)} {oc1 kV1 dc1 pm1 ct1 : Value} {cd1 : Value}
    {f2 : Addr} {od2 an2 : Option Addr} {sl2 : Array (Option Value)} {oc2 kV2 dc2 pm2 ct2 : Value} {cd2 : Value}
    {f3 : Addr} {od3 an3 : Option Addr} {sl3 : Array (Option Value)} {oc3 kV3 dc3 pm3 ct3 : Value} {cd3 : Value}
    {f4 : Addr} {od4 an4 : Option Addr} {sl4 : Array (Option Value)} {oc4 kV4 dc4 pm4 ct4 : Value} {cd4 : Value}
    {f5 : Addr} {od5 an5 : Option Addr} {sl5 : Array (Option Value)} {oc5 kV5 dc5 pm5 ct5 : Value} {cd5 : Value}
    {f6 : Addr} {od6 an6 : Option Addr} {sl6 : Array (Option Value)} {oc6 kV6 dc6 pm6 ct6 : Value} {cd6 : Value}
    {f7 : Addr} {od7 an7 : Option Addr} {sl7 : Array (Option Value)} {oc7 kV7 dc7 pm7 ct7 : Value} {cd7 : Value}
    {f8 : Addr} {od8 an8 : Option Addr} {sl8 : Array (Option Value)} {oc8 kV8 dc8 pm8 ct8 : Value} {cd8 : Value}
    {f9 : Addr} {od9 an9 : Option Addr} {sl9 : Array (Option Value)} {oc9 kV9 dc9 pm9 ct9 : Value} {cd9 : Value}
    {f10 : Addr} {od10 an10 : Option Addr} {sl10 : Array (Option Value)} {oc10 kV10 dc10 pm10 ct10 : Value} {cd10 : Value}
    {f11 : Addr} {od11 an11 : Option Addr} {sl11 : Array (Option Value)} {oc11 kV11 dc11 pm11 ct11 : Value} {cd11 : Value}
    {f12 : Addr} {od12 an12 : Option Addr} {sl12 : Array (Option Value)} {oc12 kV12 dc12 pm12 ct12 : Value} {cd12 : Value}
    {f13 : Addr} {od13 an13 : Option Addr} {sl13 : Array (Option Value)} {oc13 kV13 dc13 pm13 ct13 : Value} {cd13 : Value}
    {f14 : Addr} {od14 an14 : Option Addr} {sl14 : Array (Option Value)} {oc14 kV14 dc14 pm14 ct14 : Value} {cd14 : Value}
    {f15 : Addr} {od15 an15 : Option Addr} {sl15 : Array (Option Value)} {oc15 kV15 dc15 pm15 ct15 : Value} {cd15 : Value}
    {f16 : Addr} {od16 an16 : Option Addr} {sl16 : Array (Option Value)} {oc16 kV16 dc16 pm16 ct16 : Value} {cd16 : Value}
    {f17 : Addr} {od17 an17 : Option Addr} {sl17 : Array (Option Value)} {oc17 kV17 dc17 pm17 ct17 : Value} {cd17 : Value}
    {f18 : Addr} {od18 an18 : Option Addr} {sl18 : Array (Option Value)} {oc18 kV18 dc18 pm18 ct18 : Value} {cd18 : Value}
    {f19 : Addr} {od19 an19 : Option Addr} {sl19 : Array (Option Value)} {oc19 kV19 dc19 pm19 ct19 : Value} {cd19 : Value}
    {f20 : Addr} {od20 an20 : Option Addr} {sl20 : Array (Option Value)} {oc20 kV20 dc20 pm20 ct20 : Value} {cd20 : Value}
    {f21 : Addr} {od21 an21 : Option Addr} {sl21 : Array (Option Value)} {oc21 kV21 dc21 pm21 ct21 : Value} {cd21 : Value}
    {f22 : Addr} {od22 an22 : Option Addr} {sl22 : Array (Option Value)} {oc22 kV22 dc22 pm22 ct22 : Value} {cd22 : Value}
    {f23 : Addr} {od23 an23 : Option Addr} {sl23 : Array (Option Value)} {oc23 kV23 dc23 pm23 ct23 : Value} {cd23 : Value}
    {f24 : Addr} {od24 an24 : Option Addr} {sl24 : Array (Option Value)} {oc24 kV24 dc24 pm24 ct24 : Value} {cd24 : Value}
    {f25 : Addr} {od25 an25 : Option Addr} {sl25 : Array (Option Value)} {oc25 kV25 dc25 pm25 ct25 : Value} {cd25 : Value}
    {f26 : Addr} {od26 an26 : Option Addr} {sl26 : Array (Option Value)} {oc26 kV26 dc26 pm26 ct26 : Value} {cd26 : Value}
    {f27 : Addr} {od27 an27 : Option Addr} {sl27 : Array (Option Value)} {oc27 kV27 dc27 pm27 ct27 : Value} {cd27 : Value}
    {f28 : Addr} {od28 an28 : Option Addr} {sl28 : Array (Option Value)} {oc28 kV28 dc28 pm28 ct28 : Value} {cd28 : Value}
    {f29 : Addr} {od29 an29 : Option Addr} {sl29 : Array (Option Value)} {oc29 kV29 dc29 pm29 ct29 : Value} {cd29 : Value}
    {f30 : Addr} {od30 an30 : Option Addr} {sl30 : Array (Option Value)} {oc30 kV30 dc30 pm30 ct30 : Value} {cd30 : Value}
    {f31 : Addr} {od31 an31 : Option Addr} {sl31 : Array (Option Value)} {oc31 kV31 dc31 pm31 ct31 : Value} {cd31 : Value}
    {f32 : Addr} {od32 an32 : Option Addr} {sl32 : Array (Option Value)} {oc32 kV32 dc32 pm32 ct32 : Value} {cd32 : Value}
    {f33 : Addr} {od33 an33 : Option Addr} {sl33 : Array (Option Value)} {oc33 kV33 dc33 pm33 ct33 : Value} {cd33 : Value}
    {f34 : Addr} {od34 an34 : Option Addr} {sl34 : Array (Option Value)} {oc34 kV34 dc34 pm34 ct34 : Value} {cd34 : Value}
    {f35 : Addr} {od35 an35 : Option Addr} {sl35 : Array (Option Value)} {oc35 kV35 dc35 pm35 ct35 : Value} {cd35 : Value}
    {f36 : Addr} {od36 an36 : Option Addr} {sl36 : Array (Option Value)} {oc36 kV36 dc36 pm36 ct36 : Value} {cd36 : Value}
    {f37 : Addr} {od37 an37 : Option Addr} {sl37 : Array (Option Value)} {oc37 kV37 dc37 pm37 ct37 : Value} {cd37 : Value}
    {f38 : Addr} {od38 an38 : Option Addr} {sl38 : Array (Option Value)} {oc38 kV38 dc38 pm38 ct38 : Value} {cd38 : Value}
    {f39 : Addr} {od39 an39 : Option Addr} {sl39 : Array (Option Value)} {oc39 kV39 dc39 pm39 ct39 : Value} {cd39 : Value}
    {f40 : Addr} {od40 an40 : Option Addr} {sl40 : Array (Option Value)} {oc40 kV40 dc40 pm40 ct40 : Value} {cd40 : Value}
    {f41 : Addr} {od41 an41 : Option Addr} {sl41 : Array (Option Value)} {oc41 kV41 dc41 pm41 ct41 : Value} {cd41 : Value}
    {f42 : Addr} {od42 an42 : Option Addr} {sl42 : Array (Option Value)} {oc42 kV42 dc42 pm42 ct42 : Value} {cd42 : Value}
    {f43 : Addr} {od43 an43 : Option Addr} {sl43 : Array (Option Value)} {oc43 kV43 dc43 pm43 ct43 : Value} {cd43 : Value}
    {t0 : Tok}
    {t1 : Tok}
    {t2 : Tok}
    {t3 : Tok}
    {C0 : Addr}
    {C1 : Addr}
    {C2 : Addr}
    {C3 : Addr}
    {C4 : Addr}
    {C5 : Addr}
    {C6 : Addr}
    (a1 : PySem.W.nsIn K mainGlobals "divisor" = some (some (.ref f1))) (l1 : K.lookup f1 = some ⟨oc1, od1, .func (PySem.W.fnOf "divisor" "divisor" (defArgs (topS 1)) (defBody (topS 1)) (defScope (topS 1)) .none kV1 dc1 pm1 an1 cd1 ct1), sl1⟩) (e1 : PySem.W.codeIn K cd1 "divisor" = true) (k1 : PySem.W.keepIn K (.ref f1) = true)
    (a2 : PySem.W.nsIn K mainGlobals "share" = some (some (.ref f2))) (l2 : K.lookup f2 = some ⟨oc2, od2, .func (PySem.W.fnOf "share" "share" (defArgs (topS 2)) (defBody (topS 2)) (defScope (topS 2)) .none kV2 dc2 pm2 an2 cd2 ct2), sl2⟩) (e2 : PySem.W.codeIn K cd2 "share" = true) (k2 : PySem.W.keepIn K (.ref f2) = true)
    (a3 : PySem.W.nsIn K mainGlobals "plus" = some (some (.ref f3))) (l3 : K.lookup f3 = some ⟨oc3, od3, .func (PySem.W.fnOf "plus" "plus" (defArgs (topS 3)) (defBody (topS 3)) (defScope (topS 3)) .none kV3 dc3 pm3 an3 cd3 ct3), sl3⟩) (e3 : PySem.W.codeIn K cd3 "plus" = true) (k3 : PySem.W.keepIn K (.ref f3) = true)
    (a4 : PySem.W.nsIn K mainGlobals "times" = some (some (.ref f4))) (l4 : K.lookup f4 = some ⟨oc4, od4, .func (PySem.W.fnOf "times" "times" (defArgs (topS 4)) (defBody (topS 4)) (defScope (topS 4)) .none kV4 dc4 pm4 an4 cd4 ct4), sl4⟩) (e4 : PySem.W.codeIn K cd4 "times" = true) (k4 : PySem.W.keepIn K (.ref f4) = true)
    (a5 : PySem.W.nsIn K mainGlobals "all_plus" = some (some (.ref f5))) (l5 : K.lookup f5 = some ⟨oc5, od5, .func (PySem.W.fnOf "all_plus" "all_plus" (defArgs (topS 5)) (defBody (topS 5)) (defScope (topS 5)) .none kV5 dc5 pm5 an5 cd5 ct5), sl5⟩) (e5 : PySem.W.codeIn K cd5 "all_plus" = true) (k5 : PySem.W.keepIn K (.ref f5) = true)
    (a6 : PySem.W.nsIn K mainGlobals "is_whole" = some (some (.ref f6))) (l6 : K.lookup f6 = some ⟨oc6, od6, .func (PySem.W.fnOf "is_whole" "is_whole" (defArgs (topS 19)) (defBody (topS 19)) (defScope (topS 19)) .none kV6 dc6 pm6 an6 cd6 ct6), sl6⟩) (e6 : PySem.W.codeIn K cd6 "is_whole" = true) (k6 : PySem.W.keepIn K (.ref f6) = true)
    (a7 : PySem.W.nsIn K mainGlobals "is_game_in" = some (some (.ref f7))) (l7 : K.lookup f7 = some ⟨oc7, od7, .func (PySem.W.fnOf "is_game_in" "is_game_in" (defArgs (topS 20)) (defBody (topS 20)) (defScope (topS 20)) .none kV7 dc7 pm7 an7 cd7 ct7), sl7⟩) (e7 : PySem.W.codeIn K cd7 "is_game_in" = true) (k7 : PySem.W.keepIn K (.ref f7) = true)
    (a8 : PySem.W.nsIn K mainGlobals "is_game" = some (some (.ref f8))) (l8 : K.lookup f8 = some ⟨oc8, od8, .func (PySem.W.fnOf "is_game" "is_game" (defArgs (topS 21)) (defBody (topS 21)) (defScope (topS 21)) .none kV8 dc8 pm8 an8 cd8 ct8), sl8⟩) (e8 : PySem.W.codeIn K cd8 "is_game" = true) (k8 : PySem.W.keepIn K (.ref f8) = true)
    (a9 : PySem.W.nsIn K mainGlobals "look_game" = some (some (.ref f9))) (l9 : K.lookup f9 = some ⟨oc9, od9, .func (PySem.W.fnOf "look_game" "look_game" (defArgs (topS 22)) (defBody (topS 22)) (defScope (topS 22)) .none kV9 dc9 pm9 an9 cd9 ct9), sl9⟩) (e9 : PySem.W.codeIn K cd9 "look_game" = true) (k9 : PySem.W.keepIn K (.ref f9) = true)
    (a10 : PySem.W.nsIn K mainGlobals "is_end" = some (some (.ref f10))) (l10 : K.lookup f10 = some ⟨oc10, od10, .func (PySem.W.fnOf "is_end" "is_end" (defArgs (topS 23)) (defBody (topS 23)) (defScope (topS 23)) .none kV10 dc10 pm10 an10 cd10 ct10), sl10⟩) (e10 : PySem.W.codeIn K cd10 "is_end" = true) (k10 : PySem.W.keepIn K (.ref f10) = true)
    (a11 : PySem.W.nsIn K mainGlobals "ways_of" = some (some (.ref f11))) (l11 : K.lookup f11 = some ⟨oc11, od11, .func (PySem.W.fnOf "ways_of" "ways_of" (defArgs (topS 24)) (defBody (topS 24)) (defScope (topS 24)) .none kV11 dc11 pm11 an11 cd11 ct11), sl11⟩) (e11 : PySem.W.codeIn K cd11 "ways_of" = true) (k11 : PySem.W.keepIn K (.ref f11) = true)
    (a12 : PySem.W.nsIn K mainGlobals "paths_of" = some (some (.ref f12))) (l12 : K.lookup f12 = some ⟨oc12, od12, .func (PySem.W.fnOf "paths_of" "paths_of" (defArgs (topS 25)) (defBody (topS 25)) (defScope (topS 25)) .none kV12 dc12 pm12 an12 cd12 ct12), sl12⟩) (e12 : PySem.W.codeIn K cd12 "paths_of" = true) (k12 : PySem.W.keepIn K (.ref f12) = true)
    (a13 : PySem.W.nsIn K mainGlobals "part_of" = some (some (.ref f13))) (l13 : K.lookup f13 = some ⟨oc13, od13, .func (PySem.W.fnOf "part_of" "part_of" (defArgs (topS 26)) (defBody (topS 26)) (defScope (topS 26)) .none kV13 dc13 pm13 an13 cd13 ct13), sl13⟩) (e13 : PySem.W.codeIn K cd13 "part_of" = true) (k13 : PySem.W.keepIn K (.ref f13) = true)
    (a14 : PySem.W.nsIn K mainGlobals "ends_of" = some (some (.ref f14))) (l14 : K.lookup f14 = some ⟨oc14, od14, .func (PySem.W.fnOf "ends_of" "ends_of" (defArgs (topS 27)) (defBody (topS 27)) (defScope (topS 27)) .none kV14 dc14 pm14 an14 cd14 ct14), sl14⟩) (e14 : PySem.W.codeIn K cd14 "ends_of" = true) (k14 : PySem.W.keepIn K (.ref f14) = true)
    (a15 : PySem.W.nsIn K mainGlobals "shares_of" = some (some (.ref f15))) (l15 : K.lookup f15 = some ⟨oc15, od15, .func (PySem.W.fnOf "shares_of" "shares_of" (defArgs (topS 28)) (defBody (topS 28)) (defScope (topS 28)) .none kV15 dc15 pm15 an15 cd15 ct15), sl15⟩) (e15 : PySem.W.codeIn K cd15 "shares_of" = true) (k15 : PySem.W.keepIn K (.ref f15) = true)
    (a16 : PySem.W.nsIn K mainGlobals "chance_of" = some (some (.ref f16))) (l16 : K.lookup f16 = some ⟨oc16, od16, .func (PySem.W.fnOf "chance_of" "chance_of" (defArgs (topS 29)) (defBody (topS 29)) (defScope (topS 29)) .none kV16 dc16 pm16 an16 cd16 ct16), sl16⟩) (e16 : PySem.W.codeIn K cd16 "chance_of" = true) (k16 : PySem.W.keepIn K (.ref f16) = true)
    (a17 : PySem.W.nsIn K mainGlobals "going" = some (some (.ref f17))) (l17 : K.lookup f17 = some ⟨oc17, od17, .func (PySem.W.fnOf "going" "going" (defArgs (topS 30)) (defBody (topS 30)) (defScope (topS 30)) .none kV17 dc17 pm17 an17 cd17 ct17), sl17⟩) (e17 : PySem.W.codeIn K cd17 "going" = true) (k17 : PySem.W.keepIn K (.ref f17) = true)
    (a18 : PySem.W.nsIn K mainGlobals "most_along" = some (some (.ref f18))) (l18 : K.lookup f18 = some ⟨oc18, od18, .func (PySem.W.fnOf "most_along" "most_along" (defArgs (topS 32)) (defBody (topS 32)) (defScope (topS 32)) .none kV18 dc18 pm18 an18 cd18 ct18), sl18⟩) (e18 : PySem.W.codeIn K cd18 "most_along" = true) (k18 : PySem.W.keepIn K (.ref f18) = true)
    (a19 : PySem.W.nsIn K mainGlobals "mean_of_most" = some (some (.ref f19))) (l19 : K.lookup f19 = some ⟨oc19, od19, .func (PySem.W.fnOf "mean_of_most" "mean_of_most" (defArgs (topS 33)) (defBody (topS 33)) (defScope (topS 33)) .none kV19 dc19 pm19 an19 cd19 ct19), sl19⟩) (e19 : PySem.W.codeIn K cd19 "mean_of_most" = true) (k19 : PySem.W.keepIn K (.ref f19) = true)
    (a20 : PySem.W.nsIn K mainGlobals "chance_reached" = some (some (.ref f20))) (l20 : K.lookup f20 = some ⟨oc20, od20, .func (PySem.W.fnOf "chance_reached" "chance_reached" (defArgs (topS 34)) (defBody (topS 34)) (defScope (topS 34)) .none kV20 dc20 pm20 an20 cd20 ct20), sl20⟩) (e20 : PySem.W.codeIn K cd20 "chance_reached" = true) (k20 : PySem.W.keepIn K (.ref f20) = true)
    (a21 : PySem.W.nsIn K mainGlobals "mean_square" = some (some (.ref f21))) (l21 : K.lookup f21 = some ⟨oc21, od21, .func (PySem.W.fnOf "mean_square" "mean_square" (defArgs (topS 35)) (defBody (topS 35)) (defScope (topS 35)) .none kV21 dc21 pm21 an21 cd21 ct21), sl21⟩) (e21 : PySem.W.codeIn K cd21 "mean_square" = true) (k21 : PySem.W.keepIn K (.ref f21) = true)
    (a22 : PySem.W.nsIn K mainGlobals "mean_steps" = some (some (.ref f22))) (l22 : K.lookup f22 = some ⟨oc22, od22, .func (PySem.W.fnOf "mean_steps" "mean_steps" (defArgs (topS 36)) (defBody (topS 36)) (defScope (topS 36)) .none kV22 dc22 pm22 an22 cd22 ct22), sl22⟩) (e22 : PySem.W.codeIn K cd22 "mean_steps" = true) (k22 : PySem.W.keepIn K (.ref f22) = true)
    (a23 : PySem.W.nsIn K mainGlobals "gain_at" = some (some (.ref f23))) (l23 : K.lookup f23 = some ⟨oc23, od23, .func (PySem.W.fnOf "gain_at" "gain_at" (defArgs (topS 38)) (defBody (topS 38)) (defScope (topS 38)) .none kV23 dc23 pm23 an23 cd23 ct23), sl23⟩) (e23 : PySem.W.codeIn K cd23 "gain_at" = true) (k23 : PySem.W.keepIn K (.ref f23) = true)
    (a24 : PySem.W.nsIn K mainGlobals "gains_of" = some (some (.ref f24))) (l24 : K.lookup f24 = some ⟨oc24, od24, .func (PySem.W.fnOf "gains_of" "gains_of" (defArgs (topS 39)) (defBody (topS 39)) (defScope (topS 39)) .none kV24 dc24 pm24 an24 cd24 ct24), sl24⟩) (e24 : PySem.W.codeIn K cd24 "gains_of" = true) (k24 : PySem.W.keepIn K (.ref f24) = true)
    (a25 : PySem.W.nsIn K mainGlobals "is_fair" = some (some (.ref f25))) (l25 : K.lookup f25 = some ⟨oc25, od25, .func (PySem.W.fnOf "is_fair" "is_fair" (defArgs (topS 40)) (defBody (topS 40)) (defScope (topS 40)) .none kV25 dc25 pm25 an25 cd25 ct25), sl25⟩) (e25 : PySem.W.codeIn K cd25 "is_fair" = true) (k25 : PySem.W.keepIn K (.ref f25) = true)
    (a26 : PySem.W.nsIn K mainGlobals "_law_cell" = some (some (.ref f26))) (l26 : K.lookup f26 = some ⟨oc26, od26, .func (PySem.W.fnOf "_law_cell" "_law_cell" (defArgs (topS 42)) (defBody (topS 42)) (defScope (topS 42)) .none kV26 dc26 pm26 an26 cd26 ct26), sl26⟩) (e26 : PySem.W.codeIn K cd26 "_law_cell" = true) (k26 : PySem.W.keepIn K (.ref f26) = true)
    (a27 : PySem.W.nsIn K mainGlobals "_law_pick" = some (some (.ref f27))) (l27 : K.lookup f27 = some ⟨oc27, od27, .func (PySem.W.fnOf "_law_pick" "_law_pick" (defArgs (topS 43)) (defBody (topS 43)) (defScope (topS 43)) .none kV27 dc27 pm27 an27 cd27 ct27), sl27⟩) (e27 : PySem.W.codeIn K cd27 "_law_pick" = true) (k27 : PySem.W.keepIn K (.ref f27) = true)
    (a28 : PySem.W.nsIn K mainGlobals "_law_game" = some (some (.ref f28))) (l28 : K.lookup f28 = some ⟨oc28, od28, .func (PySem.W.fnOf "_law_game" "_law_game" (defArgs (topS 44)) (defBody (topS 44)) (defScope (topS 44)) .none kV28 dc28 pm28 an28 cd28 ct28), sl28⟩) (e28 : PySem.W.codeIn K cd28 "_law_game" = true) (k28 : PySem.W.keepIn K (.ref f28) = true)
    (a29 : PySem.W.nsIn K mainGlobals "_law_drawn" = some (some (.ref f29))) (l29 : K.lookup f29 = some ⟨oc29, od29, .func (PySem.W.fnOf "_law_drawn" "_law_drawn" (defArgs (topS 45)) (defBody (topS 45)) (defScope (topS 45)) .none kV29 dc29 pm29 an29 cd29 ct29), sl29⟩) (e29 : PySem.W.codeIn K cd29 "_law_drawn" = true) (k29 : PySem.W.keepIn K (.ref f29) = true)
    (a30 : PySem.W.nsIn K mainGlobals "_law_ways" = some (some (.ref f30))) (l30 : K.lookup f30 = some ⟨oc30, od30, .func (PySem.W.fnOf "_law_ways" "_law_ways" (defArgs (topS 46)) (defBody (topS 46)) (defScope (topS 46)) .none kV30 dc30 pm30 an30 cd30 ct30), sl30⟩) (e30 : PySem.W.codeIn K cd30 "_law_ways" = true) (k30 : PySem.W.keepIn K (.ref f30) = true)
    (a31 : PySem.W.nsIn K mainGlobals "_law_low" = some (some (.ref f31))) (l31 : K.lookup f31 = some ⟨oc31, od31, .func (PySem.W.fnOf "_law_low" "_law_low" (defArgs (topS 48)) (defBody (topS 48)) (defScope (topS 48)) .none kV31 dc31 pm31 an31 cd31 ct31), sl31⟩) (e31 : PySem.W.codeIn K cd31 "_law_low" = true) (k31 : PySem.W.keepIn K (.ref f31) = true)
    (a32 : PySem.W.nsIn K mainGlobals "_law_walk" = some (some (.ref f32))) (l32 : K.lookup f32 = some ⟨oc32, od32, .func (PySem.W.fnOf "_law_walk" "_law_walk" (defArgs (topS 47)) (defBody (topS 47)) (defScope (topS 47)) .none kV32 dc32 pm32 an32 cd32 ct32), sl32⟩) (e32 : PySem.W.codeIn K cd32 "_law_walk" = true) (k32 : PySem.W.keepIn K (.ref f32) = true)
    (a33 : PySem.W.nsIn K mainGlobals "_law_sum" = some (some (.ref f33))) (l33 : K.lookup f33 = some ⟨oc33, od33, .func (PySem.W.fnOf "_law_sum" "_law_sum" (defArgs (topS 49)) (defBody (topS 49)) (defScope (topS 49)) .none kV33 dc33 pm33 an33 cd33 ct33), sl33⟩) (e33 : PySem.W.codeIn K cd33 "_law_sum" = true) (k33 : PySem.W.keepIn K (.ref f33) = true)
    (a34 : PySem.W.nsIn K mainGlobals "_law_prod" = some (some (.ref f34))) (l34 : K.lookup f34 = some ⟨oc34, od34, .func (PySem.W.fnOf "_law_prod" "_law_prod" (defArgs (topS 50)) (defBody (topS 50)) (defScope (topS 50)) .none kV34 dc34 pm34 an34 cd34 ct34), sl34⟩) (e34 : PySem.W.codeIn K cd34 "_law_prod" = true) (k34 : PySem.W.keepIn K (.ref f34) = true)
    (a35 : PySem.W.nsIn K mainGlobals "_law_places" = some (some (.ref f35))) (l35 : K.lookup f35 = some ⟨oc35, od35, .func (PySem.W.fnOf "_law_places" "_law_places" (defArgs (topS 51)) (defBody (topS 51)) (defScope (topS 51)) .none kV35 dc35 pm35 an35 cd35 ct35), sl35⟩) (e35 : PySem.W.codeIn K cd35 "_law_places" = true) (k35 : PySem.W.keepIn K (.ref f35) = true)
    (a36 : PySem.W.nsIn K mainGlobals "_law_put" = some (some (.ref f36))) (l36 : K.lookup f36 = some ⟨oc36, od36, .func (PySem.W.fnOf "_law_put" "_law_put" (defArgs (topS 52)) (defBody (topS 52)) (defScope (topS 52)) .none kV36 dc36 pm36 an36 cd36 ct36), sl36⟩) (e36 : PySem.W.codeIn K cd36 "_law_put" = true) (k36 : PySem.W.keepIn K (.ref f36) = true)
    (a37 : PySem.W.nsIn K mainGlobals "_law_spoilt_thing" = some (some (.ref f37))) (l37 : K.lookup f37 = some ⟨oc37, od37, .func (PySem.W.fnOf "_law_spoilt_thing" "_law_spoilt_thing" (defArgs (topS 53)) (defBody (topS 53)) (defScope (topS 53)) .none kV37 dc37 pm37 an37 cd37 ct37), sl37⟩) (e37 : PySem.W.codeIn K cd37 "_law_spoilt_thing" = true) (k37 : PySem.W.keepIn K (.ref f37) = true)
    (a38 : PySem.W.nsIn K mainGlobals "_law_whole" = some (some (.ref f38))) (l38 : K.lookup f38 = some ⟨oc38, od38, .func (PySem.W.fnOf "_law_whole" "_law_whole" (defArgs (topS 54)) (defBody (topS 54)) (defScope (topS 54)) .none kV38 dc38 pm38 an38 cd38 ct38), sl38⟩) (e38 : PySem.W.codeIn K cd38 "_law_whole" = true) (k38 : PySem.W.keepIn K (.ref f38) = true)
    (a39 : PySem.W.nsIn K mainGlobals "_law_is_game" = some (some (.ref f39))) (l39 : K.lookup f39 = some ⟨oc39, od39, .func (PySem.W.fnOf "_law_is_game" "_law_is_game" (defArgs (topS 55)) (defBody (topS 55)) (defScope (topS 55)) .none kV39 dc39 pm39 an39 cd39 ct39), sl39⟩) (e39 : PySem.W.codeIn K cd39 "_law_is_game" = true) (k39 : PySem.W.keepIn K (.ref f39) = true)
    (a40 : PySem.W.nsIn K mainGlobals "_law_word" = some (some (.ref f40))) (l40 : K.lookup f40 = some ⟨oc40, od40, .func (PySem.W.fnOf "_law_word" "_law_word" (defArgs (topS 56)) (defBody (topS 56)) (defScope (topS 56)) .none kV40 dc40 pm40 an40 cd40 ct40), sl40⟩) (e40 : PySem.W.codeIn K cd40 "_law_word" = true) (k40 : PySem.W.keepIn K (.ref f40) = true)
    (a41 : PySem.W.nsIn K mainGlobals "_law_do" = some (some (.ref f41))) (l41 : K.lookup f41 = some ⟨oc41, od41, .func (PySem.W.fnOf "_law_do" "_law_do" (defArgs (topS 57)) (defBody (topS 57)) (defScope (topS 57)) .none kV41 dc41 pm41 an41 cd41 ct41), sl41⟩) (e41 : PySem.W.codeIn K cd41 "_law_do" = true) (k41 : PySem.W.keepIn K (.ref f41) = true)
    (a42 : PySem.W.nsIn K mainGlobals "_law_lifted" = some (some (.ref f42))) (l42 : K.lookup f42 = some ⟨oc42, od42, .func (PySem.W.fnOf "_law_lifted" "_law_lifted" (defArgs (topS 58)) (defBody (topS 58)) (defScope (topS 58)) .none kV42 dc42 pm42 an42 cd42 ct42), sl42⟩) (e42 : PySem.W.codeIn K cd42 "_law_lifted" = true) (k42 : PySem.W.keepIn K (.ref f42) = true)
    (a43 : PySem.W.nsIn K mainGlobals "law" = some (some (.ref f43))) (l43 : K.lookup f43 = some ⟨oc43, od43, .func (PySem.W.fnOf "law" "law" (defArgs (topS 59)) (defBody (topS 59)) (defScope (topS 59)) .none kV43 dc43 pm43 an43 cd43 ct43), sl43⟩) (e43 : PySem.W.codeIn K cd43 "law" = true) (k43 : PySem.W.keepIn K (.ref f43) = true)
    (z0 : PySem.W.nsIn K mainGlobals "abs" = some none)
    (z1 : PySem.W.nsIn K mainGlobals "isinstance" = some none)
    (z2 : PySem.W.nsIn K mainGlobals "int" = some none)
    (z3 : PySem.W.nsIn K mainGlobals "bool" = some none)
    (z4 : PySem.W.nsIn K mainGlobals "tuple" = some none)
    (z5 : PySem.W.nsIn K mainGlobals "len" = some none)
    (z6 : PySem.W.nsIn K mainGlobals "all" = some none)
    (z7 : PySem.W.nsIn K mainGlobals "enumerate" = some none)
    (z8 : PySem.W.nsIn K mainGlobals "sum" = some none)
    (z9 : PySem.W.nsIn K mainGlobals "range" = some none)
    (z10 : PySem.W.nsIn K mainGlobals "max" = some none)
    (z11 : PySem.W.nsIn K mainGlobals "zip" = some none)
    (z12 : PySem.W.nsIn K mainGlobals "ValueError" = some none)
    (z13 : PySem.W.nsIn K mainGlobals "dict" = some none)
    (z14 : PySem.W.nsIn K mainGlobals "min" = some none)
    (y0 : PySem.W.nsIn K mainGlobals "GREATEST" = some (some (.int 20 t0)))
    (y1 : PySem.W.nsIn K mainGlobals "MOST_WAYS" = some (some (.int 3 t1)))
    (y2 : PySem.W.nsIn K mainGlobals "HEAVIEST" = some (some (.int 9 t2)))
    (y3 : PySem.W.nsIn K mainGlobals "DEEPEST" = some (some (.int 4 t3)))
    (xa0 : PySem.W.nsIn K mainGlobals "NoGame" = some (some (.ref C0))) (xe0 : PySem.W.excIn K C0 veB "ValueError.__new__" = true) (xk0 : PySem.W.keepIn K (.ref C0) = true) (xb0 : PySem.W.subIn K (.ref C0) (.type "BaseException") = some true) (xt0 : PySem.W.typeIn K (.ref C0) = some (.type "type"))
    (xa1 : PySem.W.nsIn K mainGlobals "NoRule" = some (some (.ref C1))) (xe1 : PySem.W.excIn K C1 veB "ValueError.__new__" = true) (xk1 : PySem.W.keepIn K (.ref C1) = true) (xb1 : PySem.W.subIn K (.ref C1) (.type "BaseException") = some true) (xt1 : PySem.W.typeIn K (.ref C1) = some (.type "type"))
    (xa2 : PySem.W.nsIn K mainGlobals "NoPath" = some (some (.ref C2))) (xe2 : PySem.W.excIn K C2 veB "ValueError.__new__" = true) (xk2 : PySem.W.keepIn K (.ref C2) = true) (xb2 : PySem.W.subIn K (.ref C2) (.type "BaseException") = some true) (xt2 : PySem.W.typeIn K (.ref C2) = some (.type "type"))
    (xa3 : PySem.W.nsIn K mainGlobals "NoBets" = some (some (.ref C3))) (xe3 : PySem.W.excIn K C3 veB "ValueError.__new__" = true) (xk3 : PySem.W.keepIn K (.ref C3) = true) (xb3 : PySem.W.subIn K (.ref C3) (.type "BaseException") = some true) (xt3 : PySem.W.typeIn K (.ref C3) = some (.type "type"))
    (xa4 : PySem.W.nsIn K mainGlobals "Unpaid" = some (some (.ref C4))) (xe4 : PySem.W.excIn K C4 veB "ValueError.__new__" = true) (xk4 : PySem.W.keepIn K (.ref C4) = true) (xb4 : PySem.W.subIn K (.ref C4) (.type "BaseException") = some true) (xt4 : PySem.W.typeIn K (.ref C4) = some (.type "type"))
    (xa5 : PySem.W.nsIn K mainGlobals "NoText" = some (some (.ref C5))) (xe5 : PySem.W.excIn K C5 veB "ValueError.__new__" = true) (xk5 : PySem.W.keepIn K (.ref C5) = true) (xb5 : PySem.W.subIn K (.ref C5) (.type "BaseException") = some true) (xt5 : PySem.W.typeIn K (.ref C5) = some (.type "type"))
    (xa6 : PySem.W.nsIn K mainGlobals "StopError" = some (some (.ref C6))) (xe6 : PySem.W.excIn K C6 veB "ValueError.__new__" = true) (xk6 : PySem.W.keepIn K (.ref C6) = true) (xb6 : PySem.W.subIn K (.ref C6) (.type "BaseException") = some true) (xt6 : PySem.W.typeIn K (.ref C6) = some (.type "type"))
    (en : PySem.W.specialIn K (.builtin "object.__class__") "__get__" = some (some (.builtin "getset_descriptor.__get__"))) (et : PySem.W.takesIn K (.builtin "object.__class__") = some true)
    (eg1 : PySem.W.findIn K (.ref C0) "__getattribute__" = some (some (.builtin "BaseException.__getattribute__"))) (ek1 : PySem.W.findIn K (.ref C0) "__getattr__" = some none) (ed1 : PySem.W.hasDictIn K C0 = true) (ea1 : PySem.W.findIn K (.ref C0) "__class__" = some (some (.builtin "object.__class__"))) (em1 : PySem.W.mroIn K C0 (.type "object") = some true)
    (eg2 : PySem.W.findIn K (.ref C2) "__getattribute__" = some (some (.builtin "BaseException.__getattribute__"))) (ek2 : PySem.W.findIn K (.ref C2) "__getattr__" = some none) (ed2 : PySem.W.hasDictIn K C2 = true) (ea2 : PySem.W.findIn K (.ref C2) "__class__" = some (some (.builtin "object.__class__"))) (em2 : PySem.W.mroIn K C2 (.type "object") = some true)
    (eg3 : PySem.W.findIn K (.ref C1) "__getattribute__" = some (some (.builtin "BaseException.__getattribute__"))) (ek3 : PySem.W.findIn K (.ref C1) "__getattr__" = some none) (ed3 : PySem.W.hasDictIn K C1 = true) (ea3 : PySem.W.findIn K (.ref C1) "__class__" = some (some (.builtin "object.__class__"))) (em3 : PySem.W.mroIn K C1 (.type "object") = some true)
    (eg4 : PySem.W.findIn K (.ref C3) "__getattribute__" = some (some (.builtin "BaseException.__getattribute__"))) (ek4 : PySem.W.findIn K (.ref C3) "__getattr__" = some none) (ed4 : PySem.W.hasDictIn K C3 = true) (ea4 : PySem.W.findIn K (.ref C3) "__class__" = some (some (.builtin "object.__class__"))) (em4 : PySem.W.mroIn K C3 (.type "object") = some true)
    (eg5 : PySem.W.findIn K (.ref C4) "__getattribute__" = some (some (.builtin "BaseException.__getattribute__"))) (ek5 : PySem.W.findIn K (.ref C4) "__getattr__" = some none) (ed5 : PySem.W.hasDictIn K C4 = true) (ea5 : PySem.W.findIn K (.ref C4) "__class__" = some (some (.builtin "object.__class__"))) (em5 : PySem.W.mroIn K C4 (.type "object") = some true)
    (eg6 : PySem.W.findIn K (.ref C5) "__getattribute__" = some (some (.builtin "BaseException.__getattribute__"))) (ek6 : PySem.W.findIn K (.ref C5) "__getattr__" = some none) (ed6 : PySem.W.hasDictIn K C5 = true) (ea6 : PySem.W.findIn K (.ref C5) "__class__" = some (some (.builtin "object.__class__"))) (em6 : PySem.W.mroIn K C5 (.type "object") = some true)
    (qNoGame1 : PySem.W.kitOne K (.ref C0) (.ref C0) = some true)
    (qNoGame2 : PySem.W.kitOne K (.ref C2) (.ref C0) = some false)
    (qNoGame3 : PySem.W.kitOne K (.ref C1) (.ref C0) = some false)
    (qNoGame4 : PySem.W.kitOne K (.ref C3) (.ref C0) = some false)
    (qNoGame5 : PySem.W.kitOne K (.ref C4) (.ref C0) = some false)
    (qNoGame6 : PySem.W.kitOne K (.ref C5) (.ref C0) = some false)
    (qNoPath1 : PySem.W.kitOne K (.ref C0) (.ref C2) = some false)
    (qNoPath2 : PySem.W.kitOne K (.ref C2) (.ref C2) = some true)
    (qNoPath3 : PySem.W.kitOne K (.ref C1) (.ref C2) = some false)
    (qNoPath4 : PySem.W.kitOne K (.ref C3) (.ref C2) = some false)
    (qNoPath5 : PySem.W.kitOne K (.ref C4) (.ref C2) = some false)
    (qNoPath6 : PySem.W.kitOne K (.ref C5) (.ref C2) = some false)
    (qNoRule1 : PySem.W.kitOne K (.ref C0) (.ref C1) = some false)
    (qNoRule2 : PySem.W.kitOne K (.ref C2) (.ref C1) = some false)
    (qNoRule3 : PySem.W.kitOne K (.ref C1) (.ref C1) = some true)
    (qNoRule4 : PySem.W.kitOne K (.ref C3) (.ref C1) = some false)
    (qNoRule5 : PySem.W.kitOne K (.ref C4) (.ref C1) = some false)
    (qNoRule6 : PySem.W.kitOne K (.ref C5) (.ref C1) = some false)
    (qNoBets1 : PySem.W.kitOne K (.ref C0) (.ref C3) = some false)
    (qNoBets2 : PySem.W.kitOne K (.ref C2) (.ref C3) = some false)
    (qNoBets3 : PySem.W.kitOne K (.ref C1) (.ref C3) = some false)
    (qNoBets4 : PySem.W.kitOne K (.ref C3) (.ref C3) = some true)
    (qNoBets5 : PySem.W.kitOne K (.ref C4) (.ref C3) = some false)
    (qNoBets6 : PySem.W.kitOne K (.ref C5) (.ref C3) = some false)
    (qUnpaid1 : PySem.W.kitOne K (.ref C0) (.ref C4) = some false)
    (qUnpaid2 : PySem.W.kitOne K (.ref C2) (.ref C4) = some false)
    (qUnpaid3 : PySem.W.kitOne K (.ref C1) (.ref C4) = some false)
    (qUnpaid4 : PySem.W.kitOne K (.ref C3) (.ref C4) = some false)
    (qUnpaid5 : PySem.W.kitOne K (.ref C4) (.ref C4) = some true)
    (qUnpaid6 : PySem.W.kitOne K (.ref C5) (.ref C4) = some false)
    (qNoText1 : PySem.W.kitOne K (.ref C0) (.ref C5) = some false)
    (qNoText2 : PySem.W.kitOne K (.ref C2) (.ref C5) = some false)
    (qNoText3 : PySem.W.kitOne K (.ref C1) (.ref C5) = some false)
    (qNoText4 : PySem.W.kitOne K (.ref C3) (.ref C5) = some false)
    (qNoText5 : PySem.W.kitOne K (.ref C4) (.ref C5) = some false)
    (qNoText6 : PySem.W.kitOne K (.ref C5) (.ref C5) = some true)
    (qv1 : PySem.W.kitOne K (.ref C0) (.type "ValueError") = some true)
    (qv2 : PySem.W.kitOne K (.ref C2) (.type "ValueError") = some true)
    (qv3 : PySem.W.kitOne K (.ref C1) (.type "ValueError") = some true)
    (qv4 : PySem.W.kitOne K (.ref C3) (.type "ValueError") = some true)
    (qv5 : PySem.W.kitOne K (.ref C4) (.type "ValueError") = some true)
    (qv6 : PySem.W.kitOne K (.ref C5) (.type "ValueError") = some true)
    (qc : PySem.W.isClsIn K C6 = true)
    (qx1 : PySem.W.subIn K (.ref C0) (.ref C6) = some true)
    (qx2 : PySem.W.subIn K (.ref C2) (.ref C6) = some true)
    (qx3 : PySem.W.subIn K (.ref C1) (.ref C6) = some true)
    (qx4 : PySem.W.subIn K (.ref C3) (.ref C6) = some true)
    (qx5 : PySem.W.subIn K (.ref C4) (.ref C6) = some true)
    (qx6 : PySem.W.subIn K (.ref C5) (.ref C6) = some true) :
    ∃ fd : FuncData, (∀ (s : Shared) (v : Value), BindsTo s fd ⟨[v], []⟩ [("script", v)]) ∧ ∀ base : Heap, K.In base → base.Ns mainGlobals mg → FnOk l.prog w K mg base (L2.CX l.prog w) 27 fa fd ["script"] (spL K) := by
  have e := hfa.symm.trans (PySem.W.mg_of X G a43)
  cases e
  have T : Top K mg (fun i => [C6, C0, C2, C1, C3, C4, C5, 0].getD i 0) := {
    m_abs := PySem.W.mg_none_of X G z0,
    m_isinstance := PySem.W.mg_none_of X G z1,
    m_int := PySem.W.mg_none_of X G z2,
    m_bool := PySem.W.mg_none_of X G z3,
    m_tuple := PySem.W.mg_none_of X G z4,
    m_len := PySem.W.mg_none_of X G z5,
    m_all := PySem.W.mg_none_of X G z6,
    m_enumerate := PySem.W.mg_none_of X G z7,
    m_sum := PySem.W.mg_none_of X G z8,
    m_range := PySem.W.mg_none_of X G z9,
    m_max := PySem.W.mg_none_of X G z10,
    m_zip := PySem.W.mg_none_of X G z11,
    m_ValueError := PySem.W.mg_none_of X G z12,
    m_dict := PySem.W.mg_none_of X G z13,
    m_min := PySem.W.mg_none_of X G z14,
    c_GREATEST := ⟨t0, PySem.W.mg_of X G y0⟩,
    c_MOST_WAYS := ⟨t1, PySem.W.mg_of X G y1⟩,
    c_HEAVIEST := ⟨t2, PySem.W.mg_of X G y2⟩,
    c_DEEPEST := ⟨t3, PySem.W.mg_of X G y3⟩,
    x_NoGame := ⟨PySem.W.mg_of X G xa0, xe0, xk0, xb0, xt0⟩,
    x_NoRule := ⟨PySem.W.mg_of X G xa1, xe1, xk1, xb1, xt1⟩,
    x_NoPath := ⟨PySem.W.mg_of X G xa2, xe2, xk2, xb2, xt2⟩,
    x_NoBets := ⟨PySem.W.mg_of X G xa3, xe3, xk3, xb3, xt3⟩,
    x_Unpaid := ⟨PySem.W.mg_of X G xa4, xe4, xk4, xb4, xt4⟩,
    x_NoText := ⟨PySem.W.mg_of X G xa5, xe5, xk5, xb5, xt5⟩,
    x_StopError := ⟨PySem.W.mg_of X G xa6, xe6, xk6, xb6, xt6⟩,
    xt := ⟨List.forall_mem_cons.mpr ⟨⟨eg1, ek1, xb0, ed1, ea1, en, et, em1⟩, List.forall_mem_cons.mpr ⟨⟨eg2, ek2, xb2, ed2, ea2, en, et, em2⟩, List.forall_mem_cons.mpr ⟨⟨eg3, ek3, xb1, ed3, ea3, en, et, em3⟩, List.forall_mem_cons.mpr ⟨⟨eg4, ek4, xb3, ed4, ea4, en, et, em4⟩, List.forall_mem_cons.mpr ⟨⟨eg5, ek5, xb4, ed5, ea5, en, et, em5⟩, List.forall_mem_cons.mpr ⟨⟨eg6, ek6, xb5, ed6, ea6, en, et, em6⟩, fun _ h => nomatch h⟩⟩⟩⟩⟩⟩⟩,
    k_NoGame := List.forall_mem_cons.mpr ⟨qNoGame1, List.forall_mem_cons.mpr ⟨qNoGame2, List.forall_mem_cons.mpr ⟨qNoGame3, List.forall_mem_cons.mpr ⟨qNoGame4, List.forall_mem_cons.mpr ⟨qNoGame5, List.forall_mem_cons.mpr ⟨qNoGame6, fun _ h => nomatch h⟩⟩⟩⟩⟩⟩,
    k_NoPath := List.forall_mem_cons.mpr ⟨qNoPath1, List.forall_mem_cons.mpr ⟨qNoPath2, List.forall_mem_cons.mpr ⟨qNoPath3, List.forall_mem_cons.mpr ⟨qNoPath4, List.forall_mem_cons.mpr ⟨qNoPath5, List.forall_mem_cons.mpr ⟨qNoPath6, fun _ h => nomatch h⟩⟩⟩⟩⟩⟩,
    k_NoRule := List.forall_mem_cons.mpr ⟨qNoRule1, List.forall_mem_cons.mpr ⟨qNoRule2, List.forall_mem_cons.mpr ⟨qNoRule3, List.forall_mem_cons.mpr ⟨qNoRule4, List.forall_mem_cons.mpr ⟨qNoRule5, List.forall_mem_cons.mpr ⟨qNoRule6, fun _ h => nomatch h⟩⟩⟩⟩⟩⟩,
    k_NoBets := List.forall_mem_cons.mpr ⟨qNoBets1, List.forall_mem_cons.mpr ⟨qNoBets2, List.forall_mem_cons.mpr ⟨qNoBets3, List.forall_mem_cons.mpr ⟨qNoBets4, List.forall_mem_cons.mpr ⟨qNoBets5, List.forall_mem_cons.mpr ⟨qNoBets6, fun _ h => nomatch h⟩⟩⟩⟩⟩⟩,
    k_Unpaid := List.forall_mem_cons.mpr ⟨qUnpaid1, List.forall_mem_cons.mpr ⟨qUnpaid2, List.forall_mem_cons.mpr ⟨qUnpaid3, List.forall_mem_cons.mpr ⟨qUnpaid4, List.forall_mem_cons.mpr ⟨qUnpaid5, List.forall_mem_cons.mpr ⟨qUnpaid6, fun _ h => nomatch h⟩⟩⟩⟩⟩⟩,
    k_NoText := List.forall_mem_cons.mpr ⟨qNoText1, List.forall_mem_cons.mpr ⟨qNoText2, List.forall_mem_cons.mpr ⟨qNoText3, List.forall_mem_cons.mpr ⟨qNoText4, List.forall_mem_cons.mpr ⟨qNoText5, List.forall_mem_cons.mpr ⟨qNoText6, fun _ h => nomatch h⟩⟩⟩⟩⟩⟩,
    kv := List.forall_mem_cons.mpr ⟨qv1, List.forall_mem_cons.mpr ⟨qv2, List.forall_mem_cons.mpr ⟨qv3, List.forall_mem_cons.mpr ⟨qv4, List.forall_mem_cons.mpr ⟨qv5, List.forall_mem_cons.mpr ⟨qv6, fun _ h => nomatch h⟩⟩⟩⟩⟩⟩,
    xs := List.forall_mem_cons.mpr ⟨exm_of xb6 (by simpa [PySem.W.isClsIn] using qc) xt6 qx1, List.forall_mem_cons.mpr ⟨exm_of xb6 (by simpa [PySem.W.isClsIn] using qc) xt6 qx2, List.forall_mem_cons.mpr ⟨exm_of xb6 (by simpa [PySem.W.isClsIn] using qc) xt6 qx3, List.forall_mem_cons.mpr ⟨exm_of xb6 (by simpa [PySem.W.isClsIn] using qc) xt6 qx4, List.forall_mem_cons.mpr ⟨exm_of xb6 (by simpa [PySem.W.isClsIn] using qc) xt6 qx5, List.forall_mem_cons.mpr ⟨exm_of xb6 (by simpa [PySem.W.isClsIn] using qc) xt6 qx6, fun _ h => nomatch h⟩⟩⟩⟩⟩⟩,
    f_divisor := ⟨_, _, fun_mk l1 e1 k1, PySem.W.mg_of X G a1, (fun_mk l1 e1 k1).binds fun _ _ _ _ _ _ us hl => match us, hl with | [_, _], _ => rfl⟩,
    f_share := ⟨_, _, fun_mk l2 e2 k2, PySem.W.mg_of X G a2, (fun_mk l2 e2 k2).binds fun _ _ _ _ _ _ us hl => match us, hl with | [_, _], _ => rfl⟩,
    f_plus := ⟨_, _, fun_mk l3 e3 k3, PySem.W.mg_of X G a3, (fun_mk l3 e3 k3).binds fun _ _ _ _ _ _ us hl => match us, hl with | [_, _], _ => rfl⟩,
    f_times := ⟨_, _, fun_mk l4 e4 k4, PySem.W.mg_of X G a4, (fun_mk l4 e4 k4).binds fun _ _ _ _ _ _ us hl => match us, hl with | [_, _], _ => rfl⟩,
    f_all_plus := ⟨_, _, fun_mk l5 e5 k5, PySem.W.mg_of X G a5, (fun_mk l5 e5 k5).binds fun _ _ _ _ _ _ us hl => match us, hl with | [_], _ => rfl⟩,
    f_is_whole := ⟨_, _, fun_mk l6 e6 k6, PySem.W.mg_of X G a6, (fun_mk l6 e6 k6).binds fun _ _ _ _ _ _ us hl => match us, hl with | [_, _, _], _ => rfl⟩,
    f_is_game_in := ⟨_, _, fun_mk l7 e7 k7, PySem.W.mg_of X G a7, (fun_mk l7 e7 k7).binds fun _ _ _ _ _ _ us hl => match us, hl with | [_, _], _ => rfl⟩,
    f_is_game := ⟨_, _, fun_mk l8 e8 k8, PySem.W.mg_of X G a8, (fun_mk l8 e8 k8).binds fun _ _ _ _ _ _ us hl => match us, hl with | [_], _ => rfl⟩,
    f_look_game := ⟨_, _, fun_mk l9 e9 k9, PySem.W.mg_of X G a9, (fun_mk l9 e9 k9).binds fun _ _ _ _ _ _ us hl => match us, hl with | [_], _ => rfl⟩,
    f_is_end := ⟨_, _, fun_mk l10 e10 k10, PySem.W.mg_of X G a10, (fun_mk l10 e10 k10).binds fun _ _ _ _ _ _ us hl => match us, hl with | [_], _ => rfl⟩,
    f_ways_of := ⟨_, _, fun_mk l11 e11 k11, PySem.W.mg_of X G a11, (fun_mk l11 e11 k11).binds fun _ _ _ _ _ _ us hl => match us, hl with | [_], _ => rfl⟩,
    f_paths_of := ⟨_, _, fun_mk l12 e12 k12, PySem.W.mg_of X G a12, (fun_mk l12 e12 k12).binds fun _ _ _ _ _ _ us hl => match us, hl with | [_], _ => rfl⟩,
    f_part_of := ⟨_, _, fun_mk l13 e13 k13, PySem.W.mg_of X G a13, (fun_mk l13 e13 k13).binds fun _ _ _ _ _ _ us hl => match us, hl with | [_, _], _ => rfl⟩,
    f_ends_of := ⟨_, _, fun_mk l14 e14 k14, PySem.W.mg_of X G a14, (fun_mk l14 e14 k14).binds fun _ _ _ _ _ _ us hl => match us, hl with | [_], _ => rfl⟩,
    f_shares_of := ⟨_, _, fun_mk l15 e15 k15, PySem.W.mg_of X G a15, (fun_mk l15 e15 k15).binds fun _ _ _ _ _ _ us hl => match us, hl with | [_], _ => rfl⟩,
    f_chance_of := ⟨_, _, fun_mk l16 e16 k16, PySem.W.mg_of X G a16, (fun_mk l16 e16 k16).binds fun _ _ _ _ _ _ us hl => match us, hl with | [_, _], _ => rfl⟩,
    f_going := ⟨_, _, fun_mk l17 e17 k17, PySem.W.mg_of X G a17, (fun_mk l17 e17 k17).binds fun _ _ _ _ _ _ us hl => match us, hl with | [_], _ => rfl⟩,
    f_most_along := ⟨_, _, fun_mk l18 e18 k18, PySem.W.mg_of X G a18, (fun_mk l18 e18 k18).binds fun _ _ _ _ _ _ us hl => match us, hl with | [_, _], _ => rfl⟩,
    f_mean_of_most := ⟨_, _, fun_mk l19 e19 k19, PySem.W.mg_of X G a19, (fun_mk l19 e19 k19).binds fun _ _ _ _ _ _ us hl => match us, hl with | [_], _ => rfl⟩,
    f_chance_reached := ⟨_, _, fun_mk l20 e20 k20, PySem.W.mg_of X G a20, (fun_mk l20 e20 k20).binds fun _ _ _ _ _ _ us hl => match us, hl with | [_, _], _ => rfl⟩,
    f_mean_square := ⟨_, _, fun_mk l21 e21 k21, PySem.W.mg_of X G a21, (fun_mk l21 e21 k21).binds fun _ _ _ _ _ _ us hl => match us, hl with | [_], _ => rfl⟩,
    f_mean_steps := ⟨_, _, fun_mk l22 e22 k22, PySem.W.mg_of X G a22, (fun_mk l22 e22 k22).binds fun _ _ _ _ _ _ us hl => match us, hl with | [_], _ => rfl⟩,
    f_gain_at := ⟨_, _, fun_mk l23 e23 k23, PySem.W.mg_of X G a23, (fun_mk l23 e23 k23).binds fun _ _ _ _ _ _ us hl => match us, hl with | [_], _ => rfl⟩,
    f_gains_of := ⟨_, _, fun_mk l24 e24 k24, PySem.W.mg_of X G a24, (fun_mk l24 e24 k24).binds fun _ _ _ _ _ _ us hl => match us, hl with | [_], _ => rfl⟩,
    f_is_fair := ⟨_, _, fun_mk l25 e25 k25, PySem.W.mg_of X G a25, (fun_mk l25 e25 k25).binds fun _ _ _ _ _ _ us hl => match us, hl with | [_], _ => rfl⟩,
    f__law_cell := ⟨_, _, fun_mk l26 e26 k26, PySem.W.mg_of X G a26, (fun_mk l26 e26 k26).binds fun _ _ _ _ _ _ us hl => match us, hl with | [_, _], _ => rfl⟩,
    f__law_pick := ⟨_, _, fun_mk l27 e27 k27, PySem.W.mg_of X G a27, (fun_mk l27 e27 k27).binds fun _ _ _ _ _ _ us hl => match us, hl with | [_, _, _], _ => rfl⟩,
    f__law_game := ⟨_, _, fun_mk l28 e28 k28, PySem.W.mg_of X G a28, (fun_mk l28 e28 k28).binds fun _ _ _ _ _ _ us hl => match us, hl with | [_, _, _, _, _], _ => rfl⟩,
    f__law_drawn := ⟨_, _, fun_mk l29 e29 k29, PySem.W.mg_of X G a29, (fun_mk l29 e29 k29).binds fun _ _ _ _ _ _ us hl => match us, hl with | [_, _], _ => rfl⟩,
    f__law_ways := ⟨_, _, fun_mk l30 e30 k30, PySem.W.mg_of X G a30, (fun_mk l30 e30 k30).binds fun _ _ _ _ _ _ us hl => match us, hl with | [_], _ => rfl⟩,
    f__law_low := ⟨_, _, fun_mk l31 e31 k31, PySem.W.mg_of X G a31, (fun_mk l31 e31 k31).binds fun _ _ _ _ _ _ us hl => match us, hl with | [_, _], _ => rfl⟩,
    f__law_walk := ⟨_, _, fun_mk l32 e32 k32, PySem.W.mg_of X G a32, (fun_mk l32 e32 k32).binds fun _ _ _ _ _ _ us hl => match us, hl with | [_], _ => rfl⟩,
    f__law_sum := ⟨_, _, fun_mk l33 e33 k33, PySem.W.mg_of X G a33, (fun_mk l33 e33 k33).binds fun _ _ _ _ _ _ us hl => match us, hl with | [_], _ => rfl⟩,
    f__law_prod := ⟨_, _, fun_mk l34 e34 k34, PySem.W.mg_of X G a34, (fun_mk l34 e34 k34).binds fun _ _ _ _ _ _ us hl => match us, hl with | [_, _], _ => rfl⟩,
    f__law_places := ⟨_, _, fun_mk l35 e35 k35, PySem.W.mg_of X G a35, (fun_mk l35 e35 k35).binds fun _ _ _ _ _ _ us hl => match us, hl with | [_], _ => rfl⟩,
    f__law_put := ⟨_, _, fun_mk l36 e36 k36, PySem.W.mg_of X G a36, (fun_mk l36 e36 k36).binds fun _ _ _ _ _ _ us hl => match us, hl with | [_, _, _], _ => rfl⟩,
    f__law_spoilt_thing := ⟨_, _, fun_mk l37 e37 k37, PySem.W.mg_of X G a37, (fun_mk l37 e37 k37).binds fun _ _ _ _ _ _ us hl => match us, hl with | [_, _, _], _ => rfl⟩,
    f__law_whole := ⟨_, _, fun_mk l38 e38 k38, PySem.W.mg_of X G a38, (fun_mk l38 e38 k38).binds fun _ _ _ _ _ _ us hl => match us, hl with | [_, _, _], _ => rfl⟩,
    f__law_is_game := ⟨_, _, fun_mk l39 e39 k39, PySem.W.mg_of X G a39, (fun_mk l39 e39 k39).binds fun _ _ _ _ _ _ us hl => match us, hl with | [_, _], _ => rfl⟩,
    f__law_word := ⟨_, _, fun_mk l40 e40 k40, PySem.W.mg_of X G a40, (fun_mk l40 e40 k40).binds fun _ _ _ _ _ _ us hl => match us, hl with | [_], _ => rfl⟩,
    f__law_do := ⟨_, _, fun_mk l41 e41 k41, PySem.W.mg_of X G a41, (fun_mk l41 e41 k41).binds fun _ _ _ _ _ _ us hl => match us, hl with | [_, _, _], _ => rfl⟩,
    f__law_lifted := ⟨_, _, fun_mk l42 e42 k42, PySem.W.mg_of X G a42, (fun_mk l42 e42 k42).binds fun _ _ _ _ _ _ us hl => match us, hl with | [_, _], _ => rfl⟩,
    f_law := ⟨_, _, fun_mk l43 e43 k43, PySem.W.mg_of X G a43, (fun_mk l43 e43 k43).binds fun _ _ _ _ _ _ us hl => match us, hl with | [_], _ => rfl⟩ }
  exact ⟨_, fun s v => .of_eq rfl, fun base _ _ => law_by rfl _ fun ns _ => ⟨_, law_true (pickJ ns) (pickJ_ok ns), s_law (cl := Glb.of (fun i => [C6, C0, C2, C1, C3, C4, C5, 0].getD i 0) ns []) T (fun F => pick_fn (s__law_pick T (s__law_cell T))) (fun _ _ z => z) (fun_mk l43 e43 k43)⟩⟩
end Kx
open PySem PySem.W PyProof.Rows
set_option maxHeartbeats 0 in
theorem PySem.Challenge.cw_fairstops_k50_whole_bounds_holds : PySem.Challenge.rw_fairstops_k50_whole_bounds.Holds := by
  w_on; o_law; k_head; (case hw => w_witness2)
  k_fill
  refine L2.walk_of (l := PySem.Challenge.rw_fairstops_k50_whole_bounds) (n := 63) (k := 27) (x := "script") (CX := fun w => L2.CX (PySem.Challenge.rw_fairstops_k50_whole_bounds).prog w) (sp := fun w => Sm.spL _) rfl (by decide) rfl ⟨rfl, by decide, by decide⟩ (fun w h Y => by first | exact PySem.W.kIn_of Y | exact PySem.W.km_in_of Y) ?F (fun _ _ a ns hl _ hS => ⟨a, ns, rfl, hS, hl, fun _ => rfl⟩) (fun _ _ _ _ _ h => Sm.no_exc h)
  case F =>
    intro w mg fa h KX G hmg
    refine' Kx.all_mk KX G hmg ?a1 ?l1 ?e1 ?k1 ?a2 ?l2 ?e2 ?k2 ?a3 ?l3 ?e3 ?k3 ?a4 ?l4 ?e4 ?k4 ?a5 ?l5 ?e5 ?k5 ?a6 ?l6 ?e6 ?k6 ?a7 ?l7 ?e7 ?k7 ?a8 ?l8 ?e8 ?k8 ?a9 ?l9 ?e9 ?k9 ?a10 ?l10 ?e10 ?k10 ?a11 ?l11 ?e11 ?k11 ?a12 ?l12 ?e12 ?k12 ?a13 ?l13 ?e13 ?k13 ?a14 ?l14 ?e14 ?k14 ?a15 ?l15 ?e15 ?k15 ?a16 ?l16 ?e16 ?k16 ?a17 ?l17 ?e17 ?k17 ?a18 ?l18 ?e18 ?k18 ?a19 ?l19 ?e19 ?k19 ?a20 ?l20 ?e20 ?k20 ?a21 ?l21 ?e21 ?k21 ?a22 ?l22 ?e22 ?k22 ?a23 ?l23 ?e23 ?k23 ?a24 ?l24 ?e24 ?k24 ?a25 ?l25 ?e25 ?k25 ?a26 ?l26 ?e26 ?k26 ?a27 ?l27 ?e27 ?k27 ?a28 ?l28 ?e28 ?k28 ?a29 ?l29 ?e29 ?k29 ?a30 ?l30 ?e30 ?k30 ?a31 ?l31 ?e31 ?k31 ?a32 ?l32 ?e32 ?k32 ?a33 ?l33 ?e33 ?k33 ?a34 ?l34 ?e34 ?k34 ?a35 ?l35 ?e35 ?k35 ?a36 ?l36 ?e36 ?k36 ?a37 ?l37 ?e37 ?k37 ?a38 ?l38 ?e38 ?k38 ?a39 ?l39 ?e39 ?k39 ?a40 ?l40 ?e40 ?k40 ?a41 ?l41 ?e41 ?k41 ?a42 ?l42 ?e42 ?k42 ?a43 ?l43 ?e43 ?k43 ?z0 ?z1 ?z2 ?z3 ?z4 ?z5 ?z6 ?z7 ?z8 ?z9 ?z10 ?z11 ?z12 ?z13 ?z14 ?y0 ?y1 ?y2 ?y3 ?xa0 ?xe0 ?xk0 ?xb0 ?xt0 ?xa1 ?xe1 ?xk1 ?xb1 ?xt1 ?xa2 ?xe2 ?xk2 ?xb2 ?xt2 ?xa3 ?xe3 ?xk3 ?xb3 ?xt3 ?xa4 ?xe4 ?xk4 ?xb4 ?xt4 ?xa5 ?xe5 ?xk5 ?xb5 ?xt5 ?xa6 ?xe6 ?xk6 ?xb6 ?xt6 ?en ?et ?eg1 ?ek1 ?ed1 ?ea1 ?em1 ?eg2 ?ek2 ?ed2 ?ea2 ?em2 ?eg3 ?ek3 ?ed3 ?ea3 ?em3 ?eg4 ?ek4 ?ed4 ?ea4 ?em4 ?eg5 ?ek5 ?ed5 ?ea5 ?em5 ?eg6 ?ek6 ?ed6 ?ea6 ?em6 ?qNoGame1 ?qNoGame2 ?qNoGame3 ?qNoGame4 ?qNoGame5 ?qNoGame6 ?qNoPath1 ?qNoPath2 ?qNoPath3 ?qNoPath4 ?qNoPath5 ?qNoPath6 ?qNoRule1 ?qNoRule2 ?qNoRule3 ?qNoRule4 ?qNoRule5 ?qNoRule6 ?qNoBets1 ?qNoBets2 ?qNoBets3 ?qNoBets4 ?qNoBets5 ?qNoBets6 ?qUnpaid1 ?qUnpaid2 ?qUnpaid3 ?qUnpaid4 ?qUnpaid5 ?qUnpaid6 ?qNoText1 ?qNoText2 ?qNoText3 ?qNoText4 ?qNoText5 ?qNoText6 ?qv1 ?qv2 ?qv3 ?qv4 ?qv5 ?qv6 ?qc ?qx1 ?qx2 ?qx3 ?qx4 ?qx5 ?qx6
    (case a1 => k_is)
    (case l1 => k_is)
    (case e1 => k_is)
    (case k1 => k_is)
    (case a2 => k_is)
    (case l2 => k_is)
    (case e2 => k_is)
    (case k2 => k_is)
    (case a3 => k_is)
    (case l3 => k_is)
    (case e3 => k_is)
    (case k3 => k_is)
    (case a4 => k_is)
    (case l4 => k_is)
    (case e4 => k_is)
    (case k4 => k_is)
    (case a5 => k_is)
    (case l5 => k_is)
    (case e5 => k_is)
    (case k5 => k_is)
    (case a6 => k_is)
    (case l6 => k_is)
    (case e6 => k_is)
    (case k6 => k_is)
    (case a7 => k_is)
    (case l7 => k_is)
    (case e7 => k_is)
    (case k7 => k_is)
    (case a8 => k_is)
    (case l8 => k_is)
    (case e8 => k_is)
    (case k8 => k_is)
    (case a9 => k_is)
    (case l9 => k_is)
    (case e9 => k_is)
    (case k9 => k_is)
    (case a10 => k_is)
    (case l10 => k_is)
    (case e10 => k_is)
    (case k10 => k_is)
    (case a11 => k_is)
    (case l11 => k_is)
    (case e11 => k_is)
    (case k11 => k_is)
    (case a12 => k_is)
    (case l12 => k_is)
    (case e12 => k_is)
    (case k12 => k_is)
    (case a13 => k_is)
    (case l13 => k_is)
    (case e13 => k_is)
    (case k13 => k_is)
    (case a14 => k_is)
    (case l14 => k_is)
    (case e14 => k_is)
    (case k14 => k_is)
    (case a15 => k_is)
    (case l15 => k_is)
    (case e15 => k_is)
    (case k15 => k_is)
    (case a16 => k_is)
    (case l16 => k_is)
    (case e16 => k_is)
    (case k16 => k_is)
    (case a17 => k_is)
    (case l17 => k_is)
    (case e17 => k_is)
    (case k17 => k_is)
    (case a18 => k_is)
    (case l18 => k_is)
    (case e18 => k_is)
    (case k18 => k_is)
    (case a19 => k_is)
    (case l19 => k_is)
    (case e19 => k_is)
    (case k19 => k_is)
    (case a20 => k_is)
    (case l20 => k_is)
    (case e20 => k_is)
    (case k20 => k_is)
    (case a21 => k_is)
    (case l21 => k_is)
    (case e21 => k_is)
    (case k21 => k_is)
    (case a22 => k_is)
    (case l22 => k_is)
    (case e22 => k_is)
    (case k22 => k_is)
    (case a23 => k_is)
    (case l23 => k_is)
    (case e23 => k_is)
    (case k23 => k_is)
    (case a24 => k_is)
    (case l24 => k_is)
    (case e24 => k_is)
    (case k24 => k_is)
    (case a25 => k_is)
    (case l25 => k_is)
    (case e25 => k_is)
    (case k25 => k_is)
    (case a26 => k_is)
    (case l26 => k_is)
    (case e26 => k_is)
    (case k26 => k_is)
    (case a27 => k_is)
    (case l27 => k_is)
    (case e27 => k_is)
    (case k27 => k_is)
    (case a28 => k_is)
    (case l28 => k_is)
    (case e28 => k_is)
    (case k28 => k_is)
    (case a29 => k_is)
    (case l29 => k_is)
    (case e29 => k_is)
    (case k29 => k_is)
    (case a30 => k_is)
    (case l30 => k_is)
    (case e30 => k_is)
    (case k30 => k_is)
    (case a31 => k_is)
    (case l31 => k_is)
    (case e31 => k_is)
    (case k31 => k_is)
    (case a32 => k_is)
    (case l32 => k_is)
    (case e32 => k_is)
    (case k32 => k_is)
    (case a33 => k_is)
    (case l33 => k_is)
    (case e33 => k_is)
    (case k33 => k_is)
    (case a34 => k_is)
    (case l34 => k_is)
    (case e34 => k_is)
    (case k34 => k_is)
    (case a35 => k_is)
    (case l35 => k_is)
    (case e35 => k_is)
    (case k35 => k_is)
    (case a36 => k_is)
    (case l36 => k_is)
    (case e36 => k_is)
    (case k36 => k_is)
    (case a37 => k_is)
    (case l37 => k_is)
    (case e37 => k_is)
    (case k37 => k_is)
    (case a38 => k_is)
    (case l38 => k_is)
    (case e38 => k_is)
    (case k38 => k_is)
    (case a39 => k_is)
    (case l39 => k_is)
    (case e39 => k_is)
    (case k39 => k_is)
    (case a40 => k_is)
    (case l40 => k_is)
    (case e40 => k_is)
    (case k40 => k_is)
    (case a41 => k_is)
    (case l41 => k_is)
    (case e41 => k_is)
    (case k41 => k_is)
    (case a42 => k_is)
    (case l42 => k_is)
    (case e42 => k_is)
    (case k42 => k_is)
    (case a43 => k_is)
    (case l43 => k_is)
    (case e43 => k_is)
    (case k43 => k_is)
    (case z0 => k_is)
    (case z1 => k_is)
    (case z2 => k_is)
    (case z3 => k_is)
    (case z4 => k_is)
    (case z5 => k_is)
    (case z6 => k_is)
    (case z7 => k_is)
    (case z8 => k_is)
    (case z9 => k_is)
    (case z10 => k_is)
    (case z11 => k_is)
    (case z12 => k_is)
    (case z13 => k_is)
    (case z14 => k_is)
    (case y0 => k_is)
    (case y1 => k_is)
    (case y2 => k_is)
    (case y3 => k_is)
    (case xa0 => k_is)
    (case xe0 => k_exc)
    (case xk0 => k_is)
    (case xb0 => k_is)
    (case xt0 => k_is)
    (case xa1 => k_is)
    (case xe1 => k_exc)
    (case xk1 => k_is)
    (case xb1 => k_is)
    (case xt1 => k_is)
    (case xa2 => k_is)
    (case xe2 => k_exc)
    (case xk2 => k_is)
    (case xb2 => k_is)
    (case xt2 => k_is)
    (case xa3 => k_is)
    (case xe3 => k_exc)
    (case xk3 => k_is)
    (case xb3 => k_is)
    (case xt3 => k_is)
    (case xa4 => k_is)
    (case xe4 => k_exc)
    (case xk4 => k_is)
    (case xb4 => k_is)
    (case xt4 => k_is)
    (case xa5 => k_is)
    (case xe5 => k_exc)
    (case xk5 => k_is)
    (case xb5 => k_is)
    (case xt5 => k_is)
    (case xa6 => k_is)
    (case xe6 => k_exc)
    (case xk6 => k_is)
    (case xb6 => k_is)
    (case xt6 => k_is)
    (case en => k_is)
    (case et => k_is)
    (case eg1 => k_is)
    (case ek1 => k_is)
    (case ed1 => k_is)
    (case ea1 => k_is)
    (case em1 => k_is)
    (case eg2 => k_is)
    (case ek2 => k_is)
    (case ed2 => k_is)
    (case ea2 => k_is)
    (case em2 => k_is)
    (case eg3 => k_is)
    (case ek3 => k_is)
    (case ed3 => k_is)
    (case ea3 => k_is)
    (case em3 => k_is)
    (case eg4 => k_is)
    (case ek4 => k_is)
    (case ed4 => k_is)
    (case ea4 => k_is)
    (case em4 => k_is)
    (case eg5 => k_is)
    (case ek5 => k_is)
    (case ed5 => k_is)
    (case ea5 => k_is)
    (case em5 => k_is)
    (case eg6 => k_is)
    (case ek6 => k_is)
    (case ed6 => k_is)
    (case ea6 => k_is)
    (case em6 => k_is)
    (case qNoGame1 => kit_is)
    (case qNoGame2 => kit_is)
    (case qNoGame3 => kit_is)
    (case qNoGame4 => kit_is)
    (case qNoGame5 => kit_is)
    (case qNoGame6 => kit_is)
    (case qNoPath1 => kit_is)
    (case qNoPath2 => kit_is)
    (case qNoPath3 => kit_is)
    (case qNoPath4 => kit_is)
    (case qNoPath5 => kit_is)
    (case qNoPath6 => kit_is)
    (case qNoRule1 => kit_is)
    (case qNoRule2 => kit_is)
    (case qNoRule3 => kit_is)
    (case qNoRule4 => kit_is)
    (case qNoRule5 => kit_is)
    (case qNoRule6 => kit_is)
    (case qNoBets1 => kit_is)
    (case qNoBets2 => kit_is)
    (case qNoBets3 => kit_is)
    (case qNoBets4 => kit_is)
    (case qNoBets5 => kit_is)
    (case qNoBets6 => kit_is)
    (case qUnpaid1 => kit_is)
    (case qUnpaid2 => kit_is)
    (case qUnpaid3 => kit_is)
    (case qUnpaid4 => kit_is)
    (case qUnpaid5 => kit_is)
    (case qUnpaid6 => kit_is)
    (case qNoText1 => kit_is)
    (case qNoText2 => kit_is)
    (case qNoText3 => kit_is)
    (case qNoText4 => kit_is)
    (case qNoText5 => kit_is)
    (case qNoText6 => kit_is)
    (case qv1 => kit_is)
    (case qv2 => kit_is)
    (case qv3 => kit_is)
    (case qv4 => kit_is)
    (case qv5 => kit_is)
    (case qv6 => kit_is)
    (case qc => k_is)
    (case qx1 => k_is)
    (case qx2 => k_is)
    (case qx3 => k_is)
    (case qx4 => k_is)
    (case qx5 => k_is)
    (case qx6 => k_is)

