import PyProof.Rows.All
import Wide.All
import OpenK.AllK
import Wide.FinOn
import HandS.ForMost
import KE.GoesEnum
import HandS.ForExc
import HandS.Flow
import HandS.TupAny
import HandS.TupMul
import HandS.TupLe
import HandS.IsInst
import HandS.Wide
import HandS.CallSlots
import HandS.Lambda
import HandS.NoneIn
import HandS.Style
import HandS.Deep
import HandS.TupSets
import HandS.Zip
import HandS.ExcIs
import HandS.ExcValue
import HandS.HotCalls
import HandS.SetFor
import KE.SortData
import HandS.SortOrd
import HandS.SortRule
import KE.KDictPairs
import HandS.DictTup
import HandS.Nested
import HandS.EndTab
import HandS.Iter
import PySem.Challenge.RW_fairstops_k88_whole_told_lists_too
set_option Elab.async false
set_option linter.all false
set_option maxRecDepth 100000
set_option autoImplicit false
namespace Sm
open PySem PySem.Spec L2
inductive D where
  | non | bl (b : Bool) | int (i : Int) | str (x : Str) | tup (xs : List D) | lst (xs : List D) | dct (kvs : List (D × D)) | exc (c : Nat) | scr (ns : List Int) | scr0 | fnv | obj (k : Nat) | dcl (kvs : List (D × D)) | scr1
  deriving Inhabited
inductive R (α : Type) where
  | ok (a : α) | err (c : Nat) | bad
def R.bind {α β : Type} : R α → (α → R β) → R β
  | .ok a, k => k a
  | .err c, _ => .err c
  | .bad, _ => .bad
instance : Monad R where
  pure := R.ok
  bind := R.bind
abbrev Env := List (Option D)

def isTbl : HO → Bool | .tbl _ => true | _ => false
def Sam (H H' : Hp) : Prop := ∀ b o, H b = some o → isTbl o = false → H' b = some o
theorem Sam.refl (H : Hp) : Sam H H := fun _ _ h _ => h
theorem Sam.trans {H H1 H2 : Hp} (a : Sam H H1) (b : Sam H1 H2) : Sam H H2 := fun c o h n => b c o (a c o h n) n
theorem Sam.of {H H' : Hp} (s : Same H H') : Sam H H' := fun b o h _ => s b o h
theorem Sam.rd {H H' : Hp} {a : Addr} {u : HO} (e : Sam H H') (h : Rd H a u) (n : isTbl u = false) : Rd H' a u := by
  rcases h with h | ⟨o, h⟩
  · exact .inl (e _ _ h n)
  · exact .inr ⟨o, e _ _ h rfl⟩
theorem Sam.sqL {K : PySem.W.Frag} {H H' : Hp} {a : Addr} {xs : List V} (e : Sam H H') (h : SqL K H a xs) : SqL K H' a xs := by
  rcases h with h | h
  · exact .inl (e.rd h rfl)
  · exact .inr h
theorem Sam.sqT {K : PySem.W.Frag} {H H' : Hp} {a : Addr} {xs : List V} (e : Sam H H') (h : SqT K H a xs) : SqT K H' a xs := by
  rcases h with h | h
  · exact .inl (e.rd h rfl)
  · exact .inr h
theorem sqT_of {K : PySem.W.Frag} {H : Hp} {a : Addr} {xs : List V} (h : H a = some (.tup xs)) : SqT K H a xs := .inl (.inl h)
theorem Sam.sqU {K : PySem.W.Frag} {H H' : Hp} {a : Addr} {xs : List V} (e : Sam H H') (h : H a = some (.tup xs)) : SqT K H' a xs := .inl (.inl (e _ _ h rfl))
structure Glb where
  c : Nat → Addr
  ns : List Int
  T : List (Addr × Str)
  fn : Hp → Addr → Prop
  fnM : ∀ H H' v, Sam H H' → fn H v → fn H' v
  ob : Nat → Addr → Prop
def Glb.of (c : Nat → Addr) (ns : List Int) (T : List (Addr × Str)) : Glb := ⟨c, ns, T, fun _ _ => False, fun _ _ _ _ h => h, fun _ _ => False⟩
theorem same_upd {H : Hp} {p : Addr} {o : HO} (h : H p = none) : Same H (upd H p o) := fun b x e => by
  rw [upd_ne (ne_of_none e h)]
  exact e

structure Vw (cl : Glb) (Hv H : Hp) : Prop where
  s : Sam Hv H
  d : ∀ b, H b = none → Hv b = none
  t : ∀ b xs, H b = some (.tup xs) → Hv b = some (.tup xs)
  z : ∀ b o u, H b = some (.frz o u) → Hv b = some (.frz o u)
  tab : LamX.Tabs cl.T H
  x : ∀ b φ, H b = some (.ext φ) → Hv b = some (.ext φ)
section
variable {cl : Glb}
theorem Vw.refl {H : Hp} (t : LamX.Tabs cl.T H) : Vw cl H H := ⟨Sam.refl _, fun _ h => h, fun _ _ h => h, fun _ _ _ h => h, t, fun _ _ h => h⟩
structure Ext (cl : Glb) (Hv H Hv' H' : Hp) : Prop where
  hh : Sam H H'
  vv : Sam Hv Hv'
  vh : Vw cl Hv' H'
  old : ∀ b o, H b = some o → Hv b = none → Hv' b = none
  dom : ∀ b, H' b = none → H b = none
  tt : ∀ b ps, H b = some (.tbl ps) → ∃ ps', H' b = some (.tbl ps')
theorem Ext.refl {Hv H : Hp} (s : Vw cl Hv H) : Ext cl Hv H Hv H := ⟨Sam.refl _, Sam.refl _, s, fun _ _ _ h => h, fun _ h => h, fun _ ps h => ⟨ps, h⟩⟩
theorem Ext.trans {Hv H Hv1 H1 Hv2 H2 : Hp} (a : Ext cl Hv H Hv1 H1) (b : Ext cl Hv1 H1 Hv2 H2) : Ext cl Hv H Hv2 H2 where
  hh := a.hh.trans b.hh
  vv := a.vv.trans b.vv
  vh := b.vh
  old := fun c o h n => by
    cases q : H1 c with
    | none => rw [a.dom c q] at h; cases h
    | some u => exact b.old c u q (a.old c o h n)
  dom := fun c h => a.dom c (b.dom c h)
  tt := fun c ps h => let ⟨ps', h'⟩ := a.tt c ps h; b.tt c ps' h'
theorem upd_none {H : Hp} {p b : Addr} {o : HO} (h : upd H p o b = none) : b ≠ p ∧ H b = none := by
  unfold upd at h
  split at h
  · cases h
  · exact ⟨by assumption, h⟩
theorem Ext.new {Hv H : Hp} {p : Addr} {o : HO} (s : Vw cl Hv H) (h : H p = none) : Ext cl Hv H (upd Hv p o) (upd H p o) where
  hh := .of (same_upd h)
  vv := .of (same_upd (s.d p h))
  vh := ⟨fun b u e n => by
    by_cases z : b = p
    · subst z; rw [upd_same] at e ⊢; exact e
    · rw [upd_ne z] at e ⊢; exact s.s b u e n, fun b e => by
    obtain ⟨h1, h2⟩ := upd_none e
    rw [upd_ne h1]; exact s.d b h2, fun b xs e => by
    by_cases z : b = p
    · subst z; rw [upd_same] at e ⊢; exact e
    · rw [upd_ne z] at e ⊢; exact s.t b xs e, fun b xs y e => by
    by_cases z : b = p
    · subst z; rw [upd_same] at e ⊢; exact e
    · rw [upd_ne z] at e ⊢; exact s.z b xs y e, s.tab.ext (same_upd h), fun b φ e => by
    by_cases z : b = p
    · subst z; rw [upd_same] at e ⊢; exact e
    · rw [upd_ne z] at e ⊢; exact s.x b φ e⟩
  old := fun b u e n => by rw [upd_ne (ne_of_none e h)]; exact n
  dom := fun b e => (upd_none e).2
  tt := fun b ps e => ⟨ps, by rw [upd_ne (ne_of_none e h)]; exact e⟩
end
section
variable (K : PySem.W.Frag) (cl : Glb)
def ExcO (a C : Addr) : HO := .ext fun h => ∃ (o : Obj) (vs : Array Value), h.get? a = some o ∧ Zc (.ref C) none o ∧ o.data = .fields vs
mutual
inductive Rep (H : Hp) : V → D → Prop
  | non : Rep H .non .non
  | bl (b : Bool) : Rep H (.bl b) (.bl b)
  | int (i : Int) : Rep H (.int i) (.int i)
  | str (x : Str) : Rep H (.str x) (.str x)
  | lst {a : Addr} {xs : List V} {ds : List D} : H a = some (.lst xs) → xs.length ≤ sizeLine → Reps H xs ds → Rep H (.ref a) (.lst ds)
  | tup {a : Addr} {xs : List V} {ds : List D} : H a = some (.tup xs) → xs.length ≤ sizeLine → Reps H xs ds → Rep H (.ref a) (.tup ds)
  | dctK {a : Addr} {kvs : List (L2.Key × V)} {es : List (D × D)} : H a = some (.dK kvs) → RepsK H kvs es → Rep H (.ref a) (.dct es)
  | dctT {a : Addr} {kvs : List (List L2.Key × V)} {es : List (D × D)} : H a = some (.dT kvs) → es ≠ [] → RepsT H kvs es → Rep H (.ref a) (.dct es)
  | scr {a : Addr} {ns : List Int} : SqL K H a (ns.map V.int) → ns.length ≤ sizeLine → Rep H (.ref a) (.scr ns)
  | scr0 {a : Addr} : SqL K H a (cl.ns.map V.int) → cl.ns.length ≤ sizeLine → Rep H (.ref a) .scr0
  | exc {a : Addr} {c : Nat} : H a = some (ExcO a (cl.c c)) → Rep H (.ref a) (.exc c)
  | fnv {a : Addr} : cl.fn H a → Rep H (.ref a) .fnv
  | obj {a : Addr} {k : Nat} : cl.ob k a → Rep H (.ref a) (.obj k)
  | dclK {a : Addr} {o : Obj} {kvs : List (L2.Key × V)} {es : List (D × D)} : H a = some (.frz o (.dK kvs)) → RepsK H kvs es → Rep H (.ref a) (.dcl es)
  | dclT {a : Addr} {o : Obj} {kvs : List (List L2.Key × V)} {es : List (D × D)} : H a = some (.frz o (.dT kvs)) → es ≠ [] → RepsT H kvs es → Rep H (.ref a) (.dcl es)
  | scr1 {a : Addr} : SqL K H a ((cl.ns.map (· + 1)).map V.int) → cl.ns.length ≤ sizeLine → Rep H (.ref a) .scr1
inductive Reps (H : Hp) : List V → List D → Prop
  | nil : Reps H [] []
  | cons {v : V} {vs : List V} {d : D} {ds : List D} : Rep H v d → Reps H vs ds → Reps H (v :: vs) (d :: ds)
inductive RepsK (H : Hp) : List (L2.Key × V) → List (D × D) → Prop
  | nil : RepsK H [] []
  | cons {i : Int} {v : V} {d : D} {r : List (L2.Key × V)} {es : List (D × D)} : Rep H v d → RepsK H r es → RepsK H ((Sum.inl i, v) :: r) ((.int i, d) :: es)
inductive RepsT (H : Hp) : List (List L2.Key × V) → List (D × D) → Prop
  | nil : RepsT H [] []
  | cons {k : List Int} {v : V} {d : D} {r : List (List L2.Key × V)} {es : List (D × D)} : Rep H v d → RepsT H r es → RepsT H ((k.map Sum.inl, v) :: r) ((.tup (k.map D.int), d) :: es)
end
end
section
variable {K : PySem.W.Frag} {cl : Glb} {H H' Hv Hv' : Hp}
mutual
theorem Rep.mono (e : Sam H H') : ∀ {v : V} {d : D}, Rep K cl H v d → Rep K cl H' v d
  | _, _, .non => .non
  | _, _, .bl b => .bl b
  | _, _, .int i => .int i
  | _, _, .str x => .str x
  | _, _, .lst h n r => .lst (e _ _ h rfl) n (Reps.mono e r)
  | _, _, .scr h n => .scr (e.sqL h) n
  | _, _, .scr0 h n => .scr0 (e.sqL h) n
  | _, _, .tup h n r => .tup (e _ _ h rfl) n (Reps.mono e r)
  | _, _, .dctK h r => .dctK (e _ _ h rfl) (RepsK.mono e r)
  | _, _, .dctT h n r => .dctT (e _ _ h rfl) n (RepsT.mono e r)
  | _, _, .exc h => .exc (e _ _ h rfl)
  | _, _, .fnv h => .fnv (cl.fnM _ _ _ e h)
  | _, _, .obj h => .obj h
  | _, _, .dclK h r => .dclK (e _ _ h rfl) (RepsK.mono e r)
  | _, _, .dclT h n r => .dclT (e _ _ h rfl) n (RepsT.mono e r)
  | _, _, .scr1 h n => .scr1 (e.sqL h) n
theorem Reps.mono (e : Sam H H') : ∀ {v : List V} {d : List D}, Reps K cl H v d → Reps K cl H' v d
  | _, _, .nil => .nil
  | _, _, .cons r t => .cons (Rep.mono e r) (Reps.mono e t)
theorem RepsK.mono (e : Sam H H') : ∀ {v : List (L2.Key × V)} {d : List (D × D)}, RepsK K cl H v d → RepsK K cl H' v d
  | _, _, .nil => .nil
  | _, _, .cons r t => .cons (Rep.mono e r) (RepsK.mono e t)
theorem RepsT.mono (e : Sam H H') : ∀ {v : List (List L2.Key × V)} {d : List (D × D)}, RepsT K cl H v d → RepsT K cl H' v d
  | _, _, .nil => .nil
  | _, _, .cons r t => .cons (Rep.mono e r) (RepsT.mono e t)
end
theorem Reps.length : ∀ {vs : List V} {ds : List D}, Reps K cl H vs ds → vs.length = ds.length
  | _, _, .nil => rfl
  | _, _, .cons _ t => by rw [List.length_cons, List.length_cons, Reps.length t]
theorem Reps.get : ∀ {vs : List V} {ds : List D} {i : Nat} {d : D}, Reps K cl H vs ds → ds[i]? = some d → ∃ v, vs[i]? = some v ∧ Rep K cl H v d
  | _, _, _, _, .nil, e => by simp at e
  | _, _, 0, _, .cons r _, e => by simp at e; subst e; exact ⟨_, rfl, r⟩
  | _, _, i + 1, d, .cons _ t, e => by
    obtain ⟨u, h1, h2⟩ := Reps.get (i := i) (d := d) t (by simpa using e)
    exact ⟨u, by simpa using h1, h2⟩
theorem Reps.append : ∀ {vs us : List V} {ds es : List D}, Reps K cl H vs ds → Reps K cl H us es → Reps K cl H (vs ++ us) (ds ++ es)
  | _, _, _, _, .nil, s => s
  | _, _, _, _, .cons r t, s => .cons r (Reps.append t s)
theorem Reps.take : ∀ {vs : List V} {ds : List D} (n : Nat), Reps K cl H vs ds → Reps K cl H (vs.take n) (ds.take n)
  | _, _, 0, _ => .nil
  | _, _, _ + 1, .nil => .nil
  | _, _, n + 1, .cons r t => .cons r (Reps.take n t)
theorem Reps.drop : ∀ {vs : List V} {ds : List D} (n : Nat), Reps K cl H vs ds → Reps K cl H (vs.drop n) (ds.drop n)
  | _, _, 0, r => r
  | _, _, _ + 1, .nil => .nil
  | _, _, n + 1, .cons _ t => Reps.drop n t
theorem Reps.reverse : ∀ {vs : List V} {ds : List D}, Reps K cl H vs ds → Reps K cl H vs.reverse ds.reverse
  | _, _, .nil => .nil
  | _, _, .cons r t => by
    rw [List.reverse_cons, List.reverse_cons]
    exact (Reps.reverse t).append (.cons r .nil)
theorem Reps.set {v : V} {d : D} (r : Rep K cl H v d) : ∀ {vs : List V} {ds : List D} (i : Nat), Reps K cl H vs ds → Reps K cl H (vs.set i v) (ds.set i d)
  | _, _, _, .nil => .nil
  | _, _, 0, .cons _ t => .cons r t
  | _, _, i + 1, .cons q t => .cons q (Reps.set r i t)
theorem Reps.replicate (n : Nat) {vs : List V} {ds : List D} (h : Reps K cl H vs ds) : Reps K cl H (List.replicate n vs).flatten (List.replicate n ds).flatten := by
  induction n with
  | zero => exact .nil
  | succ n ih => simp only [List.replicate_succ, List.flatten_cons]; exact h.append ih
end
section
variable (cl : Glb) (W : WX) (σ : St)
def Pst {α : Type} (Hv H : Hp) (T : Hp → Hp → α → Prop) : R α → Prop
  | .ok d => ∀ Hv' H', Ext cl Hv H Hv' H' → T Hv' H' d
  | .err c => ∀ Hv' H', Ext cl Hv H Hv' H' → W (.ref (cl.c c)) none σ H'
  | .bad => False
end
section
variable {cl : Glb} {W : WX} {σ : St} {Hv H Hv1 H1 : Hp} {α β : Type}
theorem Pst.ext {T : Hp → Hp → α → Prop} {r : R α} (h : Pst cl W σ Hv H T r) (e : Ext cl Hv H Hv1 H1) : Pst cl W σ Hv1 H1 T r := by
  cases r with
  | ok d => exact fun Hv' H' e' => h Hv' H' (e.trans e')
  | err c => exact fun Hv' H' e' => h Hv' H' (e.trans e')
  | bad => exact h
theorem bindP {r : R α} {k : α → R β} {T : Hp → Hp → β → Prop} {T1 : Hp → Hp → α → Prop} (h : Pst cl W σ Hv H T (r.bind k))
    (hk : ∀ a Hv1 H1, r = .ok a → Ext cl Hv H Hv1 H1 → Pst cl W σ Hv1 H1 T (k a) → T1 Hv1 H1 a) : Pst cl W σ Hv H T1 r := by
  cases r with
  | ok d => exact fun Hv' H' e => hk d Hv' H' rfl e (Pst.ext (r := k d) h e)
  | err c => exact h
  | bad => exact h
end
def TV (K : PySem.W.Frag) (cl : Glb) (Q : VK) : Hp → Hp → D → Prop := fun Hv' H' d => ∀ v, Rep K cl Hv' v d → Q v H'
def TVs (K : PySem.W.Frag) (cl : Glb) (Q : List V → Hp → Prop) : Hp → Hp → List D → Prop := fun Hv' H' d => ∀ v, Reps K cl Hv' v d → Q v H'
def TB (Q : Bool → Hp → Prop) : Hp → Hp → Bool → Prop := fun _ H' b => Q b H'

structure ER (K : PySem.W.Frag) (cl : Glb) (Hv : Hp) (ρ : Env) (σ : St) : Prop where
  get : ∀ (i : Nat) d, ρ[i]? = some (some d) → ∃ v, σ[i]? = some (some v) ∧ Rep K cl Hv v d
  len : ρ.length = σ.length
theorem ER.mono {K : PySem.W.Frag} {cl : Glb} {Hv Hv' : Hp} {ρ : Env} {σ : St} (e : ER K cl Hv ρ σ) (s : Sam Hv Hv') : ER K cl Hv' ρ σ :=
  ⟨fun i d h => let ⟨v, h1, h2⟩ := e.get i d h; ⟨v, h1, h2.mono s⟩, e.len⟩

abbrev DE := Env → R D
abbrev DA := Env → R (List D)
abbrev DT := Env → R Bool
section
variable (X : Cx) (W : WX) (cl : Glb)
def RunE (f : DE) (t : TE) : Prop := ∀ (Hv H : Hp) (σ : St) (ρ : Env) (Q : VK), Vw cl Hv H → ER X.K cl Hv ρ σ → Pst cl W σ Hv H (TV X.K cl Q) (f ρ) → t σ H Q
def RunA (f : DA) (t : TA) : Prop := ∀ (Hv H : Hp) (σ : St) (ρ : Env) (Q : List V → Hp → Prop), Vw cl Hv H → ER X.K cl Hv ρ σ → Pst cl W σ Hv H (TVs X.K cl Q) (f ρ) → t σ H Q
def RunT (f : DT) (t : TT) : Prop := ∀ (Hv H : Hp) (σ : St) (ρ : Env) (Q : Bool → Hp → Prop), Vw cl Hv H → ER X.K cl Hv ρ σ → Pst cl W σ Hv H (TB Q) (f ρ) → t σ H Q
def SE (e : Expr) (f : DE) : Prop := ∃ t, PE X e t ∧ RunE X W cl f t
def SA (es : List Expr) (f : DA) : Prop := ∃ t, PA X es t ∧ RunA X W cl f t ∧ ∀ ρ ds, f ρ = .ok ds → ds.length = es.length
def ST (e : Expr) (f : DT) : Prop := ∃ t, PT X e t ∧ RunT X W cl f t
def SW (e : Expr) (f : DT) : Prop := ∃ t, PW X e t ∧ RunT X W cl f t
end
end Sm
namespace Sm
open PySem PySem.Spec L2
def ofO {α : Type} : Option α → R α
  | some a => .ok a
  | none => .bad
theorem ofO_ok {α : Type} {o : Option α} {cl : Glb} {W : WX} {σ : St} {Hv H : Hp} {T : Hp → Hp → α → Prop} (h : Pst cl W σ Hv H T (ofO o)) : ∃ a, o = some a ∧ ∀ Hv' H', Ext cl Hv H Hv' H' → T Hv' H' a := by
  cases o with
  | none => exact h.elim
  | some a => exact ⟨a, rfl, h⟩

mutual
def toPy : D → PyData
  | .non => .none
  | .bl b => .bool b
  | .int i => .int i
  | .str x => .str x
  | .tup xs => .tuple (toPys xs)
  | .lst xs => .list (toPys xs)
  | .dct _ => .dict []
  | .exc _ => .dict []
  | .scr ns => .list (ns.map .int)
  | .scr0 => .dict []
  | .fnv => .dict []
  | .obj _ => .dict []
  | .dcl _ => .dict []
  | .scr1 => .dict []
def toPys : List D → List PyData
  | [] => []
  | x :: xs => toPy x :: toPys xs
end
mutual
def pln : Nat → D → Bool
  | _, .non => true
  | _, .bl _ => true
  | _, .int _ => true
  | _, .str x => PySem.PyData.strOk x
  | n + 1, .tup xs => plns n xs
  | n + 1, .lst xs => plns n xs
  | n + 1, .scr _ => true
  | _, _ => false
def plns : Nat → List D → Bool
  | _, [] => true
  | n, x :: xs => pln n x && plns n xs
end
def deqI (i : Int) : D → Bool
  | .int j => i == j
  | .bl b => i == (if b then 1 else 0)
  | _ => false
def deqIs : List Int → List D → Bool
  | [], [] => true
  | i :: is, d :: ds => deqI i d && deqIs is ds
  | _, _ => false
def deqJ (i : Int) : D → Bool
  | .int j => j == i
  | .bl b => (if b then 1 else 0) == i
  | _ => false
def deqJs : List D → List Int → Bool
  | [], [] => true
  | d :: ds, i :: is => deqJ i d && deqJs ds is
  | _, _ => false
mutual
def deq : D → D → Bool
  | .non, .non => true
  | .bl a, .bl b => a == b
  | .bl a, .int j => (if a then 1 else 0) == j
  | .int i, .bl b => i == (if b then 1 else 0)
  | .int i, .int j => i == j
  | .str x, .str y => x == y
  | .lst xs, .lst ys => deqs xs ys
  | .tup xs, .tup ys => deqs xs ys
  | .scr ns, .lst ys => deqIs ns ys
  | .lst ys, .scr ns => deqJs ys ns
  | .scr ns, .scr ms => ns == ms
  | _, _ => false
def deqs : List D → List D → Bool
  | [], [] => true
  | x :: xs, y :: ys => deq x y && deqs xs ys
  | _, _ => false
end
theorem deqI_py (i : Int) (d : D) : PyData.eqv (.int i) (toPy d) = deqI i d := by cases d <;> simp [toPy, deqI, PyData.eqv]
theorem deqJ_py (i : Int) (d : D) : PyData.eqv (toPy d) (.int i) = deqJ i d := by cases d <;> simp [toPy, deqJ, PyData.eqv]
theorem deqIs_py : ∀ (ns : List Int) (ds : List D), PyData.eqvAll (ns.map .int) (toPys ds) = deqIs ns ds
  | [], [] => by simp [toPys, deqIs, PyData.eqvAll]
  | [], _ :: _ => by simp [toPys, deqIs, PyData.eqvAll]
  | _ :: _, [] => by simp [toPys, deqIs, PyData.eqvAll]
  | n :: ns, d :: ds => by simp only [List.map_cons, toPys, deqIs, PyData.eqvAll]; rw [deqI_py, deqIs_py ns ds]
theorem deqJs_py : ∀ (ds : List D) (ns : List Int), PyData.eqvAll (toPys ds) (ns.map .int) = deqJs ds ns
  | [], [] => by simp [toPys, deqJs, PyData.eqvAll]
  | [], _ :: _ => by simp [toPys, deqJs, PyData.eqvAll]
  | _ :: _, [] => by simp [toPys, deqJs, PyData.eqvAll]
  | d :: ds, n :: ns => by simp only [List.map_cons, toPys, deqJs, PyData.eqvAll]; rw [deqJ_py, deqJs_py ds ns]
theorem eqv_ints : ∀ (ns ms : List Int), PyData.eqvAll (ns.map .int) (ms.map .int) = (ns == ms)
  | [], [] => by simp [PyData.eqvAll]
  | [], _ :: _ => by simp [PyData.eqvAll]
  | _ :: _, [] => by simp [PyData.eqvAll]
  | n :: ns, m :: ms => by
    simp only [List.map_cons, PyData.eqvAll]
    rw [eqv_ints ns ms]
    simp [PyData.eqv]
mutual
theorem deq_py : ∀ a b : D, PyData.eqv (toPy a) (toPy b) = deq a b
  | .non, b => by cases b <;> simp [toPy, deq, PyData.eqv]
  | .bl _, b => by cases b <;> simp [toPy, deq, PyData.eqv]
  | .int _, b => by cases b <;> simp [toPy, deq, PyData.eqv]
  | .str _, b => by cases b <;> simp [toPy, deq, PyData.eqv]
  | .tup xs, b => by
    cases b with
    | tup ys => simp only [toPy, deq, PyData.eqv]; exact deqs_py xs ys
    | _ => simp [toPy, deq, PyData.eqv]
  | .lst xs, b => by
    cases b with
    | lst ys => simp only [toPy, deq, PyData.eqv]; exact deqs_py xs ys
    | scr ys => simp only [toPy, deq, PyData.eqv]; exact deqJs_py xs ys
    | _ => simp [toPy, deq, PyData.eqv]
  | .dct _, b => by cases b <;> simp [toPy, deq, PyData.eqv]
  | .exc _, b => by cases b <;> simp [toPy, deq, PyData.eqv]
  | .scr0, b => by cases b <;> simp [toPy, deq, PyData.eqv]
  | .fnv, b => by cases b <;> simp [toPy, deq, PyData.eqv]
  | .obj _, b => by cases b <;> simp [toPy, deq, PyData.eqv]
  | .dcl _, b => by cases b <;> simp [toPy, deq, PyData.eqv]
  | .scr1, b => by cases b <;> simp [toPy, deq, PyData.eqv]
  | .scr xs, b => by
    cases b with
    | lst ys => simp only [toPy, deq, PyData.eqv]; exact deqIs_py xs ys
    | scr ys => simp only [toPy, deq, PyData.eqv]; exact eqv_ints xs ys
    | _ => simp [toPy, deq, PyData.eqv]
theorem deqs_py : ∀ a b : List D, PyData.eqvAll (toPys a) (toPys b) = deqs a b
  | [], [] => by simp [toPys, deqs, PyData.eqvAll]
  | [], _ :: _ => by simp [toPys, deqs, PyData.eqvAll]
  | _ :: _, [] => by simp [toPys, deqs, PyData.eqvAll]
  | x :: xs, y :: ys => by simp only [toPys, deqs, PyData.eqvAll]; rw [deq_py x y, deqs_py xs ys]
end
theorem ints_lay : ∀ ns : List Int, PyData.canLayAll0 (ns.map .int) = true ∧ PyData.depthAll (ns.map .int) = 0
  | [] => by simp [PyData.canLayAll0, PyData.depthAll]
  | n :: ns => by
    have := ints_lay ns
    simp [PyData.canLayAll0, PyData.depthAll, PyData.canLay0, PyData.depth, this.1, this.2]
mutual
theorem pln_lay : ∀ (n : Nat) (a : D), pln n a = true → (toPy a).canLay0 = true ∧ (toPy a).depth ≤ n
  | _, .non, _ => by simp [toPy, PyData.canLay0, PyData.depth]
  | _, .bl _, _ => by simp [toPy, PyData.canLay0, PyData.depth]
  | _, .int _, _ => by simp [toPy, PyData.canLay0, PyData.depth]
  | _, .str x, h => by
    simp only [pln] at h
    simp [toPy, PyData.canLay0, PyData.depth, h]
  | 0, .tup xs, h => by simp [pln] at h
  | 0, .lst xs, h => by simp [pln] at h
  | n + 1, .tup xs, h => by
    simp only [pln] at h
    have := plns_lay n xs h
    simp only [toPy, PyData.canLay0, PyData.depth]
    exact ⟨this.1, by omega⟩
  | n + 1, .lst xs, h => by
    simp only [pln] at h
    have := plns_lay n xs h
    simp only [toPy, PyData.canLay0, PyData.depth]
    exact ⟨this.1, by omega⟩
  | 0, .scr xs, h => by simp [pln] at h
  | n + 1, .scr xs, h => by
    have := ints_lay xs
    simp only [toPy, PyData.canLay0, PyData.depth]
    exact ⟨this.1, by omega⟩
  | 0, .dct _, h => by simp [pln] at h
  | _ + 1, .dct _, h => by simp [pln] at h
  | 0, .exc _, h => by simp [pln] at h
  | _ + 1, .exc _, h => by simp [pln] at h
  | 0, .scr0, h => by simp [pln] at h
  | 0, .fnv, h => by simp [pln] at h
  | 0, .obj _, h => by simp [pln] at h
  | 0, .dcl _, h => by simp [pln] at h
  | 0, .scr1, h => by simp [pln] at h
  | _ + 1, .scr0, h => by simp [pln] at h
  | _ + 1, .fnv, h => by simp [pln] at h
  | _ + 1, .obj _, h => by simp [pln] at h
  | _ + 1, .dcl _, h => by simp [pln] at h
  | _ + 1, .scr1, h => by simp [pln] at h
theorem plns_lay : ∀ (n : Nat) (a : List D), plns n a = true → PyData.canLayAll0 (toPys a) = true ∧ PyData.depthAll (toPys a) ≤ n
  | n, [], _ => by simp [toPys, PyData.canLayAll0, PyData.depthAll]
  | n, x :: xs, h => by
    simp only [plns, Bool.and_eq_true] at h
    have h1 := pln_lay n x h.1
    have h2 := plns_lay n xs h.2
    simp only [toPys, PyData.canLayAll0, PyData.depthAll, Bool.and_eq_true]
    exact ⟨⟨h1.1, h2.1⟩, by omega⟩
end
theorem pln_shaped {a : D} (h : pln 64 a = true) : SeqAt.shaped (toPy a) = true := by
  have := pln_lay 64 a h
  unfold SeqAt.shaped
  rw [this.1, decide_eq_true this.2]; rfl
section
variable {K : PySem.W.Frag} {cl : Glb} {H : Hp}
theorem dp_ints : ∀ ns : List Int, DpAll K H (ns.map V.int) (ns.map PyData.int)
  | [] => .nil
  | n :: ns => .cons (.int n) (dp_ints ns)
mutual
theorem Rep.dp : ∀ {n : Nat} {v : V} {d : D}, Rep K cl H v d → pln n d = true → Dp K H v (toPy d)
  | _, _, _, .non, _ => by simp only [toPy]; exact .non
  | _, _, _, .bl b, _ => by simp only [toPy]; exact .bl b
  | _, _, _, .int b, _ => by simp only [toPy]; exact .int b
  | _, _, _, .str b, _ => by simp only [toPy]; exact .str b
  | 0, _, _, .lst h _ r, p => by simp [pln] at p
  | 0, _, _, .tup h _ r, p => by simp [pln] at p
  | n + 1, _, _, .lst h _ r, p => by
    simp only [pln] at p
    simp only [toPy]
    exact .lst (.inl (.inl h)) (Reps.dp (n := n) r p)
  | 0, _, _, .scr h _, p => by simp [pln] at p
  | n + 1, _, _, .scr h _, p => by
    simp only [toPy]
    exact .lst h (dp_ints _)
  | n + 1, _, _, .tup h _ r, p => by
    simp only [pln] at p
    simp only [toPy]
    exact .tup (sqT_of h) (Reps.dp (n := n) r p)
  | 0, _, _, .exc _, p => by simp [pln] at p
  | _ + 1, _, _, .exc _, p => by simp [pln] at p
  | 0, _, _, .scr0 _ _, p => by simp [pln] at p
  | 0, _, _, .fnv _, p => by simp [pln] at p
  | 0, _, _, .obj _, p => by simp [pln] at p
  | 0, _, _, .dclK _ _, p => by simp [pln] at p
  | 0, _, _, .dclT _ _ _, p => by simp [pln] at p
  | 0, _, _, .scr1 _ _, p => by simp [pln] at p
  | _ + 1, _, _, .scr0 _ _, p => by simp [pln] at p
  | _ + 1, _, _, .fnv _, p => by simp [pln] at p
  | _ + 1, _, _, .obj _, p => by simp [pln] at p
  | _ + 1, _, _, .dclK _ _, p => by simp [pln] at p
  | _ + 1, _, _, .dclT _ _ _, p => by simp [pln] at p
  | _ + 1, _, _, .scr1 _ _, p => by simp [pln] at p
theorem Reps.dp : ∀ {n : Nat} {vs : List V} {ds : List D}, Reps K cl H vs ds → plns n ds = true → DpAll K H vs (toPys ds)
  | _, _, _, .nil, _ => by simp only [toPys]; exact .nil
  | n, _, _, .cons r t, p => by
    simp only [plns, Bool.and_eq_true] at p
    simp only [toPys]
    exact .cons (Rep.dp (n := n) r p.1) (Reps.dp (n := n) t p.2)
end
end
section
variable (X : Cx) (cl : Glb)
def OpS (f : Value → Value → Sem Value) (o : D → D → Option D) : Prop := ∃ r, OpR X f r ∧ ∀ (Hv H : Hp) (x y : V) (a b d : D) (Q : VK), Vw cl Hv H → Rep X.K cl Hv x a → Rep X.K cl Hv y b → o a b = some d →
  (∀ v Hv' H', Ext cl Hv H Hv' H' → Rep X.K cl Hv' v d → Q v H') → r x y H Q
end
theorem OpR.or {X : Cx} {f : Value → Value → Sem Value} {r r' : R2} (h : OpR X f r) (h' : OpR X f r') : OpR X f (fun x y H Q => r x y H Q ∨ r' x y H Q) := by
  intro pins s σ H x y v u Q I rx ry q
  rcases q with q | q
  · exact h pins s σ H x y v u Q I rx ry q
  · exact h' pins s σ H x y v u Q I rx ry q
def orO (o o' : D → D → Option D) : D → D → Option D := fun a b => match o a b with | some d => some d | none => o' a b
theorem OpS.or {X : Cx} {cl : Glb} {f : Value → Value → Sem Value} {o o' : D → D → Option D} (h : OpS X cl f o) (h' : OpS X cl f o') : OpS X cl f (orO o o') := by
  obtain ⟨r, hr, hs⟩ := h
  obtain ⟨r', hr', hs'⟩ := h'
  refine ⟨_, OpR.or hr hr', fun Hv H x y a b d Q vw rx ry e q => ?_⟩
  unfold orO at e
  split at e
  · rename_i d' e'
    cases e
    exact .inl (hs Hv H x y a b _ Q vw rx ry e' q)
  · exact .inr (hs' Hv H x y a b _ Q vw rx ry e q)
theorem OpS.imp {X : Cx} {cl : Glb} {f : Value → Value → Sem Value} {o o' : D → D → Option D} (h : OpS X cl f o) (h' : ∀ a b d, o' a b = some d → o a b = some d) : OpS X cl f o' := by
  obtain ⟨r, hr, hs⟩ := h
  exact ⟨r, hr, fun Hv H x y a b d Q vw rx ry e q => hs Hv H x y a b d Q vw rx ry (h' _ _ _ e) q⟩
section
variable {X : Cx} {cl : Glb}
theorem new_tup {Hv H : Hp} {Q : VK} {xs : List V} {ds : List D} (vw : Vw cl Hv H) (r : Reps X.K cl Hv xs ds) (z : xs.length ≤ sizeLine) (q : ∀ v Hv' H', Ext cl Hv H Hv' H' → Rep X.K cl Hv' v (.tup ds) → Q v H') :
    ∀ p, H p = none → Q (.ref p) (upd H p (.tup xs)) := fun p hp =>
  q _ _ _ (Ext.new vw hp) (.tup upd_same z (r.mono (Ext.new vw hp).vv))
theorem new_lst {Hv H : Hp} {Q : VK} {xs : List V} {ds : List D} (vw : Vw cl Hv H) (r : Reps X.K cl Hv xs ds) (z : xs.length ≤ sizeLine) (q : ∀ v Hv' H', Ext cl Hv H Hv' H' → Rep X.K cl Hv' v (.lst ds) → Q v H') :
    ∀ p, H p = none → Q (.ref p) (upd H p (.lst xs)) := fun p hp =>
  q _ _ _ (Ext.new vw hp) (.lst upd_same z (r.mono (Ext.new vw hp).vv))

def oAddI : D → D → Option D | .int i, .int j => some (.int (i + j)) | _, _ => none
def oSubI : D → D → Option D | .int i, .int j => some (.int (i - j)) | _, _ => none
def mulOk (i j : Int) : Bool := decide (i.natAbs.log2 + j.natAbs.log2 < 1000000) || decide (-(2 ^ 64) < i ∧ i < 2 ^ 64) || decide (-(2 ^ 64) < j ∧ j < 2 ^ 64)
def oMulI : D → D → Option D | .int i, .int j => if mulOk i j then some (.int (i * j)) else none | _, _ => none
def oDivI : D → D → Option D | .int i, .int j => if j ≠ 0 ∧ j.natAbs.log2 < 9000 then some (.int (i.fdiv j)) else none | _, _ => none
def oModI : D → D → Option D | .int i, .int j => if j ≠ 0 then some (.int (i.fmod j)) else none | _, _ => none
def oLt : D → D → Option D | .int i, .int j => some (.bl (decide (i < j))) | _, _ => none
def oLe : D → D → Option D | .int i, .int j => some (.bl (decide (i ≤ j))) | _, _ => none
def oGt : D → D → Option D | .int i, .int j => some (.bl (decide (j < i))) | _, _ => none
def oGe : D → D → Option D | .int i, .int j => some (.bl (decide (j ≤ i))) | _, _ => none
def oCatS : D → D → Option D | .str x, .str y => if x.length + y.length ≤ sizeLine then some (.str (x ++ y)) else none | _, _ => none
def oCatT : D → D → Option D | .tup x, .tup y => if x.length + y.length ≤ sizeLine then some (.tup (x ++ y)) else none | _, _ => none
def oCatL : D → D → Option D | .lst x, .lst y => if x.length + y.length ≤ sizeLine then some (.lst (x ++ y)) else none | _, _ => none
def oEq : D → D → Option D := fun a b => if pln 64 a && pln 64 b then some (.bl (deq a b)) else none
def oNe : D → D → Option D := fun a b => if pln 64 a && pln 64 b then some (.bl (!deq a b)) else none

theorem opI_of {f : Value → Value → Sem Value} {g : Int → Int → V} {h : Int → Int → D} {o : D → D → Option D} (hr : OpR X f (rI0 g)) (hg : ∀ i j H, Rep X.K cl H (g i j) (h i j))
    (ho : ∀ a b d, o a b = some d → ∃ i j, a = .int i ∧ b = .int j ∧ d = h i j) : OpS X cl f o := by
  refine ⟨_, hr, fun Hv H x y a b d Q vw rx ry e q => ?_⟩
  obtain ⟨i, j, rfl, rfl, rfl⟩ := ho a b d e
  cases rx
  cases ry
  exact ⟨i, j, rfl, rfl, q _ _ _ (Ext.refl vw) (hg i j _)⟩
theorem opI_ofC {f : Value → Value → Sem Value} {C : Int → Int → Prop} {g : Int → Int → V} {h : Int → Int → D} {o : D → D → Option D} (hr : OpR X f (rI C g)) (hg : ∀ i j H, Rep X.K cl H (g i j) (h i j))
    (ho : ∀ a b d, o a b = some d → ∃ i j, a = .int i ∧ b = .int j ∧ C i j ∧ d = h i j) : OpS X cl f o := by
  refine ⟨_, hr, fun Hv H x y a b d Q vw rx ry e q => ?_⟩
  obtain ⟨i, j, rfl, rfl, hc, rfl⟩ := ho a b d e
  cases rx
  cases ry
  exact ⟨i, j, rfl, rfl, hc, q _ _ _ (Ext.refl vw) (hg i j _)⟩
theorem os_add : OpS X cl (binaryOp .Add) oAddI := opI_of (h := fun i j => .int (i + j)) op_add (fun _ _ _ => .int _) fun a b d e => by
  cases a <;> cases b <;> simp [oAddI] at e
  subst e; exact ⟨_, _, rfl, rfl, rfl⟩
theorem os_sub : OpS X cl (binaryOp .Sub) oSubI := opI_of (h := fun i j => .int (i - j)) op_sub (fun _ _ _ => .int _) fun a b d e => by
  cases a <;> cases b <;> simp [oSubI] at e
  subst e; exact ⟨_, _, rfl, rfl, rfl⟩
theorem os_lt : OpS X cl (compareOp .Lt) oLt := opI_of (h := fun i j => .bl (decide (i < j))) op_lt (fun _ _ _ => .bl _) fun a b d e => by
  cases a <;> cases b <;> simp [oLt] at e
  subst e; exact ⟨_, _, rfl, rfl, rfl⟩
theorem os_le : OpS X cl (compareOp .LtE) oLe := opI_of (h := fun i j => .bl (decide (i ≤ j))) op_le (fun _ _ _ => .bl _) fun a b d e => by
  cases a <;> cases b <;> simp [oLe] at e
  subst e; exact ⟨_, _, rfl, rfl, rfl⟩
def CMulX (i j : Int) : Prop := mulOk i j = true
theorem op_mulX : OpR X (binaryOp .Mult) (rI CMulX fun i j => .int (i * j)) := opI fun i j _ _ _ _ _ hc q => by
  unfold CMulX mulOk at hc
  rw [Bool.or_eq_true, Bool.or_eq_true] at hc
  rcases hc with (h | h) | h
  · have h' : i.natAbs.log2 + j.natAbs.log2 < 1000000 := of_decide_eq_true h
    exact PyProof.Rows.mul_int q (CMulW.ok (i := i) (j := j) h')
  · exact PyProof.Rows.mul_int q (CMul.ok (.inl (of_decide_eq_true h)))
  · exact PyProof.Rows.mul_int q (CMul.ok (.inr (of_decide_eq_true h)))
theorem os_mul : OpS X cl (binaryOp .Mult) oMulI := opI_ofC (h := fun i j => .int (i * j)) op_mulX (fun _ _ _ => .int _) fun a b d e => by
  cases a <;> cases b <;> simp [oMulI] at e
  obtain ⟨h1, rfl⟩ := e; exact ⟨_, _, rfl, rfl, h1, rfl⟩
theorem op_divX : OpR X (binaryOp .FloorDiv) (rI (fun _ j => j ≠ 0 ∧ j.natAbs.log2 < 9000) fun i j => .int (i.fdiv j)) := opI fun i j _ _ _ _ _ hc q =>
  PyProof.Rows.floordiv_int hc.1 q (.inl (PyProof.noPylong_of_log2 hc.2))
theorem os_div : OpS X cl (binaryOp .FloorDiv) oDivI := opI_ofC (h := fun i j => .int (i.fdiv j)) op_divX (fun _ _ _ => .int _) fun a b d e => by
  cases a <;> cases b <;> simp [oDivI] at e
  obtain ⟨h1, rfl⟩ := e; exact ⟨_, _, rfl, rfl, h1, rfl⟩
theorem os_mod : OpS X cl (binaryOp .Mod) oModI := opI_ofC (h := fun i j => .int (i.fmod j)) op_modN (fun _ _ _ => .int _) fun a b d e => by
  cases a <;> cases b <;> simp [oModI] at e
  obtain ⟨h1, rfl⟩ := e; exact ⟨_, _, rfl, rfl, h1, rfl⟩
theorem os_catS : OpS X cl (binaryOp .Add) oCatS := by
  refine ⟨_, op_add_str, fun Hv H x y a b d Q vw rx ry e q => ?_⟩
  cases a <;> cases b <;> simp [oCatS] at e
  obtain ⟨h1, rfl⟩ := e
  cases rx; cases ry
  exact ⟨_, _, rfl, rfl, h1, q _ _ _ (Ext.refl vw) (.str _)⟩
theorem os_catT : OpS X cl (binaryOp .Add) oCatT := by
  refine ⟨_, op_catA, fun Hv H x y a b d Q vw rx ry e q => ?_⟩
  cases a <;> cases b <;> simp [oCatT] at e
  obtain ⟨h1, rfl⟩ := e
  cases rx with
  | tup s1 z1 r1 =>
    cases ry with
    | tup s2 z2 r2 =>
      have e1 := r1.length
      have e2 := r2.length
      refine ⟨_, _, _, _, rfl, rfl, vw.s.sqU s1, vw.s.sqU s2, by omega, fun h => ?_, fun h h' => ?_, fun h h' => ?_⟩
      · subst h; cases r1
        exact q _ _ _ (Ext.refl vw) (.tup s2 z2 r2)
      · subst h'; cases r2
        rw [List.append_nil] at q
        exact q _ _ _ (Ext.refl vw) (.tup s1 z1 r1)
      · exact new_tup vw (r1.append r2) (by rw [List.length_append]; omega) q
theorem os_catL : OpS X cl (binaryOp .Add) oCatL := by
  refine ⟨_, op_cat, fun Hv H x y a b d Q vw rx ry e q => ?_⟩
  cases a <;> cases b <;> simp [oCatL] at e
  obtain ⟨h1, rfl⟩ := e
  cases rx with
  | lst s1 z1 r1 =>
    cases ry with
    | lst s2 z2 r2 =>
      have e1 := r1.length
      have e2 := r2.length
      exact ⟨_, _, _, _, rfl, rfl, vw.s _ _ s1 rfl, vw.s _ _ s2 rfl, by omega, new_lst vw (r1.append r2) (by rw [List.length_append]; omega) q⟩
theorem os_eq (hu : X.A.units + 64 < cLine) : OpS X cl (compareOp .Eq) oEq := by
  refine ⟨_, op_eqD hu, fun Hv H x y a b d Q vw rx ry e q => ?_⟩
  unfold oEq at e
  split at e
  · rename_i h
    cases e
    rw [Bool.and_eq_true] at h
    refine ⟨toPy a, toPy b, (rx.mono vw.s).dp h.1, (ry.mono vw.s).dp h.2, pln_shaped h.1, pln_shaped h.2, ?_⟩
    rw [deq_py]
    exact q _ _ _ (Ext.refl vw) (.bl _)
  · cases e
theorem os_ne (hu : X.A.units + 64 < cLine) : OpS X cl (compareOp .NotEq) oNe := by
  refine ⟨_, op_neD hu, fun Hv H x y a b d Q vw rx ry e q => ?_⟩
  unfold oNe at e
  split at e
  · rename_i h
    cases e
    rw [Bool.and_eq_true] at h
    refine ⟨toPy a, toPy b, (rx.mono vw.s).dp h.1, (ry.mono vw.s).dp h.2, pln_shaped h.1, pln_shaped h.2, ?_⟩
    rw [deq_py]
    exact q _ _ _ (Ext.refl vw) (.bl _)
  · cases e
def oAdd : D → D → Option D
  | .int i, .int j => some (.int (i + j))
  | .str x, .str y => if x.length + y.length ≤ sizeLine then some (.str (x ++ y)) else none
  | .tup x, .tup y => if x.length + y.length ≤ sizeLine then some (.tup (x ++ y)) else none
  | .lst x, .lst y => if x.length + y.length ≤ sizeLine then some (.lst (x ++ y)) else none
  | _, _ => none
theorem os_plus : OpS X cl (binaryOp .Add) oAdd := (os_add.or (os_catS.or (os_catT.or os_catL))).imp fun a b d e => by
  unfold orO
  cases a <;> cases b <;> simp [oAdd] at e <;> simp [oAddI, oCatS, oCatT, oCatL, e]
end
end Sm
namespace Sm
open PySem PySem.Spec L2
section
variable {X : Cx} {W : WX} {cl : Glb} {pos p : Pos} {a b c e : Expr} {es : List Expr} {fa fb fc : DE}
def dVar (i : Nat) : DE := fun ρ => match ρ[i]? with | some (some d) => .ok d | _ => .bad
def dC (d : D) : DE := fun _ => .ok d
theorem se_var (i : Nat) {x : Str} (hN : X.N[i]? = some x := by rfl) (hv : Vis X.env.scope x := by first | exact Or.inl rfl | exact Or.inr (Or.inl rfl) | exact Or.inr (Or.inr rfl)) (hd : (x == ("__debug__" : Str)) = false := by decide)
    (hcd : (x == ("__classdict__" : Str)) = false := by decide) : SE X W cl (.Name x pos) (dVar i) := by
  refine ⟨_, pe_var hN hv hd hcd, fun Hv H σ ρ Q vw er pv => ?_⟩
  unfold dVar at pv
  split at pv
  · rename_i d h
    obtain ⟨v, h1, h2⟩ := er.get i d h
    exact ⟨v, h1, pv _ _ (Ext.refl vw) v h2⟩
  · exact pv.elim
theorem se_const {e : Expr} {v : V} {d : D} (h : PE X e (tC v)) (r : ∀ H, Rep X.K cl H v d) : SE X W cl e (dC d) :=
  ⟨_, h, fun _ _ _ _ _ vw _ pv => pv _ _ (Ext.refl vw) v (r _)⟩
theorem se_int {i : Int} {j : Nat} : SE X W cl (.Constant (.int i) j pos) (dC (.int i)) := se_const pe_int fun _ => .int i
theorem se_bl {i : Bool} {j : Nat} : SE X W cl (.Constant (.bool i) j pos) (dC (.bl i)) := se_const pe_bl fun _ => .bl i
theorem se_str {i : Str} {j : Nat} : SE X W cl (.Constant (.str i) j pos) (dC (.str i)) := se_const pe_str fun _ => .str i
theorem se_globI {x : Str} {i : Int} {t : Tok} (hg : Gl X x) (hm : X.mg x = some (.int i t)) (hd : (x == ("__debug__" : Str)) = false := by decide) : SE X W cl (.Name x pos) (dC (.int i)) :=
  se_const (pe_glob (v := .int i) hg hm ⟨t, rfl⟩ hd) fun _ => .int i
def dBin (o : D → D → Option D) (fa fb : DE) : DE := fun ρ => (fa ρ).bind fun a => (fb ρ).bind fun b => ofO (o a b)
theorem bin_run {o : D → D → Option D} {r : R2} {ta tb : TE} (hs : ∀ (Hv H : Hp) (x y : V) (a b d : D) (Q : VK), Vw cl Hv H → Rep X.K cl Hv x a → Rep X.K cl Hv y b → o a b = some d →
      (∀ v Hv' H', Ext cl Hv H Hv' H' → Rep X.K cl Hv' v d → Q v H') → r x y H Q)
    (ha : RunE X W cl fa ta)
    (hb : RunE X W cl fb tb)
    : RunE X W cl (dBin o fa fb) (tOp r ta tb) := by
  intro Hv H σ ρ Q vw er pv
  refine ha Hv H σ ρ _ vw er (bindP pv fun x Hv1 H1 _ e1 pv1 v rv => ?_)
  refine hb Hv1 H1 σ ρ _ e1.vh (er.mono e1.vv) (bindP pv1 fun y Hv2 H2 _ e2 pv2 u ru => ?_)
  obtain ⟨d, ed, q⟩ := ofO_ok pv2
  exact hs Hv2 H2 v u x y d Q e2.vh (rv.mono e2.vv) ru ed fun v' Hv' H' e' r' => q Hv' H' e' v' r'
theorem se_op {op : Operator} {o : D → D → Option D} (ho : OpS X cl (binaryOp op) o) (ha : SE X W cl a fa) (hb : SE X W cl b fb) : SE X W cl (.BinOp a op b pos) (dBin o fa fb) := by
  obtain ⟨r, hr, hs⟩ := ho
  obtain ⟨ta, pa, ha⟩ := ha
  obtain ⟨tb, pb, hb⟩ := hb
  exact ⟨_, pe_op hr pa pb, bin_run hs ha hb⟩
theorem se_cmp {op : CmpOp} {o : D → D → Option D} (ho : OpS X cl (compareOp op) o) (ha : SE X W cl a fa) (hb : SE X W cl b fb) (hm : behindInMarks op b = false := by rfl) : SE X W cl (.Compare a [op] [b] pos) (dBin o fa fb) := by
  obtain ⟨r, hr, hs⟩ := ho
  obtain ⟨ta, pa, ha⟩ := ha
  obtain ⟨tb, pb, hb⟩ := hb
  exact ⟨_, pe_cmpR hr pa pb hm, bin_run hs ha hb⟩
def asB : DE → DT := fun f ρ => (f ρ).bind fun d => match d with | .bl b => .ok b | _ => .bad
theorem tTest_run {fa : DE} {ta : TE} (ha : RunE X W cl fa ta) : RunT X W cl (asB fa) (tTest ta) := by
  intro Hv H σ ρ Q vw er pv
  refine ha Hv H σ ρ _ vw er (bindP pv fun x Hv1 H1 _ e1 pv1 v rv => ?_)
  cases x with
  | bl k =>
    cases rv
    exact ⟨k, rfl, pv1 _ _ (Ext.refl e1.vh)⟩
  | _ => exact pv1.elim
theorem st_cmp {op : CmpOp} {o : D → D → Option D} (ho : OpS X cl (compareOp op) o) (ha : SE X W cl a fa) (hb : SE X W cl b fb) (hm : behindInMarks op b = false := by rfl) : ST X W cl (.Compare a [op] [b] pos) (asB (dBin o fa fb)) := by
  obtain ⟨r, hr, hs⟩ := ho
  obtain ⟨ta, pa, ha⟩ := ha
  obtain ⟨tb, pb, hb⟩ := hb
  exact ⟨_, pt_cmpR hr pa pb hm, tTest_run (bin_run hs ha hb)⟩
def dChain (o o' : D → D → Option D) (fa fb fc : DE) : DE := fun ρ => (fa ρ).bind fun a => (fb ρ).bind fun b => (ofO (o a b)).bind fun k => match k with
  | .bl true => (fc ρ).bind fun c => ofO (o' b c)
  | .bl false => .ok (.bl false)
  | _ => .bad
theorem chain_run {o o' : D → D → Option D} {r r' : R2} {ta tb tc : TE} (hs : ∀ (Hv H : Hp) (x y : V) (a b d : D) (Q : VK), Vw cl Hv H → Rep X.K cl Hv x a → Rep X.K cl Hv y b → o a b = some d →
      (∀ v Hv' H', Ext cl Hv H Hv' H' → Rep X.K cl Hv' v d → Q v H') → r x y H Q) (hs' : ∀ (Hv H : Hp) (x y : V) (a b d : D) (Q : VK), Vw cl Hv H → Rep X.K cl Hv x a → Rep X.K cl Hv y b → o' a b = some d →
      (∀ v Hv' H', Ext cl Hv H Hv' H' → Rep X.K cl Hv' v d → Q v H') → r' x y H Q)
    (ha : RunE X W cl fa ta) (hb : RunE X W cl fb tb) (hc : RunE X W cl fc tc) : RunE X W cl (dChain o o' fa fb fc) (tChain r r' ta tb tc) := by
  intro Hv H σ ρ Q vw er pv
  refine ha Hv H σ ρ _ vw er (bindP pv fun x Hv1 H1 _ e1 pv1 v rv => ?_)
  refine hb Hv1 H1 σ ρ _ e1.vh (er.mono e1.vv) (bindP pv1 fun y Hv2 H2 _ e2 pv2 u ru => ?_)
  cases eo : o x y with
  | none => rw [eo] at pv2; exact pv2.elim
  | some d =>
    rw [eo] at pv2
    refine hs Hv2 H2 v u x y d _ e2.vh (rv.mono e2.vv) ru eo fun z Hv3 H3 e3 rz => ?_
    cases d with
    | bl k =>
      cases rz
      refine ⟨k, rfl, ?_⟩
      have pv3 := Pst.ext pv2 e3
      cases k with
      | false =>
        rw [if_neg Bool.false_ne_true]
        exact pv3 _ _ (Ext.refl e3.vh) _ (.bl false)
      | true =>
        rw [if_pos rfl]
        refine hc Hv3 H3 σ ρ _ e3.vh (((er.mono e1.vv).mono e2.vv).mono e3.vv) (bindP (show Pst cl W σ Hv3 H3 (TV X.K cl Q) ((fc ρ).bind fun c => ofO (o' y c)) from pv3) fun w Hv4 H4 _ e4 pv4 t rt => ?_)
        obtain ⟨d', ed, q⟩ := ofO_ok pv4
        exact hs' Hv4 H4 u t y w d' Q e4.vh ((ru.mono e3.vv).mono e4.vv) rt ed fun v' Hv' H' e' r' => q Hv' H' e' v' r'
    | _ => exact pv2.elim
theorem se_chain {op op' : CmpOp} {o o' : D → D → Option D} (ho : OpS X cl (compareOp op) o) (ho' : OpS X cl (compareOp op') o') (ha : SE X W cl a fa) (hb : SE X W cl b fb) (hc : SE X W cl c fc) (hm : lastMarks [op, op'] [b, c] = false := by rfl) :
    SE X W cl (.Compare a [op, op'] [b, c] pos) (dChain o o' fa fb fc) := by
  obtain ⟨r, hr, hs⟩ := ho
  obtain ⟨r', hr', hs'⟩ := ho'
  obtain ⟨ta, pa, ha⟩ := ha
  obtain ⟨tb, pb, hb⟩ := hb
  obtain ⟨tc, pc, hc⟩ := hc
  exact ⟨_, pe_chain hr hr' pa pb pc hm, chain_run hs hs' ha hb hc⟩
theorem st_chain {op op' : CmpOp} {o o' : D → D → Option D} (ho : OpS X cl (compareOp op) o) (ho' : OpS X cl (compareOp op') o') (ha : SE X W cl a fa) (hb : SE X W cl b fb) (hc : SE X W cl c fc) (hm : lastMarks [op, op'] [b, c] = false := by rfl) :
    ST X W cl (.Compare a [op, op'] [b, c] pos) (asB (dChain o o' fa fb fc)) := by
  obtain ⟨r, hr, hs⟩ := ho
  obtain ⟨r', hr', hs'⟩ := ho'
  obtain ⟨ta, pa, ha⟩ := ha
  obtain ⟨tb, pb, hb⟩ := hb
  obtain ⟨tc, pc, hc⟩ := hc
  exact ⟨_, pt_chain hr hr' pa pb pc hm, tTest_run (chain_run hs hs' ha hb hc)⟩

def tru : D → Option Bool
  | .non => some false
  | .bl b => some b
  | .int i => some (i != 0)
  | .str x => if x.length ≤ sizeLine then some ((x.length : Int) != 0) else none
  | .tup xs => some (!xs.isEmpty)
  | .lst xs => some (!xs.isEmpty)
  | _ => none
theorem reps_isEmpty {K : PySem.W.Frag} {H : Hp} {xs : List V} {ds : List D} (r : Reps K cl H xs ds) : (!xs.isEmpty) = !ds.isEmpty := by cases r <;> rfl
theorem tru_rep {K : PySem.W.Frag} {Hv H : Hp} {v : V} {d : D} {k : Bool} (vw : Vw cl Hv H) (r : Rep K cl Hv v d) (h : tru d = some k) : TruV K v H k := by
  cases r with
  | non => exact (Option.some.inj h).symm
  | bl b => exact (Option.some.inj h).symm
  | int b => exact (Option.some.inj h).symm
  | str b =>
    simp only [tru] at h
    split at h
    · exact ⟨by assumption, (Option.some.inj h).symm⟩
    · cases h
  | lst s z r => exact .inl ⟨_, .inl (.inl (vw.s _ _ s rfl)), by rw [reps_isEmpty r]; exact (Option.some.inj h).symm⟩
  | tup s z r => exact .inr (.inl ⟨_, vw.s.sqU s, by rw [reps_isEmpty r]; exact (Option.some.inj h).symm⟩)
  | scr _ _ => cases h
  | scr0 _ _ => cases h
  | fnv _ => cases h
  | obj _ => cases h
  | dclK _ _ => cases h
  | dclT _ _ _ => cases h
  | scr1 _ _ => cases h
  | exc _ => cases h
  | dctK _ _ => cases h
  | dctT _ _ _ => cases h
def dTru (f : DE) : DT := fun ρ => (f ρ).bind fun d => ofO (tru d)
theorem st_truth (ha : SE X W cl a fa) (he : ∀ whole, isTrue a X.env whole = (do let v ← whole; standAt a.pos; holding [v] (truthy v)) := by intro _; rfl) : ST X W cl a (dTru fa) := by
  obtain ⟨ta, pa, ha⟩ := ha
  refine ⟨_, pt_truth pa he, fun Hv H σ ρ Q vw er pv => ?_⟩
  refine ha Hv H σ ρ _ vw er (bindP pv fun x Hv1 H1 _ e1 pv1 v rv => ?_)
  obtain ⟨k, ek, q⟩ := ofO_ok pv1
  exact ⟨k, tru_rep e1.vh rv ek, q _ _ (Ext.refl e1.vh)⟩
def dNotT (f : DT) : DT := fun ρ => (f ρ).bind fun b => .ok (!b)
theorem st_not {f : DT} (ha : ST X W cl a f) : ST X W cl (.UnaryOp .Not a pos) (dNotT f) := by
  obtain ⟨ta, pa, ha⟩ := ha
  refine ⟨_, pt_not pa, fun Hv H σ ρ Q vw er pv => ?_⟩
  exact ha Hv H σ ρ _ vw er (bindP pv fun x Hv1 H1 _ e1 pv1 => pv1 _ _ (Ext.refl e1.vh))
def dAndT (f g : DT) : DT := fun ρ => (f ρ).bind fun b => match b with | true => g ρ | false => .ok false
def dOrT (f g : DT) : DT := fun ρ => (f ρ).bind fun b => match b with | true => .ok true | false => g ρ
theorem sw_one {f : DT} {op : BoolOp} (ha : ST X W cl a f) : SW X W cl (.BoolOp op [a] pos) f := by
  obtain ⟨ta, pa, ha⟩ := ha
  cases op with
  | And => exact ⟨_, pw_and1 pa, ha⟩
  | Or => exact ⟨_, pw_or1 pa, ha⟩
theorem sw_and {f g : DT} (ha : ST X W cl a f) (hb : SW X W cl (.BoolOp .And (b :: es) pos) g) : SW X W cl (.BoolOp .And (a :: b :: es) pos) (dAndT f g) := by
  obtain ⟨ta, pa, ha⟩ := ha
  obtain ⟨tb, pb, hb⟩ := hb
  refine ⟨_, pw_and pa pb, fun Hv H σ ρ Q vw er pv => ?_⟩
  refine ha Hv H σ ρ _ vw er (bindP pv fun x Hv1 H1 _ e1 pv1 => ?_)
  show if x = true then tb σ H1 Q else Q false H1
  cases x with
  | true => rw [if_pos rfl]; exact hb Hv1 H1 σ ρ Q e1.vh (er.mono e1.vv) pv1
  | false => rw [if_neg Bool.false_ne_true]; exact pv1 _ _ (Ext.refl e1.vh)
theorem sw_or {f g : DT} (ha : ST X W cl a f) (hb : SW X W cl (.BoolOp .Or (b :: es) pos) g) : SW X W cl (.BoolOp .Or (a :: b :: es) pos) (dOrT f g) := by
  obtain ⟨ta, pa, ha⟩ := ha
  obtain ⟨tb, pb, hb⟩ := hb
  refine ⟨_, pw_or pa pb, fun Hv H σ ρ Q vw er pv => ?_⟩
  refine ha Hv H σ ρ _ vw er (bindP pv fun x Hv1 H1 _ e1 pv1 => ?_)
  show if x = true then Q true H1 else tb σ H1 Q
  cases x with
  | true => rw [if_pos rfl]; exact pv1 _ _ (Ext.refl e1.vh)
  | false => rw [if_neg Bool.false_ne_true]; exact hb Hv1 H1 σ ρ Q e1.vh (er.mono e1.vv) pv1
theorem SW.st {f : DT} (h : SW X W cl e f) : ST X W cl e f := by
  obtain ⟨t, pt, h⟩ := h
  exact ⟨t, pt.pt, h⟩
def dAnd (f g : DE) : DE := fun ρ => (f ρ).bind fun x => (ofO (tru x)).bind fun k => match k with | true => g ρ | false => .ok x
def dOr (f g : DE) : DE := fun ρ => (f ρ).bind fun x => (ofO (tru x)).bind fun k => match k with | true => .ok x | false => g ρ
def dNot (f : DE) : DE := fun ρ => (f ρ).bind fun x => (ofO (tru x)).bind fun k => .ok (.bl (!k))
theorem se_one {op : BoolOp} (ha : SE X W cl a fa) : SE X W cl (.BoolOp op [a] pos) fa := by
  obtain ⟨ta, pa, ha⟩ := ha
  exact ⟨_, pe_one pa, ha⟩
theorem se_and (ha : SE X W cl a fa) (hb : SE X W cl (.BoolOp .And (b :: es) pos) fb) : SE X W cl (.BoolOp .And (a :: b :: es) pos) (dAnd fa fb) := by
  obtain ⟨ta, pa, ha⟩ := ha
  obtain ⟨tb, pb, hb⟩ := hb
  refine ⟨_, pe_andT pa pb, fun Hv H σ ρ Q vw er pv => ?_⟩
  refine ha Hv H σ ρ _ vw er (bindP pv fun x Hv1 H1 _ e1 pv1 v rv => ?_)
  cases ek : tru x with
  | none => rw [ek] at pv1; exact pv1.elim
  | some k =>
    rw [ek] at pv1
    refine ⟨k, tru_rep e1.vh rv ek, ?_⟩
    cases k with
    | true => rw [if_pos rfl]; exact hb Hv1 H1 σ ρ Q e1.vh (er.mono e1.vv) pv1
    | false => rw [if_neg Bool.false_ne_true]; exact pv1 _ _ (Ext.refl e1.vh) v rv
theorem se_not (ha : SE X W cl a fa) : SE X W cl (.UnaryOp .Not a pos) (dNot fa) := by
  obtain ⟨ta, pa, ha⟩ := ha
  refine ⟨_, pe_notT pa, fun Hv H σ ρ Q vw er pv => ?_⟩
  refine ha Hv H σ ρ _ vw er (bindP pv fun x Hv1 H1 _ e1 pv1 v rv => ?_)
  cases ek : tru x with
  | none => rw [ek] at pv1; exact pv1.elim
  | some k =>
    rw [ek] at pv1
    exact ⟨k, tru_rep e1.vh rv ek, pv1 _ _ (Ext.refl e1.vh) _ (.bl _)⟩
def dIf (t : DT) (f g : DE) : DE := fun ρ => (t ρ).bind fun k => match k with | true => f ρ | false => g ρ
theorem se_if {t : DT} (hc : ST X W cl c t) (ha : SE X W cl a fa) (hb : SE X W cl b fb) : SE X W cl (.IfExp c a b pos) (dIf t fa fb) := by
  obtain ⟨tc, pc, hc⟩ := hc
  obtain ⟨ta, pa, ha⟩ := ha
  obtain ⟨tb, pb, hb⟩ := hb
  refine ⟨_, pe_ifExp pc pa pb, fun Hv H σ ρ Q vw er pv => ?_⟩
  refine hc Hv H σ ρ _ vw er (bindP pv fun x Hv1 H1 _ e1 pv1 => ?_)
  show if x = true then ta σ H1 Q else tb σ H1 Q
  cases x with
  | true => rw [if_pos rfl]; exact ha Hv1 H1 σ ρ Q e1.vh (er.mono e1.vv) pv1
  | false => rw [if_neg Bool.false_ne_true]; exact hb Hv1 H1 σ ρ Q e1.vh (er.mono e1.vv) pv1
def oNeg : D → Option D | .int i => some (.int (-i)) | _ => none
def dUn (o : D → Option D) (f : DE) : DE := fun ρ => (f ρ).bind fun x => ofO (o x)
def dNil : DA := fun _ => .ok []
def dCons (f : DE) (g : DA) : DA := fun ρ => (f ρ).bind fun a => (g ρ).bind fun as => .ok (a :: as)
theorem sa_nil : SA X W cl [] dNil := ⟨_, pa_nil, fun Hv H σ ρ Q vw er pv => pv _ _ (Ext.refl vw) [] .nil, fun ρ ds h => by cases h; rfl⟩
theorem sa_cons {g : DA} (ha : SE X W cl e fa) (hr : SA X W cl es g) (hs : starEach (e :: es) X.env = (false, eval e X.env) :: starEach es X.env := by rfl) : SA X W cl (e :: es) (dCons fa g) := by
  obtain ⟨ta, pa, ha⟩ := ha
  obtain ⟨tr, pr, hr, hl⟩ := hr
  refine ⟨_, pa_cons pa pr hs, fun Hv H σ ρ Q vw er pv => ?_, fun ρ ds h => ?_⟩
  · refine ha Hv H σ ρ _ vw er (bindP pv fun x Hv1 H1 _ e1 pv1 v rv => ?_)
    refine hr Hv1 H1 σ ρ _ e1.vh (er.mono e1.vv) (bindP pv1 fun y Hv2 H2 _ e2 pv2 u ru => ?_)
    exact pv2 _ _ (Ext.refl e2.vh) _ (.cons (rv.mono e2.vv) ru)
  · unfold dCons at h
    cases h1 : fa ρ with
    | ok x =>
      cases h2 : g ρ with
      | ok y =>
        rw [h1, h2] at h
        cases h
        rw [List.length_cons, List.length_cons, hl ρ y h2]
      | err c => rw [h1, h2] at h; cases h
      | bad => rw [h1, h2] at h; cases h
    | err c => rw [h1] at h; cases h
    | bad => rw [h1] at h; cases h
def dTup (g : DA) : DE := fun ρ => (g ρ).bind fun ds => .ok (.tup ds)
def dLst (g : DA) : DE := fun ρ => (g ρ).bind fun ds => .ok (.lst ds)
theorem small_line {n : Nat} (h : decide (n ≤ 1000) = true) : n ≤ sizeLine := Nat.le_of_lt (small1000 (of_decide_eq_true h))
theorem se_tup {g : DA} {x1 : Nat} (h : SA X W cl es g) (hn : decide (es.length ≤ 1000) = true := by rfl) : SE X W cl (.Tuple es x1 pos) (dTup g) := by
  obtain ⟨ta, pa, ha, hl⟩ := h
  refine ⟨_, pe_tup pa, fun Hv H σ ρ Q vw er pv => ?_⟩
  refine ha Hv H σ ρ _ vw er (bindP pv fun x Hv1 H1 ex e1 pv1 v rv => ?_)
  have z : v.length ≤ sizeLine := by rw [rv.length, hl ρ x ex]; exact small_line hn
  exact ⟨z, new_tup e1.vh rv z fun v' Hv' H' e' r' => pv1 _ _ e' v' r'⟩
theorem se_lst {g : DA} (h : SA X W cl es g) (hn : decide (es.length ≤ 1000) = true := by rfl) : SE X W cl (.List es pos) (dLst g) := by
  obtain ⟨ta, pa, ha, hl⟩ := h
  refine ⟨_, pe_lst pa, fun Hv H σ ρ Q vw er pv => ?_⟩
  refine ha Hv H σ ρ _ vw er (bindP pv fun x Hv1 H1 ex e1 pv1 v rv => ?_)
  have z : v.length ≤ sizeLine := by rw [rv.length, hl ρ x ex]; exact small_line hn
  exact ⟨z, new_lst e1.vh rv z fun v' Hv' H' e' r' => pv1 _ _ e' v' r'⟩

def intsD : List D → Option (List Int)
  | [] => some []
  | .int i :: ds => (intsD ds).map (i :: ·)
  | _ => none
theorem intsD_eq : ∀ {xs : List D} {k : List Int}, intsD xs = some k → xs = k.map .int
  | [], k, h => by cases h; rfl
  | .int i :: ds, k, h => by
    simp only [intsD, Option.map_eq_some_iff] at h
    obtain ⟨k', h1, rfl⟩ := h
    rw [intsD_eq h1]; rfl
  | .non :: _, k, h => by cases h
  | .bl _ :: _, k, h => by cases h
  | .str _ :: _, k, h => by cases h
  | .tup _ :: _, k, h => by cases h
  | .lst _ :: _, k, h => by cases h
  | .dct _ :: _, k, h => by cases h
  | .exc _ :: _, k, h => by cases h
  | .scr _ :: _, k, h => by cases h
  | .scr0 :: _, k, h => by cases h
  | .fnv :: _, k, h => by cases h
  | .obj _ :: _, k, h => by cases h
  | .dcl _ :: _, k, h => by cases h
  | .scr1 :: _, k, h => by cases h
theorem intsD_map : ∀ k : List Int, intsD (k.map .int) = some k
  | [] => rfl
  | i :: k => by simp [intsD, intsD_map k]
def isKI (i : Int) : D → Bool | .int j => j == i | _ => false
def isKT (a : List Int) : D → Bool | .tup ys => intsD ys == some a | _ => false
def kInt : D → Bool | .int _ => true | _ => false
def kTup : D → Bool | .tup ys => (intsD ys).isSome | _ => false
def findE (t : D → Bool) (es : List (D × D)) : Option D := (es.find? fun e => t e.1).map (·.2)
def oGetK (es : List (D × D)) : D → Option (Option D)
  | .int i => if es.all fun e => kInt e.1 then some (findE (isKI i) es) else none
  | .tup xs => match intsD xs with
    | some a => if es ≠ [] ∧ es.all fun e => kTup e.1 then some (findE (isKT a) es) else none
    | none => none
  | _ => none
def oIx : D → D → Option D
  | .dct es, k => (oGetK es k).bind id
  | .dcl es, k => (oGetK es k).bind id
  | .lst ds, .int i => atI ds i
  | .tup ds, .int i => atI ds i
  | .scr ns, .int i => (atI ns i).map .int
  | .str z, .int i => if z.length ≤ sizeLine then (atI z.cps.toList i).map fun c => .str ⟨#[c]⟩ else none
  | _, _ => none
def oIxS : D → D → Option D
  | .lst ds, .int i => atI ds i
  | .tup ds, .int i => atI ds i
  | .scr ns, .int i => (atI ns i).map .int
  | .str z, .int i => if z.length ≤ sizeLine then (atI z.cps.toList i).map fun c => .str ⟨#[c]⟩ else none
  | _, _ => none
theorem reps_atI {K : PySem.W.Frag} {H : Hp} {xs : List V} {ds : List D} {i : Int} {d : D} (r : Reps K cl H xs ds) (h : atI ds i = some d) : ∃ v, atI xs i = some v ∧ Rep K cl H v d := by
  unfold atI at h ⊢
  rw [← r.length] at h
  cases q : ixN xs.length i with
  | none => rw [q] at h; cases h
  | some j =>
    rw [q] at h
    obtain ⟨v, h1, h2⟩ := r.get (i := j) h
    exact ⟨v, h1, h2⟩
theorem se_ix (ha : SE X W cl a fa) (hb : SE X W cl b fb) (hs : PlainIx b := by intro _ _; rfl) : SE X W cl (.Subscript a b pos) (dBin oIxS fa fb) := by
  obtain ⟨ta, pa, ha⟩ := ha
  obtain ⟨tb, pb, hb⟩ := hb
  refine ⟨_, pe_ix ix_seq pa pb hs, bin_run (fun Hv H x y a b d Q vw rx ry e q => ?_) ha hb⟩
  cases b with
  | int i =>
    cases ry
    cases rx with
    | lst s z r =>
      obtain ⟨v, h1, h2⟩ := reps_atI r e
      exact .inl ⟨_, _, i, v, rfl, rfl, .inl (.inl (vw.s _ _ s rfl)), h1, q _ _ _ (Ext.refl vw) h2⟩
    | tup s z r =>
      obtain ⟨v, h1, h2⟩ := reps_atI r e
      exact .inr (.inl ⟨_, _, i, v, rfl, rfl, vw.s.sqU s, h1, q _ _ _ (Ext.refl vw) h2⟩)
    | scr s z =>
      simp only [oIxS, Option.map_eq_some_iff] at e
      obtain ⟨n, h1, rfl⟩ := e
      refine .inl ⟨_, _, i, .int n, rfl, rfl, vw.s.sqL s, ?_, q _ _ _ (Ext.refl vw) (.int n)⟩
      unfold atI at h1 ⊢
      rw [List.length_map]
      cases z : ixN _ i with
      | none => rw [z] at h1; cases h1
      | some j =>
        rw [z] at h1
        show (List.map V.int _)[j]? = _
        have h2 : _[j]? = some n := h1
        rw [List.getElem?_map, h2]; rfl
    | str z =>
      simp only [oIxS] at e
      split at e
      · rw [Option.map_eq_some_iff] at e
        obtain ⟨c, h1, rfl⟩ := e
        exact .inr (.inr ⟨_, _, c, rfl, rfl, by assumption, h1, q _ _ _ (Ext.refl vw) (.str _)⟩)
      · cases e
    | _ => cases e
  | _ => cases a <;> cases e
end
end Sm
namespace Sm
open PySem PySem.Spec L2
def spF (K : PySem.W.Frag) (cl : Glb) (n : Nat) (F : List D → R D) : Sp := fun vs H Q E => vs.length = n ∧ ∃ Hv ds, Vw cl Hv H ∧ Reps K cl Hv vs ds ∧ Pst cl (fun c d _ H => E c d H) [] Hv H (TV K cl Q) (F ds)
structure Fn (P : Program) (w : World) (K : PySem.W.Frag) (mg : Str → Option Value) (base : Heap) (cl : Glb) (k : Nat) (x : Str) (n : Nat) (F : List D → R D) : Prop where
  ex : ∃ f fd ps, FnOk P w K mg base (L2.CX P w) k f fd ps (spF K cl n F) ∧ mg x = some (.ref f) ∧ PySem.W.keepIn K (.ref f) = true ∧ Binds K fd ps [] ∧ ps.length = n
theorem Fn.mono {P : Program} {w : World} {K : PySem.W.Frag} {mg : Str → Option Value} {base : Heap} {cl : Glb} {k k' : Nat} {x : Str} {n : Nat} {F : List D → R D} (h : Fn P w K mg base cl k x n F) (hk : k ≤ k') : Fn P w K mg base cl k' x n F := by
  obtain ⟨f, fd, ps, h1, h2, h3, h4, h5⟩ := h
  exact ⟨f, fd, ps, h1.mono hk, h2, h3, h4, h5⟩
section
variable {X : Cx} {W : WX} {cl : Glb} {pos p : Pos} {a b c e : Expr} {es : List Expr} {fa fb fc : DE} {g : DA}
def dCall (F : List D → R D) (g : DA) : DE := fun ρ => (g ρ).bind F
theorem se_call {k n : Nat} {x : Str} {F : List D → R D} (G : Fn X.prog X.w X.K X.mg X.base cl k x n F) (hr : Room k X.A) (tk : Takes X W) (ha : SA X W cl (e :: es) g) (hg : Gl X x := by rfl) (hn : (e :: es).length = n := by rfl) (hdb : (x == ("__debug__" : Str)) = false := by decide)
    (he : starEach (e :: es) X.env = (false, eval e X.env) :: starEach es X.env := by rfl) (hpl : (backTo pos (starEach es X.env)).any (·.1) = false := by rfl) :
    SE X W cl (.Call (.Name x p) (e :: es) [] pos) (dCall F g) := by
  obtain ⟨f, fd, ps, h1, h2, h3, h4, h5⟩ := G
  obtain ⟨ta, pa, ha, hl⟩ := ha
  refine ⟨_, pe_callS h1 hr hg h2 h3 h4 (fun σ => passAt tk σ) pa hdb he hpl, fun Hv H σ ρ Q vw er pv => ?_⟩
  refine ha Hv H σ ρ _ vw er (bindP pv fun x Hv1 H1 ex e1 pv1 v rv => ?_)
  refine ⟨?_, Hv1, x, e1.vh, rv, ?_⟩
  · rw [rv.length, hl ρ x ex]; exact hn
  · cases q : F x with
    | ok d => rw [q] at pv1; exact pv1
    | err c => rw [q] at pv1; exact pv1
    | bad => rw [q] at pv1; exact pv1.elim

section
variable (X : Cx) (cl : Glb)
def CallS (f : Value) (o : List D → Option D) : Prop := ∃ r, CallR X f r ∧ ∀ (Hv H : Hp) (xs : List V) (ds : List D) (d : D) (Q : VK), Vw cl Hv H → Reps X.K cl Hv xs ds → o ds = some d →
  (∀ v Hv' H', Ext cl Hv H Hv' H' → Rep X.K cl Hv' v d → Q v H') → r xs H Q
end
def dB (o : List D → Option D) (g : DA) : DE := fun ρ => (g ρ).bind fun ds => ofO (o ds)
theorem callB_run {o : List D → Option D} {r : List V → Hp → VK → Prop} {t : TA} (hs : ∀ (Hv H : Hp) (xs : List V) (ds : List D) (d : D) (Q : VK), Vw cl Hv H → Reps X.K cl Hv xs ds → o ds = some d →
  (∀ v Hv' H', Ext cl Hv H Hv' H' → Rep X.K cl Hv' v d → Q v H') → r xs H Q) (ha : RunA X W cl g t) : RunE X W cl (dB o g) (tCB r t) := by
  intro Hv H σ ρ Q vw er pv
  refine ha Hv H σ ρ _ vw er (bindP pv fun x Hv1 H1 ex e1 pv1 v rv => ?_)
  obtain ⟨d, ed, q⟩ := ofO_ok pv1
  exact hs Hv1 H1 v x d Q e1.vh rv ed fun v' Hv' H' e' r' => q Hv' H' e' v' r'
theorem se_callB {x : Str} {id : String} {o : List D → Option D} (hc : CallS X cl (.builtin id) o) (hv : bootBuiltins x = some (.builtin id)) (ha : SA X W cl (e :: es) g) (hm : X.mg x = none) (hg : Gl X x := by rfl) (hn : x ≠ "__name__" := by decide) (hdb : (x == ("__debug__" : Str)) = false := by decide)
    (he : starEach (e :: es) X.env = (false, eval e X.env) :: starEach es X.env := by rfl) (hpl : (backTo pos (starEach es X.env)).any (·.1) = false := by rfl) : SE X W cl (.Call (.Name x p) (e :: es) [] pos) (dB o g) := by
  obtain ⟨r, hr, hs⟩ := hc
  obtain ⟨ta, pa, ha, hl⟩ := ha
  exact ⟨_, pe_callB hr hg hm hv pa hn hdb he hpl, callB_run hs ha⟩
theorem se_callTy {x : Str} {T : String} {o : List D → Option D} (hc : CallS X cl (.type T) o) (hv : bootBuiltins x = some (.type T)) (ha : SA X W cl (e :: es) g) (hm : X.mg x = none) (hg : Gl X x := by rfl) (hn : x ≠ "__name__" := by decide) (hdb : (x == ("__debug__" : Str)) = false := by decide)
    (he : starEach (e :: es) X.env = (false, eval e X.env) :: starEach es X.env := by rfl) (hpl : (backTo pos (starEach es X.env)).any (·.1) = false := by rfl) : SE X W cl (.Call (.Name x p) (e :: es) [] pos) (dB o g) := by
  obtain ⟨r, hr, hs⟩ := hc
  obtain ⟨ta, pa, ha, hl⟩ := ha
  exact ⟨_, pe_callTy hr hg hm hv pa hn hdb he hpl, callB_run hs ha⟩

def oLen : List D → Option D
  | [.lst ds] => some (.int ds.length)
  | [.tup ds] => some (.int ds.length)
  | [.scr ds] => some (.int ds.length)
  | [.str z] => if z.length ≤ sizeLine then some (.int z.length) else none
  | _ => none
theorem cs_len : CallS X cl (.builtin "len") oLen := by
  refine ⟨_, call_len, fun Hv H xs ds d Q vw r e q => ?_⟩
  cases r with
  | nil => cases e
  | cons r t =>
    cases t with
    | cons _ _ => cases r <;> cases e
    | nil =>
      cases r with
      | lst s z r =>
        cases e
        refine ⟨_, _, rfl, .inl ⟨_, .inl (.inl (vw.s _ _ s rfl)), rfl⟩, ?_⟩
        rw [r.length]; exact q _ _ _ (Ext.refl vw) (.int _)
      | tup s z r =>
        cases e
        refine ⟨_, _, rfl, .inr ⟨_, vw.s.sqU s, rfl⟩, ?_⟩
        rw [r.length]; exact q _ _ _ (Ext.refl vw) (.int _)
      | scr s z =>
        cases e
        refine ⟨_, _, rfl, .inl ⟨_, vw.s.sqL s, rfl⟩, ?_⟩
        rw [List.length_map]; exact q _ _ _ (Ext.refl vw) (.int _)
      | str z =>
        simp only [oLen] at e
        split at e
        · cases e
          exact ⟨_, _, rfl, ⟨by assumption, rfl⟩, q _ _ _ (Ext.refl vw) (.int _)⟩
        · cases e
      | _ => cases e
def oAbs : List D → Option D | [.int i] => some (.int (if i < 0 then -i else i)) | _ => none
theorem cs_abs : CallS X cl (.builtin "abs") oAbs := by
  refine ⟨_, call_abs, fun Hv H xs ds d Q vw r e q => ?_⟩
  cases r with
  | nil => cases e
  | cons r t =>
    cases t with
    | cons _ _ => cases r <;> cases e
    | nil =>
      cases r with
      | int i =>
        cases e
        exact ⟨_, rfl, q _ _ _ (Ext.refl vw) (.int _)⟩
      | _ => cases e
def oMax2 : List D → Option D | [.int i, .int j] => some (.int (if j > i then j else i)) | _ => none
theorem cs_max2 (hc : X.calm = true) : CallS X cl (.builtin "max") oMax2 := by
  refine ⟨_, call_max2 hc, fun Hv H xs ds d Q vw r e q => ?_⟩
  cases r with
  | nil => cases e
  | cons r t =>
    cases t with
    | nil => cases r <;> cases e
    | cons r' t =>
      cases t with
      | cons _ _ => cases r <;> cases r' <;> cases e
      | nil =>
        cases r with
        | int i =>
          cases r' with
          | int j => cases e; exact ⟨_, _, rfl, q _ _ _ (Ext.refl vw) (.int _)⟩
          | _ => cases e
        | _ => cases r' <;> cases e
end
structure ItOk (K : PySem.W.Frag) (cl : Glb) (J : It) (Hv0 : Hp) (ds : List D) : Prop where
  go : ∀ i Hv H, Sam Hv0 Hv → Vw cl Hv H → i < ds.length → J.go i H
  stop : ∀ i Hv H, Sam Hv0 Hv → Vw cl Hv H → i = ds.length → J.stop i H
  yld : ∀ (i : Nat) Hv H, Sam Hv0 Hv → Vw cl Hv H → ∀ d, ds[i]? = some d → ∀ x H', J.yld i H x H' → ∃ Hv', Ext cl Hv H Hv' H' ∧ Rep K cl Hv' x d
abbrev DI := Env → R (List D)
def TJ (K : PySem.W.Frag) (cl : Glb) (Q : It → Hp → Prop) : Hp → Hp → List D → Prop := fun Hv' H' ds => ds.length ≤ sizeLine → ∀ J, ItOk K cl J Hv' ds → Q J H'
def SI (X : Cx) (W : WX) (cl : Glb) (tg iter : Expr) (f : DI) : Prop := ∃ wi, PI X tg iter wi ∧ ∀ (Hv H : Hp) (σ : St) (ρ : Env) (Q : It → Hp → Prop), Vw cl Hv H → ER X.K cl Hv ρ σ → Pst cl W σ Hv H (TJ X.K cl Q) (f ρ) → wi σ H Q
theorem PI.or {X : Cx} {tg iter : Expr} {w1 w2 : TI} (h1 : PI X tg iter w1) (h2 : PI X tg iter w2) : PI X tg iter (fun σ H R => w1 σ H R ∨ w2 σ H R) :=
  ⟨fun pins s σ H R I h => h.elim (h1.run pins s σ H R I) (h2.run pins s σ H R I)⟩
section
variable {X : Cx} {W : WX} {cl : Glb} {pos p : Pos} {a b c e tg : Expr} {es : List Expr} {fa fb fc : DE} {g : DA}
def itemsOf : D → Option (List D)
  | .lst ds => some ds
  | .tup ds => some ds
  | .scr ns => some (ns.map .int)
  | _ => none
def dItems (f : DE) : DI := fun ρ => (f ρ).bind fun d => ofO (itemsOf d)
theorem it_list {K : PySem.W.Frag} {Hv : Hp} {l : Addr} {xs : List V} {ds : List D} (s : SqL K Hv l xs) (r : Reps K cl Hv xs ds) : ItOk K cl (Itl K l) Hv ds where
  go := fun i Hv' H sm vw h => by
    have hl := r.length
    obtain ⟨v, h1, _⟩ := r.get (i := i) (d := ds[i]) (by simp [h])
    exact ⟨xs, v, vw.s.sqL (sm.sqL s), h1⟩
  stop := fun i Hv' H sm vw h => ⟨xs, vw.s.sqL (sm.sqL s), by rw [r.length]; omega⟩
  yld := fun i Hv' H sm vw d h x H' ⟨e1, e2⟩ => by
    subst e1
    obtain ⟨v, h1, h2⟩ := r.get h
    have := e2 xs (vw.s.sqL (sm.sqL s))
    rw [h1] at this; cases this
    exact ⟨Hv', Ext.refl vw, h2.mono sm⟩
theorem it_tup {K : PySem.W.Frag} {Hv : Hp} {l : Addr} {xs : List V} {ds : List D} (s : SqT K Hv l xs) (r : Reps K cl Hv xs ds) : ItOk K cl (Itt K l) Hv ds where
  go := fun i Hv' H sm vw h => by
    have hl := r.length
    obtain ⟨v, h1, _⟩ := r.get (i := i) (d := ds[i]) (by simp [h])
    exact ⟨xs, v, vw.s.sqT (sm.sqT s), h1⟩
  stop := fun i Hv' H sm vw h => ⟨xs, vw.s.sqT (sm.sqT s), by rw [r.length]; omega⟩
  yld := fun i Hv' H sm vw d h x H' ⟨e1, e2⟩ => by
    subst e1
    obtain ⟨v, h1, h2⟩ := r.get h
    have := e2 xs (vw.s.sqT (sm.sqT s))
    rw [h1] at this; cases this
    exact ⟨Hv', Ext.refl vw, h2.mono sm⟩
theorem reps_ints {K : PySem.W.Frag} {H : Hp} : ∀ ns : List Int, Reps K cl H (ns.map V.int) (ns.map D.int)
  | [] => .nil
  | n :: ns => .cons (.int n) (reps_ints ns)
theorem si_seq (ha : SE X W cl a fa) : SI X W cl tg a (dItems fa) := by
  obtain ⟨ta, pa, ha⟩ := ha
  refine ⟨_, PI.or (pi_list pa) (pi_tup pa), fun Hv H σ ρ Q vw er pv => ?_⟩
  unfold dItems at pv
  cases q : fa ρ with
  | bad => rw [q] at pv; exact pv.elim
  | err c =>
    rw [q] at pv
    exact .inl (ha Hv H σ ρ _ vw er (by rw [q]; exact pv))
  | ok d =>
    rw [q] at pv
    have left : ∀ ds, (itemsOf d = some ds) → (∀ v Hv1, Rep X.K cl Hv1 v d → ∃ l xs, v = .ref l ∧ SqL X.K Hv1 l xs ∧ Reps X.K cl Hv1 xs ds ∧ ds.length ≤ sizeLine) → iList X.K ta σ H Q := fun ds ed hd => by
      refine ha Hv H σ ρ _ vw er ?_
      rw [q]
      intro Hv1 H1 e1 v rv
      obtain ⟨l, xs, rfl, s, r, z⟩ := hd v Hv1 rv
      have pv1 : Pst cl W σ Hv H (TJ X.K cl Q) (ofO (itemsOf d)) := pv
      rw [ed] at pv1
      exact ⟨l, rfl, ⟨xs, e1.vh.s.sqL s⟩, pv1 Hv1 H1 e1 z _ (it_list s r)⟩
    cases d with
    | lst ds => exact .inl (left ds rfl fun v Hv1 rv => by cases rv with | lst s z r => exact ⟨_, _, rfl, .inl (.inl s), r, by rw [← r.length]; exact z⟩)
    | scr ns => exact .inl (left _ rfl fun v Hv1 rv => by cases rv with | scr s z => exact ⟨_, _, rfl, s, reps_ints ns, by rw [List.length_map]; exact z⟩)
    | tup ds =>
      refine .inr (ha Hv H σ ρ _ vw er ?_)
      rw [q]
      intro Hv1 H1 e1 v rv
      cases rv with
      | tup s z r => exact ⟨_, rfl, ⟨_, e1.vh.s.sqU s⟩, pv Hv1 H1 e1 (by rw [← r.length]; exact z) _ (it_tup (sqT_of s) r)⟩
    | _ => exact pv.elim
def rngD (lo : Int) (n : Nat) : List D := (List.range n).map fun i => .int (lo + (i : Nat))
theorem it_range {K : PySem.W.Frag} {Hv : Hp} (lo : Int) (n : Nat) : ItOk K cl (Itr lo n) Hv (rngD lo n) where
  go := fun i Hv' H sm vw h => by
    show i < n
    simpa [rngD] using h
  stop := fun i Hv' H sm vw h => by
    show n ≤ i
    simp [rngD] at h
    omega
  yld := fun i Hv' H sm vw d h x H' ⟨e1, e2⟩ => by
    subst e1 e2
    unfold rngD at h
    rw [List.getElem?_map] at h
    by_cases hi : i < n
    · rw [List.getElem?_range hi] at h
      cases h
      exact ⟨Hv', Ext.refl vw, .int _⟩
    · rw [List.getElem?_eq_none (by simpa using hi)] at h; cases h
def rng1 : List D → Option (List D)
  | [.int j] => if -16777216 ≤ j ∧ j ≤ 16777216 then some (rngD 0 j.toNat) else none
  | _ => none
def dRng (o : List D → Option (List D)) (g : DA) : DI := fun ρ => (g ρ).bind fun d => ofO (o d)
theorem rngD_len (lo : Int) (n : Nat) : (rngD lo n).length = n := by simp [rngD]
theorem si_range1 (ha : SA X W cl [a] g) (hm : X.mg "range" = none) (hg : Gl X "range" := by rfl) (hs : starEach [a] X.env = [(false, eval a X.env)] := by rfl) : SI X W cl tg (.Call (.Name "range" p) [a] [] pos) (dRng rng1 g) := by
  obtain ⟨ta, pa, ha, hl⟩ := ha
  refine ⟨_, pi_range1 hg hm pa hs, fun Hv H σ ρ Q vw er pv => ?_⟩
  refine ha Hv H σ ρ _ vw er (bindP pv fun x Hv1 H1 ex e1 pv1 v rv => ?_)
  obtain ⟨ds, ed, q⟩ := ofO_ok pv1
  cases rv with
  | nil => cases ed
  | cons r t =>
    cases t with
    | cons _ _ => cases r <;> cases ed
    | nil =>
      cases r with
      | int j =>
        simp only [rng1] at ed
        split at ed
        · rename_i hj
          cases ed
          exact ⟨j, rfl, by omega, by omega, q _ _ (Ext.refl e1.vh) (by rw [rngD_len]; show j.toNat ≤ 16777216; omega) _ (it_range 0 j.toNat)⟩
        · cases ed
      | _ => cases ed
end
inductive Pat where
  | v (i : Nat)
  | t (ps : List Pat)
mutual
def bindPat : Pat → D → Env → Option Env
  | .v i, d, ρ => some (ρ.set i (some d))
  | .t ps, d, ρ => match d with
    | .tup ds => bindPats ps ds ρ
    | .lst ds => bindPats ps ds ρ
    | _ => none
def bindPats : List Pat → List D → Env → Option Env
  | [], [], ρ => some ρ
  | p :: ps, d :: ds, ρ => (bindPat p d ρ).bind fun ρ' => bindPats ps ds ρ'
  | _, _, _ => none
end
end Sm
namespace Sm
open PySem PySem.Spec L2
inductive O where
  | nx (ρ : Env) | ret (d : D) | err (ρ : Env) (c : Nat) | bad
abbrev DS := Env → O
def O.seq : O → DS → O
  | .nx ρ, k => k ρ
  | .ret d, _ => .ret d
  | .err ρ c, _ => .err ρ c
  | .bad, _ => .bad
def R.to {α : Type} (ρ : Env) : R α → (α → O) → O
  | .ok a, k => k a
  | .err c, _ => .err ρ c
  | .bad, _ => .bad

inductive OwnO (K : PySem.W.Frag) (cl : Glb) (Hv : Hp) : HO → D → Prop
  | lst {vs : List V} {ds : List D} : vs.length ≤ sizeLine → Reps K cl Hv vs ds → OwnO K cl Hv (.lst vs) (.lst ds)
  | dct {kvs : List (L2.Key × V)} {es : List (D × D)} : kvs.length ≤ sizeLine → RepsK K cl Hv kvs es → OwnO K cl Hv (.dK kvs) (.dct es)
theorem OwnO.mono {K : PySem.W.Frag} {cl : Glb} {Hv Hv' : Hp} {o : HO} {d : D} (h : OwnO K cl Hv o d) (e : Sam Hv Hv') : OwnO K cl Hv' o d := by
  cases h with
  | lst z r => exact .lst z (r.mono e)
  | dct z r => exact .dct z (r.mono e)
theorem OwnO.tbl {K : PySem.W.Frag} {cl : Glb} {Hv : Hp} {o : HO} {d : D} (h : OwnO K cl Hv o d) : isTbl o = false := by cases h <;> rfl
theorem OwnO.noT {K : PySem.W.Frag} {cl : Glb} {Hv : Hp} {o : HO} {d : D} (h : OwnO K cl Hv o d) : (∀ xs, o ≠ .tup xs) ∧ (∀ u x, o ≠ .frz u x) ∧ (∀ ps, o ≠ .tbl ps) := by
  cases h <;> refine ⟨fun _ e => ?_, fun _ _ e => ?_, fun _ e => ?_⟩ <;> cases e
theorem OwnO.rep {K : PySem.W.Frag} {cl : Glb} {H : Hp} {o : HO} {d : D} {p : Addr} (h : OwnO K cl H o d) (e : H p = some o) : Rep K cl H (.ref p) d := by
  cases h with
  | lst z r => exact .lst e z r
  | dct z r => exact .dctK e r
theorem OwnO.ofL {K : PySem.W.Frag} {cl : Glb} {Hv : Hp} {o : HO} {ds : List D} (h : OwnO K cl Hv o (.lst ds)) : ∃ vs, o = .lst vs ∧ vs.length ≤ sizeLine ∧ Reps K cl Hv vs ds := by
  cases h with
  | lst z r => exact ⟨_, rfl, z, r⟩
theorem OwnO.ofD {K : PySem.W.Frag} {cl : Glb} {Hv : Hp} {o : HO} {ds : List (D × D)} (h : OwnO K cl Hv o (.dct ds)) : ∃ vs, o = .dK vs ∧ vs.length ≤ sizeLine ∧ RepsK K cl Hv vs ds := by
  cases h with
  | dct z r => exact ⟨_, rfl, z, r⟩
def OwnR (K : PySem.W.Frag) (cl : Glb) (Hv H : Hp) (p : Addr) (d : D) : Prop := ∃ o, H p = some o ∧ OwnO K cl Hv o d
structure SR (K : PySem.W.Frag) (cl : Glb) (Hv0 H0 : Hp) (own : List Nat) (ρ : Env) (σ : St) (Hv H : Hp) : Prop where
  ext : Ext cl Hv0 H0 Hv H
  len : ρ.length = σ.length
  sh : ∀ (i : Nat) d, i ∉ own → ρ[i]? = some (some d) → ∃ v, σ[i]? = some (some v) ∧ Rep K cl Hv v d
  ow : ∀ i, i ∈ own → ∃ p d, ρ[i]? = some (some d) ∧ σ[i]? = some (some (.ref p)) ∧ Hv p = none ∧ H0 p = none ∧ OwnR K cl Hv H p d
  ap : ∀ (i j : Nat) p, i ∈ own → j ∈ own → σ[i]? = some (some (.ref p)) → σ[j]? = some (some (.ref p)) → i = j
def mask (own : List Nat) (ρ : Env) : Env := own.foldr (fun i r => r.set i none) ρ
theorem mask_get {ρ : Env} {i : Nat} {d : D} : ∀ {own : List Nat}, (mask own ρ)[i]? = some (some d) → i ∉ own ∧ ρ[i]? = some (some d)
  | [], h => ⟨by simp, h⟩
  | j :: own, h => by
    have h : ((mask own ρ).set j none)[i]? = some (some d) := h
    by_cases hj : j = i
    · subst hj
      by_cases hl : j < (mask own ρ).length
      · rw [List.getElem?_set_self hl] at h; cases h
      · rw [List.getElem?_eq_none (by simpa using hl)] at h; cases h
    · rw [List.getElem?_set_ne hj] at h
      obtain ⟨h1, h2⟩ := mask_get (own := own) h
      exact ⟨by simp only [List.mem_cons, not_or]; exact ⟨fun e => hj e.symm, h1⟩, h2⟩
theorem mask_len {ρ : Env} : ∀ {own : List Nat}, (mask own ρ).length = ρ.length
  | [] => rfl
  | j :: own => (List.length_set ..).trans (mask_len (own := own))
section
variable {K : PySem.W.Frag} {cl : Glb} {Hv0 H0 Hv H Hv' H' : Hp} {own : List Nat} {ρ : Env} {σ : St}
theorem SR.er (s : SR K cl Hv0 H0 own ρ σ Hv H) : ER K cl Hv (mask own ρ) σ := ⟨fun i d h => let ⟨h1, h2⟩ := mask_get h; s.sh i d h1 h2, mask_len.trans s.len⟩
theorem SR.step (s : SR K cl Hv0 H0 own ρ σ Hv H) (e : Ext cl Hv H Hv' H') : SR K cl Hv0 H0 own ρ σ Hv' H' where
  ext := s.ext.trans e
  len := s.len
  sh := fun i d h1 h2 => let ⟨v, h3, h4⟩ := s.sh i d h1 h2; ⟨v, h3, h4.mono e.vv⟩
  ow := fun i hi => by
    obtain ⟨p, d, h1, h2, h3, h4, o, h5, h6⟩ := s.ow i hi
    exact ⟨p, d, h1, h2, e.old p _ h5 h3, h4, o, e.hh _ _ h5 h6.tbl, h6.mono e.vv⟩
  ap := s.ap
def lift (Hv H H' : Hp) : Hp := fun b => if (H b).isSome && (Hv b).isNone then none else H' b
theorem lift_old {b : Addr} {o : HO} (h : Hv b = some o) : lift Hv H H' b = H' b := by
  unfold lift
  rw [h]
  simp
theorem lift_new {b : Addr} (h : H b = none) : lift Hv H H' b = H' b := by
  unfold lift
  rw [h]
  simp
theorem lift_tup (e : Ext cl H H Hv' H') {b : Addr} {o : HO} (h' : H' b = some o) (ho : isTbl o = false) (hv : H b = some o → Hv b = some o) : lift Hv H H' b = some o := by
  cases q : H b with
  | none => rw [lift_new q]; exact h'
  | some u =>
    have eu : u = o := by
      cases t : isTbl u with
      | false =>
        rw [e.hh b u q t] at h'
        exact Option.some.inj h'
      | true =>
        cases u with
        | tbl ps =>
          obtain ⟨ps', w⟩ := e.tt b ps q
          rw [w] at h'; cases h'; cases ho
        | _ => cases t
    subst eu
    rw [lift_old (hv q)]; exact h'
theorem ext_lift (vw : Vw cl Hv H) (e : Ext cl H H Hv' H') : Ext cl Hv H (lift Hv H H') H' where
  hh := e.hh
  vv := fun b o h n => by
    rw [lift_old h]
    exact e.hh b o (vw.s b o h n) n
  vh := by
    refine ⟨fun b o h n => ?_, fun b h => ?_, fun b xs h => ?_, fun b ob xs h => ?_, ?_, fun b φ h => ?_⟩
    · unfold lift at h
      split at h
      · cases h
      · exact h
    · unfold lift
      split
      · rfl
      · exact h
    · exact lift_tup e h rfl fun q => vw.t b xs q
    · exact lift_tup e h rfl fun q => vw.z b ob xs q
    · exact e.vh.tab
    · exact lift_tup e h rfl fun q => vw.x b φ q
  old := fun b o h n => by
    unfold lift
    rw [h, n]; rfl
  dom := e.dom
  tt := e.tt
end
mutual
def pure' : D → Bool
  | .non => true
  | .bl _ => true
  | .int _ => true
  | .str _ => true
  | .tup xs => pures xs
  | _ => false
def pures : List D → Bool
  | [] => true
  | x :: xs => pure' x && pures xs
end
section
variable {K : PySem.W.Frag} {cl : Glb}
mutual
theorem pure_hide {H Hh : Hp} (ht : ∀ b xs, H b = some (.tup xs) → Hh b = some (.tup xs)) (hz : ∀ b o u, H b = some (.frz o u) → Hh b = some (.frz o u)) : ∀ {v : V} {d : D}, Rep K cl H v d → pure' d = true → Rep K cl Hh v d
  | _, _, .non, _ => .non
  | _, _, .bl b, _ => .bl b
  | _, _, .int b, _ => .int b
  | _, _, .str b, _ => .str b
  | _, _, .lst _ _ _, h => by simp [pure'] at h
  | _, _, .scr _ _, h => by simp [pure'] at h
  | _, _, .scr0 _ _, h => by simp [pure'] at h
  | _, _, .fnv _, h => by simp [pure'] at h
  | _, _, .obj _, h => by simp [pure'] at h
  | _, _, .dclK _ _, h => by simp [pure'] at h
  | _, _, .dclT _ _ _, h => by simp [pure'] at h
  | _, _, .scr1 _ _, h => by simp [pure'] at h
  | _, _, .exc _, h => by simp [pure'] at h
  | _, _, .dctK _ _, h => by simp [pure'] at h
  | _, _, .dctT _ _ _, h => by simp [pure'] at h
  | _, _, .tup s z r, h => .tup (ht _ _ s) z (pures_hide ht hz r (by simpa [pure'] using h))
theorem pures_hide {H Hh : Hp} (ht : ∀ b xs, H b = some (.tup xs) → Hh b = some (.tup xs)) (hz : ∀ b o u, H b = some (.frz o u) → Hh b = some (.frz o u)) : ∀ {v : List V} {d : List D}, Reps K cl H v d → pures d = true → Reps K cl Hh v d
  | _, _, .nil, _ => .nil
  | _, _, .cons r t, h => by
    simp only [pures, Bool.and_eq_true] at h
    exact .cons (pure_hide ht hz r h.1) (pures_hide ht hz t h.2)
end
end
end Sm
namespace Sm
open PySem PySem.Spec L2
section
variable {K : PySem.W.Frag} {cl : Glb} {Hv0 H0 Hv H Hv' H' : Hp} {own own' : List Nat} {ρ : Env} {σ : St}
open Classical in
noncomputable def thaw (own own' : List Nat) (σ : St) (Hv H : Hp) : Hp := fun b => match Hv b with
  | some o => some o
  | none => if ∃ i, i ∈ own ∧ i ∉ own' ∧ σ[i]? = some (some (.ref b)) then H b else none
theorem thaw_old {b : Addr} {o : HO} (h : Hv b = some o) : thaw own own' σ Hv H b = some o := by
  unfold thaw; rw [h]
theorem thaw_new {b : Addr} (h : Hv b = none) (i : Nat) (h1 : i ∈ own) (h2 : i ∉ own') (h3 : σ[i]? = some (some (.ref b))) : thaw own own' σ Hv H b = H b := by
  unfold thaw; rw [h]
  exact if_pos ⟨i, h1, h2, h3⟩
theorem thaw_no {b : Addr} (h : Hv b = none) (hn : ∀ i : Nat, i ∈ own → i ∉ own' → σ[i]? ≠ some (some (.ref b))) : thaw own own' σ Hv H b = none := by
  unfold thaw; rw [h]
  exact if_neg fun ⟨i, h1, h2, h3⟩ => hn i h1 h2 h3
theorem thaw_some {b : Addr} {o : HO} (vs : Vw cl Hv H) (h : thaw own own' σ Hv H b = some o) : Hv b = some o ∨ (Hv b = none ∧ H b = some o) := by
  cases q : Hv b with
  | some u => rw [thaw_old q] at h; exact .inl h
  | none =>
    unfold thaw at h
    rw [q] at h
    simp only at h
    split at h
    · exact .inr ⟨rfl, h⟩
    · cases h
theorem SR.freeze (s : SR K cl Hv0 H0 own ρ σ Hv H) (hs : ∀ i ∈ own', i ∈ own) : SR K cl Hv0 H0 own' ρ σ (thaw own own' σ Hv H) H ∧ Sam Hv (thaw own own' σ Hv H) := by
  have vw := s.ext.vh
  have vv : Sam Hv (thaw own own' σ Hv H) := fun b o h _ => thaw_old h
  refine ⟨⟨⟨s.ext.hh, s.ext.vv.trans vv, ⟨fun b o h n => ?_, fun b h => ?_, fun b xs h => thaw_old (vw.t b xs h), fun b o u h => thaw_old (vw.z b o u h), vw.tab, fun b φ h => thaw_old (vw.x b φ h)⟩, fun b o h n => ?_, s.ext.dom, s.ext.tt⟩, s.len, fun i d h1 h2 => ?_, fun i hi => ?_, fun i j p h1 h2 => s.ap i j p (hs i h1) (hs j h2)⟩, vv⟩
  · rcases thaw_some vw h with q | ⟨_, q⟩
    · exact vw.s b o q n
    · exact q
  · cases q : thaw own own' σ Hv H b with
    | none => rfl
    | some o =>
      rcases thaw_some vw q with z | ⟨_, z⟩
      · rw [vw.d b h] at z; cases z
      · rw [h] at z; cases z
  · refine thaw_no (s.ext.old b o h n) fun i h1 h2 h3 => ?_
    obtain ⟨p, d, _, e2, _, e4, _⟩ := s.ow i h1
    rw [h3] at e2; cases e2
    rw [h] at e4; cases e4
  · by_cases hi : i ∈ own
    · obtain ⟨p, d', e1, e2, e3, e4, o, e6, e8⟩ := s.ow i hi
      rw [h2] at e1; cases e1
      exact ⟨_, e2, (e8.mono vv).rep ((thaw_new e3 i hi h1 e2).trans e6)⟩
    · obtain ⟨v, e1, e2⟩ := s.sh i d hi h2
      exact ⟨v, e1, e2.mono vv⟩
  · obtain ⟨p, d, e1, e2, e3, e4, o, e6, e8⟩ := s.ow i (hs i hi)
    refine ⟨p, d, e1, e2, thaw_no e3 fun j h1 h2 h3 => ?_, e4, o, e6, e8.mono vv⟩
    have := s.ap i j p (hs i hi) h1 e2 h3
    subst this
    exact h2 hi
theorem SR.set {i : Nat} {v : V} {d : D} (s : SR K cl Hv0 H0 own ρ σ Hv H) (hs : ∀ j ∈ own', j ∈ own ∧ j ≠ i) (r : Rep K cl Hv v d) (ho : ∀ j ∈ own, j ∈ own' ∨ j = i) : SR K cl Hv0 H0 own' (ρ.set i (some d)) (σ.set i (some v)) Hv H where
  ext := s.ext
  len := by rw [List.length_set, List.length_set]; exact s.len
  sh := fun j e h1 h2 => by
    by_cases hj : j = i
    · subst hj
      by_cases hi : j < σ.length
      · rw [List.getElem?_set_self (by rw [s.len]; exact hi)] at h2
        cases h2
        exact ⟨v, List.getElem?_set_self hi, r⟩
      · rw [List.getElem?_eq_none (by rw [List.length_set, s.len]; omega)] at h2
        cases h2
    · rw [List.getElem?_set_ne (Ne.symm hj)] at h2
      rw [List.getElem?_set_ne (Ne.symm hj)]
      exact s.sh j e (fun z => (ho j z).elim h1 hj) h2
  ow := fun j hj => by
    obtain ⟨h1, h2⟩ := hs j hj
    rw [List.getElem?_set_ne (Ne.symm h2), List.getElem?_set_ne (Ne.symm h2)]
    exact s.ow j h1
  ap := fun j k p h1 h2 e1 e2 => by
    rw [List.getElem?_set_ne (Ne.symm (hs j h1).2)] at e1
    rw [List.getElem?_set_ne (Ne.symm (hs k h2).2)] at e2
    exact s.ap j k p (hs j h1).1 (hs k h2).1 e1 e2
theorem SR.setOwnO {i : Nat} {p : Addr} {o : HO} {d : D} (s : SR K cl Hv0 H0 own ρ σ Hv H) (hp : H p = none) (r : OwnO K cl Hv o d) (hi : i < σ.length) :
    SR K cl Hv0 H0 (i :: own.filter (· ≠ i)) (ρ.set i (some d)) (σ.set i (some (.ref p))) Hv (upd H p o) := by
  have vw := s.ext.vh
  have smh : Sam H (upd H p o) := .of (same_upd hp)
  have vw' : Vw cl Hv (upd H p o) := ⟨vw.s.trans smh, fun b h => vw.d b (upd_none h).2, fun b xs h => by
    by_cases z : b = p
    · subst z; rw [upd_same] at h; cases h; exact (r.noT.1 _ rfl).elim
    · rw [upd_ne z] at h; exact vw.t b xs h, fun b o' u h => by
    by_cases z : b = p
    · subst z; rw [upd_same] at h; cases h; exact (r.noT.2.1 _ _ rfl).elim
    · rw [upd_ne z] at h; exact vw.z b o' u h, vw.tab.ext (same_upd hp), fun b φ h => by
    by_cases z : b = p
    · subst z; rw [upd_same] at h; cases h; cases r
    · rw [upd_ne z] at h; exact vw.x b φ h⟩
  have mem : ∀ j, j ∈ i :: own.filter (· ≠ i) → j ≠ i → j ∈ own := fun j h n => by
    rcases List.mem_cons.mp h with z | z
    · exact absurd z n
    · exact (List.mem_filter.mp z).1
  refine ⟨⟨s.ext.hh.trans smh, s.ext.vv, vw', s.ext.old, fun b h => s.ext.dom b (upd_none h).2, fun b ps h => ?_⟩, ?_, fun j d h1 h2 => ?_, fun j hj => ?_, fun j k q h1 h2 e1 e2 => ?_⟩
  · obtain ⟨ps', h'⟩ := s.ext.tt b ps h
    exact ⟨ps', by rw [upd_ne (ne_of_none h' hp)]; exact h'⟩
  · rw [List.length_set, List.length_set]; exact s.len
  · have hj : j ≠ i := fun z => h1 (by rw [z]; exact List.mem_cons_self)
    rw [List.getElem?_set_ne (Ne.symm hj)] at h2 ⊢
    exact s.sh j d (fun z => h1 (List.mem_cons_of_mem _ (List.mem_filter.mpr ⟨z, by simpa using hj⟩))) h2
  · by_cases hji : j = i
    · subst hji
      exact ⟨p, d, List.getElem?_set_self (by rw [s.len]; exact hi), List.getElem?_set_self hi, vw.d p hp, s.ext.dom p hp, o, upd_same, r⟩
    · rw [List.getElem?_set_ne (Ne.symm hji), List.getElem?_set_ne (Ne.symm hji)]
      obtain ⟨q, d, e1, e2, e3, e4, o', e6, e8⟩ := s.ow j (mem j hj hji)
      exact ⟨q, d, e1, e2, e3, e4, o', by rw [upd_ne (ne_of_none e6 hp)]; exact e6, e8⟩
  · have key : ∀ m, m ∈ i :: own.filter (· ≠ i) → m ≠ i → (σ.set i (some (.ref p)))[m]? = some (some (.ref p)) → False := fun m hm n e => by
      rw [List.getElem?_set_ne (Ne.symm n)] at e
      obtain ⟨q', d, e1, e2, e3, e4, o', e6, e8⟩ := s.ow m (mem m hm n)
      rw [e] at e2; cases e2
      rw [hp] at e6; cases e6
    have self : (σ.set i (some (.ref p)))[i]? = some (some (.ref p)) := List.getElem?_set_self hi
    by_cases hj : j = i
    · by_cases hk : k = i
      · rw [hj, hk]
      · rw [hj, self] at e1
        cases e1
        exact (key k h2 hk e2).elim
    · by_cases hk : k = i
      · rw [hk, self] at e2
        cases e2
        exact (key j h1 hj e1).elim
      · rw [List.getElem?_set_ne (Ne.symm hj)] at e1
        rw [List.getElem?_set_ne (Ne.symm hk)] at e2
        exact s.ap j k q (mem j h1 hj) (mem k h2 hk) e1 e2
theorem SR.setOwn {i : Nat} {p : Addr} {vs : List V} {ds : List D} (s : SR K cl Hv0 H0 own ρ σ Hv H) (hp : H p = none) (hz : vs.length ≤ sizeLine) (r : Reps K cl Hv vs ds) (hi : i < σ.length) :
    SR K cl Hv0 H0 (i :: own.filter (· ≠ i)) (ρ.set i (some (.lst ds))) (σ.set i (some (.ref p))) Hv (upd H p (.lst vs)) := s.setOwnO hp (.lst hz r) hi
theorem SR.writeO {i : Nat} {p : Addr} {o' : HO} {d0 d' : D} (s : SR K cl Hv0 H0 own ρ σ Hv H) (hi : i ∈ own) (e1 : ρ[i]? = some (some d0)) (e2 : σ[i]? = some (some (.ref p))) (r : OwnO K cl Hv o' d') :
    SR K cl Hv0 H0 own (ρ.set i (some d')) σ Hv (upd H p o') := by
  have vw := s.ext.vh
  obtain ⟨p', d, a1, a2, a3, a4, o, e6, ro⟩ := s.ow i hi
  rw [e2] at a2; cases a2
  have ne : ∀ b u, H b = some u → (∃ ps, u = .tbl ps) ∨ (∃ xs, u = .tup xs) → b ≠ p := fun b u h n z => by
    subst z; rw [e6] at h; cases h
    rcases n with ⟨ps, n⟩ | ⟨xs, n⟩
    · exact ro.noT.2.2 _ n
    · exact ro.noT.1 _ n
  have neV : ∀ b o, Hv b = some o → b ≠ p := fun b o h z => by subst z; rw [a3] at h; cases h
  have iσ : i < σ.length := (List.getElem?_eq_some_iff.mp e2).1
  refine ⟨⟨fun b o h n => ?_, s.ext.vv, ⟨fun b o h n => ?_, fun b h => vw.d b (upd_none h).2, fun b xs h => ?_, fun b o u h => ?_, fun p hp => ?_, fun b φ h => ?_⟩, s.ext.old, fun b h => s.ext.dom b (upd_none h).2, fun b ps h => ?_⟩, by rw [List.length_set]; exact s.len, fun j d h1 h2 => ?_, fun j hj => ?_, s.ap⟩
  · rw [upd_ne fun z => by subst z; rw [a4] at h; cases h]
    exact s.ext.hh b o h n
  · rw [upd_ne (neV b o h)]; exact vw.s b o h n
  · by_cases z : b = p
    · subst z; rw [upd_same] at h; cases h; exact (r.noT.1 _ rfl).elim
    · rw [upd_ne z] at h; exact vw.t b xs h
  · by_cases z : b = p
    · subst z; rw [upd_same] at h; cases h; exact (r.noT.2.1 _ _ rfl).elim
    · rw [upd_ne z] at h; exact vw.z b o u h
  · obtain ⟨ps, h1, h2, h3⟩ := vw.tab p hp
    refine ⟨ps, by rw [upd_ne (ne p.1 _ h1 (.inl ⟨_, rfl⟩))]; exact h1, h2, fun pos cv hc => ?_⟩
    obtain ⟨c, e, hc'⟩ := h3 pos cv hc
    exact ⟨c, e, by rw [upd_ne fun z => ?_]; exact hc'; subst z; rw [e6] at hc'; cases hc'; cases ro⟩
  · by_cases z : b = p
    · subst z; rw [upd_same] at h; cases h; cases r
    · rw [upd_ne z] at h; exact vw.x b φ h
  · obtain ⟨ps', h'⟩ := s.ext.tt b ps h
    exact ⟨ps', by rw [upd_ne (ne b _ h' (.inl ⟨_, rfl⟩))]; exact h'⟩
  · have hji : j ≠ i := fun z => h1 (z ▸ hi)
    rw [List.getElem?_set_ne (Ne.symm hji)] at h2
    exact s.sh j d h1 h2
  · by_cases hji : j = i
    · subst hji
      exact ⟨p, d', List.getElem?_set_self (by rw [s.len]; exact iσ), e2, a3, a4, o', upd_same, r⟩
    · rw [List.getElem?_set_ne (Ne.symm hji)]
      obtain ⟨q, d', b1, b2, b3, b4, o2, b6, b8⟩ := s.ow j hj
      have : q ≠ p := fun z => hji (s.ap j i p hj hi (z ▸ b2) e2)
      exact ⟨q, d', b1, b2, b3, b4, o2, by rw [upd_ne this]; exact b6, b8⟩
theorem SR.write {i : Nat} {p : Addr} {vs : List V} {ds ds' : List D} {vs' : List V} (s : SR K cl Hv0 H0 own ρ σ Hv H) (hi : i ∈ own) (e1 : ρ[i]? = some (some (.lst ds))) (e2 : σ[i]? = some (some (.ref p))) (e6 : H p = some (.lst vs)) (hz : vs'.length ≤ sizeLine) (r : Reps K cl Hv vs' ds') :
    SR K cl Hv0 H0 own (ρ.set i (some (.lst ds'))) σ Hv (upd H p (.lst vs')) := s.writeO hi e1 e2 (.lst hz r)
end
end Sm
namespace Sm
open PySem PySem.Spec L2
structure Gd (X : Cx) (W : WX) : Prop where
  calm : X.calm = true
  nd : X.N.Nodup
  tk : Takes X W
  po : PassesOwn (model X.prog X.w) X.A X.env X.xe
section
variable (X : Cx) (W : WX) (cl : Glb)
def PSO (Hv0 H0 : Hp) (own : List Nat) (Hv : Hp) (Dn : Ends) : O → Prop
  | .nx ρ' => ∀ σ' Hv' H', SR X.K cl Hv0 H0 own ρ' σ' Hv' H' → Sam Hv Hv' → σ'.length = X.N.length → Dn.nx σ' H'
  | .ret d => ∀ v Hv' H', Ext cl Hv0 H0 Hv' H' → Rep X.K cl Hv' v d → Dn.rt v H'
  | .err ρ' c => ∀ σ' Hv' H', SR X.K cl Hv0 H0 [] ρ' σ' Hv' H' → Sam Hv Hv' → σ'.length = X.N.length → W (.ref (cl.c c)) none σ' H'
  | .bad => False
def RunS (own own' : List Nat) (f : DS) (t : TS) : Prop := ∀ (Hv0 H0 : Hp) (ρ : Env) (σ : St) (Hv H : Hp) (Dn : Ends), SR X.K cl Hv0 H0 own ρ σ Hv H → σ.length = X.N.length → PSO X W cl Hv0 H0 own' Hv Dn (f ρ) → t Dn σ H
def SS (own own' : List Nat) (st : Stmt) (f : DS) : Prop := ∃ t, PS X st t ∧ RunS X W cl own own' f t
def SSs (own own' : List Nat) (st : List Stmt) (f : DS) : Prop := ∃ t, PSs X st t ∧ RunS X W cl own own' f t
end
section
variable {X : Cx} {W : WX} {cl : Glb} {Hv0 H0 Hv Hv1 H : Hp} {own own1 own2 own3 : List Nat} {Dn : Ends} {pos p : Pos} {a b c e : Expr} {es : List Expr} {fa fb : DE} {g : DA} {st : Stmt} {sts : List Stmt}
theorem PSO.mono {r : O} (h : PSO X W cl Hv0 H0 own Hv Dn r) (s : Sam Hv Hv1) : PSO X W cl Hv0 H0 own Hv1 Dn r := by
  cases r with
  | nx ρ => exact fun σ' Hv' H' sr sm hl => h σ' Hv' H' sr (s.trans sm) hl
  | ret d => exact h
  | err ρ c => exact fun σ' Hv' H' sr sm hl => h σ' Hv' H' sr (s.trans sm) hl
  | bad => exact h
theorem PSO.less {r : O} (h : PSO X W cl Hv0 H0 own2 Hv Dn r) (hs : ∀ i ∈ own2, i ∈ own1) : PSO X W cl Hv0 H0 own1 Hv Dn r := by
  cases r with
  | nx ρ =>
    intro σ' Hv' H' sr sm hl
    obtain ⟨s1, s2⟩ := sr.freeze hs
    exact h σ' _ H' s1 (sm.trans s2) hl
  | ret d => exact h
  | err ρ c => exact h
  | bad => exact h
def sub (a b : List Nat) : Bool := a.all fun i => b.contains i
theorem sub_mem {a b : List Nat} (h : sub a b = true) : ∀ i ∈ a, i ∈ b := fun i hi => by
  unfold sub at h
  rw [List.all_eq_true] at h
  simpa using h i hi
theorem SS.pre {f : DS} (h : SS X W cl own1 own2 st f) (hs : sub own1 own = true := by rfl) : SS X W cl own own2 st f := by
  obtain ⟨t, pt, h⟩ := h
  refine ⟨t, pt, fun Hv0 H0 ρ σ Hv H Dn sr hl po => ?_⟩
  obtain ⟨s1, s2⟩ := sr.freeze (sub_mem hs)
  exact h Hv0 H0 ρ σ _ H Dn s1 hl (po.mono s2)
theorem SS.post {f : DS} (h : SS X W cl own own1 st f) (hs : sub own2 own1 = true := by rfl) : SS X W cl own own2 st f := by
  obtain ⟨t, pt, h⟩ := h
  exact ⟨t, pt, fun Hv0 H0 ρ σ Hv H Dn sr hl po => h Hv0 H0 ρ σ Hv H Dn sr hl (po.less (sub_mem hs))⟩
theorem SSs.post {f : DS} (h : SSs X W cl own own1 sts f) (hs : sub own2 own1 = true := by rfl) : SSs X W cl own own2 sts f := by
  obtain ⟨t, pt, h⟩ := h
  exact ⟨t, pt, fun Hv0 H0 ρ σ Hv H Dn sr hl po => h Hv0 H0 ρ σ Hv H Dn sr hl (po.less (sub_mem hs))⟩

theorem ss_nil : SSs X W cl own own [] .nx :=
  ⟨_, pss_nil, fun Hv0 H0 ρ σ Hv H Dn sr hl po => po σ Hv H sr (Sam.refl _) hl⟩
def dSeq (f g : DS) : DS := fun ρ => (f ρ).seq g
theorem seq_run {f g : DS} {t u : TS} (h1 : RunS X W cl own own1 f t) (h2 : RunS X W cl own2 own3 g u) (hs : ∀ i ∈ own2, i ∈ own1) : RunS X W cl own own3 (dSeq f g) (tSeq t u) := by
  intro Hv0 H0 ρ σ Hv H Dn sr hl po
  refine h1 Hv0 H0 ρ σ Hv H _ sr hl ?_
  unfold dSeq at po
  cases q : f ρ with
  | nx ρ' =>
    rw [q] at po
    intro σ' Hv' H' sr' sm hl'
    obtain ⟨s1, s2⟩ := sr'.freeze hs
    exact h2 Hv0 H0 ρ' σ' _ H' Dn s1 hl' (PSO.mono (r := g ρ') po (sm.trans s2))
  | ret d => rw [q] at po; exact po
  | err ρ c => rw [q] at po; exact po
  | bad => rw [q] at po; exact po
theorem ss_cons {f g : DS} (h1 : SS X W cl own own1 st f) (h2 : SSs X W cl own2 own3 sts g) (hs : sub own2 own1 = true := by rfl) : SSs X W cl own own3 (st :: sts) (dSeq f g) := by
  obtain ⟨t, pt, h1⟩ := h1
  obtain ⟨u, pu, h2⟩ := h2
  exact ⟨_, pss_cons pt pu, seq_run h1 h2 (sub_mem hs)⟩
theorem ss_one {f : DS} (h1 : SS X W cl own own1 st f) : SSs X W cl own own1 [st] f := by
  obtain ⟨t, pt, h1⟩ := h1
  exact ⟨_, pss_one pt, h1⟩
theorem use_mask {α : Type} {ρ : Env} {σ : St} {T : Hp → Hp → α → Prop} {r : R α} {k : α → O} (sr : SR X.K cl Hv0 H0 own ρ σ Hv H) (hl : σ.length = X.N.length) (po : PSO X W cl Hv0 H0 own1 Hv Dn (r.to ρ k))
    (h : ∀ a Hv' H', r = .ok a → Ext cl Hv H Hv' H' → SR X.K cl Hv0 H0 own ρ σ Hv' H' → PSO X W cl Hv0 H0 own1 Hv' Dn (k a) → T Hv' H' a) : Pst cl W σ Hv H T r := by
  cases r with
  | ok a => exact fun Hv' H' e => h a Hv' H' rfl e (sr.step e) (PSO.mono (r := k a) po e.vv)
  | err c =>
    intro Hv' H' e
    obtain ⟨s1, s2⟩ := (sr.step e).freeze (own' := []) (by simp)
    exact po σ _ H' s1 (e.vv.trans s2) hl
  | bad => exact po
theorem use_full {α : Type} {ρ : Env} {σ : St} {T : Hp → Hp → α → Prop} {r : R α} {k : α → O} (sr : SR X.K cl Hv0 H0 own ρ σ Hv H) (hl : σ.length = X.N.length) (po : PSO X W cl Hv0 H0 own1 Hv Dn (r.to ρ k))
    (h : ∀ a Hv1 H', r = .ok a → Ext cl (thaw own [] σ Hv H) H Hv1 H' → SR X.K cl Hv0 H0 [] ρ σ Hv1 H' → SR X.K cl Hv0 H0 own ρ σ (lift Hv H H') H' → Sam Hv (lift Hv H H') → PSO X W cl Hv0 H0 own1 (lift Hv H H') Dn (k a) → T Hv1 H' a) :
    Pst cl W σ (thaw own [] σ Hv H) H T r := by
  obtain ⟨s1, s2⟩ := sr.freeze (own' := []) (by simp)
  cases r with
  | ok a =>
    intro Hv1 H' e
    have e2 : Ext cl Hv H (lift Hv H H') H' := ext_lift sr.ext.vh ⟨e.hh, Sam.trans e.hh (Sam.refl _), Vw.refl e.vh.tab, fun b o h n => (by rw [h] at n; cases n), e.dom, e.tt⟩
    exact h a Hv1 H' rfl e (s1.step e) (sr.step e2) e2.vv (PSO.mono (r := k a) po e2.vv)
  | err c =>
    intro Hv' H' e
    exact po σ Hv' H' (s1.step e) (s2.trans e.vv) hl
  | bad => exact po
theorem pure_lift {Hv H Hv1 H' : Hp} {v : V} {d : D} (vw : Vw cl (lift Hv H H') H') (vw1 : Vw cl Hv1 H') (r : Rep X.K cl Hv1 v d) (h : pure' d = true) : Rep X.K cl (lift Hv H H') v d :=
  pure_hide (H := H') (fun b xs e => vw.t b xs e) (fun b o u e => vw.z b o u e) (r.mono vw1.s) h

def dRet (f : DE) : DS := fun ρ => (f ρ).to ρ .ret
theorem ss_ret (ha : SE X W cl a fa) : SS X W cl own own1 (.Return (some a) pos) (dRet fa) := by
  obtain ⟨ta, pa, ha⟩ := ha
  refine ⟨_, ps_ret pa, fun Hv0 H0 ρ σ Hv H Dn sr hl po => ?_⟩
  obtain ⟨s1, s2⟩ := sr.freeze (own' := []) (by simp)
  refine ha _ H σ ρ _ s1.ext.vh s1.er (use_full sr hl po fun d Hv1 H' _ e sr1 sr2 sm po' v r => ?_)
  exact po' v Hv1 H' sr1.ext r
def dDrop (f : DE) : DS := fun ρ => (f ρ).to ρ fun _ => .nx ρ
theorem ss_expr (ha : SE X W cl a fa) (hs : swapsWith a none pos.line X.env = pure false := by rfl) : SS X W cl own own (.Expr a pos) (dDrop fa) := by
  obtain ⟨ta, pa, ha⟩ := ha
  refine ⟨_, ps_expr pa hs, fun Hv0 H0 ρ σ Hv H Dn sr hl po => ?_⟩
  obtain ⟨s1, s2⟩ := sr.freeze (own' := []) (by simp)
  refine ha _ H σ ρ _ s1.ext.vh s1.er (use_full sr hl po fun d Hv1 H' _ e sr1 sr2 sm po' v r => ?_)
  exact po' σ _ H' sr2 (Sam.refl _) hl
def dIfS (t : DT) (f g : DS) : DS := fun ρ => (t ρ).to ρ fun k => match k with | true => f ρ | false => g ρ
theorem ss_if {t : DT} {f g : DS} {s1 s2 : List Stmt} (hc : ST X W cl c t) (ha : SSs X W cl own own1 s1 f) (hb : SSs X W cl own own1 s2 g) : SS X W cl own own1 (.If c s1 s2 pos) (dIfS t f g) := by
  obtain ⟨tc, pc, hc⟩ := hc
  obtain ⟨ta, pa, ha⟩ := ha
  obtain ⟨tb, pb, hb⟩ := hb
  refine ⟨_, ps_if pc pa pb, fun Hv0 H0 ρ σ Hv H Dn sr hl po => ?_⟩
  obtain ⟨s1, s2⟩ := sr.freeze (own' := []) (by simp)
  refine hc _ H σ ρ _ s1.ext.vh s1.er (use_full sr hl po fun k Hv1 H' _ e sr1 sr2 sm po' => ?_)
  show if k = true then ta Dn σ H' else tb Dn σ H'
  cases k with
  | true => rw [if_pos rfl]; exact ha Hv0 H0 ρ σ _ H' Dn sr2 hl po'
  | false => rw [if_neg Bool.false_ne_true]; exact hb Hv0 H0 ρ σ _ H' Dn sr2 hl po'

def nots (own : List Nat) (i : Nat) : List Nat := own.filter (· ≠ i)
theorem nots_mem {own : List Nat} {i : Nat} : ∀ j ∈ nots own i, j ∈ own ∧ j ≠ i := fun j h => by
  have := List.mem_filter.mp h
  exact ⟨this.1, by simpa using this.2⟩
theorem nots_or {own : List Nat} {i : Nat} : ∀ j ∈ own, j ∈ nots own i ∨ j = i := fun j h => by
  by_cases e : j = i
  · exact .inr e
  · exact .inl (List.mem_filter.mpr ⟨h, by simpa using e⟩)
def dSet (own : List Nat) (i : Nat) (f : DE) : DS := fun ρ => (f (mask own ρ)).to ρ fun d => .nx (ρ.set i (some d))
def dSetP (i : Nat) (f : DE) : DS := fun ρ => (f ρ).to ρ fun d => if pure' d then .nx (ρ.set i (some d)) else .bad
theorem ilt {i : Nat} {x : Str} {σ : St} (hi : X.N[i]? = some x) (hl : σ.length = X.N.length) : i < σ.length := by
  rw [hl]; exact (List.getElem?_eq_some_iff.mp hi).1
theorem ss_set {i : Nat} {x : Str} {p' : Pos} (gd : Gd X W) (ha : SE X W cl a fa) (hi : X.N[i]? = some x := by rfl) (hx : Loc X.env.scope x := by first | exact Or.inl rfl | exact Or.inr rfl) (hs : swapsWith a (some (.Name x p')) pos.line X.env = pure false := by rfl)
    (hf : X.fn x = true ∨ X.env.scope.names.lookup x = some .local := by first | exact .inl rfl | exact .inr rfl | assumption) : SS X W cl own (nots own i) (.Assign [.Name x p'] a pos) (dSet own i fa) := by
  obtain ⟨ta, pa, ha⟩ := ha
  refine ⟨_, ps_set gd.nd hi hx pa hs hf, fun Hv0 H0 ρ σ Hv H Dn sr hl po => ?_⟩
  refine ha Hv H σ _ _ sr.ext.vh sr.er (use_mask sr hl po fun d Hv' H' _ e sr' po' v r => ?_)
  exact po' _ Hv' H' (sr'.set nots_mem r nots_or) (Sam.refl _) (by rw [List.length_set]; exact hl)
def TN (K : PySem.W.Frag) (cl : Glb) (Q : VK) : Hp → Hp → List D → Prop := fun Hv' H' ds => ∀ p vs, H' p = none → vs.length ≤ sizeLine → Reps K cl Hv' vs ds → Q (.ref p) (upd H' p (.lst vs))
def SN (X : Cx) (W : WX) (cl : Glb) (e : Expr) (f : DA) : Prop := ∃ t, PE X e t ∧ ∀ (Hv H : Hp) (σ : St) (ρ : Env) (Q : VK), Vw cl Hv H → ER X.K cl Hv ρ σ → Pst cl W σ Hv H (TN X.K cl Q) (f ρ) → t σ H Q
theorem sn_lst (h : SA X W cl es g) (hn : decide (es.length ≤ 1000) = true := by rfl) : SN X W cl (.List es pos) g := by
  obtain ⟨ta, pa, ha, hl⟩ := h
  refine ⟨_, pe_lst pa, fun Hv H σ ρ Q vw er pv => ?_⟩
  refine ha Hv H σ ρ _ vw er ?_
  cases q : g ρ with
  | ok ds =>
    rw [q] at pv
    intro Hv1 H1 e1 vs rv
    have z : vs.length ≤ sizeLine := by rw [rv.length, hl ρ ds q]; exact small_line hn
    exact ⟨z, fun p hp => pv Hv1 H1 e1 p vs hp z rv⟩
  | err c => rw [q] at pv; exact pv
  | bad => rw [q] at pv; exact pv
def dSetN (own : List Nat) (i : Nat) (f : DA) : DS := fun ρ => (f (mask own ρ)).to ρ fun ds => .nx (ρ.set i (some (.lst ds)))
theorem ss_setN {i : Nat} {x : Str} {p' : Pos} (gd : Gd X W) (ha : SN X W cl a g) (hi : X.N[i]? = some x := by rfl) (hx : Loc X.env.scope x := by first | exact Or.inl rfl | exact Or.inr rfl) (hs : swapsWith a (some (.Name x p')) pos.line X.env = pure false := by rfl)
    (hf : X.fn x = true ∨ X.env.scope.names.lookup x = some .local := by first | exact .inl rfl | exact .inr rfl | assumption) : SS X W cl own (i :: nots own i) (.Assign [.Name x p'] a pos) (dSetN own i g) := by
  obtain ⟨ta, pa, ha⟩ := ha
  refine ⟨_, ps_set gd.nd hi hx pa hs hf, fun Hv0 H0 ρ σ Hv H Dn sr hl po => ?_⟩
  refine ha Hv H σ _ _ sr.ext.vh sr.er (use_mask sr hl po fun ds Hv' H' _ e sr' po' p vs hp hz r => ?_)
  exact po' _ Hv' _ (sr'.setOwn hp hz r (ilt hi hl)) (Sam.refl _) (by rw [List.length_set]; exact hl)
def putIn (i : Nat) (ρ : Env) (new : List D) : O := match ρ[i]? with
  | some (some (.lst ds)) => if ds.length + new.length ≤ sizeLine then .nx (ρ.set i (some (.lst (ds ++ new)))) else .bad
  | _ => .bad
def lstAt (i : Nat) (ρ : Env) : Bool := match ρ[i]? with | some (some (.lst _)) => true | _ => false
def dApp (own : List Nat) (i : Nat) (f : DE) : DS := fun ρ => if lstAt i ρ then (f (mask own ρ)).to ρ fun d => putIn i ρ [d] else .bad
def dAppP (i : Nat) (f : DE) : DS := fun ρ => if lstAt i ρ then (f ρ).to ρ fun d => if pure' d then putIn i ρ [d] else .bad else .bad
theorem lstAt_ok {i : Nat} {ρ : Env} (h : lstAt i ρ = true) : ∃ ds, ρ[i]? = some (some (.lst ds)) := by
  unfold lstAt at h
  split at h
  · exact ⟨_, by assumption⟩
  · cases h
theorem app_end {i : Nat} {ρ : Env} {σ : St} {Hv H H' : Hp} {v : V} {d : D} {q : Addr} (sr : SR X.K cl Hv0 H0 own ρ σ Hv H') (hl : σ.length = X.N.length) (ho : i ∈ own) (hq : σ[i]? = some (some (.ref q))) (r : Rep X.K cl Hv v d) (po : PSO X W cl Hv0 H0 own Hv Dn (putIn i ρ [d])) :
    ∃ l xs y, V.ref q = .ref l ∧ [v] = [y] ∧ H' l = some (.lst xs) ∧ xs.length < sizeLine ∧ Dn.nx σ (upd H' l (.lst (xs ++ [y]))) := by
  obtain ⟨p, d0, e1, e2, e3, e4, o, e6, eo⟩ := sr.ow i ho
  rw [hq] at e2; cases e2
  unfold putIn at po
  rw [e1] at po
  cases d0 with
  | lst ds => ?_
  | _ => exact po.elim
  obtain ⟨vs, rfl, e7, e8⟩ := eo.ofL
  simp only at po
  split at po
  · rename_i hz
    have hz : vs.length + 1 ≤ sizeLine := by rw [e8.length]; exact hz
    refine ⟨q, vs, v, rfl, rfl, e6, hz, ?_⟩
    exact po σ Hv _ (sr.write ho e1 hq e6 (by rw [List.length_append]; exact hz) (e8.append (.cons r .nil))) (Sam.refl _) hl
  · exact po.elim
theorem ss_app {i : Nat} {x : Str} {apos npos : Pos} (ha : SE X W cl a fa) (ho : own.contains i = true := by rfl) (hN : X.N[i]? = some x := by rfl) (hv : Vis X.env.scope x := by first | exact Or.inl rfl | exact Or.inr (Or.inl rfl)) (hd : (x == ("__debug__" : Str)) = false := by decide)
    (hcd : (x == ("__classdict__" : Str)) = false := by decide) (hline : (apos.endLine == p.line) = true := by rfl) (hs1 : starEach [a] X.env = [(false, eval a X.env)] := by rfl)
    (hfew : ((backTo p (starEach [a] X.env)).all (fun x => !x.1) && (backToKw p (keywordEach [] X.env)).all (fun x => x.1.isSome) && decide ([a].length + ([] : List Keyword).length + (if ([] : List Keyword).isEmpty then 0 else 1) < 30)) = true := by rfl)
    (hs : swapsWith (.Call (.Attribute (.Name x npos) "append" apos) [a] [] p) none pos.line X.env = pure false := by rfl) :
    SS X W cl own own (.Expr (.Call (.Attribute (.Name x npos) "append" apos) [a] [] p) pos) (dApp own i fa) := by
  obtain ⟨ta, pa, ha⟩ := ha
  refine ⟨_, ps_expr (pe_bm PySem.F.plainAttrs_list PySem.F.slot_list_append PySem.F.type_list_append mt_append (pe_var hN hv hd hcd) (pa_cons pa pa_nil hs1) rfl hfew hline hs1 rfl) hs, fun Hv0 H0 ρ σ Hv H Dn sr hl po => ?_⟩
  have hi : i ∈ own := by simpa using ho
  obtain ⟨q, d0, e1, e2, e3, e4, o, e6, eo⟩ := sr.ow i hi
  cases hla : lstAt i ρ with
  | false => simp only [dApp, dAppP, hla] at po; exact po.elim
  | true => ?_
  obtain ⟨ds, h1⟩ := lstAt_ok hla
  rw [h1] at e1; cases e1
  obtain ⟨vs, rfl, e7, e8⟩ := eo.ofL
  simp only [dApp, dAppP, hla, if_true] at po
  refine ⟨.ref q, e2, .inl ⟨rfl, vs, .inl (.inl e6)⟩, ?_⟩
  refine ha Hv H σ _ _ sr.ext.vh sr.er (use_mask sr hl po fun d Hv' H' _ e sr' po' v r => ?_)
  exact app_end (H := H) sr' hl hi e2 r po'
theorem ss_appP {i : Nat} {x : Str} {apos npos : Pos} (ha : SE X W cl a fa) (ho : own.contains i = true := by rfl) (hN : X.N[i]? = some x := by rfl) (hv : Vis X.env.scope x := by first | exact Or.inl rfl | exact Or.inr (Or.inl rfl)) (hd : (x == ("__debug__" : Str)) = false := by decide)
    (hcd : (x == ("__classdict__" : Str)) = false := by decide) (hline : (apos.endLine == p.line) = true := by rfl) (hs1 : starEach [a] X.env = [(false, eval a X.env)] := by rfl)
    (hfew : ((backTo p (starEach [a] X.env)).all (fun x => !x.1) && (backToKw p (keywordEach [] X.env)).all (fun x => x.1.isSome) && decide ([a].length + ([] : List Keyword).length + (if ([] : List Keyword).isEmpty then 0 else 1) < 30)) = true := by rfl)
    (hs : swapsWith (.Call (.Attribute (.Name x npos) "append" apos) [a] [] p) none pos.line X.env = pure false := by rfl) :
    SS X W cl own own (.Expr (.Call (.Attribute (.Name x npos) "append" apos) [a] [] p) pos) (dAppP i fa) := by
  obtain ⟨ta, pa, ha⟩ := ha
  refine ⟨_, ps_expr (pe_bm PySem.F.plainAttrs_list PySem.F.slot_list_append PySem.F.type_list_append mt_append (pe_var hN hv hd hcd) (pa_cons pa pa_nil hs1) rfl hfew hline hs1 rfl) hs, fun Hv0 H0 ρ σ Hv H Dn sr hl po => ?_⟩
  have hi : i ∈ own := by simpa using ho
  obtain ⟨q, d0, e1, e2, e3, e4, o, e6, eo⟩ := sr.ow i hi
  cases hla : lstAt i ρ with
  | false => simp only [dApp, dAppP, hla] at po; exact po.elim
  | true => ?_
  obtain ⟨ds, h1⟩ := lstAt_ok hla
  rw [h1] at e1; cases e1
  obtain ⟨vs, rfl, e7, e8⟩ := eo.ofL
  simp only [dApp, dAppP, hla, if_true] at po
  refine ⟨.ref q, e2, .inl ⟨rfl, vs, .inl (.inl e6)⟩, ?_⟩
  obtain ⟨s1, s2⟩ := sr.freeze (own' := []) (by simp)
  refine ha _ H σ ρ _ s1.ext.vh s1.er (use_full sr hl po fun d Hv1 H' _ e sr1 sr2 sm po' v r => ?_)
  split at po'
  · rename_i hp
    exact app_end (H := H) sr2 hl hi e2 (pure_lift sr2.ext.vh sr1.ext.vh r hp) po'
  · exact po'.elim
end
end Sm
namespace Sm
open PySem PySem.Spec L2
mutual
def patIx : Pat → List Nat
  | .v i => [i]
  | .t ps => patIxs ps
def patIxs : List Pat → List Nat
  | [] => []
  | p :: ps => patIx p ++ patIxs ps
end
def disj (a b : List Nat) : Bool := a.all fun i => !b.contains i
theorem disj_mem {a b : List Nat} (h : disj a b = true) : ∀ i ∈ a, i ∉ b := fun i hi => by
  unfold disj at h
  rw [List.all_eq_true] at h
  simpa using h i hi
section
variable {X : Cx} {W : WX} {cl : Glb} {Hv0 H0 Hv Hv1 H : Hp} {own own1 own2 own3 : List Nat} {Dn : Ends} {pos p : Pos} {a b c e tg iter : Expr} {es : List Expr} {fa fb : DE} {g : DA} {st : Stmt} {sts : List Stmt}
def SG (X : Cx) (cl : Glb) (tg : Expr) (pt : Pat) : Prop := ∃ t, PG X tg t ∧ ∀ (Hv H : Hp) (v : V) (d : D) (ρ ρ' : Env) (σ : St) (Q : St → Hp → Prop), Vw cl Hv H → Rep X.K cl Hv v d → bindPat pt d ρ = some ρ' → ρ.length = σ.length →
  (∀ σ', (∀ (own : List Nat) (Hv0 H0 Hv1 H1 : Hp), SR X.K cl Hv0 H0 own ρ σ Hv1 H1 → Sam Hv Hv1 → (∀ i ∈ patIx pt, i ∉ own) → SR X.K cl Hv0 H0 own ρ' σ' Hv1 H1) → (∀ Hv2, ER X.K cl Hv2 ρ σ → Sam Hv Hv2 → ER X.K cl Hv2 ρ' σ') → σ'.length = σ.length → ρ'.length = ρ.length → (∀ j, j ∉ patIx pt → σ'[j]? = σ[j]?) → Q σ' H) → t v σ H Q
def SGs (X : Cx) (cl : Glb) (tg : List Expr) (pt : List Pat) : Prop := ∃ t, PGs X tg t ∧ ∀ (Hv H : Hp) (v : List V) (d : List D) (ρ ρ' : Env) (σ : St) (Q : St → Hp → Prop), Vw cl Hv H → Reps X.K cl Hv v d → bindPats pt d ρ = some ρ' → ρ.length = σ.length →
  (∀ σ', (∀ (own : List Nat) (Hv0 H0 Hv1 H1 : Hp), SR X.K cl Hv0 H0 own ρ σ Hv1 H1 → Sam Hv Hv1 → (∀ i ∈ patIxs pt, i ∉ own) → SR X.K cl Hv0 H0 own ρ' σ' Hv1 H1) → (∀ Hv2, ER X.K cl Hv2 ρ σ → Sam Hv Hv2 → ER X.K cl Hv2 ρ' σ') → σ'.length = σ.length → ρ'.length = ρ.length → (∀ j, j ∉ patIxs pt → σ'[j]? = σ[j]?) → Q σ' H) → t v σ H Q
theorem er_set {K : PySem.W.Frag} {Hv : Hp} {ρ : Env} {σ : St} {i : Nat} {v : V} {d : D} (e : ER K cl Hv ρ σ) (r : Rep K cl Hv v d) : ER K cl Hv (ρ.set i (some d)) (σ.set i (some v)) := ⟨fun j d' h => by
  by_cases hj : j = i
  · subst hj
    by_cases hl : j < ρ.length
    · rw [List.getElem?_set_self hl] at h; cases h
      exact ⟨v, List.getElem?_set_self (by rw [← e.len]; exact hl), r⟩
    · rw [List.getElem?_eq_none (by simpa using hl)] at h; cases h
  · rw [List.getElem?_set_ne (Ne.symm hj)] at h ⊢
    exact e.get j d' h, by rw [List.length_set, List.length_set]; exact e.len⟩
theorem sg_name {x : Str} (i : Nat) (nd : X.N.Nodup) (hi : X.N[i]? = some x := by rfl) (hx : Loc X.env.scope x := by first | exact Or.inl rfl | exact Or.inr rfl)
    (hf : X.fn x = true ∨ X.env.scope.names.lookup x = some .local := by first | exact .inl rfl | exact .inr rfl | assumption) : SG X cl (.Name x pos) (.v i) := by
  refine ⟨_, pg_name nd hi hx hf, fun Hv H v d ρ ρ' σ Q vw r e hl q => ?_⟩
  cases e
  refine q _ (fun own Hv0 H0 Hv1 H1 sr sm hd => ?_) (fun Hv2 er sm => ?_) (by rw [List.length_set]) (by rw [List.length_set]) fun j hj => ?_
  · have ho : i ∉ own := hd i (by simp [patIx])
    exact sr.set (fun j hj => ⟨hj, fun z => ho (z ▸ hj)⟩) (r.mono sm) fun j hj => .inl hj
  · exact er_set er (r.mono sm)
  · rw [List.getElem?_set_ne]
    intro z
    exact hj (by simp [patIx, z])
theorem sgs_nil : SGs X cl [] [] := by
  refine ⟨_, pgs_nil, fun Hv H v d ρ ρ' σ Q vw r e hl q => ?_⟩
  cases r with
  | nil =>
    cases e
    exact ⟨rfl, q σ (fun own Hv0 H0 Hv1 H1 sr _ _ => sr) (fun _ er _ => er) rfl rfl fun _ _ => rfl⟩
  | cons _ _ => cases e
theorem sgs_cons {pt : Pat} {pts : List Pat} (h1 : SG X cl e pt) (h2 : SGs X cl es pts) (hs : (assignEach (e :: es) X.env).map (·.2) = assign e X.env :: (assignEach es X.env).map (·.2) := by rfl) : SGs X cl (e :: es) (pt :: pts) := by
  obtain ⟨t, pt1, h1⟩ := h1
  obtain ⟨u, pu, h2⟩ := h2
  refine ⟨_, pgs_cons pt1 pu hs, fun Hv H v d ρ ρ' σ Q vw r e hl q => ?_⟩
  cases r with
  | nil => simp [bindPats] at e
  | cons r t =>
    simp only [bindPats, Option.bind_eq_some_iff] at e
    obtain ⟨ρ1, e1, e2⟩ := e
    refine ⟨_, _, rfl, h1 Hv H _ _ ρ ρ1 σ _ vw r e1 hl fun σ1 f1 g1 l1 m1 k1 => ?_⟩
    refine h2 Hv H _ _ ρ1 ρ' σ1 _ vw t e2 (by rw [m1, l1]; exact hl) fun σ2 f2 g2 l2 m2 k2 => ?_
    refine q σ2 (fun own Hv0 H0 Hv1 H1 sr sm hd => ?_) (fun Hv2 er sm => ?_) (l2.trans l1) (m2.trans m1) fun j hj => ?_
    · exact f2 own Hv0 H0 Hv1 H1 (f1 own Hv0 H0 Hv1 H1 sr sm fun i hi => hd i (by simp [patIxs, hi])) sm fun i hi => hd i (by simp [patIxs, hi])
    · exact g2 Hv2 (g1 Hv2 er sm) sm
    · rw [k2 j fun z => hj (by simp [patIxs, z]), k1 j fun z => hj (by simp [patIxs, z])]
theorem PG.or {t1 t2 : TG} (h1 : PG X tg t1) (h2 : PG X tg t2) : PG X tg (fun v σ H Q => t1 v σ H Q ∨ t2 v σ H Q) :=
  ⟨fun pins s σ H v u Q I r h => h.elim (h1.run pins s σ H v u Q I r) (h2.run pins s σ H v u Q I r)⟩
theorem bindPats_len : ∀ (ps : List Pat) (ds : List D) (ρ ρ' : Env), bindPats ps ds ρ = some ρ' → ds.length = ps.length := by
  intro ps
  induction ps with
  | nil => intro ds ρ ρ' h; cases ds with | nil => rfl | cons _ _ => simp [bindPats] at h
  | cons p ps ih =>
    intro ds ρ ρ' h
    cases ds with
    | nil => simp [bindPats] at h
    | cons d ds =>
      simp only [bindPats, Option.bind_eq_some_iff] at h
      obtain ⟨ρ1, _, h2⟩ := h
      rw [List.length_cons, List.length_cons, ih ds ρ1 ρ' h2]
theorem sg_tup {pts : List Pat} {k : Nat} (hc : X.calm = true) (h : SGs X cl es pts) (hn : (assignEach es X.env).length = pts.length := by rfl) (hst : (assignEach es X.env).findIdx? (·.1) = none := by rfl) : SG X cl (.Tuple es k pos) (.t pts) := by
  obtain ⟨t, pt, h⟩ := h
  refine ⟨_, PG.or (pg_tup hc pt hn hst) (pg_unl hc pt hn hst), fun Hv H v d ρ ρ' σ Q vw r e hl q => ?_⟩
  cases d with
  | tup ds =>
    cases r with
    | tup s z r =>
      simp only [bindPat] at e
      refine .inl ⟨_, _, rfl, vw.s.sqU s, ?_, h Hv H _ _ ρ ρ' σ Q vw r e hl fun σ' f1 g1 l1 m1 k1 => q σ' f1 g1 l1 m1 k1⟩
      rw [r.length]
      exact bindPats_len _ _ _ _ e
  | lst ds =>
    cases r with
    | lst s z r =>
      simp only [bindPat] at e
      refine .inr ⟨_, _, rfl, .inl (.inl (vw.s _ _ s rfl)), ?_, h Hv H _ _ ρ ρ' σ Q vw r e hl fun σ' f1 g1 l1 m1 k1 => q σ' f1 g1 l1 m1 k1⟩
      rw [r.length]
      exact bindPats_len _ _ _ _ e
  | _ => simp [bindPat] at e
def dAsg (own : List Nat) (pt : Pat) (f : DE) : DS := fun ρ => (f (mask own ρ)).to ρ fun d => match bindPat pt d ρ with | some ρ' => .nx ρ' | none => .bad
def dPar (own : List Nat) (i j : Nat) (g : DA) : DS := fun ρ => (g (mask own ρ)).to ρ fun ds => match ds with | [d1, d2] => .nx ((ρ.set i (some d1)).set j (some d2)) | _ => .bad
theorem ss_par {i j : Nat} {x y : Str} {px py pt pt2 : Pos} {kt k2 : Nat} (gd : Gd X W) (ha : SA X W cl [a, b] g) (hi : X.N[i]? = some x := by rfl) (hj : X.N[j]? = some y := by rfl) (hij : i ≠ j := by decide)
    (hd : disj [i, j] own = true := by rfl) (hx : X.env.scope.names.lookup x = some .local := by rfl) (hy : X.env.scope.names.lookup y = some .local := by rfl)
    (hw : swappedStores [.Tuple [.Name x px, .Name y py] kt pt] (.Tuple [a, b] k2 pt2) X.env = pure (some [x, y]) := by rfl)
    (hs : swapsWithSole [.Tuple [.Name x px, .Name y py] kt pt] (.Tuple [a, b] k2 pt2) pos.line X.env = pure false := by rfl) :
    SS X W cl own own (.Assign [.Tuple [.Name x px, .Name y py] kt pt] (.Tuple [a, b] k2 pt2) pos) (dPar own i j g) := by
  obtain ⟨ta, pa, ha, _⟩ := ha
  refine ⟨_, ps_par gd.calm gd.nd hi hj hij hx hy pa hw hs, fun Hv0 H0 ρ σ Hv H Dn sr hl po => ?_⟩
  refine ha Hv H σ _ _ sr.ext.vh sr.er (use_mask sr hl po fun ds Hv' H' _ e sr' po' vs r => ?_)
  have di := disj_mem hd
  cases r with
  | nil => exact po'.elim
  | cons r1 r =>
    cases r with
    | nil => exact po'.elim
    | cons r2 r =>
      cases r with
      | cons _ _ => exact po'.elim
      | nil =>
        have s1 := sr'.set (own' := own) (i := i) (fun k hk => ⟨hk, fun z => di i (by simp) (z ▸ hk)⟩) r1 fun k hk => .inl hk
        have s2 := s1.set (own' := own) (i := j) (fun k hk => ⟨hk, fun z => di j (by simp) (z ▸ hk)⟩) r2 fun k hk => .inl hk
        exact ⟨_, _, rfl, po' _ Hv' H' s2 (Sam.refl _) (by rw [List.length_set, List.length_set]; exact hl)⟩

def forGo (pt : Pat) (f : DS) : List D → DS
  | [], ρ => .nx ρ
  | d :: ds, ρ => match bindPat pt d ρ with
    | some ρ' => (f ρ').seq (forGo pt f ds)
    | none => .bad
def dFor (own : List Nat) (pt : Pat) (it : DI) (f : DS) : DS := fun ρ => (it (mask own ρ)).to ρ fun ds => forGo pt f ds ρ
theorem ss_for {pt : Pat} {it : DI} {f : DS} (gd : Gd X W) (hi : SI X W cl tg iter it) (hg : SG X cl tg pt) (hb : SSs X W cl own own sts f) (hd : disj (patIx pt) own = true := by rfl) (hs : ∀ x, foldedSetIterable iter X.env x = pure x := by intro _; rfl) :
    SS X W cl own own (.For tg iter sts [] pos) (dFor own pt it f) := by
  obtain ⟨wi, pi, hi⟩ := hi
  obtain ⟨tg1, pg, hg⟩ := hg
  obtain ⟨tb, pb, hb⟩ := hb
  refine ⟨_, ps_for gd.po gd.calm pi pg pb hs, fun Hv0 H0 ρ σ Hv H Dn sr hl po => ?_⟩
  refine hi Hv H σ _ _ sr.ext.vh sr.er (use_mask sr hl po fun ds Hv' H' _ e sr' po' z J hJ => ?_)
  refine ⟨fun i m σ1 H1 => ∃ ρ1 Hv1, SR X.K cl Hv0 H0 own ρ1 σ1 Hv1 H1 ∧ σ1.length = X.N.length ∧ Sam Hv' Hv1 ∧ m = ds.length - i ∧ i ≤ ds.length ∧ PSO X W cl Hv0 H0 own Hv1 Dn (forGo pt f (ds.drop i) ρ1),
    ⟨ds.length, ρ, Hv', sr', hl, Sam.refl _, rfl, Nat.zero_le _, po'⟩, ?_⟩
  rintro i m σ1 H1 ⟨ρ1, Hv1, s1, l1, sm1, rfl, hi1, p1⟩
  by_cases hlt : i < ds.length
  · rw [List.drop_eq_getElem_cons hlt] at p1
    unfold forGo at p1
    refine .inr ⟨hJ.go i Hv1 H1 sm1 s1.ext.vh hlt, fun σ2 H2 => ∃ ρ2 Hv2, SR X.K cl Hv0 H0 own ρ2 σ2 Hv2 H2 ∧ σ2.length = X.N.length ∧ Sam Hv' Hv2 ∧ PSO X W cl Hv0 H0 own Hv2 Dn (forGo pt f (ds.drop (i + 1)) ρ2),
      fun σ2 H2 ⟨ρ2, Hv2, s2, l2, sm2, p2⟩ => ⟨ds.length - (i + 1), by omega, ρ2, Hv2, s2, l2, sm2, rfl, hlt, p2⟩, fun x H2 y => ?_⟩
    obtain ⟨Hv2, e2, r2⟩ := hJ.yld i Hv1 H1 sm1 s1.ext.vh ds[i] (by simp [hlt]) x H2 y
    cases q : bindPat pt ds[i] ρ1 with
    | none => rw [q] at p1; exact p1.elim
    | some ρ' =>
      rw [q] at p1
      refine hg Hv2 H2 x ds[i] ρ1 ρ' σ1 _ e2.vh r2 q s1.len fun σ3 f3 g3 l3 m3 k3 => ?_
      have s3 := f3 own Hv0 H0 Hv2 H2 (s1.step e2) (Sam.refl _) (disj_mem hd)
      refine hb Hv0 H0 ρ' σ3 Hv2 H2 _ s3 (l3.trans l1) ?_
      have p1' : PSO X W cl Hv0 H0 own Hv2 Dn ((f ρ').seq (forGo pt f (ds.drop (i + 1)))) := p1.mono e2.vv
      cases w : f ρ' with
      | nx ρ4 =>
        rw [w] at p1'
        intro σ4 Hv4 H4 s4 sm4 l4
        exact ⟨ρ4, Hv4, s4, l4, (sm1.trans e2.vv).trans sm4, p1'.mono sm4⟩
      | ret d => rw [w] at p1'; exact p1'
      | err ρ4 c => rw [w] at p1'; exact p1'
      | bad => rw [w] at p1'; exact p1'
  · have ei : i = ds.length := by omega
    subst ei
    rw [List.drop_length] at p1
    exact .inl ⟨hJ.stop _ Hv1 H1 sm1 s1.ext.vh rfl, p1 σ1 Hv1 H1 s1 (Sam.refl _) l1⟩
def whileGo (t : DT) (f : DS) : Nat → DS
  | 0, _ => .bad
  | n + 1, ρ => (t ρ).to ρ fun k => match k with
    | true => (f ρ).seq (whileGo t f n)
    | false => .nx ρ
def dWhile (n : Env → Nat) (t : DT) (f : DS) : DS := fun ρ => whileGo t f (n ρ) ρ
theorem ss_while {t : DT} {f : DS} (n : Env → Nat) (gd : Gd X W) (hc : ST X W cl c t) (hb : SSs X W cl own own sts f) : SS X W cl own own (.While c sts [] pos) (dWhile n t f) := by
  obtain ⟨tc, pc, hc⟩ := hc
  obtain ⟨tb, pb, hb⟩ := hb
  refine ⟨_, ps_while gd.po pc pb, fun Hv0 H0 ρ σ Hv H Dn sr hl po => ?_⟩
  refine ⟨fun m σ1 H1 => ∃ ρ1 Hv1, SR X.K cl Hv0 H0 own ρ1 σ1 Hv1 H1 ∧ σ1.length = X.N.length ∧ PSO X W cl Hv0 H0 own Hv1 Dn (whileGo t f m ρ1), ⟨n ρ, ρ, Hv, sr, hl, po⟩, ?_⟩
  rintro m σ1 H1 ⟨ρ1, Hv1, s1, l1, p1⟩
  cases m with
  | zero => exact p1.elim
  | succ m =>
    obtain ⟨s2, sm2⟩ := s1.freeze (own' := []) (by simp)
    refine hc _ H1 σ1 ρ1 _ s2.ext.vh s2.er (use_full s1 l1 (show PSO X W cl Hv0 H0 own Hv1 Dn ((t ρ1).to ρ1 _) from p1) fun k Hv3 H' _ e sr1 sr2 sm po' => ?_)
    show if k = true then _ else _
    cases k with
    | false => rw [if_neg Bool.false_ne_true]; exact po' σ1 _ H' sr2 (Sam.refl _) l1
    | true =>
      rw [if_pos rfl]
      refine ⟨fun σ4 H4 => ∃ ρ4 Hv4, SR X.K cl Hv0 H0 own ρ4 σ4 Hv4 H4 ∧ σ4.length = X.N.length ∧ PSO X W cl Hv0 H0 own Hv4 Dn (whileGo t f m ρ4), fun σ4 H4 w => ⟨m, Nat.lt_succ_self m, w⟩, ?_⟩
      refine hb Hv0 H0 ρ1 σ1 _ H' _ sr2 l1 ?_
      have po2 : PSO X W cl Hv0 H0 own (lift Hv1 H1 H') Dn ((f ρ1).seq (whileGo t f m)) := po'
      cases w : f ρ1 with
      | nx ρ4 =>
        rw [w] at po2
        intro σ4 Hv4 H4 s4 sm4 l4
        exact ⟨ρ4, Hv4, s4, l4, po2.mono sm4⟩
      | ret d => rw [w] at po2; exact po2
      | err ρ4 c => rw [w] at po2; exact po2
      | bad => rw [w] at po2; exact po2
end
def outR : O → R D
  | .nx _ => .ok .non
  | .ret d => .ok d
  | .err _ c => .err c
  | .bad => .bad
def args (m : Nat) (ds : List D) : Env := ds.map some ++ List.replicate (m - ds.length) none
def defD (n m : Nat) (f : DS) : List D → R D := fun ds => if ds.length = n then outR (f (args m ds)) else .bad
theorem args_get {K : PySem.W.Frag} {cl : Glb} {H : Hp} {vs : List V} {ds : List D} {N : List Str} {i : Nat} {d : D} (r : Reps K cl H vs ds) (h : (args N.length ds)[i]? = some (some d)) : ∃ v, (start N vs)[i]? = some (some v) ∧ Rep K cl H v d := by
  unfold args at h
  unfold L2.start
  by_cases hi : i < ds.length
  · rw [List.getElem?_append_left (by simpa using hi), List.getElem?_map] at h
    rw [List.getElem?_append_left (by rw [List.length_map, r.length]; exact hi), List.getElem?_map]
    cases q : ds[i]? with
    | none => rw [q] at h; cases h
    | some d' =>
      rw [q] at h; cases h
      obtain ⟨v, h1, h2⟩ := r.get q
      exact ⟨v, by rw [h1]; rfl, h2⟩
  · rw [List.getElem?_append_right (by simpa using hi), List.getElem?_replicate] at h
    split at h <;> cases h
theorem fn_ok {P : Program} {w : World} {K : PySem.W.Frag} {mg : Str → Option Value} {base : Heap} {cl : Glb} {k n m : Nat} {x : Str} {st : Stmt} {f : Addr} {fd : FuncData} {N ps : List Str} {den : DS} {own : List Nat}
    (F : Fun K x x st f fd) (S : FnScope N ps (defScope st)) (hn : ps.length = n) (hN : N.length = m)
    (h : ∀ (cdv : Value) (A : Around) (outer : List PySem.Env) (s : Shared) (H : Hp) (E : XK), Gd (cxOf (L2.CX P w) P w K mg base N x (defScope st) f cdv A outer s H E) (fun cls d _ H => E cls d H) →
      Room k (A.deeper (PyProof.Rows.envOfC x (defScope st) s.heap.objs.size f cdv)) → SSs (cxOf (L2.CX P w) P w K mg base N x (defScope st) f cdv A outer s H E) (fun cls d _ H => E cls d H) cl [] own (defBody st) den) :
    FnOk P w K mg base (L2.CX P w) (k + 1) f fd ps (spF K cl n (defD n m den)) := by
  refine F.okX S (fun vs H Q E h => h.1.trans hn.symm) (fun cdv A outer s H vs Q E hr hsp => ?_)
  obtain ⟨hv, Hv, ds, vw, r, ps'⟩ := hsp
  have gd : Gd (cxOf (L2.CX P w) P w K mg base N x (defScope st) f cdv A outer s H E) (fun cls d _ H => E cls d H) := ⟨rfl, S.nd, takes_of rfl rfl rfl rfl, passes_of rfl⟩
  obtain ⟨t, pt, run⟩ := h cdv A outer s H E gd hr
  refine ⟨t, pt, run Hv H (args N.length ds) (start N vs) Hv H _ ⟨Ext.refl vw, ?_, fun i d _ e => args_get r e, fun i hi => absurd hi (by simp), fun i j p hi => absurd hi (by simp)⟩ ?_ ?_⟩
  · unfold args L2.start
    rw [List.length_append, List.length_append, List.length_map, List.length_map, List.length_replicate, List.length_replicate, r.length]
  · unfold L2.start
    have h1 : ps.length ≤ N.length := by have := congrArg List.length S.pre; rw [List.length_take] at this; omega
    show _ = N.length
    rw [List.length_append, List.length_map, List.length_replicate]
    omega
  · have hd : ds.length = n := by rw [← r.length]; exact hv
    unfold defD at ps'
    rw [if_pos hd] at ps'
    rw [hN]
    cases q : den (args m ds) with
    | nx ρ =>
      rw [q] at ps'
      exact fun σ' Hv' H' sr sm hl => ps' Hv' H' sr.ext .non .non
    | ret d =>
      rw [q] at ps'
      exact fun v Hv' H' e r' => ps' Hv' H' e v r'
    | err ρ c =>
      rw [q] at ps'
      exact fun σ' Hv' H' sr _ hl => ps' Hv' H' sr.ext
    | bad => rw [q] at ps'; exact ps'.elim
theorem fn_mk {P : Program} {w : World} {K : PySem.W.Frag} {mg : Str → Option Value} {base : Heap} {cl : Glb} {k n m : Nat} {x : Str} {st : Stmt} {f : Addr} {fd : FuncData} {N ps : List Str} {den : DS} {own : List Nat}
    (F : Fun K x x st f fd) (S : FnScope N ps (defScope st)) (hm : mg x = some (.ref f)) (hb : Binds K fd ps []) (hn : ps.length = n) (hN : N.length = m)
    (h : ∀ (cdv : Value) (A : Around) (outer : List PySem.Env) (s : Shared) (H : Hp) (E : XK), Gd (cxOf (L2.CX P w) P w K mg base N x (defScope st) f cdv A outer s H E) (fun cls d _ H => E cls d H) →
      Room k (A.deeper (PyProof.Rows.envOfC x (defScope st) s.heap.objs.size f cdv)) → SSs (cxOf (L2.CX P w) P w K mg base N x (defScope st) f cdv A outer s H E) (fun cls d _ H => E cls d H) cl [] own (defBody st) den) :
    Fn P w K mg base cl (k + 1) x n (defD n m den) := ⟨f, fd, ps, fn_ok F S hn hN h, hm, F.kp, hb, hn⟩
theorem Fn.imp {P : Program} {w : World} {K : PySem.W.Frag} {mg : Str → Option Value} {base : Heap} {cl : Glb} {k n : Nat} {x : Str} {F F' : List D → R D} (h : Fn P w K mg base cl k x n F)
    (hi : ∀ ds, F' ds = .bad ∨ ∃ es, F' ds = F es ∧ ∀ H vs, Reps K cl H vs ds → Reps K cl H vs es) : Fn P w K mg base cl k x n F' := by
  obtain ⟨f, fd, ps, h1, h2, h3, h4, h5⟩ := h
  refine ⟨f, fd, ps, h1.imp fun vs H Q E ⟨a1, Hv, ds, vw, r, p⟩ => ?_, h2, h3, h4, h5⟩
  rcases hi ds with z | ⟨es, e, hr⟩
  · rw [z] at p; exact p.elim
  · rw [e] at p
    exact ⟨a1, Hv, es, vw, hr Hv vs r, p⟩
theorem no_exc {P : Program} {w : World} {H : Hp} {s : Shared} {e : Value} {s' : Shared} (h : L2.CX P w [] H s (fun _ _ _ => False) e s') : False := by
  obtain ⟨_, _, _, _, _, _, _, _, _, _, _, _, z⟩ := h
  exact z
def fuelI (i : Nat) : Env → Nat := fun ρ => match ρ[i]? with | some (some (.int k)) => k.natAbs + 1 | _ => 0
end Sm
namespace Sm
open PySem PySem.Spec L2
def noErr {α : Type} : R α → R α
  | .err _ => .bad
  | r => r
def lcGo (pt : Pat) (t : DT) (f : DE) : List D → Env → R (List D)
  | [], _ => .ok []
  | d :: ds, ρ => match bindPat pt d ρ with
    | none => .bad
    | some ρ' => (noErr (t ρ')).bind fun k => match k with
      | true => (noErr (f ρ')).bind fun y => (lcGo pt t f ds ρ).bind fun ys => .ok (y :: ys)
      | false => lcGo pt t f ds ρ
def dLcs (vs : List Nat) (pt : Pat) (it : DI) (t : DT) (f : DE) : DA := fun ρ => (it ρ).bind fun ds => lcGo pt t f ds (mask vs ρ)
def dLc (vs : List Nat) (pt : Pat) (it : DI) (t : DT) (f : DE) : DE := fun ρ => (dLcs vs pt it t f ρ).bind fun ds => .ok (.lst ds)
def dYes : DT := fun _ => .ok true
def hideA (p : Addr) (H : Hp) : Hp := fun b => if b = p then none else H b
theorem hideA_ne {p b : Addr} {H : Hp} (h : b ≠ p) : hideA p H b = H b := if_neg h
theorem hideA_self {p : Addr} {H : Hp} : hideA p H p = none := if_pos rfl
theorem hideA_some {p b : Addr} {H : Hp} {o : HO} (h : hideA p H b = some o) : b ≠ p ∧ H b = some o := by
  unfold hideA at h
  split at h
  · cases h
  · exact ⟨by assumption, h⟩
theorem hideA_none {p b : Addr} {H : Hp} (h : hideA p H b = none) : b = p ∨ H b = none := by
  unfold hideA at h
  split at h
  · exact .inl (by assumption)
  · exact .inr h
theorem hideA_upd {p : Addr} {H : Hp} {o : HO} (h : H p = some o) : upd (hideA p H) p o = H := by
  funext b
  by_cases z : b = p
  · subst z; rw [upd_same, h]
  · rw [upd_ne z, hideA_ne z]
theorem upd_hideA {p : Addr} {H : Hp} {o : HO} : hideA p (upd H p o) = hideA p H := by
  funext b
  by_cases z : b = p
  · subst z; rw [hideA_self, hideA_self]
  · rw [hideA_ne z, hideA_ne z, upd_ne z]
theorem hideA_new {p : Addr} {H : Hp} (h : H p = none) : hideA p H = H := by
  funext b
  by_cases z : b = p
  · subst z; rw [hideA_self, h]
  · rw [hideA_ne z]
theorem tabs_put {T : List (Addr × Str)} {H : Hp} {p : Addr} {xs : List V} {o : HO} (t : LamX.Tabs T H) (hp : H p = some (.lst xs)) : LamX.Tabs T (upd H p o) := fun q hq => by
  obtain ⟨ps, g1, g2, g3⟩ := t q hq
  refine ⟨ps, ?_, g2, fun pos cv hc => ?_⟩
  · rw [upd_ne fun z => by rw [z, hp] at g1; cases g1]; exact g1
  · obtain ⟨c, ec, hc'⟩ := g3 pos cv hc
    exact ⟨c, ec, by rw [upd_ne fun z => by subst z; rw [hp] at hc'; cases hc']; exact hc'⟩
theorem Ext.hide {cl : Glb} {Hv H Hv' H' : Hp} {p : Addr} {xs : List V} (e : Ext cl Hv H Hv' H') (hp : H p = some (.lst xs)) (hv : Hv p = none) : Ext cl Hv (hideA p H) Hv' (hideA p H') := by
  have hv' : Hv' p = none := e.old p _ hp hv
  have hp' : H' p = some (.lst xs) := e.hh p _ hp rfl
  refine ⟨fun b o h n => ?_, e.vv, ⟨fun b o h n => ?_, fun b h => ?_, fun b xs h => ?_, fun b o u h => ?_, fun p' hT => ?_, fun b φ h => e.vh.x b φ (hideA_some h).2⟩, fun b o h n => e.old b o (hideA_some h).2 n, fun b h => ?_, fun b ps h => ?_⟩
  · obtain ⟨h1, h2⟩ := hideA_some h
    rw [hideA_ne h1]; exact e.hh b o h2 n
  · rw [hideA_ne fun z => by subst z; rw [hv'] at h; cases h]
    exact e.vh.s b o h n
  · rcases hideA_none h with z | z
    · rw [z]; exact hv'
    · exact e.vh.d b z
  · exact e.vh.t b xs (hideA_some h).2
  · exact e.vh.z b o u (hideA_some h).2
  · obtain ⟨ps', g1, g2, g3⟩ := e.vh.tab p' hT
    refine ⟨ps', ?_, g2, fun pos cv hc => ?_⟩
    · rw [hideA_ne fun z => by subst z; rw [hp'] at g1; cases g1]; exact g1
    · obtain ⟨c, ec, hc'⟩ := g3 pos cv hc
      exact ⟨c, ec, by rw [hideA_ne fun z => by subst z; rw [hp'] at hc'; cases hc']; exact hc'⟩
  · rcases hideA_none h with z | z
    · rw [z]; exact hideA_self
    · by_cases w : b = p
      · rw [w]; exact hideA_self
      · rw [hideA_ne w]; exact e.dom b z
  · obtain ⟨h1, h2⟩ := hideA_some h
    obtain ⟨ps', h'⟩ := e.tt b ps h2
    exact ⟨ps', by rw [hideA_ne h1]; exact h'⟩
theorem wipe_mask {σ : St} {i : Nat} : ∀ {vs : List Nat}, i ∉ vs → (wipe σ vs)[i]? = σ[i]?
  | [], _ => rfl
  | v :: vs, h => by
    simp only [List.mem_cons, not_or] at h
    unfold wipe
    rw [List.getElem?_set_ne (Ne.symm h.1), wipe_mask h.2]
theorem wipe_in {σ : St} {i : Nat} : ∀ {vs : List Nat}, i ∈ vs → i < σ.length → (wipe σ vs)[i]? = some none
  | v :: vs, h, hl => by
    unfold wipe
    by_cases e : v = i
    · subst e; rw [List.getElem?_set_self (by rw [wipe_length]; exact hl)]
    · rw [List.getElem?_set_ne e]
      rcases List.mem_cons.mp h with z | z
      · exact absurd z.symm e
      · exact wipe_in z hl
theorem er_wipe {K : PySem.W.Frag} {cl : Glb} {Hv : Hp} {ρ : Env} {σ : St} {vs : List Nat} (e : ER K cl Hv ρ σ) : ER K cl Hv (mask vs ρ) (wipe σ vs) := ⟨fun i d h => by
  obtain ⟨h1, h2⟩ := mask_get h
  rw [wipe_mask h1]
  exact e.get i d h2, by rw [mask_len, wipe_length]; exact e.len⟩
theorem wipe_eq {σ σ' : St} {vs : List Nat} {pt : Pat} (hl : σ'.length = σ.length) (hk : ∀ j, j ∉ patIx pt → σ'[j]? = (wipe σ vs)[j]?) (hp : sub (patIx pt) vs = true) : wipe σ' vs = wipe σ vs := by
  apply List.ext_getElem?
  intro i
  by_cases hi : i ∈ vs
  · by_cases h : i < σ.length
    · rw [wipe_in hi h, wipe_in hi (by rw [hl]; exact h)]
    · rw [List.getElem?_eq_none (by rw [wipe_length, hl]; omega), List.getElem?_eq_none (by rw [wipe_length]; omega)]
  · rw [wipe_mask hi, hk i fun z => hi (sub_mem hp i z)]
section
variable {X : Cx} {W : WX} {cl : Glb} {pos : Pos} {elt tg iter : Expr} {ifs : List Expr} {scope : Scope} {own : List (Str × Nat)} {pt : Pat} {it : DI} {t : DT} {f : DE}
def W0 : WX := fun _ _ _ _ => False
def STs (X : Cx) (W : WX) (cl : Glb) (ifs : List Expr) (f : DT) : Prop := ∃ t, PTs X ifs t ∧ RunT X W cl f t
theorem sts_nil : STs X W cl [] dYes := ⟨_, pts_nil, fun Hv H σ ρ Q vw er pv => pv _ _ (Ext.refl vw)⟩
theorem sts_one {c : Expr} (h : ST X W cl c t) : STs X W cl [c] t := by
  obtain ⟨u, pu, h⟩ := h
  exact ⟨u, pts_one pu, h⟩
theorem noErr_pst {α : Type} {β : Type} {r : R α} {k : α → R β} {b : β} {σ : St} {Hv H : Hp} {T : Hp → Hp → α → Prop} (e : (noErr r).bind k = .ok b) (h : ∀ a Hv' H', r = .ok a → k a = .ok b → Ext cl Hv H Hv' H' → T Hv' H' a) : Pst cl W0 σ Hv H T r := by
  cases r with
  | ok a => exact fun Hv' H' ex => h a Hv' H' rfl e ex
  | err c => cases e
  | bad => cases e
theorem lc_run1 {wi : TI} {gt : TG} {tt : TT} {te : TE}
    (hg : ∀ (Hv H : Hp) (v : V) (d : D) (ρ ρ' : Env) (σ : St) (Q : St → Hp → Prop), Vw cl Hv H → Rep X.K cl Hv v d → bindPat pt d ρ = some ρ' → ρ.length = σ.length →
      (∀ σ', (∀ Hv2, ER X.K cl Hv2 ρ σ → Sam Hv Hv2 → ER X.K cl Hv2 ρ' σ') → σ'.length = σ.length → (∀ j, j ∉ patIx pt → σ'[j]? = σ[j]?) → Q σ' H) → gt v σ H Q)
    (ht : RunT X W0 cl t tt) (he : RunE X W0 cl f te) (hp : sub (patIx pt) (own.map (·.2)) = true)
    (Hv H : Hp) (σ : St) (ρ : Env) (Q : VK) (hi : ∀ (Q : It → Hp → Prop), Pst cl W σ Hv H (TJ X.K cl Q) (it ρ) → wi σ H Q) (vw : Vw cl Hv H) (er : ER X.K cl Hv ρ σ) (pv : Pst cl W σ Hv H (TN X.K cl Q) (dLcs (own.map (·.2)) pt it t f ρ)) : tLc wi gt tt te (own.map (·.2)) σ H Q := by
  refine hi _ (bindP pv fun ds Hv1 H1 _ e1 pv1 hz J hJ => ?_)
  cases qf : lcGo pt t f ds (mask (own.map (·.2)) ρ) with
  | bad => rw [qf] at pv1; exact pv1.elim
  | err c =>
    exfalso
    have : ∀ (ds : List D) (ρ : Env), lcGo pt t f ds ρ ≠ .err c := by
      intro ds
      induction ds with
      | nil => intro ρ h; cases h
      | cons d ds ih =>
        intro ρ h
        unfold lcGo at h
        cases q : bindPat pt d ρ with
        | none => rw [q] at h; cases h
        | some ρ' =>
          rw [q] at h
          simp only at h
          cases q1 : t ρ' with
          | ok k =>
            rw [q1] at h
            cases k with
            | true =>
              simp only [noErr, R.bind] at h
              cases q2 : f ρ' with
              | ok y =>
                rw [q2] at h
                simp only [noErr, R.bind] at h
                cases q3 : lcGo pt t f ds ρ with
                | ok ys => rw [q3] at h; cases h
                | err c' => rw [q3] at h; cases h; exact ih ρ q3
                | bad => rw [q3] at h; cases h
              | err c' => rw [q2] at h; cases h
              | bad => rw [q2] at h; cases h
            | false => exact ih ρ h
          | err c' => rw [q1] at h; cases h
          | bad => rw [q1] at h; cases h
    exact this _ _ qf
  | ok full =>
    rw [qf] at pv1
    intro D hD
    refine ⟨fun i m H2 => ∃ Hv2 acc ys, Ext cl Hv1 H1 Hv2 (hideA D H2) ∧ Vw cl Hv2 H2 ∧ H2 D = some (.lst acc) ∧ Hv2 D = none ∧ Reps X.K cl Hv2 acc ys ∧ ys.length ≤ i ∧ i ≤ ds.length ∧ m = ds.length - i ∧ ∃ rest, lcGo pt t f (ds.drop i) (mask (own.map (·.2)) ρ) = .ok rest ∧ ys ++ rest = full,
      ⟨ds.length, Hv1, [], [], ?_, ?_, upd_same, e1.vh.d D hD, .nil, Nat.le_refl _, Nat.zero_le _, rfl, full, qf, rfl⟩, ?_⟩
    · rw [upd_hideA, hideA_new hD]; exact Ext.refl e1.vh
    · refine ⟨e1.vh.s.trans (.of (same_upd hD)), fun b h => e1.vh.d b (upd_none h).2, fun b xs h => ?_, fun b o u h => ?_, e1.vh.tab.ext (same_upd hD), fun b φ h => ?_⟩
      · by_cases z : b = D
        · subst z; rw [upd_same] at h; cases h
        · rw [upd_ne z] at h; exact e1.vh.t b xs h
      · by_cases z : b = D
        · subst z; rw [upd_same] at h; cases h
        · rw [upd_ne z] at h; exact e1.vh.z b o u h
      · by_cases z : b = D
        · subst z; rw [upd_same] at h; cases h
        · rw [upd_ne z] at h; exact e1.vh.x b φ h
    · rintro i m H2 ⟨Hv2, acc, ys, e2, vw2, hD2, hv2, ra, hy, hi2, rfl, rest, hr, hf⟩
      by_cases hlt : i < ds.length
      · refine .inr ⟨hJ.go i Hv2 H2 e2.vv vw2 hlt, fun H3 => ∃ Hv3 acc3 ys3, Ext cl Hv1 H1 Hv3 (hideA D H3) ∧ Vw cl Hv3 H3 ∧ H3 D = some (.lst acc3) ∧ Hv3 D = none ∧ Reps X.K cl Hv3 acc3 ys3 ∧ ys3.length ≤ i + 1 ∧ ∃ rest, lcGo pt t f (ds.drop (i + 1)) (mask (own.map (·.2)) ρ) = .ok rest ∧ ys3 ++ rest = full,
          fun H3 ⟨Hv3, acc3, ys3, a1, a2, a3, a4, a5, a6, a7⟩ => ⟨ds.length - (i + 1), by omega, Hv3, acc3, ys3, a1, a2, a3, a4, a5, a6, hlt, rfl, a7⟩, fun x H3 y => ?_⟩
        obtain ⟨Hv3, e3, r3⟩ := hJ.yld i Hv2 H2 e2.vv vw2 ds[i] (by simp [hlt]) x H3 y
        rw [List.drop_eq_getElem_cons hlt] at hr
        unfold lcGo at hr
        cases q : bindPat pt ds[i] (mask (own.map (·.2)) ρ) with
        | none => rw [q] at hr; cases hr
        | some ρ' =>
          rw [q] at hr
          simp only at hr
          refine hg Hv3 H3 x ds[i] _ ρ' (wipe σ (own.map (·.2))) _ e3.vh r3 q (by rw [wipe_length, mask_len]; exact er.len) fun σ' g' l' k' => ?_
          have er3 : ER X.K cl Hv3 ρ' σ' := g' Hv3 (er_wipe (((er.mono e1.vv).mono e2.vv).mono e3.vv)) (Sam.refl _)
          refine ⟨wipe_eq (l'.trans (wipe_length _ _)) k' hp, ?_⟩
          refine ht Hv3 H3 σ' ρ' _ e3.vh er3 (noErr_pst hr fun k Hv4 H4 qk hk e4 => ?_)
          have hD3 : H3 D = some (.lst acc) := e3.hh D _ hD2 rfl
          have hD4 : H4 D = some (.lst acc) := e4.hh D _ hD3 rfl
          have hv3 : Hv3 D = none := e3.old D _ hD2 hv2
          have hv4 : Hv4 D = none := e4.old D _ hD3 hv3
          have ext4 : Ext cl Hv1 H1 Hv4 (hideA D H4) := (e2.trans (e3.hide hD2 hv2)).trans (e4.hide hD3 hv3)
          show if k = true then _ else _
          cases k with
          | false =>
            rw [if_neg Bool.false_ne_true]
            exact ⟨Hv4, acc, ys, ext4, e4.vh, hD4, hv4, (ra.mono e3.vv).mono e4.vv, by omega, rest, hk, hf⟩
          | true =>
            rw [if_pos rfl]
            refine he Hv4 H4 σ' ρ' _ e4.vh (er3.mono e4.vv) (noErr_pst hk fun yd Hv5 H5 qy hy5 e5 v rv => ?_)
            have hD5 : H5 D = some (.lst acc) := e5.hh D _ hD4 rfl
            have hv5 : Hv5 D = none := e5.old D _ hD4 hv4
            have hla : acc.length = ys.length := ra.length
            refine ⟨acc, hD5, by omega, ?_⟩
            cases q5 : lcGo pt t f (ds.drop (i + 1)) (mask (own.map (·.2)) ρ) with
            | ok rest5 =>
              rw [q5] at hy5
              cases hy5
              have ra5 := (((ra.mono e3.vv).mono e4.vv).mono e5.vv).append (.cons rv .nil)
              refine ⟨Hv5, acc ++ [v], ys ++ [yd], ?_, ?_, upd_same, hv5, ra5, by rw [List.length_append, List.length_singleton]; omega, rest5, rfl, by rw [List.append_assoc]; exact hf⟩
              · rw [upd_hideA]; exact ext4.trans (e5.hide hD4 hv4)
              · refine ⟨fun b o h n => ?_, fun b h => e5.vh.d b (upd_none h).2, fun b xs h => ?_, fun b o u h => ?_, tabs_put e5.vh.tab hD5, fun b φ h => ?_⟩
                · rw [upd_ne fun z => by subst z; rw [hv5] at h; cases h]; exact e5.vh.s b o h n
                · by_cases z : b = D
                  · subst z; rw [upd_same] at h; cases h
                  · rw [upd_ne z] at h; exact e5.vh.t b xs h
                · by_cases z : b = D
                  · subst z; rw [upd_same] at h; cases h
                  · rw [upd_ne z] at h; exact e5.vh.z b o u h
                · by_cases z : b = D
                  · subst z; rw [upd_same] at h; cases h
                  · rw [upd_ne z] at h; exact e5.vh.x b φ h
            | err c => rw [q5] at hy5; cases hy5
            | bad => rw [q5] at hy5; cases hy5
      · have ei : i = ds.length := by omega
        subst ei
        rw [List.drop_length] at hr
        cases hr
        rw [List.append_nil] at hf
        subst hf
        refine .inl ⟨hJ.stop _ Hv2 H2 e2.vv vw2 rfl, ?_⟩
        have z : acc.length ≤ sizeLine := by rw [ra.length]; omega
        have := pv1 Hv2 (hideA D H2) e2 D acc hideA_self z ra
        rw [hideA_upd hD2] at this
        exact this
theorem lc_run {wi : TI} {gt : TG} {tt : TT} {te : TE}
    (hi : ∀ (Hv H : Hp) (σ : St) (ρ : Env) (Q : It → Hp → Prop), Vw cl Hv H → ER X.K cl Hv ρ σ → Pst cl W σ Hv H (TJ X.K cl Q) (it ρ) → wi σ H Q)
    (hg : ∀ (Hv H : Hp) (v : V) (d : D) (ρ ρ' : Env) (σ : St) (Q : St → Hp → Prop), Vw cl Hv H → Rep X.K cl Hv v d → bindPat pt d ρ = some ρ' → ρ.length = σ.length →
      (∀ σ', (∀ Hv2, ER X.K cl Hv2 ρ σ → Sam Hv Hv2 → ER X.K cl Hv2 ρ' σ') → σ'.length = σ.length → (∀ j, j ∉ patIx pt → σ'[j]? = σ[j]?) → Q σ' H) → gt v σ H Q)
    (ht : RunT X W0 cl t tt) (he : RunE X W0 cl f te) (hp : sub (patIx pt) (own.map (·.2)) = true)
    (Hv H : Hp) (σ : St) (ρ : Env) (Q : VK) (vw : Vw cl Hv H) (er : ER X.K cl Hv ρ σ) (pv : Pst cl W σ Hv H (TN X.K cl Q) (dLcs (own.map (·.2)) pt it t f ρ)) : tLc wi gt tt te (own.map (·.2)) σ H Q :=
  lc_run1 hg ht he hp Hv H σ ρ Q (fun Q => hi Hv H σ ρ Q vw er) vw er pv
end
end Sm
namespace Sm
open PySem PySem.Spec L2
section
variable {X : Cx} {W : WX} {cl : Glb} {pos : Pos} {e elt tg iter : Expr} {ifs : List Expr} {scope : Scope} {own : List (Str × Nat)} {pt : Pat} {it : DI} {t : DT} {f : DE} {ow ow1 : List Nat}
def tE (K : PySem.W.Frag) (cl : Glb) (W : WX) (f : DE) : TE := fun σ H Q => ∃ Hv ρ, Vw cl Hv H ∧ ER K cl Hv ρ σ ∧ Pst cl W σ Hv H (TV K cl Q) (f ρ)
def tT (K : PySem.W.Frag) (cl : Glb) (W : WX) (f : DT) : TT := fun σ H Q => ∃ Hv ρ, Vw cl Hv H ∧ ER K cl Hv ρ σ ∧ Pst cl W σ Hv H (TB Q) (f ρ)
def tG (K : PySem.W.Frag) (cl : Glb) (pt : Pat) : TG := fun v σ H Q => ∃ Hv d ρ ρ', Vw cl Hv H ∧ Rep K cl Hv v d ∧ bindPat pt d ρ = some ρ' ∧ ρ.length = σ.length ∧
  (∀ σ', (∀ Hv2, ER K cl Hv2 ρ σ → Sam Hv Hv2 → ER K cl Hv2 ρ' σ') → σ'.length = σ.length → (∀ j, j ∉ patIx pt → σ'[j]? = σ[j]?) → Q σ' H)
theorem SE.pe (h : SE X W cl e f) : PE X e (tE X.K cl W f) := by
  obtain ⟨u, pu, hu⟩ := h
  exact ⟨fun pins s σ H Q I ⟨Hv, ρ, vw, er, pv⟩ => pu.run pins s σ H Q I (hu Hv H σ ρ Q vw er pv)⟩
theorem STs.pts (h : STs X W cl ifs t) : PTs X ifs (tT X.K cl W t) := by
  obtain ⟨u, pu, hu⟩ := h
  exact ⟨fun pins s σ H Q I ⟨Hv, ρ, vw, er, pv⟩ => pu.run pins s σ H Q I (hu Hv H σ ρ Q vw er pv)⟩
theorem SG.pg (h : SG X cl tg pt) : PG X tg (tG X.K cl pt) := by
  obtain ⟨u, pu, hu⟩ := h
  exact ⟨fun pins s σ H v w Q I r ⟨Hv, d, ρ, ρ', vw, rv, eb, hl, q⟩ => pu.run pins s σ H v w Q I r (hu Hv H v d ρ ρ' σ Q vw rv eb hl fun σ' _ g' l' _ k' => q σ' g' l' k')⟩
theorem lc_runs {wi : TI} (hi : ∀ (Hv H : Hp) (σ : St) (ρ : Env) (Q : It → Hp → Prop), Vw cl Hv H → ER X.K cl Hv ρ σ → Pst cl W σ Hv H (TJ X.K cl Q) (it ρ) → wi σ H Q) (hp : sub (patIx pt) (own.map (·.2)) = true)
    (Hv H : Hp) (σ : St) (ρ : Env) (Q : VK) (vw : Vw cl Hv H) (er : ER X.K cl Hv ρ σ) (pv : Pst cl W σ Hv H (TN X.K cl Q) (dLcs (own.map (·.2)) pt it t f ρ)) : tLc wi (tG X.K cl pt) (tT X.K cl W0 t) (tE X.K cl W0 f) (own.map (·.2)) σ H Q :=
  lc_run hi (fun Hv H v d ρ ρ' σ Q vw r e hl q => ⟨Hv, d, ρ, ρ', vw, r, e, hl, q⟩) (fun Hv H σ ρ Q vw er pv => ⟨Hv, ρ, vw, er, pv⟩) (fun Hv H σ ρ Q vw er pv => ⟨Hv, ρ, vw, er, pv⟩) hp Hv H σ ρ Q vw er pv
theorem sn_lc (gd : X.calm = true) (nd : X.N.Nodup) (hi : SI X W cl tg iter it) (ok : BlkOk X.N X.env.scope scope own)
    (hg : ∀ (s : Shared) (H : Hp) (C : Addr) (cs : List (Str × Addr)) (fp : List Addr), SG (X.blk s H scope (compEnvC scope cs C X.env) fp) cl tg pt)
    (ht : ∀ (s : Shared) (H : Hp) (C : Addr) (cs : List (Str × Addr)) (fp : List Addr), STs (X.blk s H scope (compEnvC scope cs C X.env) fp) W0 cl ifs t)
    (he : ∀ (s : Shared) (H : Hp) (C : Addr) (cs : List (Str × Addr)) (fp : List Addr), SE (X.blk s H scope (compEnvC scope cs C X.env) fp) W0 cl elt f) (hp : sub (patIx pt) (own.map (·.2)) = true := by rfl) (hs : ∀ x, foldedSetIterable iter X.env x = pure x := by intro _; rfl) :
    SN X W cl (.ListComp elt [⟨tg, iter, ifs, 0⟩] scope pos) (dLcs (own.map (·.2)) pt it t f) := by
  obtain ⟨wi, pi, hi⟩ := hi
  exact ⟨_, pe_lc (te := tE X.K cl W0 f) (tt := tT X.K cl W0 t) (g := tG X.K cl pt) gd nd pi ok (fun s H C cs fp => (hg s H C cs fp).pg) (fun s H C cs fp => (ht s H C cs fp).pts) (fun s H C cs fp => (he s H C cs fp).pe) hs, lc_runs hi hp⟩
theorem SN.se {g : DA} (h : SN X W cl e g) : SE X W cl e (fun ρ => (g ρ).bind fun ds => .ok (.lst ds)) := by
  obtain ⟨u, pu, hu⟩ := h
  refine ⟨u, pu, fun Hv H σ ρ Q vw er pv => hu Hv H σ ρ Q vw er ?_⟩
  have pv : Pst cl W σ Hv H (TV X.K cl Q) ((g ρ).bind fun ds => .ok (.lst ds)) := pv
  cases q : g ρ with
  | ok ds =>
    rw [q] at pv
    exact fun Hv' H' ex p vs hp hz r => pv _ _ (ex.trans (Ext.new ex.vh hp)) _ (.lst upd_same hz (r.mono (Ext.new ex.vh hp).vv))
  | err c => rw [q] at pv; exact pv
  | bad => rw [q] at pv; exact pv
theorem se_lc (gd : X.calm = true) (nd : X.N.Nodup) (hi : SI X W cl tg iter it) (ok : BlkOk X.N X.env.scope scope own)
    (hg : ∀ (s : Shared) (H : Hp) (C : Addr) (cs : List (Str × Addr)) (fp : List Addr), SG (X.blk s H scope (compEnvC scope cs C X.env) fp) cl tg pt)
    (ht : ∀ (s : Shared) (H : Hp) (C : Addr) (cs : List (Str × Addr)) (fp : List Addr), STs (X.blk s H scope (compEnvC scope cs C X.env) fp) W0 cl ifs t)
    (he : ∀ (s : Shared) (H : Hp) (C : Addr) (cs : List (Str × Addr)) (fp : List Addr), SE (X.blk s H scope (compEnvC scope cs C X.env) fp) W0 cl elt f) (hp : sub (patIx pt) (own.map (·.2)) = true := by rfl) (hs : ∀ x, foldedSetIterable iter X.env x = pure x := by intro _; rfl) :
    SE X W cl (.ListComp elt [⟨tg, iter, ifs, 0⟩] scope pos) (dLc (own.map (·.2)) pt it t f) := (sn_lc gd nd hi ok hg ht he hp hs).se
theorem ss_setLc {i : Nat} {y : Str} {py spos : Pos} (gd : Gd X W) (hi : SI X W cl tg iter it) (ok : BlkOk X.N X.env.scope scope own)
    (hg : ∀ (s : Shared) (H : Hp) (C : Addr) (cs : List (Str × Addr)) (fp : List Addr), SG (X.blk s H scope (compEnvC scope cs C X.env) fp) cl tg pt)
    (ht : ∀ (s : Shared) (H : Hp) (C : Addr) (cs : List (Str × Addr)) (fp : List Addr), STs (X.blk s H scope (compEnvC scope cs C X.env) fp) W0 cl ifs t)
    (he : ∀ (s : Shared) (H : Hp) (C : Addr) (cs : List (Str × Addr)) (fp : List Addr), SE (X.blk s H scope (compEnvC scope cs C X.env) fp) W0 cl elt f) (hy : X.N[i]? = some y := by rfl) (hyl : X.env.scope.names.lookup y = some .local := by rfl)
    (hsw : swapsWith (.ListComp elt [⟨tg, iter, ifs, 0⟩] scope pos) (some (.Name y py)) spos.line X.env = pure true := by exact sw_true rfl rfl rfl (by decide +kernel))
    (hp : sub (patIx pt) (own.map (·.2)) = true := by rfl) (hs : ∀ x, foldedSetIterable iter X.env x = pure x := by intro _; rfl) :
    SS X W cl ow (i :: nots ow i) (.Assign [.Name y py] (.ListComp elt [⟨tg, iter, ifs, 0⟩] scope pos) spos) (dSetN ow i (dLcs (own.map (·.2)) pt it t f)) := by
  obtain ⟨wi, pi, hi⟩ := hi
  refine ⟨_, ps_setLc (te := tE X.K cl W0 f) (tt := tT X.K cl W0 t) (g := tG X.K cl pt) gd.calm gd.nd hy hyl hsw pi ok (fun s H C cs fp => (hg s H C cs fp).pg) (fun s H C cs fp => (ht s H C cs fp).pts) (fun s H C cs fp => (he s H C cs fp).pe) hs, fun Hv0 H0 ρ σ Hv H Dn sr hl po => ?_⟩
  refine lc_runs hi hp Hv H σ _ _ sr.ext.vh sr.er (use_mask sr hl po fun ds Hv' H' _ ex sr' po' p vs hp' hz r => ?_)
  exact po' _ Hv' _ (sr'.setOwn hp' hz r (ilt hy hl)) (Sam.refl _) (by rw [List.length_set]; exact hl)
end
end Sm
namespace Sm
open PySem PySem.Spec L2
theorem tuple_mul1W (l : Addr) (items : Array Value) (n : Nat) (dd : Option Addr) (sl : Array (Option Value)) (u : Tok) :
    Meets (Builtin.«tuple.__mul__» ⟨[.ref l, .int 1 u], []⟩) (fun _ R s => s.heap.get? l = some { cls := .type "tuple", dict := dd, data := .seq items n, slots := sl } ∧ R (.ok (.ret (Value.ref l))) s) :=
  .of_wp fun prog w A R s h => by
    obtain ⟨hp, g, d, tk, os⟩ := s
    obtain ⟨hl, h⟩ := h
    have f1 := AutoSeq1.idx_int
    wp_walk using wpAny_loadPart' hl
    repeat (first
      | (refine wpAny_ite_false (decide_eq_false (by decide)) ?_; wp_walk using wpAny_loadPart' hl)
      | (refine wpAny_ite_true (decide_eq_true (by simp)) ?_; wp_walk using wpAny_loadPart' hl))
    exact ⟨_, rfl, h⟩
def rRep1 (K : PySem.W.Frag) : R2 := fun x y H Q => ∃ l xs, x = .ref l ∧ y = .int 1 ∧ SqT K H l xs ∧ Q (.ref l) H
theorem op_rep1 {X : Cx} : OpR X (binaryOp .Mult) (rRep1 X.K) := by
  intro pins s σ H x y v u Q I rx ry h
  obtain ⟨l, xs, rfl, rfl, hT, q⟩ := h
  cases rx
  obtain ⟨t, rfl⟩ := ry
  obtain ⟨its, r, ⟨⟨cls, dd, data, sl⟩, ho, hc, n, hd⟩, hs⟩ := I.tuple hT
  simp only at hc hd
  subst hc hd
  refine wpAny_binaryOp_repeat_ref (T := "tuple") (U := "int") (by decide) ⟨_, ho, rfl⟩ (fun s' => typeIs_int s' 1 t) noFill_tuple_mul F.fills_int_mul F.slot_int_rmul repeat_tuple F.slot_int_index.lookup
    (call_meets F.slot_int_rmul (typeIs_int s 1 t) F.entry_int_rmul (F.args_int_rmul_2 _ _) (int_rmul_tuple 1 t l its.toArray n dd sl)
      ⟨ho, rfl, ⟨_, ho, rfl⟩, call_meets F.slot_tuple_mul ⟨_, ho, rfl⟩ F.entry_tuple_mul (F.args_tuple_mul_2 _ _) (tuple_mul1W l its.toArray n dd sl t) ⟨ho, ?_⟩⟩)
  exact ⟨.ref l, _, I, rfl, q⟩
section
variable {X : Cx} {W : WX} {cl : Glb}
def oRepL : D → D → Option D
  | .lst x, .int k => if -16777216 ≤ k ∧ k ≤ 16777216 ∧ x.length * k.toNat ≤ sizeLine then some (.lst (List.replicate k.toNat x).flatten) else none
  | _, _ => none
def oRepT : D → D → Option D
  | .tup x, .int k => if x ≠ [] ∧ 2 ≤ k ∧ k ≤ 1000 ∧ x.length ≤ 1000 then some (.tup (List.replicate k.toNat x).flatten) else none
  | _, _ => none
theorem flat_len {α : Type} (k : Nat) (x : List α) : ((List.replicate k x).flatten).length = x.length * k := by
  induction k with
  | zero => simp
  | succ k ih => rw [List.replicate_succ, List.flatten_cons, List.length_append, ih, Nat.mul_succ]; omega
theorem os_repL : OpS X cl (binaryOp .Mult) oRepL := by
  refine ⟨_, op_rep, fun Hv H x y a b d Q vw rx ry e q => ?_⟩
  cases a <;> cases b <;> simp [oRepL] at e
  obtain ⟨⟨h1, h2, h3⟩, rfl⟩ := e
  cases ry
  cases rx with
  | lst s1 z1 r1 =>
    have e1 := r1.length
    refine ⟨_, _, _, rfl, rfl, vw.s _ _ s1 rfl, by omega, by omega, by rw [e1]; exact h3, new_lst vw (r1.replicate _) ?_ q⟩
    rw [flat_len, e1]; exact h3
theorem os_repT : OpS X cl (binaryOp .Mult) oRepT := by
  refine ⟨_, op_repT, fun Hv H x y a b d Q vw rx ry e q => ?_⟩
  cases a <;> cases b <;> simp [oRepT] at e
  obtain ⟨⟨h0, h1, h2, h3⟩, rfl⟩ := e
  rename_i x0 k0
  cases ry
  cases rx with
  | tup s1 z1 r1 =>
    have e1 := r1.length
    refine ⟨_, _, _, rfl, rfl, vw.s.sqU s1, fun z => ?_, h1, h2, by omega, new_tup vw (r1.replicate _) ?_ q⟩
    · subst z; cases r1; exact h0 rfl
    · rw [flat_len, e1]
      have h4 : x0.length * k0.toNat ≤ 1000 * 1000 := Nat.mul_le_mul h3 (by omega)
      exact Nat.le_trans h4 (by decide)
def oRep1 : D → D → Option D
  | .tup x, .int k => if k = 1 then some (.tup x) else none
  | _, _ => none
theorem os_rep1 : OpS X cl (binaryOp .Mult) oRep1 := by
  refine ⟨_, op_rep1, fun Hv H x y a b d Q vw rx ry e q => ?_⟩
  cases a <;> cases b <;> simp [oRep1] at e
  obtain ⟨rfl, rfl⟩ := e
  cases ry
  cases rx with
  | tup s1 z1 r1 => exact ⟨_, _, rfl, rfl, vw.s.sqU s1, q _ _ _ (Ext.refl vw) (.tup s1 z1 r1)⟩
def oMul : D → D → Option D
  | .int i, .int j => if mulOk i j then some (.int (i * j)) else none
  | .lst x, .int k => if -16777216 ≤ k ∧ k ≤ 16777216 ∧ x.length * k.toNat ≤ sizeLine then some (.lst (List.replicate k.toNat x).flatten) else none
  | .tup x, .int k => if k = 1 then some (.tup x) else if x ≠ [] ∧ 2 ≤ k ∧ k ≤ 1000 ∧ x.length ≤ 1000 then some (.tup (List.replicate k.toNat x).flatten) else none
  | _, _ => none
theorem os_times : OpS X cl (binaryOp .Mult) oMul := (os_mul.or (os_repL.or (os_rep1.or os_repT))).imp fun a b d e => by
  unfold orO
  cases a <;> cases b <;> simp [oMul] at e <;> simp [oMulI, oRepL, oRepT, oRep1, e]
  rename_i k
  by_cases h : k = 1
  · rw [if_pos h] at e ⊢
    exact e
  · rw [if_neg h] at e ⊢
    exact e
end
theorem Fn.none {P : Program} {w : World} {K : PySem.W.Frag} {mg : Str → Option Value} {base : Heap} {cl : Glb} {k n : Nat} {x : Str} {st : Stmt} {f : Addr} {fd : FuncData} {ps : List Str} (F : Fun K x x st f fd) (hm : mg x = some (.ref f)) (hb : Binds K fd ps []) (hn : ps.length = n) :
    Fn P w K mg base cl k x n (fun _ => .bad) :=
  ⟨f, fd, ps, ⟨fun vs H Q E h => h.1.trans hn.symm, fun A outer s H args us vs Q E _ _ _ _ h => by obtain ⟨_, _, _, _, _, z⟩ := h; exact z.elim⟩, hm, F.kp, hb, hn⟩
end Sm
namespace Sm
open PySem PySem.Spec L2
section
variable {X : Cx} {W : WX} {cl : Glb} {pos p : Pos} {a b c e : Expr} {es : List Expr} {fa fb fc : DE} {g : DA}
def SO (X : Cx) (W : WX) (cl : Glb) (e : Option Expr) (f : Env → R (Option Int)) : Prop := ∃ t, PO X e t ∧ ∀ (Hv H : Hp) (σ : St) (ρ : Env) (Q : Option Int → Hp → Prop), Vw cl Hv H → ER X.K cl Hv ρ σ → Pst cl W σ Hv H (fun _ H' i => Q i H') (f ρ) → t σ H Q
def dNo : Env → R (Option Int) := fun _ => .ok none
def dSo (f : DE) : Env → R (Option Int) := fun ρ => (f ρ).bind fun d => match d with | .int i => .ok (some i) | _ => .bad
theorem so_none : SO X W cl none dNo := ⟨_, po_none, fun Hv H σ ρ Q vw er pv => pv _ _ (Ext.refl vw)⟩
theorem so_some (ha : SE X W cl a fa) : SO X W cl (some a) (dSo fa) := by
  obtain ⟨ta, pa, ha⟩ := ha
  refine ⟨_, po_some pa, fun Hv H σ ρ Q vw er pv => ?_⟩
  refine ha Hv H σ ρ _ vw er (bindP pv fun x Hv1 H1 _ e1 pv1 v rv => ?_)
  cases x with
  | int i => cases rv; exact ⟨i, rfl, pv1 _ _ (Ext.refl e1.vh)⟩
  | _ => exact pv1.elim
def cutD {α : Type} (xs : List α) (lo hi : Option Int) : List α := (xs.drop (HT.sIx xs.length 0 lo)).take (HT.sIx xs.length xs.length hi - HT.sIx xs.length 0 lo)
def oSl (d : D) (lo hi : Option Int) : Option D := match d with
  | .lst ds => some (.lst (cutD ds lo hi))
  | .tup ds => some (.tup (cutD ds lo hi))
  | .str z => if z.length ≤ sizeLine then some (.str (cutS z lo hi)) else none
  | _ => none
theorem reps_cut {K : PySem.W.Frag} {H : Hp} {xs : List V} {ds : List D} (r : Reps K cl H xs ds) (lo hi : Option Int) : Reps K cl H (cutV xs lo hi) (cutD ds lo hi) := by
  unfold cutV cutD
  rw [r.length]
  exact (r.drop _).take _
theorem cutD_all {α : Type} {xs : List α} {lo hi : Option Int} (h1 : HT.sIx xs.length 0 lo = 0) (h2 : HT.sIx xs.length xs.length hi = xs.length) : cutD xs lo hi = xs := by
  unfold cutD
  rw [h1, h2]; simp
def dSl (f : DE) (lo hi : Env → R (Option Int)) : DE := fun ρ => (f ρ).bind fun d => (lo ρ).bind fun l => (hi ρ).bind fun h => ofO (oSl d l h)
theorem se_slice {lo hi : Option Expr} {fl fh : Env → R (Option Int)} {p2 : Pos} (ha : SE X W cl a fa) (hl : SO X W cl lo fl) (hh : SO X W cl hi fh) : SE X W cl (.Subscript a (.Slice lo hi none p2) pos) (dSl fa fl fh) := by
  obtain ⟨ta, pa, ha⟩ := ha
  obtain ⟨tl, pl, hl⟩ := hl
  obtain ⟨th, ph, hh⟩ := hh
  refine ⟨_, pe_slice (sl_list.or (sl_tupA.or sl_str)) pa pl ph, fun Hv H σ ρ Q vw er pv => ?_⟩
  refine ha Hv H σ ρ _ vw er (bindP pv fun x Hv1 H1 _ e1 pv1 v rv => ?_)
  refine hl Hv1 H1 σ ρ _ e1.vh (er.mono e1.vv) (bindP pv1 fun l Hv2 H2 _ e2 pv2 => ?_)
  refine hh Hv2 H2 σ ρ _ e2.vh ((er.mono e1.vv).mono e2.vv) (bindP pv2 fun h Hv3 H3 _ e3 pv3 => ?_)
  obtain ⟨d, ed, q⟩ := ofO_ok pv3
  have q : ∀ v Hv' H', Ext cl Hv3 H3 Hv' H' → Rep X.K cl Hv' v d → Q v H' := fun v Hv' H' ex r => q Hv' H' ex v r
  have rv := (rv.mono e2.vv).mono e3.vv
  have vw := e3.vh
  cases rv with
  | lst s z r =>
    cases ed
    exact .inl ⟨_, _, rfl, .inl (.inl (vw.s _ _ s rfl)), new_lst vw (reps_cut r l h) (Nat.le_trans (cutV_length _ _ _) z) q⟩
  | tup s z r =>
    cases ed
    refine .inr (.inl ⟨_, _, rfl, vw.s.sqU s, fun hw => ?_, fun _ => new_tup vw (reps_cut r l h) (Nat.le_trans (cutV_length _ _ _) z) q⟩)
    rw [r.length] at hw
    rw [cutD_all hw.1 hw.2] at q
    exact q _ _ _ (Ext.refl vw) (.tup s z r)
  | str z =>
    simp only [oSl] at ed
    split at ed
    · cases ed
      exact .inr (.inr ⟨_, rfl, by assumption, q _ _ _ (Ext.refl vw) (.str _)⟩)
    · cases ed
  | _ => cases ed
def intsOf : List D → Option (List Int)
  | [] => some []
  | .int i :: ds => (intsOf ds).map (i :: ·)
  | _ => none
def boolsOf : List D → Option (List Bool)
  | [] => some []
  | .bl i :: ds => (boolsOf ds).map (i :: ·)
  | _ => none
theorem reps_intsOf {K : PySem.W.Frag} {H : Hp} : ∀ {xs : List V} {ds : List D} {ns : List Int}, Reps K cl H xs ds → intsOf ds = some ns → xs = ns.map V.int
  | _, _, _, .nil, h => by cases h; rfl
  | _, _, _, .cons r t, h => by
    cases r with
    | int i =>
      simp only [intsOf, Option.map_eq_some_iff] at h
      obtain ⟨ns, h1, rfl⟩ := h
      rw [reps_intsOf t h1]; rfl
    | _ => cases h
theorem reps_boolsOf {K : PySem.W.Frag} {H : Hp} : ∀ {xs : List V} {ds : List D} {ns : List Bool}, Reps K cl H xs ds → boolsOf ds = some ns → xs = ns.map V.bl
  | _, _, _, .nil, h => by cases h; rfl
  | _, _, _, .cons r t, h => by
    cases r with
    | bl i =>
      simp only [boolsOf, Option.map_eq_some_iff] at h
      obtain ⟨ns, h1, rfl⟩ := h
      rw [reps_boolsOf t h1]; rfl
    | _ => cases h
theorem one_lst {K : PySem.W.Frag} {H : Hp} {xs : List V} {ds : List D} (r : Reps K cl H xs [.lst ds]) : ∃ l vs, xs = [.ref l] ∧ H l = some (.lst vs) ∧ vs.length ≤ sizeLine ∧ Reps K cl H vs ds := by
  cases r with
  | cons r t =>
    cases t
    cases r with
    | lst s z r => exact ⟨_, _, rfl, s, z, r⟩
def oSum : List D → Option D
  | [.lst ds] => (intsOf ds).map fun ns => .int ns.sum
  | _ => none
theorem cs_sum (hc : X.calm = true) : CallS X cl (.builtin "sum") oSum := by
  refine ⟨_, cr_sum hc, fun Hv H xs ds d Q vw r e q => ?_⟩
  unfold oSum at e
  split at e
  · obtain ⟨l, vs, rfl, h1, h2, h3⟩ := one_lst r
    rw [Option.map_eq_some_iff] at e
    obtain ⟨ns, e1, rfl⟩ := e
    have := reps_intsOf h3 e1
    subst this
    exact ⟨l, ns, rfl, .inl (.inl (vw.s _ _ h1 rfl)), q _ _ _ (Ext.refl vw) (.int _)⟩
  · cases e
def oAll : List D → Option D
  | [.lst ds] => (boolsOf ds).map fun ns => .bl (ns.all id)
  | _ => none
def oAny : List D → Option D
  | [.lst ds] => (boolsOf ds).map fun ns => .bl (ns.any id)
  | _ => none
theorem cs_all (hc : X.calm = true) : CallS X cl (.builtin "all") oAll := by
  refine ⟨_, cr_all hc, fun Hv H xs ds d Q vw r e q => ?_⟩
  unfold oAll at e
  split at e
  · obtain ⟨l, vs, rfl, h1, h2, h3⟩ := one_lst r
    rw [Option.map_eq_some_iff] at e
    obtain ⟨ns, e1, rfl⟩ := e
    have := reps_boolsOf h3 e1
    subst this
    exact ⟨l, ns, rfl, .inl (.inl (vw.s _ _ h1 rfl)), q _ _ _ (Ext.refl vw) (.bl _)⟩
  · cases e
theorem cs_any (hc : X.calm = true) : CallS X cl (.builtin "any") oAny := by
  refine ⟨_, cr_any hc, fun Hv H xs ds d Q vw r e q => ?_⟩
  unfold oAny at e
  split at e
  · obtain ⟨l, vs, rfl, h1, h2, h3⟩ := one_lst r
    rw [Option.map_eq_some_iff] at e
    obtain ⟨ns, e1, rfl⟩ := e
    have := reps_boolsOf h3 e1
    subst this
    exact ⟨l, ns, rfl, .inl (.inl (vw.s _ _ h1 rfl)), q _ _ _ (Ext.refl vw) (.bl _)⟩
  · cases e
def maxI : List Int → Option Int
  | [] => none
  | x :: xs => some (xs.foldl max x)
def oMax : List D → Option D
  | [.lst ds] => (intsOf ds).bind fun ns => (maxI ns).map .int
  | _ => none
def oList : List D → Option D
  | [.lst ds] => some (.lst ds)
  | [.tup ds] => some (.lst ds)
  | _ => none
def oTuple : List D → Option D
  | [.lst ds] => some (.tup ds)
  | [.tup ds] => some (.tup ds)
  | _ => none
theorem one_tup {K : PySem.W.Frag} {H : Hp} {xs : List V} {ds : List D} (r : Reps K cl H xs [.tup ds]) : ∃ l vs, xs = [.ref l] ∧ H l = some (.tup vs) ∧ vs.length ≤ sizeLine ∧ Reps K cl H vs ds := by
  cases r with
  | cons r t =>
    cases t
    cases r with
    | tup s z r => exact ⟨_, _, rfl, s, z, r⟩
theorem cs_list : CallS X cl (.type "list") oList := by
  refine ⟨_, call_list_of, fun Hv H xs ds d Q vw r e q => ?_⟩
  unfold oList at e
  split at e
  · cases e
    obtain ⟨l, vs, rfl, h1, h2, h3⟩ := one_lst r
    exact ⟨l, vs, rfl, .inl (.inl (.inl (vw.s _ _ h1 rfl))), new_lst vw h3 h2 q⟩
  · cases e
    obtain ⟨l, vs, rfl, h1, h2, h3⟩ := one_tup r
    exact ⟨l, vs, rfl, .inr (vw.s.sqU h1), new_lst vw h3 h2 q⟩
  · cases e
theorem cs_tuple : CallS X cl (.type "tuple") oTuple := by
  refine ⟨_, call_tuple_of, fun Hv H xs ds d Q vw r e q => ?_⟩
  unfold oTuple at e
  split at e
  · cases e
    obtain ⟨l, vs, rfl, h1, h2, h3⟩ := one_lst r
    exact ⟨l, vs, rfl, .inl ⟨.inl (.inl (vw.s _ _ h1 rfl)), new_tup vw h3 h2 q⟩⟩
  · cases e
    obtain ⟨l, vs, rfl, h1, h2, h3⟩ := one_tup r
    exact ⟨l, vs, rfl, .inr ⟨vw.s.sqU h1, q _ _ _ (Ext.refl vw) (.tup h1 h2 h3)⟩⟩
  · cases e
theorem CallR.or {f : Value} {r r' : List V → Hp → VK → Prop} (h : CallR X f r) (h' : CallR X f r') : CallR X f (fun xs H Q => r xs H Q ∨ r' xs H Q) := fun pins s σ H xs us Q I rv q =>
  q.elim (h pins s σ H xs us Q I rv) (h' pins s σ H xs us Q I rv)
end
end Sm
namespace Sm
open PySem PySem.Spec L2
section
variable {X : Cx} {W : WX} {cl : Glb} {pos p p1 p2 : Pos} {a b c e : Expr} {es : List Expr} {fa fb fc : DE} {g : DA}
def tyN : D → Option String
  | .non => some "NoneType"
  | .bl _ => some "bool"
  | .int _ => some "int"
  | .str _ => some "str"
  | .tup _ => some "tuple"
  | .lst _ => some "list"
  | _ => none
theorem tyN_ok {K : PySem.W.Frag} {Hv H : Hp} {v : V} {d : D} {t : String} (vw : Vw cl Hv H) (r : Rep K cl Hv v d) (h : tyN d = some t) : TyX K H v (.type t) := by
  cases r with
  | non => cases h; exact .base .non
  | bl b => cases h; exact .base (.bl b)
  | int b => cases h; exact .base (.int b)
  | str b => cases h; exact .base (.str b)
  | lst s z r => cases h; exact .base (.lst (vw.s _ _ s rfl))
  | tup s z r =>
    cases h
    exact .base (.tup (vw.s _ _ s rfl))
  | _ => cases h
def kitF (T : String) (d : D) : Option D := (tyN d).bind fun t => (kitB t T).map .bl
theorem se_isiT {T : String} {x : Str} {o : D → Option D} (ho : ∀ d r, o d = some r → kitF T d = some r) (hb : bootBuiltins x = some (.type T)) (ha : SE X W cl a fa) (hm : X.mg "isinstance" = none) (hT : X.mg x = none) (hg : Gl X "isinstance" := by rfl) (hgx : Gl X x := by rfl)
    (hn : x ≠ "__name__" := by decide) (hdb : (x == ("__debug__" : Str)) = false := by decide)
    (he : starEach [a, .Name x p1] X.env = (false, eval a X.env) :: starEach [.Name x p1] X.env := by rfl) (he2 : starEach [.Name x p1] X.env = [(false, eval (.Name x p1) X.env)] := by rfl) (hpl : (backTo pos (starEach [.Name x p1] X.env)).any (·.1) = false := by rfl) :
    SE X W cl (.Call (.Name "isinstance" p) [a, .Name x p1] [] pos) (dUn o fa) := by
  obtain ⟨ta, pa, ha⟩ := ha
  refine ⟨_, pe_callB call_isi hg hm (by decide +kernel) (pa_cons pa (pa_cons (pe_bltn (v := .ty T) hgx hT hb rfl hn hdb) pa_nil he2) he) (by decide) (by decide) he hpl, fun Hv H σ ρ Q vw er pv => ?_⟩
  refine ha Hv H σ ρ _ vw er (bindP pv fun x Hv1 H1 _ e1 pv1 v rv => ?_)
  obtain ⟨d, ed, q⟩ := ofO_ok pv1
  have := ho _ _ ed
  unfold kitF at this
  simp only [Option.bind_eq_some_iff, Option.map_eq_some_iff] at this
  obtain ⟨t, h1, r, h2, rfl⟩ := this
  exact ⟨v, .ty T, .type t, .type T, r, rfl, .ty T, tyN_ok e1.vh rv h1, kit_ty h2, q _ _ (Ext.refl e1.vh) _ (.bl _)⟩
def oIsInt : D → Option D
  | .int _ => some (.bl true) | .bl _ => some (.bl true) | .non => some (.bl false) | .str _ => some (.bl false) | .tup _ => some (.bl false) | .lst _ => some (.bl false) | _ => none
def oIsBool : D → Option D
  | .int _ => some (.bl false) | .bl _ => some (.bl true) | .non => some (.bl false) | .str _ => some (.bl false) | .tup _ => some (.bl false) | .lst _ => some (.bl false) | _ => none
def oIsTup : D → Option D
  | .int _ => some (.bl false) | .bl _ => some (.bl false) | .non => some (.bl false) | .str _ => some (.bl false) | .tup _ => some (.bl true) | .lst _ => some (.bl false) | _ => none
def oIsList : D → Option D
  | .int _ => some (.bl false) | .bl _ => some (.bl false) | .non => some (.bl false) | .str _ => some (.bl false) | .tup _ => some (.bl false) | .lst _ => some (.bl true) | _ => none
theorem kit_int : ∀ d r, oIsInt d = some r → kitF "int" d = some r := fun d r h => by
  cases d <;> first | cases h | skip
  all_goals (simp only [kitF, tyN, Option.bind_some]; first | rw [show kitB "int" "int" = some true by decide +kernel] | rw [show kitB "bool" "int" = some true by decide +kernel] | rw [show kitB "NoneType" "int" = some false by decide +kernel] | rw [show kitB "str" "int" = some false by decide +kernel] | rw [show kitB "tuple" "int" = some false by decide +kernel] | rw [show kitB "list" "int" = some false by decide +kernel])
  all_goals rfl
theorem kit_bool : ∀ d r, oIsBool d = some r → kitF "bool" d = some r := fun d r h => by
  cases d <;> first | cases h | skip
  all_goals (simp only [kitF, tyN, Option.bind_some]; first | rw [show kitB "int" "bool" = some false by decide +kernel] | rw [show kitB "bool" "bool" = some true by decide +kernel] | rw [show kitB "NoneType" "bool" = some false by decide +kernel] | rw [show kitB "str" "bool" = some false by decide +kernel] | rw [show kitB "tuple" "bool" = some false by decide +kernel] | rw [show kitB "list" "bool" = some false by decide +kernel])
  all_goals rfl
theorem kit_tup : ∀ d r, oIsTup d = some r → kitF "tuple" d = some r := fun d r h => by
  cases d <;> first | cases h | skip
  all_goals (simp only [kitF, tyN, Option.bind_some]; first | rw [show kitB "int" "tuple" = some false by decide +kernel] | rw [show kitB "bool" "tuple" = some false by decide +kernel] | rw [show kitB "NoneType" "tuple" = some false by decide +kernel] | rw [show kitB "str" "tuple" = some false by decide +kernel] | rw [show kitB "tuple" "tuple" = some true by decide +kernel] | rw [show kitB "list" "tuple" = some false by decide +kernel])
  all_goals rfl
theorem kit_list : ∀ d r, oIsList d = some r → kitF "list" d = some r := fun d r h => by
  cases d <;> first | cases h | skip
  all_goals (simp only [kitF, tyN, Option.bind_some]; first | rw [show kitB "int" "list" = some false by decide +kernel] | rw [show kitB "bool" "list" = some false by decide +kernel] | rw [show kitB "NoneType" "list" = some false by decide +kernel] | rw [show kitB "str" "list" = some false by decide +kernel] | rw [show kitB "tuple" "list" = some false by decide +kernel] | rw [show kitB "list" "list" = some true by decide +kernel])
  all_goals rfl
end
section
variable {X : Cx} {W : WX} {cl : Glb} {Hv0 H0 Hv Hv1 H : Hp} {own own1 own2 own3 : List Nat} {Dn : Ends} {pos p : Pos} {a b c e tg iter : Expr} {es : List Expr} {fa fb : DE} {g : DA} {st : Stmt} {sts : List Stmt}
def dExt (own : List Nat) (i : Nat) (f : DE) : DS := fun ρ => if lstAt i ρ then (f (mask own ρ)).to ρ fun d => match d with | .lst ds => Sm.putIn i ρ ds | _ => .bad else .bad
theorem ss_ext {i : Nat} {x : Str} {apos npos : Pos} (ha : SE X W cl a fa) (ho : own.contains i = true := by rfl) (hN : X.N[i]? = some x := by rfl) (hv : Vis X.env.scope x := by first | exact Or.inl rfl | exact Or.inr (Or.inl rfl)) (hd : (x == ("__debug__" : Str)) = false := by decide)
    (hcd : (x == ("__classdict__" : Str)) = false := by decide) (hline : (apos.endLine == p.line) = true := by rfl) (hs1 : starEach [a] X.env = [(false, eval a X.env)] := by rfl)
    (hfew : ((backTo p (starEach [a] X.env)).all (fun x => !x.1) && (backToKw p (keywordEach [] X.env)).all (fun x => x.1.isSome) && decide ([a].length + ([] : List Keyword).length + (if ([] : List Keyword).isEmpty then 0 else 1) < 30)) = true := by rfl)
    (hs : swapsWith (.Call (.Attribute (.Name x npos) "extend" apos) [a] [] p) none pos.line X.env = pure false := by rfl) :
    SS X W cl own own (.Expr (.Call (.Attribute (.Name x npos) "extend" apos) [a] [] p) pos) (dExt own i fa) := by
  obtain ⟨ta, pa, ha⟩ := ha
  refine ⟨_, ps_expr (pe_bm PySem.F.plainAttrs_list PySem.F.slot_list_extend PySem.F.type_list_extend mt_extend (pe_var hN hv hd hcd) (pa_cons pa pa_nil hs1) rfl hfew hline hs1 rfl) hs, fun Hv0 H0 ρ σ Hv H Dn sr hl po => ?_⟩
  have hi : i ∈ own := by simpa using ho
  obtain ⟨q, d0, e1, e2, e3, e4, o, e6, eo⟩ := sr.ow i hi
  cases hla : lstAt i ρ with
  | false => simp only [dExt, hla] at po; exact po.elim
  | true => ?_
  obtain ⟨ds, h1⟩ := lstAt_ok hla
  rw [h1] at e1; cases e1
  obtain ⟨vs, rfl, e7, e8⟩ := eo.ofL
  simp only [dExt, hla, if_true] at po
  refine ⟨.ref q, e2, .inl ⟨rfl, vs, .inl (.inl e6)⟩, ?_⟩
  refine ha Hv H σ _ _ sr.ext.vh sr.er (use_mask sr hl po fun d Hv' H' _ e sr' po' v r => ?_)
  cases d with
  | lst zs =>
    cases r with
    | lst s z r =>
      obtain ⟨q', d0', g1, g2, g3, g4, o', g6, go⟩ := sr'.ow i hi
      rw [e2] at g2; cases g2
      rw [h1] at g1; cases g1
      have g1 := h1
      obtain ⟨vs', rfl, g7, g8⟩ := go.ofL
      unfold Sm.putIn at po'
      rw [g1] at po'
      simp only at po'
      split at po'
      · rename_i hz
        have hz : vs'.length + zs.length ≤ sizeLine := by rw [g8.length]; exact hz
        rw [← r.length] at hz
        refine ⟨q, _, vs', _, rfl, rfl, g6, sr'.ext.vh.s _ _ s rfl, hz, ?_⟩
        exact po' σ Hv' _ (sr'.write hi g1 e2 g6 (by rw [List.length_append]; exact hz) (g8.append r)) (Sam.refl _) hl
      · exact po'.elim
  | _ => exact po'.elim
end
end Sm
namespace Sm
open PySem PySem.Spec L2
def SqG (K : PySem.W.Frag) (H : Hp) (b : Bool) (a : Addr) (xs : List V) : Prop := match b with | true => SqL K H a xs | false => SqT K H a xs
def IterG (b : Bool) (h : Heap) (it a : Addr) (i : Nat) : Prop := match b with | true => h.IsListIter it a i | false => h.IsTupleIter it a i
def ContG (b : Bool) (h : Heap) (a : Addr) (items : Array Value) : Prop := match b with | true => h.IsList a items | false => h.IsTuple a items
def iterO (b : Bool) (a : Addr) : Obj := match b with
  | true => { cls := .type "list_iterator", data := .fields #[.ref a, .int 0 0] }
  | false => { cls := .type "tuple_iterator", data := .fields #[.ref a, .int 0 0] }
theorem beginsG (b : Bool) (a : Addr) (items : Array Value) : Begins (.ref a) (iterO b a) fun h => ContG b h a items := by
  cases b with
  | true => exact begins_list a items
  | false => exact begins_tuple a items
theorem drawsG {prog : Program} {w : World} {A : Around} (b : Bool) (hh : A.handled = none) (it a : Addr) (hne : a ≠ it) (items : Array Value) :
    Draws prog w A it [it, a] items.size (fun i v => items[i]? = some v) (fun i h => IterG b h it a i ∧ ContG b h a items) := by
  cases b with
  | true => exact Draws.list hh it a hne items
  | false => exact Draws.tuple hh it a hne items
theorem IterG.new {b : Bool} {h : Heap} {it a : Addr} (e : h.get? it = some (iterO b a)) : IterG b h it a 0 := by
  cases b with
  | true => exact ⟨_, e, rfl, rfl⟩
  | false => exact ⟨_, e, rfl, rfl⟩
theorem IterG.at' {b : Bool} {h h' : Heap} {it a : Addr} {i : Nat} (x : IterG b h it a i) (k : ∀ o, h.get? it = some o → h'.get? it = some o) : IterG b h' it a i := by
  cases b with
  | true => exact Heap.IsListIter.at x k
  | false => exact Heap.IsTupleIter.at x k
theorem IterG.obj {b : Bool} {h : Heap} {it a : Addr} {i : Nat} (x : IterG b h it a i) : ∃ o, h.get? it = some o ∧ ∀ v, o.data ≠ .cell v := by
  cases b with
  | true => obtain ⟨o, e, c, d⟩ := x; exact ⟨o, e, fun v z => by rw [d] at z; cases z⟩
  | false => obtain ⟨o, e, c, d⟩ := x; exact ⟨o, e, fun v z => by rw [d] at z; cases z⟩
section
variable {X : Cx} {pins : List (Addr × Obj)} {σ : St} {H : Hp} {s : Shared}
theorem contG {b : Bool} {a : Addr} {xs : List V} (I : Inv X pins σ H s) (h : SqG X.K H b a xs) : ∃ its : List Value, Vals xs its ∧ ContG b s.heap a its.toArray := by
  cases b with
  | true => obtain ⟨its, r, p, _⟩ := I.list h; exact ⟨its, r, p.isList⟩
  | false => obtain ⟨its, r, p, _⟩ := I.tuple h; exact ⟨its, r, p⟩
theorem sqG_inj {b : Bool} {a : Addr} {xs ys : List V} (I : Inv X pins σ H s) (h : SqG X.K H b a xs) (h' : SqG X.K H b a ys) : xs = ys := by
  cases b with
  | true => exact I.list_inj h h'
  | false => exact I.tuple_inj h h'
theorem contG_lt {b : Bool} {h : Heap} {a : Addr} {its : Array Value} (x : ContG b h a its) : a < h.objs.size := by
  cases b with
  | true => obtain ⟨o, e, _⟩ := x; exact Heap.lt_size e
  | false => obtain ⟨o, e, _⟩ := x; exact Heap.lt_size e
end
theorem enum1_meets {v : Value} {o : Obj} {H0 : Heap → Prop} (B : Begins v o H0) : Meets (Builtin.«enumerate.__new__» ⟨[.type "enumerate", v], []⟩)
    (fun _ R s => H0 s.heap ∧ R (.ok (.ret (.ref (s.heap.push o).objs.size))) { s with heap := (s.heap.push o).push { cls := .type "enumerate", data := .fields #[.none, .bool false, .ref s.heap.objs.size, rawInt 0, .none, .none] } }) := by
  refine Meets.of_wp fun prog w A R s h => ?_
  rcases s with ⟨hp, gn, dr, tk, os⟩
  rcases h with ⟨hb, h⟩
  have hsb := sub_enumerate
  have go : ∀ {A' : Around} {E : Value → Shared → Prop} {Q : Value → Shared → Prop}, Q (.ref hp.objs.size) ⟨hp.push o, gn, dr, tk, os⟩ → wpAny (model prog w) A' (pyIter v) Q E ⟨hp, gn, dr, tk, os⟩ :=
    fun hq => B.iter prog w _ _ ⟨hp, gn, dr, tk, os⟩ _ hb hq
  wp_walk using go
  refine wpAny_stack_any fun stk => ?_
  refine wpAny_pure ?_
  split
  · rename_i cc _ _ _ _ _
    cases (cc == Value.type "enumerate") <;> (wp_walk using go; exact ⟨_, rfl, h⟩)
  · wp_walk using go
    exact ⟨_, rfl, h⟩
theorem call_enum1 {prog : Program} {w : World} {A : Around} {E : Value → Shared → Prop} {s : Shared} {v : Value} {o : Obj} {H0 : Heap → Prop} {Q : Value → Shared → Prop} (B : Begins v o H0) (hb : H0 s.heap)
    (h : ∀ h', IsEnum h' (s.heap.objs.size + 1) s.heap.objs.size 0 .none → h'.get? s.heap.objs.size = some o → (∀ c u, s.heap.get? c = some u → h'.get? c = some u) → Q (.ref (s.heap.objs.size + 1)) { s with heap := h' }) :
    wpAny (model prog w) A (call (.type "enumerate") [v]) Q E s := by
  refine callType_new F.called_enumerate (by decide) (F.typeCall_enumerate_1 _) (F.newCall_enumerate_1 _) (fun ob => F.args_object_init_2 ob _) F.entry_enumerate_new (enum1_meets B) ⟨hb, ?_⟩
  have hz : (s.heap.push o).objs.size = s.heap.objs.size + 1 := Heap.size_push ..
  show _ ∧ _
  rw [hz]
  have he := Heap.get?_push_size (s.heap.push o) (o := { cls := .type "enumerate", data := .fields #[.none, .bool false, .ref s.heap.objs.size, rawInt 0, .none, .none] }) rfl
  rw [hz] at he
  exact ⟨⟨_, he, rfl⟩, h _ he (Heap.get?_push_of_some _ (Heap.get?_push_size _ B.free)) fun c u q => Heap.get?_push_of_some _ (Heap.get?_push_of_some _ q)⟩
def IteG (K : PySem.W.Frag) (b : Bool) (a : Addr) : It :=
  ⟨fun i H => ∃ (xs : List V) (x : V), SqG K H b a xs ∧ xs[i]? = some x, fun i H v H' => ∃ T x, v = .ref T ∧ H T = none ∧ H' = upd H T (.tup [.int (i : Nat), x]) ∧ ∀ xs, SqG K H b a xs → xs[i]? = some x, fun i H => ∃ xs : List V, SqG K H b a xs ∧ xs.length = i⟩
theorem turn_enumG {P : Program} {w : World} {K : PySem.W.Frag} {elts : List Expr} {kk : Nat} {tpos : Pos} (b : Bool) (a e it : Addr) :
    Turn P w K (.Tuple elts kk tpos) (IteG K b a) [e, it] e (fun i h => (∃ old, IsEnum h e it ((i : Nat) : Int) old) ∧ IterG b h it a i ∧ e ≠ it ∧ e ≠ a ∧ a ≠ it) where
  mem := by simp
  obj := fun i h ⟨⟨old, he⟩, hi, _⟩ c hc => by
    rcases List.mem_cons.mp hc with z | hc
    · rw [z]; exact ⟨_, he, fun v q => nomatch q⟩
    · rw [List.mem_singleton.mp hc]; exact hi.obj
  keep := fun i h h' ⟨⟨old, he⟩, hi, ne⟩ k => ⟨⟨old, k e (by simp) _ he⟩, hi.at' fun o q => k it (by simp) o q, ne⟩
  item := by
    intro X hP hw hK hc i pins s σ H E I hf st hg
    subst hP hw hK
    obtain ⟨⟨old, he⟩, hit, n1, n2, n3⟩ := st
    obtain ⟨xs, x, hq, hx⟩ := hg
    obtain ⟨its, rv, ct⟩ := contG I hq
    obtain ⟨u, hu, ru⟩ := rv.get hx
    have hA : X.A.in1.handled = none := I.ok.hd hc
    have Wk := WalksT.enumFrom (A := X.A) 0 (drawsG (prog := X.prog) (w := X.w) (A := X.A.in1) b hA it a n3 its.toArray) e n1 (by simp [n1, n2]) (by simp)
    have hi : i < its.toArray.size := by
      have := (List.getElem?_eq_some_iff.mp hu).1
      simpa using this
    refine Wk.item i s _ E hi ⟨⟨old, by rw [Int.zero_add]; exact he⟩, hit, ct⟩ fun T vals h' tk ⟨t, y, hy, ev⟩ hT0 hT hm hk => ?_
    subst ev
    have hy : y = u := by
      have h1 : its.toArray[i]? = some u := by simpa using hu
      rw [h1] at hy; exact (Option.some.inj hy).symm
    subst hy
    refine ⟨_, rfl, Wk.go elts kk tpos i T { s with heap := h', toks := tk } _ E hm fun h'' st2 hk2 => ?_⟩
    have ap := Wk.apart i T h' hm
    obtain ⟨oT, hoT, hcT, nT, hdT⟩ := hT
    have hT2 : h''.get? T = some oT := hk2 T oT ap hoT
    have new : ObjOk X.prog X.w (upd H T (.tup [.int (i : Nat), x])) h'' T (.tup [.int (i : Nat), x]) :=
      ⟨by show 2 ≤ sizeLine; decide, [.int (0 + (i : Int)) t, y], .cons ⟨t, by rw [Int.zero_add]⟩ (.cons ru .nil), ⟨oT, hT2, hcT, nT, hdT⟩⟩
    have I1 : Inv X pins σ (upd H T (.tup [.int (i : Nat), x])) { s with heap := h'', toks := tk } :=
      I.turnedNew (ch := [e, it]) (fun c ob hb q => hk2 c ob hb (hk c ob hb q)) hf hT0 new
    obtain ⟨⟨old2, he2⟩, hit2, _⟩ := st2
    refine ⟨.ref T, _, I1, rfl, ⟨T, x, rfl, I.hok.fresh hT0, rfl, fun ys hy => by rw [sqG_inj I hy hq]; exact hx⟩, ⟨⟨old2, ?_⟩, hit2, n1, n2, n3⟩, fun c hcm => ?_⟩
    · have : (0 : Int) + ((i + 1 : Nat) : Int) = ((i + 1 : Nat) : Int) := Int.zero_add _
      rw [this] at he2; exact he2
    · have hlt : c < s.heap.objs.size := by
        rcases List.mem_cons.mp hcm with z | z
        · rw [z]; exact Heap.lt_size he
        · rw [List.mem_singleton.mp z]; obtain ⟨o, ho, _⟩ := hit.obj; exact Heap.lt_size ho
      rw [upd_ne (Nat.ne_of_lt (Nat.lt_of_lt_of_le hlt hT0))]
      exact (hf c hcm).1
  done := by
    intro X hP hw hK hc i pins s σ H E I hf st hg
    subst hP hw hK
    obtain ⟨⟨old, he⟩, hit, n1, n2, n3⟩ := st
    obtain ⟨xs, hq, hx⟩ := hg
    obtain ⟨its, rv, ct⟩ := contG I hq
    have hA : X.A.in1.handled = none := I.ok.hd hc
    have Wk := WalksT.enumFrom (A := X.A) 0 (drawsG (prog := X.prog) (w := X.w) (A := X.A.in1) b hA it a n3 its.toArray) e n1 (by simp [n1, n2]) (by simp)
    have hl : its.toArray.size = i := by rw [List.size_toArray, ← rv.length]; exact hx
    refine Wk.done s _ E ?_ fun h' tk hk => ⟨rfl, I.turnedL (ch := [e, it]) (fun c o hb q => hk c o hb q) hf⟩
    rw [hl]
    exact ⟨⟨old, by rw [Int.zero_add]; exact he⟩, hit, ct⟩
  self := fun A i s Q E st h => by
    obtain ⟨⟨_, he⟩, _⟩ := st
    exact wpAny_pyIter_enum he h
def iEnumG (K : PySem.W.Frag) (ta : TA) : TI := fun σ H R => ta σ H fun vs H1 => ∃ b a xs, vs = [.ref a] ∧ SqG K H1 b a xs ∧ R (IteG K b a) H1
theorem pi_enumG {X : Cx} {e : Expr} {ta : TA} {p pos tpos : Pos} {elts : List Expr} {kk : Nat} (hg : Gl X "enumerate") (hm : X.mg "enumerate" = none) (ha : PA X [e] ta) (hs : starEach [e] X.env = [(false, eval e X.env)] := by rfl) :
    PI X (.Tuple elts kk tpos) (.Call (.Name "enumerate" p) [e] [] pos) (iEnumG X.K ta) := by
  constructor
  intro pins s σ H R I h
  refine PyProof.Rows.Call_ (ld_blt I hg hm PyProof.Rows.boot_enumerate (PyProof.Rows.callWith_type1 (thn (ha.run pos pins s σ H _ I h) fun us s1 ⟨vs, H1, I1, r1, b, a, xs, ev, hq, q⟩ => ?_) hs rfl))
  subst ev
  cases r1 with
  | cons r rr =>
    cases rr
    cases r
    obtain ⟨its, rv, ct⟩ := contG I1 hq
    have hlt := contG_lt ct
    refine call_enum1 (beginsG b a its.toArray) ct fun h' he hit hk => wpAny_pyIter_enum he ?_
    have I2 : Inv X pins σ H1 { s1 with heap := h' } := I1.kept (t' := s1.toks) hk
    refine ⟨s1.heap.objs.size + 1, [s1.heap.objs.size + 1, s1.heap.objs.size], _, _, H1, rfl, I2, turn_enumG b a (s1.heap.objs.size + 1) s1.heap.objs.size, ⟨⟨.none, he⟩, IterG.new hit, Nat.succ_ne_self _, Nat.ne_of_gt (Nat.lt_succ_of_lt hlt), Nat.ne_of_lt hlt⟩, fun c hc => ?_, q⟩
    have hle : s1.heap.objs.size ≤ c := by
      rcases List.mem_cons.mp hc with z | z
      · rw [z]; exact Nat.le_succ _
      · rw [List.mem_singleton.mp z]; exact Nat.le_refl _
    exact I1.fpOk hle (I1.hok.fresh hle)
section
variable {X : Cx} {W : WX} {cl : Glb} {pos p tpos : Pos} {a b c e : Expr} {es elts : List Expr} {fa fb fc : DE} {g : DA} {kk : Nat}
theorem Sam.sqG {K : PySem.W.Frag} {H H' : Hp} {b : Bool} {a : Addr} {xs : List V} (e : Sam H H') (h : SqG K H b a xs) : SqG K H' b a xs := by
  cases b with
  | true => exact e.sqL h
  | false => exact e.sqT h
theorem rep_items {K : PySem.W.Frag} {H : Hp} {v : V} {d : D} {ds : List D} (r : Rep K cl H v d) (h : itemsOf d = some ds) : ∃ b a xs, v = .ref a ∧ SqG K H b a xs ∧ Reps K cl H xs ds ∧ ds.length ≤ sizeLine := by
  cases r with
  | lst s z r => cases h; exact ⟨true, _, _, rfl, .inl (.inl s), r, by rw [← r.length]; exact z⟩
  | tup s z r => cases h; exact ⟨false, _, _, rfl, sqT_of s, r, by rw [← r.length]; exact z⟩
  | scr s z => cases h; exact ⟨true, _, _, rfl, s, reps_ints _, by rw [List.length_map]; exact z⟩
  | _ => cases h
def enumFrom (k : Nat) : List D → List D
  | [] => []
  | d :: ds => .tup [.int (k : Nat), d] :: enumFrom (k + 1) ds
theorem enumFrom_len : ∀ (ds : List D) (k : Nat), (enumFrom k ds).length = ds.length
  | [], _ => rfl
  | _ :: ds, k => by simp only [enumFrom, List.length_cons]; rw [enumFrom_len ds]
theorem enumFrom_get : ∀ (ds : List D) (k i : Nat), (enumFrom k ds)[i]? = (ds[i]?).map fun d => .tup [.int ((k + i : Nat) : Int), d]
  | [], _, _ => by simp [enumFrom]
  | d :: ds, k, 0 => by simp [enumFrom]
  | d :: ds, k, i + 1 => by
    simp only [enumFrom, List.getElem?_cons_succ]
    rw [enumFrom_get ds (k + 1) i, show k + 1 + i = k + (i + 1) by omega]
def enumD : List D → Option (List D)
  | [d] => (itemsOf d).map (enumFrom 0)
  | _ => none
theorem it_enum {K : PySem.W.Frag} {Hv : Hp} {b : Bool} {l : Addr} {xs : List V} {ds : List D} (s : SqG K Hv b l xs) (r : Reps K cl Hv xs ds) : ItOk K cl (IteG K b l) Hv (enumFrom 0 ds) where
  go := fun i Hv' H sm vw h => by
    rw [enumFrom_len] at h
    obtain ⟨v, h1, _⟩ := r.get (i := i) (d := ds[i]) (by simp [h])
    exact ⟨xs, v, vw.s.sqG (sm.sqG s), h1⟩
  stop := fun i Hv' H sm vw h => ⟨xs, vw.s.sqG (sm.sqG s), by rw [enumFrom_len] at h; rw [r.length]; omega⟩
  yld := fun i Hv' H sm vw d h x H' ⟨T, y, e1, e2, e3, e4⟩ => by
    subst e1 e3
    rw [enumFrom_get, Option.map_eq_some_iff] at h
    obtain ⟨d', h1, rfl⟩ := h
    obtain ⟨v, g1, g2⟩ := r.get h1
    have := e4 xs (vw.s.sqG (sm.sqG s))
    rw [g1] at this; cases this
    refine ⟨_, Ext.new vw e2, .tup upd_same (by show 2 ≤ sizeLine; decide) (.cons ?_ (.cons ((g2.mono sm).mono (Ext.new vw e2).vv) .nil))⟩
    rw [Nat.zero_add]
    exact .int _
theorem si_enum (ha : SA X W cl [a] g) (hm : X.mg "enumerate" = none) (hg : Gl X "enumerate" := by rfl) (hs : starEach [a] X.env = [(false, eval a X.env)] := by rfl) : SI X W cl (.Tuple elts kk tpos) (.Call (.Name "enumerate" p) [a] [] pos) (dRng enumD g) := by
  obtain ⟨ta, pa, ha, hl⟩ := ha
  refine ⟨_, pi_enumG hg hm pa hs, fun Hv H σ ρ Q vw er pv => ?_⟩
  refine ha Hv H σ ρ _ vw er (bindP pv fun x Hv1 H1 ex e1 pv1 v rv => ?_)
  obtain ⟨ds, ed, q⟩ := ofO_ok pv1
  unfold enumD at ed
  split at ed
  · rw [Option.map_eq_some_iff] at ed
    obtain ⟨its, h1, rfl⟩ := ed
    cases rv with
    | cons r t =>
      cases t
      obtain ⟨b, l, xs, rfl, s, r2, z⟩ := rep_items r h1
      exact ⟨b, l, xs, rfl, e1.vh.s.sqG s, q Hv1 H1 (Ext.refl e1.vh) (by rw [enumFrom_len]; exact z) _ (it_enum s r2)⟩
  · cases ed
end
end Sm
namespace Sm
open PySem PySem.Spec L2
abbrev veB : List Value := [.type "ValueError", .type "Exception", .type "BaseException", .type "object"]
structure XC (K : PySem.W.Frag) (mg : Str → Option Value) (x : Str) (C : Addr) : Prop where
  g : mg x = some (.ref C)
  x : PySem.W.excIn K C veB "ValueError.__new__" = true
  k : PySem.W.keepIn K (.ref C) = true
  b : PySem.W.subIn K (.ref C) (.type "BaseException") = some true
  t : PySem.W.typeIn K (.ref C) = some (.type "type")
section
variable {X : Cx} {W : WX} {cl : Glb} {own own1 : List Nat} {pos p p2 pos' : Pos}
def dRaise (c : Nat) : DS := fun ρ => .err ρ c
theorem ss_raise {c j : Nat} {x m : Str} (gd : Gd X W) (F : XC X.K X.mg x (cl.c c)) (hg : Gl X x := by rfl) (hdb : (x == ("__debug__" : Str)) = false := by decide) :
    SS X W cl own own1 (.Raise (some (.Call (.Name x p) [.Constant (.str m) j p2] [] pos)) none pos') (dRaise c) := by
  refine ⟨_, ps_raise gd.calm gd.tk (pmk_own PySem.F.excBase_ValueError F.x F.g F.k (raises_own F.b F.t) hg hdb), fun Hv0 H0 ρ σ Hv H Dn sr hl po => ?_⟩
  obtain ⟨s1, s2⟩ := sr.freeze (own' := []) (by simp)
  exact po σ _ H s1 s2 hl
end
def dPick (pk : Nat → Int → Int) : List D → R D
  | [.scr0, .int k, .int m] => if 0 ≤ k ∧ 0 < m then .ok (.int (pk k.toNat m)) else .bad
  | [.scr1, .int k, .int m] => if 0 ≤ k ∧ 0 < m then .ok (.int (if 0 ≤ pk k.toNat (-m) ∧ pk k.toNat (-m) < m then pk k.toNat (-m) else 0)) else .bad
  | _ => .bad
end Sm
namespace Sm
open PySem PySem.Spec L2
section
variable {X : Cx} {W : WX} {cl : Glb} {pos p : Pos} {a b c e : Expr} {es : List Expr} {fa fb : DE} {g : DA} {own : List Nat}
end
end Sm
namespace Sm
open PySem PySem.Spec L2
section
variable {X : Cx} {pins : List (Addr × Obj)} {σ : St} {H : Hp} {s : Shared}
end
section
variable {X : Cx} {x n : Str} {c : Value} {i : Nat} {body suite : List Stmt} {b₀ : Stmt} {np pos pos' : Pos} {tb : WX → TS} {ts : Addr → TS} {Wo : WX}
end
end Sm
namespace Sm
open PySem PySem.Spec L2
section
variable {X : Cx} {W : WX} {cl : Glb} {pos p apos cpos : Pos} {a b c e o : Expr} {es : List Expr} {fa fb : DE} {g : DA} {own : List Nat}
theorem toPys_any (k : D) : ∀ ds : List D, ((toPys ds).any fun z => PyData.eqv z (toPy k)) = ds.any fun z => deq z k
  | [] => by simp [toPys]
  | d :: ds => by simp only [toPys, List.any_cons]; rw [deq_py, toPys_any k ds]
theorem roomT {d : PyData} {ds : List PyData} {A : Around} (sd : SeqAt.shaped d = true) (hu : A.units + 65 < cLine) : A.units + 1 + min (PyData.depthAll ds) d.depth < cLine := by
  have h : d.depth ≤ 64 := SeqAt.depth_of_shaped sd
  omega
def oNotIn : D → D → Option D
  | a, .lst ds => if pln 64 a && pln 64 (.lst ds) then some (.bl (!ds.any fun z => deq z a)) else none
  | a, .tup ds => if pln 64 a && pln 64 (.tup ds) then some (.bl (!ds.any fun z => deq z a)) else none
  | _, _ => none
def rnotinT (K : PySem.W.Frag) : R2 := fun x y H Q => ∃ d ds, Dp K H x d ∧ Dp K H y (.tuple ds) ∧ SeqAt.shaped d = true ∧ SeqAt.shaped (.tuple ds) = true ∧ Q (.bl (!ds.any fun z => PyData.eqv z d)) H
theorem op_notinT (hu : X.A.units + 65 < cLine) : OpR X (compareOp .NotIn) (rnotinT X.K) := by
  intro pins s σ H x y v u Q I rx ry h
  obtain ⟨d, ds, hd, he, sd, se, q⟩ := h
  obtain ⟨as, r1⟩ := Dp.reads I d x v hd rx
  obtain ⟨bs, r2⟩ := Dp.reads I (.tuple ds) y u he ry
  exact SeqAt.notIn_tuple_reads r2 r1 (SeqAt.canLay_of_shaped se) (SeqAt.canLay_of_shaped sd) (roomT sd hu) ⟨.bl _, H, I, rfl, q⟩
theorem os_notin (hu : X.A.units + 65 < cLine) : OpS X cl (compareOp .NotIn) oNotIn := by
  refine ⟨_, OpR.or (op_notInD hu) (op_notinT hu), fun Hv H x y a b d Q vw rx ry e q => ?_⟩
  cases b with
  | lst ds =>
    simp only [oNotIn] at e
    split at e
    · rename_i hp
      cases e
      simp only [Bool.and_eq_true] at hp
      have d2 := (ry.mono vw.s).dp hp.2
      rw [toPy] at d2
      have sh := pln_shaped hp.2
      rw [toPy] at sh
      refine .inl ⟨_, _, (rx.mono vw.s).dp hp.1, d2, pln_shaped hp.1, sh, ?_⟩
      rw [toPys_any]
      exact q _ _ _ (Ext.refl vw) (.bl _)
    · cases e
  | tup ds =>
    simp only [oNotIn] at e
    split at e
    · rename_i hp
      cases e
      simp only [Bool.and_eq_true] at hp
      have d2 := (ry.mono vw.s).dp hp.2
      rw [toPy] at d2
      have sh := pln_shaped hp.2
      rw [toPy] at sh
      refine .inr ⟨_, _, (rx.mono vw.s).dp hp.1, d2, pln_shaped hp.1, sh, ?_⟩
      rw [toPys_any]
      exact q _ _ _ (Ext.refl vw) (.bl _)
    · cases e
  | _ => cases e
end
end Sm
namespace Sm
open PySem PySem.Spec L2
theorem u65 {k : Nat} {A : Around} (r : Room k A) : A.units + 65 < cLine := by have := r.un; omega
section
variable {X : Cx} {W : WX} {cl : Glb} {pos p p1 apos cpos : Pos} {a b c e o : Expr} {es : List Expr} {fa fb : DE} {g : DA} {own own1 : List Nat}
def tS (K : PySem.W.Frag) (N : List Str) (W : WX) (cl : Glb) (own own' : List Nat) (f : DS) : TS := fun Dn σ H => ∃ Hv0 H0 ρ Hv, SR K cl Hv0 H0 own ρ σ Hv H ∧ σ.length = N.length ∧
  (match f ρ with
  | .nx ρ' => ∀ σ' Hv' H', SR K cl Hv0 H0 own' ρ' σ' Hv' H' → Sam Hv Hv' → σ'.length = N.length → Dn.nx σ' H'
  | .ret d => ∀ v Hv' H', Ext cl Hv0 H0 Hv' H' → Rep K cl Hv' v d → Dn.rt v H'
  | .err ρ' c => ∀ σ' Hv' H', SR K cl Hv0 H0 [] ρ' σ' Hv' H' → Sam Hv Hv' → σ'.length = N.length → W (.ref (cl.c c)) none σ' H'
  | .bad => False)
end
end Sm
namespace Sm
open PySem PySem.Spec L2
section
variable {α : Type} (le : α → α → Bool)
def mrg : Nat → List α → List α → List α
  | 0, _, _ => []
  | _ + 1, [], ys => ys
  | _ + 1, x :: xs, [] => x :: xs
  | n + 1, x :: xs, y :: ys => if le x y then x :: mrg n xs (y :: ys) else y :: mrg n (x :: xs) ys
theorem mrg_eq : ∀ (n : Nat) (xs ys : List α), xs.length + ys.length < n → mrg le n xs ys = xs.merge ys le
  | 0, _, _, h => by omega
  | n + 1, [], ys, _ => by simp [mrg]
  | n + 1, x :: xs, [], _ => by simp [mrg]
  | n + 1, x :: xs, y :: ys, h => by
    simp only [List.length_cons] at h
    rw [mrg, List.cons_merge_cons, mrg_eq n xs (y :: ys) (by simp only [List.length_cons]; omega), mrg_eq n (x :: xs) ys (by simp only [List.length_cons]; omega)]
def msF : Nat → List α → List α
  | 0, _ => []
  | _ + 1, [] => []
  | _ + 1, [a] => [a]
  | n + 1, a :: b :: xs => mrg le (xs.length + 3) (msF n ((a :: b :: xs).take ((xs.length + 3) / 2))) (msF n ((a :: b :: xs).drop ((xs.length + 3) / 2)))
theorem msF_eq : ∀ (n : Nat) (xs : List α), xs.length < n → msF le n xs = xs.mergeSort le
  | 0, _, h => by omega
  | n + 1, [], _ => by simp [msF]
  | n + 1, [a], _ => by simp [msF]
  | n + 1, a :: b :: xs, h => by
    simp only [List.length_cons] at h
    have l1 : ((a :: b :: xs).take ((xs.length + 3) / 2)).length < n := by simp only [List.length_take, List.length_cons]; omega
    have l2 : ((a :: b :: xs).drop ((xs.length + 3) / 2)).length < n := by simp only [List.length_drop, List.length_cons]; omega
    rw [msF, msF_eq n _ l1, msF_eq n _ l2, mrg_eq _ _ _ _ (by rw [List.length_mergeSort, List.length_mergeSort, ← List.length_append, List.take_append_drop]; simp), List.mergeSort]
    simp [List.MergeSort.Internal.splitInTwo_fst, List.MergeSort.Internal.splitInTwo_snd, Nat.add_assoc]
def msort (xs : List α) : List α := msF le (xs.length + 1) xs
theorem msort_eq (xs : List α) : msort le xs = xs.mergeSort le := msF_eq le _ _ (Nat.lt_succ_self _)
end
def dle (a b : D) : Bool := !PySem.W.dataLt (toPy b) (toPy a)
def isTupD : D → Bool | .tup _ => true | _ => false
def isIntD : D → Bool | .int _ => true | _ => false
def srtOk (ds : List D) : Bool := ds.all (fun d => ds.all fun e => PySem.W.alike (toPy d) (toPy e)) && (ds.all isTupD || ds.all isIntD) && pln 64 (.lst ds)
def oSortA : List D → Option D
  | [.lst ds] => if srtOk ds then some (.lst (msort dle ds)) else none
  | [.tup ds] => if srtOk ds then some (.lst (msort dle ds)) else none
  | _ => none
section
variable {prog : Program} {w : World} {A : Around} {s : Shared} {h : Heap}
open PySem.W PyProof.Rows
theorem tuple_lt_one {xs ys : List PyData} {l l' : Addr} {as bs : List Addr} {E : Value → Shared → Prop} {Q : Bool → Shared → Prop} (ra : Reads s.heap (.ref l) (.tuple xs) as) (rb : Reads s.heap (.ref l') (.tuple ys) bs) (hal : alikeAll xs ys = true)
    (hu : A.units + min (PyData.tuple xs).depth (PyData.tuple ys).depth < cLine) (hq : Q (dataLt (.tuple xs) (.tuple ys)) s) : wpAny (model prog w) A (oneLt' true (.ref l) (.ref l')) Q E s := by
  have hu1 : A.units < cLine := by omega
  have hu2 : A.in1.units + min (PyData.depthAll xs) (PyData.depthAll ys) < cLine := by
    show A.units + 1 + _ < _
    have e1 : (PyData.tuple xs).depth = PyData.depthAll xs + 1 := by simp [PyData.depth, Nat.add_comm]
    have e2 : (PyData.tuple ys).depth = PyData.depthAll ys + 1 := by simp [PyData.depth, Nat.add_comm]
    rw [e1, e2] at hu
    omega
  cases ra with
  | @tuple _ o vs n _ as1 g1 g2 g3 g4 =>
    cases rb with
    | @tuple _ o' vs' n' _ bs1 k1 k2 k3 k4 =>
      have n1 : vs.size = xs.length := by simpa using SeqAt.ReadsAll.length _ _ _ g4
      have n2 : vs'.size = ys.length := by simpa using SeqAt.ReadsAll.length _ _ _ k4
      rw [dataLt_tuple, ← firstLt_toks xs ys hal, ← n1, ← n2] at hq
      obtain ⟨c1, d1, t1, s1⟩ := o
      obtain ⟨c2, d2, t2, s2⟩ := o'
      simp only at g2 g3 k2 k3
      subst g2 g3 k2 k3
      rw [oneLt'_eq]
      simp only [if_true]
      refine wpAny_bind (wpAny_cRoomFor hu1 ?_)
      refine wpAny_bind (wpAny_callSpecialIfBound?_slot (T := "tuple") ⟨_, g1, rfl⟩ F.slot_tuple_lt (call_meets F.slot_tuple_lt ⟨_, g1, rfl⟩ F.entry_tuple_lt (F.args_tuple_lt_2 _ _)
        (SeqAt.tuple_ltAt l l' vs vs' n n' d1 d2 s1 s2 (SeqAt.pairEq xs ys) (fun j => dataLt (xs.getD j .none) (ys.getD j .none))) ⟨g1, k1, fun j j1 j2 => ?_, fun j j1 j2 hj => ?_, ?_⟩))
      · have z := eqAt_alikeAll xs ys A.in1 s vs.toList vs'.toList _ _ g4 k4 hal hu2 j (by simpa using j1) (by simpa using j2)
        simpa using z
      · have z := rcLt_alikeAll xs ys A.in1 s vs.toList vs'.toList _ _ g4 k4 hal hu2 j (by simpa using j1) (by simpa using j2) hj
        simpa using z
      · exact wpAny_truthy_bool hq
theorem keyLt_general (x y : Value) : keyLt' general' x y = oneLt' false x y := rfl
theorem firsts_run {M : Model} {E : Value → Shared → Prop} : ∀ (vs : List Value) (ds : List (List PyData)) {Q : List (Option Value) → Shared → Prop}, EachIs (fun v d => ∃ as, Reads s.heap v (.tuple d) as) vs ds →
    (∀ fs : List (Option Value), EachIs (fun f d => (f.isSome = !d.isEmpty)) fs ds → Q fs s) → wpAny M A (vs.mapM firstOfTuple') Q E s
  | [], _, _, .nil, h => by rw [List.mapM_nil]; exact wpAny_pure (h [] .nil)
  | v :: vs, _, Q, .cons (b := d) (bs := ds) ⟨as, r⟩ e, h => by
    rw [List.mapM_cons]
    refine wpAny_bind ?_
    cases r with
    | @tuple a o xs n _ as1 g1 g2 g3 g4 =>
      rw [kas_first_eq]
      refine wpAny_bind (Looks.here (show Looks M s.heap (typeOf (.ref a)) o.cls from (Looks.ld g1).andThen .now) ?_)
      rw [g2, if_neg (by first | decide | simp)]
      refine wpAny_bind (listItems_at g1 g3 (wpAny_pure ?_))
      refine wpAny_bind (firsts_run vs ds e fun fs hf => wpAny_pure (h _ (.cons ?_ hf)))
      have hl := SeqAt.ReadsAll.length _ _ _ g4
      cases d with
      | nil =>
        have : xs.size = 0 := by simpa using hl
        simp [this]
      | cons y ys =>
        have : 0 < xs.size := by have : xs.size = (y :: ys).length := by simpa using hl
                                 rw [this]; simp
        simp [this]
def Sortable2 (ds : List PyData) : Prop := (∀ d, d ∈ ds → ∃ r, d = .tuple r) ∨ ∀ d, d ∈ ds → d ≠ .none ∧ ∀ xs, d ≠ .tuple xs
theorem each_tups : ∀ {vs : List Value} {ds : List PyData}, EachIs (fun v d => ∃ as, Reads h v d as) vs ds → (∀ d, d ∈ ds → ∃ r, d = .tuple r) → ∃ rs, ds = rs.map PyData.tuple ∧ EachIs (fun v d => ∃ as, Reads h v (.tuple d) as) vs rs
  | _, _, .nil, _ => ⟨[], rfl, .nil⟩
  | _, _, .cons (b := d) r t, ht => by
    obtain ⟨rs, e1, e2⟩ := each_tups t fun d hd => ht d (List.mem_cons_of_mem _ hd)
    obtain ⟨x, rfl⟩ := ht d (List.mem_cons_self ..)
    exact ⟨x :: rs, by rw [e1]; rfl, .cons r e2⟩
theorem fs_all : ∀ {fs : List (Option Value)} {rs : List (List PyData)}, EachIs (fun f d => (f.isSome = !d.isEmpty)) fs rs → [] ∈ rs → (fs.all fun f => f.isSome) = false
  | _, _, .nil, h => by simp at h
  | _, _, .cons (a := f) (b := d) r t, h => by
    rcases List.mem_cons.mp h with e | e
    · subst e
      have : f.isSome = false := by simpa using r
      simp [this]
    · have := fs_all t e
      simp only [List.all_cons, this, Bool.and_false]
theorem sorts2 {vs : List Value} {ds : List PyData} (e : EachIs (fun v d => ∃ as, Reads s.heap v d as) vs ds) (hal : AllAlike ds) (hk : Sortable2 ds) (hu : ∀ d, d ∈ ds → A.units + d.depth < cLine) : SortsAt prog w A s (dataKind s.heap ds) vs := by
  rcases hk with ht | hn
  · by_cases hne : ∀ d, d ∈ ds → ∃ x r, d = .tuple (x :: r)
    · exact SortsAt.data e hal (.inl hne) hu
    have room : ∀ {d d' : PyData}, d ∈ ds → A.units + min d.depth d'.depth < cLine := fun {d d'} hd => Nat.lt_of_le_of_lt (Nat.add_le_add_left (Nat.min_le_left _ _) _) (hu d hd)
    refine ⟨fun v hv => ?_, ?_⟩
    · obtain ⟨d, hd, as, r⟩ := e.left v hv
      exact ⟨_, dataKind_some hal hd r⟩
    obtain ⟨rs, rfl, er⟩ := each_tups e ht
    have h0 : [] ∈ rs := by
      rcases Classical.em ([] ∈ rs) with h | h
      · exact h
      · exact (hne fun d hd => by
          obtain ⟨r, hr, rfl⟩ := List.mem_map.mp hd
          cases r with
          | nil => exact (h hr).elim
          | cons x r => exact ⟨x, r, rfl⟩).elim
    cases rs with
    | nil => simp at h0
    | cons r0 rs0 =>
    refine ⟨if r0.isEmpty then oneType' else general', ?_, fun h2 E Q hq => ?_⟩
    · intro E x y a b Q ha hb hq
      obtain ⟨d, as, hd, ra, rfl⟩ := dataKind_inv ha
      obtain ⟨d', as', hd', rb, rfl⟩ := dataKind_inv hb
      have hdd := hal d hd d' hd'
      have hroom := room (d' := d') hd
      obtain ⟨r1, rfl⟩ := ht d hd
      obtain ⟨r2, rfl⟩ := ht d' hd'
      cases hr : r0.isEmpty with
      | true =>
        rw [if_pos rfl, keyLt'_oneType]
        cases ra with
        | @tuple l o xs n _ _ g1 g2 g3 g4 =>
          cases rb with
          | @tuple l' o' xs' n' _ _ k1 k2 k3 k4 =>
            exact tuple_lt_one (.tuple g1 g2 g3 g4) (.tuple k1 k2 k3 k4) (by simpa [alike] using hdd) hroom hq
      | false =>
        rw [if_neg Bool.false_ne_true, keyLt_general]
        exact oneLt_alike (fun h => (by cases h)) ra rb hdd (by simp) hroom hq
    · rw [keyKind'_eq, List.mapM_toArray, map_eq_pure_bind]
      refine wpAny_bind (wpAny_bind (firsts_run vs _ er fun fs hf => wpAny_pure ?_))
      have hall : (fs.toArray.all fun x => x.isSome) = false := by rw [List.all_toArray]; exact fs_all hf h0
      rw [if_neg (by rw [hall]; exact Bool.false_ne_true)]
      cases hf with
      | @cons f _ fs0 _ hf0 hf1 =>
        have e0 : ((f :: fs0).toArray[0]?.bind id).isSome = f.isSome := by simp
        cases hr : r0.isEmpty with
        | true =>
          rw [hr] at hf0 hq
          rw [if_pos rfl] at hq
          rw [if_neg (by rw [e0, hf0]; decide)]
          rw [oneTypeOnly'_eq, List.mapM_toArray, map_eq_pure_bind]
          refine wpAny_bind (wpAny_bind (wpAny_bind (kas_mapM (r := Value.type "tuple") _ (fun v hv Q' hq' => ?_) (wpAny_pure ?_))))
          · obtain ⟨d, hd, as, r⟩ := er.left v hv
            exact (looks_reads r).here hq'
          · have hl : vs ≠ [] := by rintro rfl; simp at h2
            obtain ⟨v0, vr, rfl⟩ := List.exists_cons_of_ne_nil hl
            have hall2 : ((List.map (fun _ => Value.type "tuple") (v0 :: vr)).toArray.all fun x => x == Value.type "tuple") = true := by
              simp only [List.all_toArray, List.all_map, List.all_eq_true]
              intro _ _
              exact beq_self_eq_true _
            have h00 : (List.map (fun _ => Value.type "tuple") (v0 :: vr)).toArray[0]? = some (Value.type "tuple") := by simp
            rw [h00]
            simp only [hall2, if_true]
            exact wpAny_pure (wpAny_pure hq)
        | false =>
          rw [hr] at hf0 hq
          rw [if_neg Bool.false_ne_true] at hq
          rw [if_pos (by rw [e0, hf0]; rfl)]
          exact wpAny_pure hq
  · exact SortsAt.data e hal (.inr hn) hu
section
variable {E : Value → Shared → Prop} {β : Type} {vs : List Value} {bs : List β} {enc : β → PyData} {R : Value → β → Prop}
theorem sorted_data2 {l : Addr} {Q : Value → Shared → Prop} (hl : s.heap.IsList l vs.toArray) (e : EachIs R vs bs) (er : EachIs (fun v b => ∃ as, Reads s.heap v (enc b) as) vs bs) (hal : AllAlike (bs.map enc)) (hk : Sortable2 (bs.map enc)) (hL : bs.length ≤ sizeLine)
    (hu : ∀ b, b ∈ bs → A.units + 2 + (enc b).depth < cLine) (h : ∀ out, out.length = bs.length → EachIs R out (bs.mergeSort (dataLe false enc)) → Q (.ref (s.heap.objs.size + 1)) { s with heap := sortedAll s.heap vs (List.toArray out) }) :
    wpAny (model prog w) A (call (.builtin "sorted") [.ref l]) Q E s := by
  have er' : EachIs (fun v b => ∃ as, Reads (sortingHeap (copyHeap s.heap vs) (s.heap.objs.size + 1) vs) v (enc b) as) vs bs := er.mono fun _ _ ⟨as, r⟩ => ⟨as, PyProof.Rows.Reads.keeps (fun _ _ => sorting_copy_old) r⟩
  exact sorted_vals hl (sorts2 (s := { s with heap := sortingHeap (copyHeap s.heap vs) (s.heap.objs.size + 1) vs }) (each_map (R := fun v d => ∃ as, Reads (sortingHeap (copyHeap s.heap vs) (s.heap.objs.size + 1) vs) v d as) enc er') hal hk (bound_map hu)) (by rw [e.length]; exact hL)
    (h _ (by rw [sortVals_length false rfl]; exact e.length) (sortVals_data false e er' hal))
theorem list_sort_data2 {a : Addr} {n : Nat} {Q : Value → Shared → Prop} (ho : s.heap.get? a = some (seqObj "list" vs.toArray n)) (e : EachIs R vs bs) (er : EachIs (fun v b => ∃ as, Reads s.heap v (enc b) as ∧ a ∉ as) vs bs) (hal : AllAlike (bs.map enc)) (hk : Sortable2 (bs.map enc)) (hL : bs.length ≤ sizeLine)
    (hu : ∀ b, b ∈ bs → A.units + 1 + (enc b).depth < cLine) (h : ∀ out, out.length = bs.length → EachIs R out (bs.mergeSort (dataLe false enc)) → Q .none { s with heap := sortedHeap s.heap a vs (List.toArray out) }) :
    wpAny (model prog w) A (call (.builtin "list.sort") [.ref a]) Q E s := by
  have er' : EachIs (fun v b => ∃ as, Reads (sortingHeap s.heap a vs) v (enc b) as) vs bs := each_keepBut (h' := sortingHeap s.heap a vs) (fun _ _ hb q => sortingHeap_old hb q) (fun o q => by rw [ho] at q; rw [← Option.some.inj q]) hal er
  refine wpAny_call_entry slot_list_sort ⟨_, ho, rfl⟩ entry_list_sort (list_sort_vals (κ := dataKind (sortingHeap s.heap a vs) (bs.map enc)) ho (sorts2 (s := { s with heap := sortingHeap s.heap a vs }) (each_map (R := fun v d => ∃ as, Reads (sortingHeap s.heap a vs) v d as) enc er') hal hk (bound_map hu)) (by rw [e.length]; exact hL) ⟨.none, rfl, ?_⟩) (args_list_sort _)
  exact h _ (by rw [sortVals_length false rfl]; exact e.length) (sortVals_data false e er' hal)
theorem collect_tup {l : Addr} {Q : List Value → Shared → Prop} (hl : s.heap.IsTuple l vs.toArray)
    (h : Q vs { s with heap := (s.heap.push (seqObj "list" #[] 0)).update s.heap.objs.size (Obj.mapSeq (· ++ vs.toArray)) }) (hsz : vs.length ≤ sizeLine) :
    wpAny (model prog w) A (collect (.ref l)) Q E s := by
  obtain ⟨o, ho, hc, n, hd⟩ := id hl
  unfold collect
  refine wpAny_bind (wpAny_runValue (codeAny_builtin F.entry_proto_collect ?_))
  show wpAny _ _ (do again (.builtin "list.__iadd__" ⟨[← newList [], .ref l], []⟩)) _ _ s
  refine wpAny_bind (wpAny_newList (wpAny_pure ⟨Code.quiet_builtin _ (by decide +kernel), codeAny_builtin F.entry_list_iadd ?_⟩))
  show wpAny _ _ (Builtin.List.listExtendWith (.ref s.heap.objs.size) (.ref l) (.ref s.heap.objs.size)) _ _ { s with heap := s.heap.push (seqObj "list" #[] 0) }
  unfold Builtin.List.listExtendWith
  have ho' : (s.heap.push (seqObj "list" #[] 0)).get? l = some o := Heap.get?_push_of_some _ ho
  refine wpAny_bind (wpAny_typeOf (T := "tuple") ⟨o, ho', hc⟩ ?_)
  have ht : (Value.type "tuple" == Value.type "tuple") = true := by rfl
  rw [if_pos (by rw [ht]; simp)]
  refine wpAny_bind (listItems_at ho' hd ?_)
  refine wpAny_bind (listItems_at (xs := #[]) (n := 0) (Heap.get?_push_size _ rfl) rfl ?_)
  rw [if_neg (by simp)]
  refine wpAny_bind (listUpdate_at (xs := #[]) (n := 0) (Heap.get?_push_size _ rfl) rfl ?_ (Nat.zero_le _) (by show (#[] ++ vs.toArray).size ≤ sizeLine + 1; simp only [Array.size_append, List.size_toArray, List.length_nil]; omega))
  refine wpAny_pure ?_
  show wpAny (model prog w) A (do
      let o ← load s.heap.objs.size
      match o.data with
      | .seq xs _ => pure xs.toList
      | _ => unsupported "internal:collect") Q E { s with heap := (s.heap.push (seqObj "list" #[] 0)).update s.heap.objs.size (Obj.mapSeq (· ++ vs.toArray)) }
  refine wpAny_bind (wpAny_load (get?_update_seq (Heap.get?_push_size _ rfl) _) ?_)
  show wpAny _ _ (pure ((#[] : Array Value) ++ vs.toArray).toList) Q E _
  refine wpAny_pure ?_
  simpa using h
theorem sorted_tup2 {l : Addr} {Q : Value → Shared → Prop} (hl : s.heap.IsTuple l vs.toArray) (e : EachIs R vs bs) (er : EachIs (fun v b => ∃ as, Reads s.heap v (enc b) as) vs bs) (hal : AllAlike (bs.map enc)) (hk : Sortable2 (bs.map enc)) (hL : bs.length ≤ sizeLine)
    (hu : ∀ b, b ∈ bs → A.units + 2 + (enc b).depth < cLine) (h : ∀ out, out.length = bs.length → EachIs R out (bs.mergeSort (dataLe false enc)) → Q (.ref (s.heap.objs.size + 1)) { s with heap := sortedAll s.heap vs (List.toArray out) }) :
    wpAny (model prog w) A (call (.builtin "sorted") [.ref l]) Q E s := by
  have er' : EachIs (fun v b => ∃ as, Reads (sortingHeap (copyHeap s.heap vs) (s.heap.objs.size + 1) vs) v (enc b) as) vs bs := er.mono fun _ _ ⟨as, r⟩ => ⟨as, PyProof.Rows.Reads.keeps (fun _ _ => sorting_copy_old) r⟩
  have hL' : vs.length ≤ sizeLine := by rw [e.length]; exact hL
  refine Calls.call_function_entry kind_sorted plain_sorted entry_sorted (args_sorted1 _) ?_
  unfold Builtin.«sorted»
  refine wpAny_bind (m := checkCount "sorted" 1 1 _) (wpAny_pure ?_)
  refine wpAny_bind (collect_tup hl ?_ hL')
  refine wpAny_bind (wpAny_newList ?_ hL')
  have hsz : ((s.heap.push (seqObj "list" #[] 0)).update s.heap.objs.size (Obj.mapSeq (· ++ vs.toArray))).objs.size = s.heap.objs.size + 1 := by
    rw [Heap.size_update, size_push']
  show wpAny _ _ _ _ _ { s with heap := copyHeap s.heap vs }
  rw [hsz]
  refine wpAny_bind (wpAny_holding (wpAny_call_entry slot_list_sort ⟨_, copyHeap_at s.heap vs, rfl⟩ entry_list_sort (list_sort_vals (s := { s with heap := copyHeap s.heap vs }) (κ := dataKind (sortingHeap (copyHeap s.heap vs) (s.heap.objs.size + 1) vs) (bs.map enc)) (copyHeap_at s.heap vs) (sorts2 (s := { s with heap := sortingHeap (copyHeap s.heap vs) (s.heap.objs.size + 1) vs }) (each_map (R := fun v d => ∃ as, Reads (sortingHeap (copyHeap s.heap vs) (s.heap.objs.size + 1) vs) v d as) enc er') hal hk (bound_map hu)) hL' ⟨_, rfl, ?_⟩) (args_list_sort _)))
  exact wpAny_pure ⟨_, rfl, h _ (by rw [sortVals_length false rfl]; exact e.length) (sortVals_data false e er' hal)⟩
end
end
section
variable {X : Cx} {W : WX} {cl : Glb}
open PySem.W PyProof.Rows
def rSortD (K : PySem.W.Frag) (u : Nat) : List V → Hp → VK → Prop := fun vs H Q => ∃ (a : Addr) (bs : List (V × D)), vs = [V.ref a] ∧ (SqL K H a (bs.map (·.1)) ∨ SqT K H a (bs.map (·.1))) ∧ (∀ b ∈ bs, Dp K H b.1 (toPy b.2)) ∧ AllAlike (bs.map fun b => toPy b.2) ∧ Sortable2 (bs.map fun b => toPy b.2) ∧
  (∀ b ∈ bs, (toPy b.2).depth ≤ 64) ∧ ∀ p, H p = none → Q (.ref p) (upd H p (.lst ((bs.mergeSort (fun a b => dle a.2 b.2)).map (·.1))))
theorem each_of {pins : List (Addr × Obj)} {σ : L2.St} {H : Hp} {s : Shared} (I : Inv X pins σ H s) : ∀ (bs : List (V × D)) (its : List Value), (∀ b ∈ bs, Dp X.K H b.1 (toPy b.2)) → Vals (bs.map (·.1)) its →
    EachIs (fun v (b : V × D) => RelV b.1 v) its bs ∧ EachIs (fun v (b : V × D) => ∃ as, Reads s.heap v (toPy b.2) as) its bs
  | [], _, _, r => by cases r; exact ⟨.nil, .nil⟩
  | b :: bs, _, h, r => by
    cases r with
    | cons r1 r2 =>
      obtain ⟨e1, e2⟩ := each_of I bs _ (fun c hc => h c (by simp [hc])) r2
      exact ⟨.cons r1 e1, .cons (Dp.reads I _ _ _ (h b (by simp)) r1) e2⟩
theorem each_vals : ∀ {bs : List (V × D)} {its : List Value}, EachIs (fun v (b : V × D) => RelV b.1 v) its bs → Vals (bs.map (·.1)) its
  | _, _, .nil => .nil
  | _, _, .cons r e => .cons r (each_vals e)
theorem cr_sortD (hu : X.A.units + 100 < cLine) : CallR X (.builtin "sorted") (rSortD X.K 0) := by
  intro pins s σ H vs us Q I r h
  obtain ⟨a, bs, rfl, hs, hd, hal, hk, hdp, q⟩ := h
  have ev : us = [Value.ref a] := by
    cases r with
    | cons r1 r2 => cases r2; cases r1; rfl
  subst ev
  have eq : (dataLe false fun b : V × D => toPy b.2) = fun a b => dle a.2 b.2 := by
    funext x y
    rw [dataLe_eq]
    rfl
  rcases hs with hs | hs
  · obtain ⟨its, rv, hl, hz⟩ := I.list hs
    obtain ⟨e1, e2⟩ := each_of I bs its hd rv
    rw [List.length_map] at hz
    refine sorted_data2 (β := V × D) (enc := fun b => toPy b.2) hl.isList e1 e2 hal hk hz (fun b hb => by have := hdp b hb; omega) fun out ho eo => ?_
    rw [eq] at eo
    obtain ⟨n, hn⟩ := sortedAll_at s.heap its out.toArray
    have hsz : ((bs.mergeSort (fun a b => dle a.2 b.2)).map (·.1)).length ≤ sizeLine := by rw [List.length_map, List.length_mergeSort]; exact hz
    exact ⟨.ref (s.heap.objs.size + 1), upd H (s.heap.objs.size + 1) (.lst ((bs.mergeSort (fun a b => dle a.2 b.2)).map (·.1))), I.laid (t' := s.toks) (fun b o e => sortedAll_old e) (Nat.le_succ _) ⟨hsz, out, n, each_vals eo, hn⟩, rfl, q _ (I.hok.fresh (Nat.le_succ _))⟩
  · obtain ⟨its, rv, hl, hz⟩ := I.tuple hs
    obtain ⟨e1, e2⟩ := each_of I bs its hd rv
    rw [List.length_map] at hz
    refine sorted_tup2 (β := V × D) (enc := fun b => toPy b.2) hl e1 e2 hal hk hz (fun b hb => by have := hdp b hb; omega) fun out ho eo => ?_
    rw [eq] at eo
    obtain ⟨n, hn⟩ := sortedAll_at s.heap its out.toArray
    have hsz : ((bs.mergeSort (fun a b => dle a.2 b.2)).map (·.1)).length ≤ sizeLine := by rw [List.length_map, List.length_mergeSort]; exact hz
    exact ⟨.ref (s.heap.objs.size + 1), upd H (s.heap.objs.size + 1) (.lst ((bs.mergeSort (fun a b => dle a.2 b.2)).map (·.1))), I.laid (t' := s.toks) (fun b o e => sortedAll_old e) (Nat.le_succ _) ⟨hsz, out, n, each_vals eo, hn⟩, rfl, q _ (I.hok.fresh (Nat.le_succ _))⟩
theorem reps_zip {K : PySem.W.Frag} {H : Hp} : ∀ {vs : List V} {ds : List D}, Reps K cl H vs ds → (vs.zip ds).map (·.1) = vs ∧ (vs.zip ds).map (·.2) = ds ∧ ∀ p ∈ vs.zip ds, Rep K cl H p.1 p.2
  | _, _, .nil => ⟨rfl, rfl, by simp⟩
  | _, _, .cons r t => by
    obtain ⟨h1, h2, h3⟩ := reps_zip t
    refine ⟨by simp [h1], by simp [h2], fun p hp => ?_⟩
    rw [List.zip_cons_cons] at hp
    rcases List.mem_cons.mp hp with rfl | hp
    · exact r
    · exact h3 p hp
theorem reps_of {K : PySem.W.Frag} {H : Hp} : ∀ (l : List (V × D)), (∀ p ∈ l, Rep K cl H p.1 p.2) → Reps K cl H (l.map (·.1)) (l.map (·.2))
  | [], _ => .nil
  | p :: l, h => .cons (h p (by simp)) (reps_of l fun q hq => h q (by simp [hq]))
theorem plns_mem {n : Nat} : ∀ {ds : List D} {d : D}, plns n ds = true → d ∈ ds → pln n d = true
  | e :: ds, d, h, hd => by
    simp only [plns, Bool.and_eq_true] at h
    rcases List.mem_cons.mp hd with rfl | hd
    · exact h.1
    · exact plns_mem h.2 hd
theorem srt_run {K : PySem.W.Frag} (hK : K = X.K) {Hv H : Hp} {l : Addr} {vs : List V} {ds0 : List D} {Q : VK} (vw : Vw cl Hv H) (hok : srtOk ds0 = true) (hs : SqL K H l vs ∨ SqT K H l vs) (h2 : vs.length ≤ sizeLine) (h3 : Reps X.K cl Hv vs ds0)
    (q : ∀ v Hv' H', Ext cl Hv H Hv' H' → Rep X.K cl Hv' v (.lst (ds0.mergeSort dle)) → Q v H') : rSortD K 0 [.ref l] H Q := by
  subst hK
  obtain ⟨z1, z2, z3⟩ := reps_zip h3
  simp only [srtOk, Bool.and_eq_true] at hok
  obtain ⟨⟨o1, o2⟩, o3⟩ := hok
  have o3 : plns 63 ds0 = true := o3
  have mem : ∀ b ∈ vs.zip ds0, b.2 ∈ ds0 := fun b hb => by rw [← z2]; exact List.mem_map.mpr ⟨b, hb, rfl⟩
  have en : (vs.zip ds0).map (fun b => toPy b.2) = ds0.map toPy := by
    have := List.map_map (f := fun b : V × D => b.2) (g := toPy) (l := vs.zip ds0)
    rw [show (vs.zip ds0).map (fun b => b.2) = ds0 from z2] at this
    exact this.symm
  refine ⟨l, vs.zip ds0, rfl, ?_, fun b hb => ((z3 b hb).mono vw.s).dp (plns_mem o3 (mem b hb)), ?_, ?_, fun b hb => Nat.le_trans (pln_lay 63 b.2 (plns_mem o3 (mem b hb))).2 (by decide), fun p hp => ?_⟩
  · rw [z1]; exact hs
  · rw [en]
    intro x hx y hy
    obtain ⟨x, mx, rfl⟩ := List.mem_map.mp hx
    obtain ⟨y, my, rfl⟩ := List.mem_map.mp hy
    exact List.all_eq_true.mp (List.all_eq_true.mp o1 x mx) y my
  · rw [en]
    rcases (Bool.or_eq_true _ _).mp o2 with o2 | o2
    · refine .inl fun x hx => ?_
      obtain ⟨x, mx, rfl⟩ := List.mem_map.mp hx
      have := List.all_eq_true.mp o2 x mx
      unfold isTupD at this
      split at this
      · exact ⟨_, by rw [toPy]⟩
      · cases this
    · refine .inr fun x hx => ?_
      obtain ⟨x, mx, rfl⟩ := List.mem_map.mp hx
      have := List.all_eq_true.mp o2 x mx
      unfold isIntD at this
      split at this
      · exact ⟨by simp [toPy], by simp [toPy]⟩
      · cases this
  · have srt : ((vs.zip ds0).mergeSort (fun a b => dle a.2 b.2)).map (·.2) = ds0.mergeSort dle := by
      rw [List.map_mergeSort (s := dle) (f := fun b : V × D => b.2) (fun a _ b _ => rfl)]
      rw [show (vs.zip ds0).map (fun b => b.2) = ds0 from z2]
    have rr := reps_of (K := X.K) (cl := cl) (H := Hv) ((vs.zip ds0).mergeSort (fun a b => dle a.2 b.2)) fun p hp => z3 p (List.mem_mergeSort.mp hp)
    rw [srt] at rr
    exact new_lst vw rr (by rw [List.length_map, List.length_mergeSort, List.length_zip]; omega) q p hp
theorem cs_sortA (hu : X.A.units + 100 < cLine) : CallS X cl (.builtin "sorted") oSortA := by
  refine ⟨_, cr_sortD hu, fun Hv H xs ds d Q vw r e q => ?_⟩
  unfold oSortA at e
  simp only [msort_eq] at e
  split at e
  · rename_i ds0
    split at e
    · rename_i hok
      cases e
      obtain ⟨l, vs, rfl, h1, h2, h3⟩ := one_lst r
      exact srt_run rfl vw hok (.inl (.inl (.inl (vw.s _ _ h1 rfl)))) h2 h3 q
    · cases e
  · rename_i ds0
    split at e
    · rename_i hok
      cases e
      obtain ⟨l, vs, rfl, h1, h2, h3⟩ := one_tup r
      exact srt_run rfl vw hok (.inr (vw.s.sqU h1)) h2 h3 q
    · cases e
  · cases e
def oSort1 : List D → Option D | [.lst [d]] => some (.lst [d]) | _ => none
theorem cr_sort1 : CallR X (.builtin "sorted") (fun vs H Q => ∃ (a : Addr) (x : V), vs = [V.ref a] ∧ SqL X.K H a [x] ∧ ∀ p, H p = none → Q (.ref p) (upd H p (.lst [x]))) := by
  intro pins s σ H vs us Q I r h
  obtain ⟨a, x, rfl, hs, q⟩ := h
  obtain ⟨its, rv, hl, hz⟩ := I.list hs
  have ev : us = [Value.ref a] := by
    cases r with
    | cons r1 r2 => cases r2; cases r1; rfl
  subst ev
  obtain ⟨v, rfl⟩ : ∃ v, its = [v] := List.length_eq_one_iff.mp rv.length.symm
  refine SrtO.sorted_ord (ltv := fun _ _ => false) (SrtO.Swo.mk (fun _ _ h => (by cases h)) (fun _ _ _ _ _ => rfl)) hl.isList hz (fun h2 => absurd h2 (by simp)) fun out h1 h2 => ?_
  obtain ⟨n, hn⟩ := sortedAll_at s.heap [v] out.toArray
  have eo : out = [v] := List.perm_singleton.mp h2.perm
  rw [eo] at hn ⊢
  exact ⟨.ref (s.heap.objs.size + 1), upd H (s.heap.objs.size + 1) (.lst [x]), I.laid (t' := s.toks) (fun b o e => sortedAll_old e) (Nat.le_succ _) ⟨hz, [v], n, rv, hn⟩, rfl, q _ (I.hok.fresh (Nat.le_succ _))⟩
theorem cs_sort1 : CallS X cl (.builtin "sorted") oSort1 := by
  refine ⟨_, cr_sort1, fun Hv H xs ds d Q vw r e q => ?_⟩
  unfold oSort1 at e
  split at e
  · cases e
    obtain ⟨l, vs, rfl, h1, h2, h3⟩ := one_lst r
    cases h3 with
    | cons r1 r2 =>
      cases r2
      exact ⟨l, _, rfl, .inl (.inl (vw.s _ _ h1 rfl)), new_lst vw (.cons r1 .nil) h2 q⟩
  · cases e
theorem CallS.or {f : Value} {o o' : List D → Option D} (h : CallS X cl f o) (h' : CallS X cl f o') : CallS X cl f (fun ds => match o ds with | some d => some d | none => o' ds) := by
  obtain ⟨r, hr, hs⟩ := h
  obtain ⟨r', hr', hs'⟩ := h'
  refine ⟨_, CallR.or hr hr', fun Hv H xs ds d Q vw rr e q => ?_⟩
  simp only at e
  cases ho : o ds with
  | some d' =>
    rw [ho] at e
    cases e
    exact .inl (hs Hv H xs ds _ Q vw rr ho q)
  | none =>
    rw [ho] at e
    exact .inr (hs' Hv H xs ds d Q vw rr e q)
def oSorted : List D → Option D := fun ds => match oSort1 ds with | some d => some d | none => oSortA ds
theorem cs_sorted (hu : X.A.units + 100 < cLine) : CallS X cl (.builtin "sorted") oSorted := CallS.or cs_sort1 (cs_sortA hu)
end
theorem u100 {k : Nat} {A : Around} (r : Room k A) : A.units + 100 < cLine := by have := r.un; omega
end Sm
namespace Sm
open PySem PySem.Spec L2
section
variable {X : Cx} {W : WX} {cl : Glb} {pos p apos npos : Pos} {tg : Expr} {own : List Nat}
def dPop (i : Nat) (pt : Pat) : DS := fun ρ => match ρ[i]? with
  | some (some (.lst ds)) => match ds.getLast? with
    | some d => match bindPat pt d (ρ.set i (some (.lst ds.dropLast))) with
      | some ρ' => .nx ρ'
      | none => .bad
    | none => .bad
  | _ => .bad
end
end Sm
set_option maxHeartbeats 3200000
namespace Sm
open PySem PySem.Spec L2 PyProof.Rows
section
variable {P : Program} {w : World} {A : Around} {E : Value → Shared → Prop} {s : Shared}
theorem call_set_tupsT {l : Addr} {items : Array Value} (ks : List (Addr × List Int)) {Q : Value → Shared → Prop} (hh : A.handled = none) (hl : s.heap.IsTuple l items) (hit : items.toList = ks.map fun p => Value.ref p.1)
    (hk : ∀ p ∈ ks, IsT P w s.heap p.2 p.1) (hfew : ks.length < 64) (hu : A.units + 3 < cLine)
    (h : ∀ (h' : Heap) (tk : Nat) L es ep t, SetTR P w h' s.heap.objs.size L es ep t → Got ks ks.length L → (∀ b o, s.heap.get? b = some o → h'.get? b = some o) → Q (.ref s.heap.objs.size) { s with heap := h', toks := tk }) :
    wpAny (model P w) A (call (.type "set") [.ref l]) Q E s := by
  have hisz : items.size = ks.length := by
    have q := congrArg List.length hit
    rw [Array.length_toList, List.length_map] at q
    exact q
  obtain ⟨c, tl, hmro⟩ := F.called_set.mro
  have hmade := F.called_set.made
  have hsub := F.called_set.sub
  refine wpAny_call (codeAny_of_tree ?_)
  show wpAny _ _ (callAny (.type "set") _) _ _ _
  refine wpAny_pure ⟨Code.quiet_builtin _ (by decide +kernel), codeAny_builtin F.entry_type_call ?_⟩
  rw [Around.under_plain (weight_type_call_type "set" [.ref l] []) rfl]
  have h1 := F.called_set.notType
  have h2 := F.called_set.canCreate
  have hct := F.typeCall_set_1 (.ref l)
  repeat (any_goals (first | assumption | wp_step))

  refine codeAny_mono (code_set_led1 (.ref l) (E := E) (Q₁ := fun obj s₁ => obj = .ref s.heap.objs.size ∧ s₁ = { s with heap := s.heap.push { cls := .type "set", dict := none, data := .set #[] 0 (.fresh 0 0 (!w.params.followText "set-order")) } }) ⟨rfl, rfl⟩) fun r s₁ hr => ?_
  cases r with
  | error e => exact hr
  | ok fl =>
    cases fl with
    | ret obj =>
      obtain ⟨rfl, rfl⟩ := hr
      have hS : (s.heap.push { cls := .type "set", dict := none, data := .set #[] 0 (.fresh 0 0 (!w.params.followText "set-order")) }).get? s.heap.objs.size = some { cls := .type "set", dict := none, data := .set #[] 0 (.fresh 0 0 (!w.params.followText "set-order")) } := Heap.get?_push_size _ rfl
      have hT : Shared.TypeIs { s with heap := s.heap.push { cls := .type "set", dict := none, data := .set #[] 0 (.fresh 0 0 (!w.params.followText "set-order")) } } (.ref s.heap.objs.size) "set" := ⟨_, hS, rfl⟩
      have hli := F.called_set.init.lookup
      have hbi := F.called_set.init.bind (.ref s.heap.objs.size)
      repeat (any_goals (first | assumption | wp_step))

      refine codeAny_mono (codeAny_call_builtin (R := wants (fun r s₂ => r = .none ∧ ∃ h' tk L es ep t, s₂ = { s with heap := h', toks := tk } ∧ SetTR P w h' s.heap.objs.size L es ep t ∧ Got ks ks.length L ∧
          (∀ b o, s.heap.get? b = some o → h'.get? b = some o)) E) F.called_set.init.plain F.entry_set_init (check_set_init_1 hT ?_)) fun r₂ s₂ hr₂ => ?_
      · obtain ⟨ol, hol, hcl, nl, hdl⟩ := hl
        obtain ⟨ocls, odict, odata, oslots⟩ := ol
        simp only at hcl hdl
        subst hcl; subst hdl
        have hol' : (s.heap.push { cls := .type "set", dict := none, data := .set #[] 0 (.fresh 0 0 (!w.params.followText "set-order")) }).get? l = some { cls := .type "tuple", dict := odict, data := .seq items nl, slots := oslots } := Heap.get?_push_of_some _ hol
        have hsls := F.sub_tuple_set
        have hslf := F.sub_tuple_frozenset
        have hne : (Value.type "tuple" == Value.type "dict") = false := by decide
        have hl1 : (s.heap.push { cls := .type "set", dict := none, data := .set #[] 0 (.fresh 0 0 (!w.params.followText "set-order")) }).IsTuple l items := ⟨_, hol', rfl, nl, rfl⟩
        unfold Builtin.«set.__init__» noKeywords Builtin.Frozenset.updateFrom
        generalize hPI : pyIter = PI
        wp_walk
        subst hPI

        refine wpAny_pyIter_tuple hl1 ?_
        refine wpAny_bind (wpAny_runValue ?_)
        have hlS : l < s.heap.objs.size := Heap.lt_size hol
        have hh3 : A.in1.in1.in1.handled = none := by simp [hh]
        have hz1 : (s.heap.push { cls := .type "set", dict := none, data := .set #[] 0 (.fresh 0 0 (!w.params.followText "set-order")) }).objs.size = s.heap.objs.size + 1 := Heap.size_push ..
        have hneI : l ≠ (s.heap.push { cls := .type "set", dict := none, data := .set #[] 0 (.fresh 0 0 (!w.params.followText "set-order")) }).objs.size := by
          rw [Heap.size_push]; exact Nat.ne_of_lt (Nat.lt_succ_of_lt hlS)
        have hSf : s.heap.objs.size ∉ [(s.heap.push { cls := .type "set", dict := none, data := .set #[] 0 (.fresh 0 0 (!w.params.followText "set-order")) }).objs.size, l] := by
          rw [Heap.size_push]; simp only [List.mem_cons, List.mem_singleton, List.not_mem_nil, or_false, not_or]
          exact ⟨Nat.ne_of_lt (Nat.lt_succ_self _), Nat.ne_of_gt hlS⟩
        have hval : ∀ (i : Nat) (v : Value), items[i]? = some v → ∃ p, ks[i]? = some p ∧ v = .ref p.1 := fun i v hv => by
          have q : items.toList[i]? = some v := by rw [Array.getElem?_toList]; exact hv
          rw [hit, List.getElem?_map] at q
          cases hq : ks[i]? with
          | none => rw [hq] at q; cases q
          | some p =>
            rw [hq] at q
            exact ⟨p, rfl, (Option.some.inj q).symm⟩
        have none_of : ∀ b, s.heap.objs.size ≤ b → s.heap.get? b = none := fun b hb => by
          cases q : s.heap.get? b with
          | none => rfl
          | some o => exact absurd (Nat.lt_of_lt_of_le (Heap.lt_size q) hb) (Nat.lt_irrefl _)
        refine set_update_tups ((Walks.tuple hh3 _ l hneI items).toS) s.heap.objs.size
          hSf ks hisz hfew hval s.heap hk (none_of _ (Nat.le_refl _)) (fun b hb => none_of b (by
            rw [List.mem_singleton.mp hb, Heap.size_push]
            exact Nat.le_succ _)) hu (items.size - 0) 0 _ (by omega) (Nat.zero_le _)
          ⟨⟨_, Heap.get?_push_size _ rfl, rfl, rfl⟩, (hl1.push _)⟩ (fun b o e => Heap.get?_push_of_some _ (Heap.get?_push_of_some _ e)) ?hS0 ?hR
        case hS0 =>
          have hget : ((s.heap.push { cls := .type "set", dict := none, data := .set #[] 0 (.fresh 0 0 (!w.params.followText "set-order")) }).push { cls := .type "tuple_iterator", data := .fields #[.ref l, .int 0 0] }).get? s.heap.objs.size
              = some { cls := .type "set", dict := none, data := .set #[] 0 (.fresh 0 0 (!w.params.followText "set-order")) } := Heap.get?_push_of_some _ hS
          exact ⟨[], #[], 0, _, setTR_fresh hget, Got.zero ks⟩
        case hR =>
          intro s' L es ep t hm hS' g' hkp
          obtain ⟨h', g2, d', tk', os'⟩ := s'
          have eg : g2 = s.gens := hm.gens
          have ed : d' = s.drawn := hm.drawn
          have eo : os' = s.os := hm.os
          subst eg; subst ed; subst eo
          show wpAny _ _ _ _ _ _
          refine wpAny_pure ?_
          show wpAny _ _ (ret Value.none) _ _ _
          rw [hisz] at g'
          exact wpAny_pure ⟨rfl, h', tk', L, es, ep, t, rfl, hS', g', hkp⟩

      · cases r₂ with
        | error e => exact hr₂
        | ok fl₂ =>
          cases fl₂ with
          | ret r =>
            obtain ⟨rfl, h', tk, L, es, ep, t, rfl, hS', g', hk'⟩ := hr₂
            repeat (any_goals (first | assumption | wp_step))
            exact h _ _ _ _ _ _ hS' g' hk'
          | _ => exact hr₂.elim
    | _ => exact hr.elim

end
end Sm
namespace Sm
open PySem PySem.Spec L2
abbrev tI (k : List Int) : D := .tup (k.map .int)
abbrev pI (k : List Int) : PyData := .tuple (k.map .int)
def leI (a b : List Int) : Bool := decide (a ≤ b)
def dd : List (List Int) → List (List Int)
  | [] => []
  | x :: l => if x ∈ dd l then dd l else x :: dd l
theorem mem_dd {x : List Int} : ∀ {l : List (List Int)}, x ∈ dd l ↔ x ∈ l
  | [] => by simp [dd]
  | y :: l => by
    have ih := mem_dd (x := x) (l := l)
    have ihy := mem_dd (x := y) (l := l)
    unfold dd
    split
    · rename_i h
      rw [ih, List.mem_cons]
      exact ⟨.inr, fun q => q.elim (fun e => by rw [e]; exact ihy.mp h) id⟩
    · rw [List.mem_cons, List.mem_cons, ih]
theorem nodup_dd : ∀ l : List (List Int), (dd l).Nodup
  | [] => List.nodup_nil
  | y :: l => by
    unfold dd
    split
    · exact nodup_dd l
    · rename_i h
      exact List.nodup_cons.mpr ⟨h, nodup_dd l⟩
def sortU (ks : List (List Int)) : List (List Int) := msort leI (dd ks)
theorem sortU_eq (ks : List (List Int)) : sortU ks = (dd ks).mergeSort leI := msort_eq _ _
def rowsI : List D → Option (List (List Int))
  | [] => some []
  | .tup xs :: ds => match intsD xs with
    | some k => (rowsI ds).map (k :: ·)
    | none => none
  | _ => none
def oSortSet : List D → Option D
  | [.lst ds] => match rowsI ds with
    | some ks => if ks.length < 64 then some (.lst ((sortU ks).map tI)) else none
    | none => none
  | [.tup ds] => match rowsI ds with
    | some ks => if ks.length < 64 then some (.lst ((sortU ks).map tI)) else none
    | none => none
  | _ => none
theorem rowsI_eq : ∀ {ds : List D} {ks : List (List Int)}, rowsI ds = some ks → ds = ks.map tI
  | [], k, h => by cases h; rfl
  | .tup xs :: ds, k, h => by
    simp only [rowsI] at h
    split at h
    · rename_i k0 hk
      simp only [Option.map_eq_some_iff] at h
      obtain ⟨k', h1, rfl⟩ := h
      rw [rowsI_eq h1, intsD_eq hk]; rfl
    · cases h
  | .int _ :: _, k, h => by cases h
  | .non :: _, k, h => by cases h
  | .bl _ :: _, k, h => by cases h
  | .str _ :: _, k, h => by cases h
  | .lst _ :: _, k, h => by cases h
  | .dct _ :: _, k, h => by cases h
  | .exc _ :: _, k, h => by cases h
  | .scr _ :: _, k, h => by cases h
  | .scr0 :: _, k, h => by cases h
  | .fnv :: _, k, h => by cases h
  | .obj _ :: _, k, h => by cases h
  | .dcl _ :: _, k, h => by cases h
  | .scr1 :: _, k, h => by cases h
theorem rowsI_map : ∀ ks : List (List Int), rowsI (ks.map tI) = some ks
  | [] => rfl
  | k :: ks => by simp [rowsI, intsD_map, rowsI_map ks]
theorem perm_map_inv {α β : Type} {f : α → β} : ∀ {l : List α} {m : List β}, m.Perm (l.map f) → ∃ l1 : List α, l1.Perm l ∧ m = l1.map f
  | [], m, h => ⟨[], List.Perm.refl _, by simpa using h⟩
  | a :: l, m, h => by
    obtain ⟨x, y, rfl⟩ := List.append_of_mem (h.mem_iff.mpr (show f a ∈ (a :: l).map f by simp))
    obtain ⟨l1, h1, h2⟩ := perm_map_inv (l := l) (m := x ++ y) ((List.perm_middle.symm.trans h).cons_inv)
    obtain ⟨l2, l3, rfl, rfl, rfl⟩ := List.map_eq_append_iff.mp h2.symm
    exact ⟨l2 ++ a :: l3, List.perm_middle.trans (h1.cons a), by simp⟩
theorem dataLt_pI (a b : List Int) : PySem.W.dataLt (pI a) (pI b) = decide (a < b) := by
  rw [PySem.W.dataLt_tuple]; exact PySem.W.dataLt_ints a b
theorem leI_pI (a b : List Int) : (!PySem.W.dataLt (pI b) (pI a)) = leI a b := by
  rw [dataLt_pI]
  unfold leI
  by_cases h : b < a
  · have h' : ¬ a ≤ b := fun r => List.not_lt.mpr r h
    simp [h, h']
  · have h' : a ≤ b := List.not_lt.mp h
    simp [h, h']
section
variable {P : Program} {w : World} {A : Around} {E : Value → Shared → Prop} {s : Shared}
open PySem.W PyProof.Rows
theorem readsAll_ints {h : Heap} : ∀ {k : List Int} {vs : List Value}, ItemsAre (intKind P w) k vs → ReadsAll h vs (k.map .int) []
  | _, _, .nil => .nil
  | _, _, .cons h1 h2 => by
    obtain ⟨t, rfl⟩ := Value.isInt_shape h1
    exact .cons (bs := []) (.int _ _) (readsAll_ints h2)
theorem reads_isT {h : Heap} {k : List Int} {b : Addr} (x : IsT P w h k b) : Reads h (.ref b) (pI k) [] := by
  obtain ⟨o, items, n, ho, hc, hd, hi⟩ := x
  exact .tuple ho hc hd (readsAll_ints hi)
theorem each_refs {h : Heap} {R : Value → Addr × List Int → Prop} : ∀ L : List (Addr × List Int), (∀ q ∈ L, R (.ref q.1) q) → EachIs R (L.map fun q => Value.ref q.1) L
  | [], _ => .nil
  | q :: L, h => .cons (h q (by simp)) (each_refs (h := ‹Heap›) L fun r hr => h r (by simp [hr]))
theorem each_back {L : List (Addr × List Int)} : ∀ {vs : List Value} {L1 : List (Addr × List Int)}, EachIs (fun v (q : Addr × List Int) => v = .ref q.1) vs L1 → vs = L1.map fun q => Value.ref q.1
  | _, _, .nil => rfl
  | _, _, .cons h t => by rw [h, each_back (L := L) t]; rfl
theorem sorted_setP {a : Addr} {L : List (Addr × List Int)} {es : Array (Int × Value)} {ep : Nat} {t : SetTable} {Q : Value → Shared → Prop} (R : SetTR P w s.heap a L es ep t) (hh : A.handled = none) (hu : A.units + 100 < cLine)
    (hQ : ∀ s' p (out : Array Value) (c : Nat) (L' : List (Addr × List Int)), (∀ b o, s.heap.get? b = some o → s'.heap.get? b = some o) → s'.gens = s.gens → s'.os = s.os → s.heap.objs.size ≤ p →
      s'.heap.get? p = some (seqObj "list" out c) → out.toList = L'.map (fun q => Value.ref q.1) → L'.Perm L → L'.Pairwise (fun q r => leI q.2 r.2 = true) → Q (.ref p) s') :
    wpAny (model P w) A (call (.builtin "sorted") [.ref a]) Q E s := by
  obtain ⟨o, ho, hex, hd⟩ := R.ob
  have hfew := R.few
  have hsz := R.size
  refine Calls.call_function_entry kind_sorted plain_sorted entry_sorted (args_sorted1 _) ?_
  unfold Builtin.«sorted»
  refine wpAny_bind (m := checkCount "sorted" 1 1 _) (wpAny_pure ?_)
  refine wpAny_bind (collect_set (A := A.in1) hh ⟨o, ho, hex.1, hd⟩ R.fits (by unfold scanBound; omega) R.tab.ris R.led fun s1 vs k1 hz g1 o1 pm => ?_)
  have hes : es.toList.map (·.2) = L.map fun q => Value.ref q.1 := by
    rw [R.rows]
    unfold L2.rowsOf
    rw [List.map_map] <;> rfl
  rw [hes] at pm
  obtain ⟨L1, pL, rfl⟩ : ∃ L1 : List (Addr × List Int), L1.Perm L ∧ vs = L1.map fun q => Value.ref q.1 := by
    exact perm_map_inv pm
  have hvl : (L1.map fun q => Value.ref q.1).length < 64 := by rw [pm.length_eq, List.length_map]; exact hfew
  have hl1 : L1.length < 64 := by rw [List.length_map] at hvl; exact hvl
  refine wpAny_bind (wpAny_newList ?_ (by rw [sizeLine_eq]; omega))
  have hoL : (s1.heap.push (seqObj "list" (L1.map fun q => Value.ref q.1).toArray 0)).get? s1.heap.objs.size = some (seqObj "list" (L1.map fun q => Value.ref q.1).toArray 0) := Heap.get?_push_size _ rfl
  have tk : ∀ q ∈ L1, Reads (s1.heap.push (seqObj "list" (L1.map fun q => Value.ref q.1).toArray 0)) (.ref q.1) (pI q.2) [] := fun q hq => reads_isT (P := P) (w := w) (isT_keep (R.tup q (pL.mem_iff.mp hq)) fun b u e => Heap.get?_push_of_some _ (k1 b u e))
  refine wpAny_bind (wpAny_holding (list_sort_data2 (s := { s1 with heap := s1.heap.push (seqObj "list" (L1.map fun q => Value.ref q.1).toArray 0) }) (β := Addr × List Int) (enc := fun q => pI q.2) (R := fun v q => v = .ref q.1) hoL
    (each_refs (h := s1.heap) L1 fun _ _ => rfl) (each_refs (h := s1.heap) L1 fun q hq => ⟨[], tk q hq, by simp⟩) ?_ ?_ (by rw [sizeLine_eq]; omega) ?_ fun out hlen eo => ?_))
  · intro d hd d' hd'
    obtain ⟨q, _, rfl⟩ := List.mem_map.mp hd
    obtain ⟨r, _, rfl⟩ := List.mem_map.mp hd'
    show alike (.tuple _) (.tuple _) = true
    simp only [alike]; exact alike_ints _ _
  · refine .inl fun d hd => ?_
    obtain ⟨q, _, rfl⟩ := List.mem_map.mp hd
    exact ⟨_, rfl⟩
  · intro q _
    have : (pI q.2).depth = 1 := by simp [PyData.depth, depth_ints]
    show A.in1.units + 1 + (pI q.2).depth < cLine
    rw [this]
    show A.units + 1 + 1 + 1 < cLine
    omega
  have eq : (dataLe false fun q : Addr × List Int => pI q.2) = fun q r => leI q.2 r.2 := by
    funext q r
    rw [dataLe_eq]
    exact leI_pI q.2 r.2
  rw [eq] at eo
  obtain ⟨c, hc⟩ := sortedHeap_at (vs := L1.map fun q => Value.ref q.1) (out := out.toArray) hoL
  have eout := each_back (L := L) eo
  have tr : ∀ a b c : Addr × List Int, leI a.2 b.2 = true → leI b.2 c.2 = true → leI a.2 c.2 = true := fun a b c h1 h2 => by
    unfold leI at *
    rw [decide_eq_true_eq] at *
    exact List.le_trans h1 h2
  have tot : ∀ a b : Addr × List Int, (leI a.2 b.2 || leI b.2 a.2) = true := fun a b => by
    unfold leI
    rw [Bool.or_eq_true, decide_eq_true_eq, decide_eq_true_eq]
    exact List.le_total _ _
  refine wpAny_pure ⟨_, rfl, hQ _ s1.heap.objs.size out.toArray c (L1.mergeSort fun q r => leI q.2 r.2) (fun b u e => ?_) g1 o1 hz hc (by simpa using eout) ((List.mergeSort_perm _ _).trans pL) (List.pairwise_mergeSort tr tot L1)⟩
  have q := k1 b u e
  have hlt := Heap.lt_size q
  show (sortedHeap (s1.heap.push (seqObj "list" (L1.map fun q => Value.ref q.1).toArray 0)) s1.heap.objs.size (L1.map fun q => Value.ref q.1) out.toArray).get? b = some u
  rw [sortedHeap_old (Nat.ne_of_lt hlt) (by rw [size_push']; exact Nat.lt_succ_of_lt hlt)]
  exact Heap.get?_push_of_some _ q
end
end Sm
namespace Sm
open PySem PySem.Spec L2
section
variable {X : Cx} {W : WX} {cl : Glb}
def rSet2 (K : PySem.W.Frag) (P : Program) (w : World) : List V → Hp → VK → Prop := fun xs H Q => ∃ (l : Addr) (ks : List (Addr × List Int)), xs = [V.ref l] ∧ (SqL K H l (ks.map fun p => V.ref p.1) ∨ SqT K H l (ks.map fun p => V.ref p.1)) ∧
  (∀ p ∈ ks, SqT K H p.1 (p.2.map V.int)) ∧ ks.length < 64 ∧ ∀ a L, H a = none → (∀ p ∈ L, p ∈ ks) → (∀ p ∈ ks, p.2 ∈ L.map (·.2)) → (L.map (·.2)).Nodup → Q (.ref a) (upd H a (SetTO P w a L))
theorem cr_set2 (hc : X.calm = true) (hu : X.A.units + 100 < cLine) : CallR X (.type "set") (rSet2 X.K X.prog X.w) := by
  intro pins s σ H xs us Q I r h
  obtain ⟨l, ks, rfl, hl, hk, hf, q⟩ := h
  rw [Vals.ref1 r]
  have hn : H s.heap.objs.size = none := I.hok.fresh (Nat.le_refl _)
  rcases hl with hl | hl
  · obtain ⟨its, rv, pl, hz⟩ := I.list hl
    refine call_set_tups (P := X.prog) (w := X.w) ks (I.ok.hd hc) pl.isList (by simpa using refs_of_vals rv) (fun p hp => I.isT (hk p hp)) hf (by omega) fun h' tk L es ep t R g k => ?_
    exact ⟨.ref s.heap.objs.size, upd H s.heap.objs.size (SetTO X.prog X.w s.heap.objs.size L), I.laid (t' := tk) k (Nat.le_refl _) (setTO_new R.t0), rfl, q _ L hn (fun p hp => List.mem_of_mem_take (g.sub p hp)) (fun p hp => g.all p (by rw [List.take_length]; exact hp)) R.nd⟩
  · obtain ⟨its, rv, pl, hz⟩ := I.tuple hl
    refine call_set_tupsT (P := X.prog) (w := X.w) ks (I.ok.hd hc) pl (by simpa using refs_of_vals rv) (fun p hp => I.isT (hk p hp)) hf (by omega) fun h' tk L es ep t R g k => ?_
    exact ⟨.ref s.heap.objs.size, upd H s.heap.objs.size (SetTO X.prog X.w s.heap.objs.size L), I.laid (t' := tk) k (Nat.le_refl _) (setTO_new R.t0), rfl, q _ L hn (fun p hp => List.mem_of_mem_take (g.sub p hp)) (fun p hp => g.all p (by rw [List.take_length]; exact hp)) R.nd⟩
def rSortedP (K : PySem.W.Frag) (P : Program) (w : World) : List V → Hp → VK → Prop := fun vs H Q => ∃ (a : Addr) (L : List (Addr × List Int)), vs = [V.ref a] ∧ H a = some (SetTO P w a L) ∧ (∀ p ∈ L, SqT K H p.1 (p.2.map V.int)) ∧
  ∀ (L' : List (Addr × List Int)) (p : Addr), L'.Perm L → L'.length < 64 → L'.Pairwise (fun q r => leI q.2 r.2 = true) → H p = none → Q (.ref p) (upd H p (.lst (L'.map fun q => V.ref q.1)))
theorem cr_sortedP (hc : X.calm = true) (hu : X.A.units + 100 < cLine) : CallR X (.builtin "sorted") (rSortedP X.K X.prog X.w) := by
  intro pins s σ H vs us Q I r h
  obtain ⟨a, L, rfl, ha, hk, q⟩ := h
  have R0 : SetT0 X.prog X.w s.heap a L := (I.hok a _ ha).1
  obtain ⟨es, ep, t, R⟩ := R0.full fun p hp => I.isT (hk p hp)
  rw [Vals.ref1 r]
  refine sorted_setP R (I.ok.hd hc) hu fun s' p out c L' k g o hp hg hout pm pw => ?_
  have hfew : L'.length < 64 := by rw [pm.length_eq]; exact R.few
  have hlen : (L'.map fun q => V.ref q.1).length ≤ sizeLine := by rw [List.length_map, sizeLine_eq]; omega
  have hn : H p = none := I.hok.fresh hp
  have hv : Vals (L'.map fun q => V.ref q.1) out.toList := by rw [hout]; exact vals_of_refs L'
  have J : Inv X pins σ (upd H p (.lst (L'.map fun q => V.ref q.1))) { s with heap := s'.heap, gens := s'.gens, drawn := s'.drawn, toks := s'.toks } :=
    I.call (ch := []) (Un.laid k hp hn) (I.hok.laid k hp ⟨hlen, out.toList, c, hv, hg⟩) (by rw [g]; exact I.bare) (fun _ z => nomatch z)
  have e : s' = { s with heap := s'.heap, gens := s'.gens, drawn := s'.drawn, toks := s'.toks } := by
    cases s'; cases s; cases o; rfl
  rw [e]
  exact ⟨.ref p, _, J, rfl, q L' p pm hfew pw hn⟩
theorem reps_rows {K : PySem.W.Frag} {H : Hp} : ∀ {vs : List V} {ks : List (List Int)}, Reps K cl H vs (ks.map tI) → ∃ kk : List (Addr × List Int), vs = kk.map (fun p => V.ref p.1) ∧ kk.map (·.2) = ks ∧ ∀ p ∈ kk, SqT K H p.1 (p.2.map V.int) ∧ Rep K cl H (.ref p.1) (tI p.2)
  | _, [], .nil => ⟨[], rfl, rfl, by simp⟩
  | _, k :: ks, .cons r t => by
    obtain ⟨kk, e1, e2, e3⟩ := reps_rows t
    cases r with
    | @tup a xs _ s z rs =>
      have ex : xs = k.map V.int := by
        clear s z e1 e2 e3 t
        induction k generalizing xs with
        | nil => cases rs; rfl
        | cons i k ih =>
          cases rs with
          | cons r1 r2 => cases r1; rw [ih r2]; rfl
      subst ex
      refine ⟨(a, k) :: kk, by rw [e1]; rfl, by rw [List.map_cons, e2], fun p hp => ?_⟩
      rcases List.mem_cons.mp hp with rfl | hp
      · exact ⟨sqT_of s, .tup s z rs⟩
      · exact e3 p hp
theorem leI_anti {a b : List Int} (h1 : leI a b = true) (h2 : leI b a = true) : a = b := by
  unfold leI at *
  rw [decide_eq_true_eq] at *
  exact List.le_antisymm h1 h2
theorem leI_trans (a b c : List Int) (h1 : leI a b = true) (h2 : leI b c = true) : leI a c = true := by
  unfold leI at *
  rw [decide_eq_true_eq] at *
  exact List.le_trans h1 h2
theorem leI_total (a b : List Int) : (leI a b || leI b a) = true := by
  unfold leI
  rw [Bool.or_eq_true, decide_eq_true_eq, decide_eq_true_eq]
  exact List.le_total _ _
theorem sortU_of {ks : List (List Int)} {L : List (List Int)} (h1 : ∀ k ∈ L, k ∈ ks) (h2 : ∀ k ∈ ks, k ∈ L) (nd : L.Nodup) (pw : L.Pairwise fun a b => leI a b = true) : L = sortU ks := by
  rw [sortU_eq]
  refine List.Perm.eq_of_pairwise (le := fun a b => leI a b = true) (fun a b _ _ => leI_anti) pw (List.pairwise_mergeSort leI_trans leI_total _) ?_
  refine List.Perm.trans ?_ (List.mergeSort_perm _ _).symm
  exact (List.perm_ext_iff_of_nodup nd (nodup_dd ks)).mpr fun k => ⟨fun h => mem_dd.mpr (h1 k h), fun h => h2 k (mem_dd.mp h)⟩
theorem se_sortset {e : Expr} {g : DA} {p p2 pos pos2 : Pos} (hc : X.calm = true) (hu : X.A.units + 100 < cLine) (ha : SA X W cl [e] g) (hm1 : X.mg "sorted" = none) (hm2 : X.mg "set" = none) (hg1 : Gl X "sorted" := by rfl) (hg2 : Gl X "set" := by rfl)
    (he : starEach [e] X.env = (false, eval e X.env) :: starEach [] X.env := by rfl) (hpl : (backTo pos2 (starEach [] X.env)).any (·.1) = false := by rfl)
    (he' : starEach [Expr.Call (.Name "set" p2) [e] [] pos2] X.env = (false, eval (Expr.Call (.Name "set" p2) [e] [] pos2) X.env) :: starEach [] X.env := by rfl) (hpl' : (backTo pos (starEach [] X.env)).any (·.1) = false := by rfl) :
    SE X W cl (.Call (.Name "sorted" p) [.Call (.Name "set" p2) [e] [] pos2] [] pos) (dB oSortSet g) := by
  obtain ⟨ta, pa, ha, hl⟩ := ha
  have inner := pe_callTy (x := "set") (p := p2) (pos := pos2) (cr_set2 hc hu) hg2 hm2 (by decide +kernel) pa (by decide) (by decide) he hpl
  refine ⟨_, pe_callB (x := "sorted") (cr_sortedP hc hu) hg1 hm1 (by decide +kernel) (pa_cons inner pa_nil he') (by decide) (by decide) he' hpl', ?_⟩
  intro Hv H σ ρ Q vw er pv
  refine ha Hv H σ ρ _ vw er (bindP pv fun x Hv1 H1 ex e1 pv1 v rv => ?_)
  obtain ⟨d, ed, q⟩ := ofO_ok pv1
  have main : ∀ (l : Addr) (vs : List V) (ks : List (List Int)), v = [.ref l] → (SqL X.K H1 l vs ∨ SqT X.K H1 l vs) → Reps X.K cl Hv1 vs (ks.map tI) → ks.length < 64 → d = .lst ((sortU ks).map tI) →
      tCB (rSortedP X.K X.prog X.w) (tCons (fun _ H Q => rSet2 X.K X.prog X.w v H Q) tNil) σ H1 Q := by
    rintro l vs ks rfl hs rr hlen rfl
    obtain ⟨kk, rfl, rfl, e3⟩ := reps_rows rr
    rw [List.length_map] at hlen
    refine ⟨l, kk, rfl, hs, fun p hp => e1.vh.s.sqT (e3 p hp).1, hlen, fun a L hna h1 h2 nd => ?_⟩
    have x1 := Ext.new (o := SetTO X.prog X.w a L) e1.vh hna
    refine ⟨a, L, rfl, upd_same, fun p hp => x1.hh.sqT (e1.vh.s.sqT (e3 p (h1 p hp)).1), fun L' p pm hl' pw hp => ?_⟩
    have es : L'.map (·.2) = sortU (kk.map (·.2)) := by
      refine sortU_of (fun k hk => ?_) (fun k hk => ?_) ((pm.map (·.2)).nodup_iff.mpr nd) (List.pairwise_map.mpr pw)
      · obtain ⟨z, hz, rfl⟩ := List.mem_map.mp hk
        exact List.mem_map.mpr ⟨z, h1 z (pm.mem_iff.mp hz), rfl⟩
      · obtain ⟨z, hz, rfl⟩ := List.mem_map.mp hk
        exact ((pm.map (·.2)).mem_iff).mpr (h2 z hz)
    have rr2 : Reps X.K cl Hv1 (L'.map fun q => V.ref q.1) ((sortU (kk.map (·.2))).map tI) := by
      rw [← es, List.map_map]
      have := reps_of (K := X.K) (cl := cl) (H := Hv1) (L'.map fun q => (V.ref q.1, tI q.2)) fun z hz => by
        obtain ⟨y, hy, rfl⟩ := List.mem_map.mp hz
        exact (e3 y (h1 y (pm.mem_iff.mp hy))).2
      rw [List.map_map, List.map_map] at this
      exact this
    exact new_lst (X := X) x1.vh (rr2.mono x1.vv) (by rw [List.length_map, sizeLine_eq]; omega) (fun v' Hv' H' e' r' => q Hv' H' (x1.trans e') v' r') p hp
  unfold oSortSet at ed
  split at ed
  · rename_i ds0
    split at ed
    · rename_i ks hks
      split at ed
      · cases ed
        obtain ⟨l, vs, hv, h1, h2, h3⟩ := one_lst rv
        rw [rowsI_eq hks] at h3
        exact main l vs ks hv (.inl (.inl (.inl (e1.vh.s _ _ h1 rfl)))) h3 (by assumption) rfl
      · cases ed
    · cases ed
  · rename_i ds0
    split at ed
    · rename_i ks hks
      split at ed
      · cases ed
        obtain ⟨l, vs, hv, h1, h2, h3⟩ := one_tup rv
        rw [rowsI_eq hks] at h3
        exact main l vs ks hv (.inr (e1.vh.s.sqU h1)) h3 (by assumption) rfl
      · cases ed
    · cases ed
  · cases ed
end
end Sm
namespace Sm
open PySem PySem.Spec L2
def putE (t : D → Bool) (k v : D) (es : List (D × D)) : List (D × D) :=
  if es.any fun e => t e.1 then es.map fun e => if t e.1 then (e.1, v) else e else es ++ [(k, v)]
section
variable {K : PySem.W.Frag} {cl : Glb} {H : Hp}
theorem inl_inj {k a : List Int} (h : k.map (Sum.inl (β := Str)) = a.map Sum.inl) : k = a := by
  induction k generalizing a with
  | nil => cases a with
    | nil => rfl
    | cons _ _ => cases h
  | cons x k ih =>
    cases a with
    | nil => cases h
    | cons y a =>
      rw [List.map_cons, List.map_cons] at h
      injection h with h1 h2
      injection h1 with h1
      rw [h1, ih h2]
theorem isKT_iff {k a : List Int} : isKT a (.tup (k.map .int)) = decide (k = a) := by
  simp only [isKT, intsD_map]
  by_cases h : k = a
  · subst h; simp
  · simp [h]
theorem RepsK.val {i : Int} : ∀ {kvs : List (L2.Key × V)} {es : List (D × D)}, RepsK K cl H kvs es → (match findE (isKI i) es with
    | some d => ∃ v, valV kvs (Sum.inl i) = some v ∧ Rep K cl H v d
    | none => valV kvs (Sum.inl i) = none)
  | _, _, .nil => rfl
  | _, _, .cons (i := j) (v := v) (d := d) (r := r) (es := es) hv t => by
    have ih := RepsK.val (i := i) t
    by_cases h : j = i
    · subst h
      have e1 : findE (isKI j) ((D.int j, d) :: es) = some d := by simp [findE, isKI]
      rw [e1]
      exact ⟨v, valV_pos rfl, hv⟩
    · have e1 : findE (isKI i) ((D.int j, d) :: es) = findE (isKI i) es := by simp [findE, isKI, h]
      rw [e1, valV_neg (p := (Sum.inl j, v)) (k := Sum.inl i) (fun e => h (Sum.inl.inj e))]
      exact ih
theorem RepsT.val {i : List Int} : ∀ {kvs : List (List L2.Key × V)} {es : List (D × D)}, RepsT K cl H kvs es → (match findE (isKT i) es with
    | some d => ∃ v, valV kvs (i.map Sum.inl) = some v ∧ Rep K cl H v d
    | none => valV kvs (i.map Sum.inl) = none)
  | _, _, .nil => rfl
  | _, _, .cons (k := j) (v := v) (d := d) (r := r) (es := es) hv t => by
    have ih := RepsT.val (i := i) t
    by_cases h : j = i
    · subst h
      have e1 : findE (isKT j) ((D.tup (j.map .int), d) :: es) = some d := by simp [findE, isKT_iff]
      rw [e1]
      exact ⟨v, valV_pos rfl, hv⟩
    · have e1 : findE (isKT i) ((D.tup (j.map .int), d) :: es) = findE (isKT i) es := by simp [findE, isKT_iff, h]
      rw [e1, valV_neg (p := (j.map Sum.inl, v)) (k := i.map Sum.inl) (fun e => h (inl_inj e))]
      exact ih
theorem RepsK.anyE {i : Int} : ∀ {kvs : List (L2.Key × V)} {es : List (D × D)}, RepsK K cl H kvs es → (kvs.any fun kv => decide (kv.1 = Sum.inl i)) = es.any fun e => isKI i e.1
  | _, _, .nil => rfl
  | _, _, .cons (i := j) hv t => by
    rw [List.any_cons, List.any_cons, RepsK.anyE t]
    congr 1
    show decide ((Sum.inl j : L2.Key) = Sum.inl i) = (j == i)
    by_cases h : j = i
    · subst h; simp
    · rw [decide_eq_false (fun q => h (Sum.inl.inj q))]; simp [h]
theorem RepsT.anyE {i : List Int} : ∀ {kvs : List (List L2.Key × V)} {es : List (D × D)}, RepsT K cl H kvs es → (kvs.any fun kv => decide (kv.1 = i.map Sum.inl)) = es.any fun e => isKT i e.1
  | _, _, .nil => rfl
  | _, _, .cons (k := j) hv t => by
    rw [List.any_cons, List.any_cons, RepsT.anyE t]
    congr 1
    rw [isKT_iff, Bool.eq_iff_iff, decide_eq_true_eq, decide_eq_true_eq]
    exact ⟨inl_inj, fun e => by rw [e]⟩
theorem RepsK.snoc {i : Int} {v : V} {d : D} (hv : Rep K cl H v d) : ∀ {kvs : List (L2.Key × V)} {es : List (D × D)}, RepsK K cl H kvs es → RepsK K cl H (kvs ++ [(Sum.inl i, v)]) (es ++ [(.int i, d)])
  | _, _, .nil => .cons hv .nil
  | _, _, .cons h t => .cons h (RepsK.snoc hv t)
theorem RepsT.snoc {i : List Int} {v : V} {d : D} (hv : Rep K cl H v d) : ∀ {kvs : List (List L2.Key × V)} {es : List (D × D)}, RepsT K cl H kvs es → RepsT K cl H (kvs ++ [(i.map Sum.inl, v)]) (es ++ [(.tup (i.map .int), d)])
  | _, _, .nil => .cons hv .nil
  | _, _, .cons h t => .cons h (RepsT.snoc hv t)
theorem RepsK.repl {i : Int} {v : V} {d : D} (hv : Rep K cl H v d) : ∀ {kvs : List (L2.Key × V)} {es : List (D × D)}, RepsK K cl H kvs es → RepsK K cl H (kvs.map fun kv => if kv.1 = Sum.inl i then (kv.1, v) else kv) (es.map fun e => if isKI i e.1 then (e.1, d) else e)
  | _, _, .nil => .nil
  | _, _, .cons (i := j) h t => by
    have ih := RepsK.repl (i := i) hv t
    rw [List.map_cons, List.map_cons]
    by_cases e : j = i
    · subst e
      rw [if_pos rfl, if_pos (by simp [isKI])]
      exact .cons hv ih
    · rw [if_neg (fun q => e (Sum.inl.inj q)), if_neg (by simp [isKI, e])]
      exact .cons h ih
theorem RepsT.repl {i : List Int} {v : V} {d : D} (hv : Rep K cl H v d) : ∀ {kvs : List (List L2.Key × V)} {es : List (D × D)}, RepsT K cl H kvs es → RepsT K cl H (kvs.map fun kv => if kv.1 = i.map Sum.inl then (kv.1, v) else kv) (es.map fun e => if isKT i e.1 then (e.1, d) else e)
  | _, _, .nil => .nil
  | _, _, .cons (k := j) h t => by
    have ih := RepsT.repl (i := i) hv t
    rw [List.map_cons, List.map_cons]
    by_cases e : j = i
    · subst e
      rw [if_pos rfl, if_pos (by simp [isKT_iff])]
      exact .cons hv ih
    · rw [if_neg (fun q => e (inl_inj q)), if_neg (by simp [isKT_iff, e])]
      exact .cons h ih
theorem RepsK.put {i : Int} {v : V} {d : D} {kvs : List (L2.Key × V)} {es : List (D × D)} (r : RepsK K cl H kvs es) (hv : Rep K cl H v d) : RepsK K cl H (putK kvs (Sum.inl i) v) (putE (isKI i) (.int i) d es) := by
  unfold putK putE
  rw [r.anyE]
  split
  · exact r.repl hv
  · exact r.snoc hv
theorem RepsT.put {i : List Int} {v : V} {d : D} {kvs : List (List L2.Key × V)} {es : List (D × D)} (r : RepsT K cl H kvs es) (hv : Rep K cl H v d) : RepsT K cl H (putK kvs (i.map Sum.inl) v) (putE (isKT i) (.tup (i.map .int)) d es) := by
  unfold putK putE
  rw [r.anyE]
  split
  · exact r.repl hv
  · exact r.snoc hv
theorem rep_dctI {v : V} {es : List (D × D)} (r : Rep K cl H v (.dct es)) (h : (es.all fun e => kInt e.1) = true) : ∃ a kvs, v = .ref a ∧ H a = some (.dK kvs) ∧ RepsK K cl H kvs es := by
  cases r with
  | dctK h1 h2 => exact ⟨_, _, rfl, h1, h2⟩
  | dctT h1 h0 h2 =>
    cases h2 with
    | nil => exact (h0 rfl).elim
    | cons _ _ => simp [kInt] at h
theorem rep_dctT {v : V} {es : List (D × D)} (r : Rep K cl H v (.dct es)) (h0 : es ≠ []) (h : (es.all fun e => kTup e.1) = true) : ∃ a kvs, v = .ref a ∧ H a = some (.dT kvs) ∧ RepsT K cl H kvs es := by
  cases r with
  | dctT h1 h0 h2 => exact ⟨_, _, rfl, h1, h2⟩
  | dctK h1 h2 =>
    cases h2 with
    | nil => exact (h0 rfl).elim
    | cons _ _ => simp [kTup] at h
theorem rep_dclI {v : V} {es : List (D × D)} (r : Rep K cl H v (.dcl es)) (h : (es.all fun e => kInt e.1) = true) : ∃ a o kvs, v = .ref a ∧ H a = some (.frz o (.dK kvs)) ∧ RepsK K cl H kvs es := by
  cases r with
  | dclK h1 h2 => exact ⟨_, _, _, rfl, h1, h2⟩
  | dclT h1 h0 h2 =>
    cases h2 with
    | nil => exact (h0 rfl).elim
    | cons _ _ => simp [kInt] at h
theorem rep_dclT {v : V} {es : List (D × D)} (r : Rep K cl H v (.dcl es)) (h0 : es ≠ []) (h : (es.all fun e => kTup e.1) = true) : ∃ a o kvs, v = .ref a ∧ H a = some (.frz o (.dT kvs)) ∧ RepsT K cl H kvs es := by
  cases r with
  | dclT h1 h0 h2 => exact ⟨_, _, _, rfl, h1, h2⟩
  | dclK h1 h2 =>
    cases h2 with
    | nil => exact (h0 rfl).elim
    | cons _ _ => simp [kTup] at h
theorem reps_ints_eq : ∀ {k : List Int} {xs : List V}, Reps K cl H xs (k.map .int) → xs = k.map V.int
  | [], _, .nil => rfl
  | i :: k, _, .cons r t => by
    cases r; rw [reps_ints_eq t]; rfl
theorem kV_ints (k : List Int) : (k.map Sum.inl).map kV = k.map V.int := by rw [List.map_map]; rfl
theorem rep_key {v : V} {k : List Int} (r : Rep K cl H v (.tup (k.map .int))) : ∃ b, v = .ref b ∧ H b = some (.tup ((k.map Sum.inl).map kV)) := by
  cases r with
  | tup s z rs => rw [reps_ints_eq rs] at s; exact ⟨_, rfl, by rw [kV_ints]; exact s⟩
def DGo (K : PySem.W.Frag) (cl : Glb) (Hv H : Hp) (a : Addr) (y : V) : Option D → Prop
  | some d => ∃ v, DGet H a y (some v) ∧ Rep K cl Hv v d
  | none => DGet H a y none
theorem dget_of {Hv : Hp} {x y : V} {es : List (D × D)} {k : D} {o : Option D} (vw : Vw cl Hv H) (rx : Rep K cl Hv x (.dct es)) (ry : Rep K cl Hv y k) (h : oGetK es k = some o) : ∃ a, x = .ref a ∧ DGo K cl Hv H a y o := by
  cases k with
  | int i =>
    simp only [oGetK] at h
    split at h
    · rename_i hal
      cases h
      obtain ⟨a, kvs, rfl, h1, h2⟩ := rep_dctI rx hal
      refine ⟨a, rfl, ?_⟩
      cases ry
      have hv := h2.val (i := i)
      have g := DGet.k (k := Sum.inl i) (vw.s _ _ h1 rfl)
      cases e : findE (isKI i) es with
      | none => rw [e] at hv; rw [show valV kvs (Sum.inl i) = none from hv] at g; exact g
      | some d =>
        rw [e] at hv
        obtain ⟨v, hv1, hv2⟩ := hv
        rw [hv1] at g
        exact ⟨v, g, hv2⟩
    · cases h
  | tup xs =>
    simp only [oGetK] at h
    split at h
    · rename_i k hk
      split at h
      · rename_i hal
        cases h
        have ek := intsD_eq hk
        subst ek
        obtain ⟨a, kvs, rfl, h1, h2⟩ := rep_dctT rx hal.1 hal.2
        obtain ⟨b, rfl, hb⟩ := rep_key ry
        refine ⟨a, rfl, ?_⟩
        have hv := h2.val (i := k)
        have g := DGet.t (vw.s _ _ h1 rfl) (vw.s _ _ hb rfl)
        cases e : findE (isKT k) es with
        | none => rw [e] at hv; rw [show valV kvs (k.map Sum.inl) = none from hv] at g; exact g
        | some d =>
          rw [e] at hv
          obtain ⟨v, hv1, hv2⟩ := hv
          rw [hv1] at g
          exact ⟨v, g, hv2⟩
      · cases h
    · cases h
  | _ => cases h
theorem dgel_of {Hv : Hp} {x y : V} {es : List (D × D)} {k : D} {o : Option D} (vw : Vw cl Hv H) (rx : Rep K cl Hv x (.dcl es)) (ry : Rep K cl Hv y k) (h : oGetK es k = some o) : ∃ a, x = .ref a ∧ DGo K cl Hv H a y o := by
  cases k with
  | int i =>
    simp only [oGetK] at h
    split at h
    · rename_i hal
      cases h
      obtain ⟨a, oo, kvs, rfl, h1, h2⟩ := rep_dclI rx hal
      refine ⟨a, rfl, ?_⟩
      cases ry
      have hv := h2.val (i := i)
      have g : DGet H a (kV (Sum.inl i)) (valV kvs (Sum.inl i)) := .inl ⟨kvs, Sum.inl i, .inr ⟨oo, vw.s _ _ h1 rfl⟩, rfl, rfl⟩
      cases e : findE (isKI i) es with
      | none => rw [e] at hv; rw [show valV kvs (Sum.inl i) = none from hv] at g; exact g
      | some d =>
        rw [e] at hv
        obtain ⟨v, hv1, hv2⟩ := hv
        rw [hv1] at g
        exact ⟨v, g, hv2⟩
    · cases h
  | tup xs =>
    simp only [oGetK] at h
    split at h
    · rename_i k hk
      split at h
      · rename_i hal
        cases h
        have ek := intsD_eq hk
        subst ek
        obtain ⟨a, oo, kvs, rfl, h1, h2⟩ := rep_dclT rx hal.1 hal.2
        obtain ⟨b, rfl, hb⟩ := rep_key ry
        refine ⟨a, rfl, ?_⟩
        have hv := h2.val (i := k)
        have g : DGet H a (.ref b) (valV kvs (k.map Sum.inl)) := .inr ⟨kvs, k.map Sum.inl, b, .inr ⟨oo, vw.s _ _ h1 rfl⟩, rfl, vw.s _ _ hb rfl, rfl⟩
        cases e : findE (isKT k) es with
        | none => rw [e] at hv; rw [show valV kvs (k.map Sum.inl) = none from hv] at g; exact g
        | some d =>
          rw [e] at hv
          obtain ⟨v, hv1, hv2⟩ := hv
          rw [hv1] at g
          exact ⟨v, g, hv2⟩
      · cases h
    · cases h
  | _ => cases h
end
section
variable {X : Cx} {W : WX} {cl : Glb} {a b : Expr} {fa fb : DE} {pos : Pos}
theorem PE.or {e : Expr} {t1 t2 : TE} (h1 : PE X e t1) (h2 : PE X e t2) : PE X e (fun σ H Q => t1 σ H Q ∨ t2 σ H Q) :=
  ⟨fun pins s σ H Q I h => h.elim (fun h => h1.run pins s σ H Q I h) fun h => h2.run pins s σ H Q I h⟩
theorem oIx_not {a b : D} (h : ∀ es, a ≠ .dct es) (h' : ∀ es, a ≠ .dcl es) : oIx a b = oIxS a b := by
  cases a <;> first | exact (h _ rfl).elim | exact (h' _ rfl).elim | (cases b <;> rfl)
theorem se_ixD (hu : X.A.units + 65 < cLine) (ha : SE X W cl a fa) (hb : SE X W cl b fb) (hs : PlainIx b := by intro _ _; rfl) : SE X W cl (.Subscript a b pos) (dBin oIx fa fb) := by
  obtain ⟨t1, p1, r1⟩ := se_ix (pos := pos) ha hb hs
  obtain ⟨ta, pa, ha⟩ := ha
  obtain ⟨tb, pb, hb⟩ := hb
  refine ⟨_, PE.or p1 (pe_dget (by omega) pa pb hs), fun Hv H σ ρ Q vw er pv => ?_⟩
  by_cases hd : ∃ es, fa ρ = .ok (.dct es)
  · obtain ⟨es, hd⟩ := hd
    right
    refine ha Hv H σ ρ _ vw er (bindP pv fun x Hv1 H1 ex e1 pv1 v rv => ?_)
    rw [hd] at ex
    cases ex
    refine hb Hv1 H1 σ ρ _ e1.vh (er.mono e1.vv) (bindP pv1 fun y Hv2 H2 _ e2 pv2 u ru => ?_)
    obtain ⟨d, ed, q⟩ := ofO_ok pv2
    simp only [oIx, Option.bind_eq_some_iff, id_eq] at ed
    obtain ⟨o, h1, rfl⟩ := ed
    obtain ⟨ad, rfl, v', g, rv'⟩ := dget_of e2.vh (rv.mono e2.vv) ru h1
    exact ⟨ad, v', rfl, g, q _ _ (Ext.refl e2.vh) v' rv'⟩
  by_cases hd' : ∃ es, fa ρ = .ok (.dcl es)
  · obtain ⟨es, hd⟩ := hd'
    right
    refine ha Hv H σ ρ _ vw er (bindP pv fun x Hv1 H1 ex e1 pv1 v rv => ?_)
    rw [hd] at ex
    cases ex
    refine hb Hv1 H1 σ ρ _ e1.vh (er.mono e1.vv) (bindP pv1 fun y Hv2 H2 _ e2 pv2 u ru => ?_)
    obtain ⟨d, ed, q⟩ := ofO_ok pv2
    simp only [oIx, Option.bind_eq_some_iff, id_eq] at ed
    obtain ⟨o, h1, rfl⟩ := ed
    obtain ⟨ad, rfl, v', g, rv'⟩ := dgel_of e2.vh (rv.mono e2.vv) ru h1
    exact ⟨ad, v', rfl, g, q _ _ (Ext.refl e2.vh) v' rv'⟩
  · left
    refine r1 Hv H σ ρ Q vw er ?_
    have e : dBin oIx fa fb ρ = dBin oIxS fa fb ρ := by
      unfold dBin
      cases h : fa ρ with
      | err c => rfl
      | bad => rfl
      | ok x =>
        show ((fb ρ).bind fun b => ofO (oIx x b)) = (fb ρ).bind fun b => ofO (oIxS x b)
        congr 1
        funext y
        rw [oIx_not (fun es e => hd ⟨es, by rw [h, e]⟩) fun es e => hd' ⟨es, by rw [h, e]⟩]
    rw [← e]
    exact pv
end
end Sm
namespace Sm
open PySem PySem.Spec L2
section
variable {X : Cx} {W : WX} {cl : Glb}
theorem prd_get {α β : Type} {F : α → β → Prop} : ∀ {l : List α} {m : List β} {j : Nat} {x : β}, Paired F l m → m[j]? = some x → ∃ y, l[j]? = some y ∧ F y x
  | _, _, _, _, .nil, e => by simp at e
  | _, _, 0, _, .cons h _, e => by simp at e; subst e; exact ⟨_, rfl, h⟩
  | _, _, j + 1, _, .cons _ t, e => by
    obtain ⟨y, h1, h2⟩ := prd_get (j := j) t (by simpa using e)
    exact ⟨y, by simpa using h1, h2⟩
abbrev PT (K : PySem.W.Frag) (H : Hp) : List Addr → List (List Key × Addr × V) → Prop := Paired fun p kv => SqT K H p [.ref kv.2.1, kv.2.2] ∧ H kv.2.1 = some (.tup (kv.1.map kV))
end
end Sm
namespace Sm
open PySem PySem.Spec L2
def dGet2 (fx fk fz : DE) : DE := fun ρ => (fx ρ).bind fun x => match x with
  | .dct es => (fk ρ).bind fun k => (fz ρ).bind fun z => match oGetK es k with
    | some o => .ok (o.getD z)
    | none => .bad
  | _ => .bad
section
variable {X : Cx} {W : WX} {cl : Glb} {Hv0 H0 Hv Hv1 H : Hp} {own own1 : List Nat} {Dn : Ends} {pos p apos npos spos cpos : Pos} {a b c e f o : Expr} {es : List Expr} {fa fb fc : DE} {g : DA}
theorem rep_isD {K : PySem.W.Frag} {x : V} {es : List (D × D)} (vw : Vw cl Hv H) (r : Rep K cl Hv x (.dct es)) : ∃ a, x = .ref a ∧ IsD H a := by
  cases r with
  | dctK h _ => exact ⟨_, rfl, .inl ⟨_, .inl (vw.s _ _ h rfl)⟩⟩
  | dctT h _ _ => exact ⟨_, rfl, .inr ⟨_, .inl (vw.s _ _ h rfl)⟩⟩
theorem se_get2 (hu : X.A.units + 65 < cLine) (ho : SE X W cl o fa) (he : SE X W cl e fb) (hf : SE X W cl f fc) (hbase : attributeBase o "get" X.env (eval o X.env) = eval o X.env := by rfl)
    (few : ((backTo cpos (starEach [e, f] X.env)).all (fun x => !x.1) && (backToKw cpos (keywordEach [] X.env)).all (fun x => x.1.isSome)
    && decide (([e, f] : List Expr).length + ([] : List Keyword).length + (if ([] : List Keyword).isEmpty then 0 else 1) < 30)) = true := by rfl) (line : (apos.endLine == cpos.line) = true := by rfl)
    (trees : backTo cpos (starEach [e, f] X.env) = [(false, eval e X.env), (false, eval f X.env)] := by rfl) : SE X W cl (.Call (.Attribute o "get" apos) [e, f] [] cpos) (dGet2 fa fb fc) := by
  obtain ⟨ta, pa, ha⟩ := ho
  obtain ⟨tb, pb, hb⟩ := he
  obtain ⟨tc, pc, hc⟩ := hf
  refine ⟨_, pe_dget2 (by omega) pa pb pc ⟨hbase, few, line, trees⟩, fun Hv H σ ρ Q vw er pv => ?_⟩
  refine ha Hv H σ ρ _ vw er (bindP pv fun x Hv1 H1 ex e1 pv1 v rv => ?_)
  cases x with
  | dct es => ?_
  | _ => exact pv1.elim
  obtain ⟨ad, rfl, hD⟩ := rep_isD e1.vh rv
  refine ⟨ad, rfl, hD, ?_⟩
  refine hb Hv1 H1 σ ρ _ e1.vh (er.mono e1.vv) (bindP pv1 fun k Hv2 H2 _ e2 pv2 u ru => ?_)
  refine hc Hv2 H2 σ ρ _ e2.vh ((er.mono e1.vv).mono e2.vv) (bindP pv2 fun z Hv3 H3 _ e3 pv3 t rt => ?_)
  cases hg : oGetK es k with
  | none => rw [hg] at pv3; exact pv3.elim
  | some od =>
    rw [hg] at pv3
    obtain ⟨ad', e', g⟩ := dget_of e3.vh ((rv.mono e2.vv).mono e3.vv) (ru.mono e3.vv) hg
    cases e'
    cases od with
    | none => exact ⟨none, g, pv3 _ _ (Ext.refl e3.vh) t rt⟩
    | some d =>
      obtain ⟨v', g1, g2⟩ := g
      exact ⟨some v', g1, pv3 _ _ (Ext.refl e3.vh) v' g2⟩
def dSetD (i : Nat) : DS := fun ρ => .nx (ρ.set i (some (.dct [])))
theorem ss_setD {i : Nat} {x : Str} {p' dp : Pos} (gd : Gd X W) (hi : X.N[i]? = some x := by rfl) (hx : Loc X.env.scope x := by first | exact Or.inl rfl | exact Or.inr rfl) (hs : swapsWith (.Dict [] [] dp) (some (.Name x p')) pos.line X.env = pure false := by rfl)
    (hf : X.fn x = true ∨ X.env.scope.names.lookup x = some .local := by first | exact .inl rfl | exact .inr rfl | assumption) : SS X W cl own (i :: nots own i) (.Assign [.Name x p'] (.Dict [] [] dp) pos) (dSetD i) := by
  refine ⟨_, ps_set gd.nd hi hx pe_dnewK hs hf, fun Hv0 H0 ρ σ Hv H Dn sr hl po => ?_⟩
  intro q hq
  exact po _ Hv _ (sr.setOwnO (o := .dK []) (d := .dct []) hq (.dct (Nat.zero_le _) .nil) (ilt hi hl)) (Sam.refl _) (by rw [List.length_set]; exact hl)
def dPutD (own : List Nat) (i : Nat) (fk fe : DE) : DS := fun ρ => (fe ρ).to ρ fun d => if pure' d then (fk (mask own ρ)).to ρ fun k => match ρ[i]?, k with
  | some (some (.dct es)), .int j => if es.length < 1000 ∧ es.all fun e => kInt e.1 then .nx (ρ.set i (some (.dct (putE (isKI j) (.int j) d es)))) else .bad
  | _, _ => .bad else .bad
theorem RepsK.length {K : PySem.W.Frag} {H : Hp} : ∀ {kvs : List (L2.Key × V)} {es : List (D × D)}, RepsK K cl H kvs es → kvs.length = es.length
  | _, _, .nil => rfl
  | _, _, .cons _ t => by rw [List.length_cons, List.length_cons, RepsK.length t]
theorem ss_putD {i : Nat} {x : Str} (hu : X.A.units + 65 < cLine) (hk : SE X W cl b fb) (ha : SE X W cl a fa) (ho : own.contains i = true := by rfl) (hN : X.N[i]? = some x := by rfl) (hv : Vis X.env.scope x := by first | exact Or.inl rfl | exact Or.inr (Or.inl rfl)) (hd : (x == ("__debug__" : Str)) = false := by decide)
    (hcd : (x == ("__classdict__" : Str)) = false := by decide)
    (hs : swapsWith a (some (.Subscript (.Name x npos) b spos)) pos.line X.env = pure false := by rfl) :
    SS X W cl own own (.Assign [.Subscript (.Name x npos) b spos] a pos) (dPutD own i fb fa) := by
  obtain ⟨ta, pa, ha⟩ := ha
  obtain ⟨tb, pb, hb⟩ := hk
  refine ⟨_, ps_dput (by omega) (pe_var hN hv hd hcd) pb pa hs, fun Hv0 H0 ρ σ Hv H Dn sr hl po => ?_⟩
  have hi : i ∈ own := by simpa using ho
  obtain ⟨s1, s2⟩ := sr.freeze (own' := []) (by simp)
  refine ha _ H σ ρ _ s1.ext.vh s1.er (use_full sr hl po fun d Hv1 H' _ e sr1 sr2 sm po' v r => ?_)
  split at po'
  · rename_i hp
    have rv := pure_lift sr2.ext.vh sr1.ext.vh r hp
    obtain ⟨q, d0, e1, e2, e3, e4, o, e6, eo⟩ := sr2.ow i hi
    refine ⟨.ref q, e2, ?_⟩
    refine hb _ H' σ _ _ sr2.ext.vh sr2.er (use_mask sr2 hl po' fun k Hv2 H2 _ ex sr3 po2 u ru => ?_)
    obtain ⟨q', d0', g1, g2, g3, g4, o', g6, go⟩ := sr3.ow i hi
    rw [e2] at g2; cases g2
    rw [g1] at po2
    cases d0' with
    | dct es0 => ?_
    | _ => exact po2.elim
    obtain ⟨kvs, rfl, g7, g8⟩ := go.ofD
    cases k with
    | int j => ?_
    | _ => exact po2.elim
    cases ru
    simp only at po2
    split at po2
    · rename_i hz
      have hlen : kvs.length < sizeLine := by rw [g8.length]; exact small1000 (Nat.le_of_lt hz.1)
      refine ⟨q, _, rfl, DPut.k (k := Sum.inl j) g6 hlen, ?_⟩
      refine po2 σ Hv2 _ (sr3.writeO hi g1 e2 (.dct ?_ (g8.put (rv.mono ex.vv)))) (Sam.refl _) hl
      exact Nat.le_trans (length_putK ..) hlen
    · exact po2.elim
  · exact po'.elim
end
end Sm
namespace Sm
open PySem PySem.Spec L2
theorem Ext.grow {cl : Glb} {Hv H H' : Hp} (vw : Vw cl Hv H) (g : ∀ b o, H b = some o → H' b = some o) : Ext cl Hv H (lift Hv H H') H' := by
  refine ext_lift vw (Hv' := H') ⟨fun b o h _ => g b o h, fun b o h _ => g b o h, Vw.refl (vw.tab.ext fun b o e => g b o e), fun b o h n => ?_, fun b h => ?_, fun b ps h => ⟨ps, g b _ h⟩⟩
  · rw [h] at n; cases n
  · cases q : H b with
    | none => rfl
    | some o => rw [g b o q] at h; cases h
mutual
theorem reads_pure {h : Heap} : ∀ (d : D) {v : Value} {as : List Addr}, pure' d = true → Reads h v (toPy d) as → as = []
  | .non, _, _, _, r => by simp only [toPy] at r; cases r; rfl
  | .bl _, _, _, _, r => by simp only [toPy] at r; cases r; rfl
  | .int _, _, _, _, r => by simp only [toPy] at r; cases r; rfl
  | .str _, _, _, _, r => by simp only [toPy] at r; cases r; rfl
  | .tup xs, _, _, p, r => by
    simp only [toPy] at r
    simp only [pure'] at p
    cases r with
    | tuple _ _ _ h4 => exact readsAll_pure xs p h4
  | .lst _, _, _, p, _ => by simp [pure'] at p
  | .dct _, _, _, p, _ => by simp [pure'] at p
  | .exc _, _, _, p, _ => by simp [pure'] at p
  | .scr _, _, _, p, _ => by simp [pure'] at p
  | .scr0, _, _, p, _ => by simp [pure'] at p
  | .fnv, _, _, p, _ => by simp [pure'] at p
  | .obj _, _, _, p, _ => by simp [pure'] at p
  | .dcl _, _, _, p, _ => by simp [pure'] at p
  | .scr1, _, _, p, _ => by simp [pure'] at p
theorem readsAll_pure {h : Heap} : ∀ (ds : List D) {vs : List Value} {as : List Addr}, pures ds = true → ReadsAll h vs (toPys ds) as → as = []
  | [], _, _, _, r => by simp only [toPys] at r; cases r; rfl
  | d :: ds, _, _, p, r => by
    simp only [toPys] at r
    simp only [pures, Bool.and_eq_true] at p
    cases r with
    | cons h1 h2 => rw [reads_pure d p.1 h1, readsAll_pure ds p.2 h2]; rfl
end
theorem pairs_get {P : Program} {w : World} : ∀ {es : List DictEntry} {kvs : List (L2.Key × Value)} {j : Nat} {e : DictEntry}, PySem.Pairs (mixKind P w) es kvs → es[j]? = some e → ∃ kv, kvs[j]? = some kv ∧ keyIs kv.1 e.key = true ∧ e.val = kv.2
  | _, _, _, _, .nil, h => by simp at h
  | _, _, 0, _, .cons h1 h2 _, h => by simp at h; subst h; exact ⟨_, rfl, h1, h2⟩
  | _, _, j + 1, _, .cons _ _ t, h => by
    obtain ⟨kv, g1, g2⟩ := pairs_get (j := j) t (by simpa using h)
    exact ⟨kv, by simpa using g1, g2⟩
abbrev rowP (b : Int × V × D) : D := .tup [.int b.1, b.2.2]
theorem each_zip {R : Value → Addr × Int × V × D → Prop} : ∀ (as : List Addr) (bs : List (Int × V × D)), as.length = bs.length → (∀ (j : Nat) (a : Addr) (b : Int × V × D), as[j]? = some a → bs[j]? = some b → R (.ref a) (a, b)) → PySem.W.EachIs R (as.map Value.ref) (as.zip bs)
  | [], [], _, _ => .nil
  | a :: as, b :: bs, hl, h => .cons (h 0 a b rfl rfl) (each_zip as bs (by simpa using hl) fun j a' b' h1 h2 => h (j + 1) a' b' (by simpa using h1) (by simpa using h2))
  | [], _ :: _, hl, _ => by simp at hl
  | _ :: _, [], hl, _ => by simp at hl
theorem each_refs2 : ∀ {vs : List Value} {L : List (Addr × Int × V × D)}, PySem.W.EachIs (fun v (q : Addr × Int × V × D) => v = .ref q.1) vs L → vs = L.map fun q => Value.ref q.1
  | _, _, .nil => rfl
  | _, _, .cons h t => by rw [h, each_refs2 t]; rfl
section
variable {X : Cx} {W : WX} {cl : Glb}
open PySem.W PyProof.Rows
def rItemsK : V → List V → Hp → VK → Prop := fun x xs H Q => ∃ (a : Addr) (kvs : List (L2.Key × V)), x = .ref a ∧ xs = [] ∧ H a = some (.dK kvs) ∧ ∀ p, H p = none → Q (.ref p) (upd H p (L2.DX.itemsO p a))
theorem mt_itemsK : MtR X "dict.items" rItemsK := by
  intro pins s σ H x xs v us Q I rx rxs h
  obtain ⟨a, kvs, rfl, rfl, ha, q⟩ := h
  cases rx
  cases rxs
  obtain ⟨z, hd, vs, rel, o, es, ep, ho, hx, hdat, _⟩ := dk_of I.hok ha
  refine _root_.DT.callItems (es := es) (ep := ep) hd ⟨o, ho, hx, hdat⟩ ?_
  exact ⟨.ref s.heap.objs.size, upd H s.heap.objs.size (L2.DX.itemsO s.heap.objs.size a), I.laid (t' := s.toks) (fun b u e => Heap.get?_push_of_some _ e) (Nat.le_refl _) (L2.DX.itemsO_ok (Heap.get?_push_size _ rfl)), rfl, q _ (I.hok.fresh (Nat.le_refl _))⟩
def rSortK (K : PySem.W.Frag) : List V → Hp → VK → Prop := fun vs H Q => ∃ (p a : Addr) (bs : List (Int × V × D)), vs = [.ref p] ∧ H p = some (L2.DX.itemsO p a) ∧ H a = some (.dK (bs.map fun b => (Sum.inl b.1, b.2.1))) ∧ (∀ b ∈ bs, Dp K H b.2.1 (toPy b.2.2) ∧ pure' b.2.2 = true) ∧
  AllAlike (bs.map fun b => toPy (rowP b)) ∧ (∀ b ∈ bs, (toPy (rowP b)).depth ≤ 64) ∧
  ∀ (H' : Hp) (l : Addr) (ps : List (Addr × Int × V × D)), (∀ b o, H b = some o → H' b = some o) → H l = none → ps.length ≤ sizeLine → (∀ z ∈ ps, z.2 ∈ bs) → ps.map (fun z => rowP z.2) = (bs.map rowP).mergeSort dle → H' l = some (.lst (ps.map fun z => V.ref z.1)) →
    (∀ z ∈ ps, H' z.1 = some (.tup [.int z.2.1, z.2.2.1])) → Q (.ref l) H'
theorem cr_sortK (hc : X.calm = true) (hu : X.A.units + 100 < cLine) : CallR X (.builtin "sorted") (rSortK X.K) := by
  intro pins s σ H xs us Q I r h
  obtain ⟨p, a, bs, rfl, hp, ha, hv, hal, hdp, q⟩ := h
  obtain rfl := Vals.ref1 r
  have view : s.heap.IsItemsView p a := (show ObjOk X.prog X.w H s.heap p (L2.DX.itemsO p a) from I.hok p _ hp).1
  obtain ⟨z, hd, kvs, rel, o, es, ep, ho, hx, hdat, hko, hpr, hn⟩ := dk_of I.hok ha
  have l1 : bs.length = kvs.length := by have := Paired.length rel; rwa [List.length_map] at this
  have l2 : es.size = kvs.length := by have := hpr.length; rwa [Array.length_toList] at this
  rw [List.length_map] at z
  refine _root_.DT.sortedI (es := es) (ep := ep) (I.ok.hd hc) view ⟨o, ho, hx, hdat⟩ (by omega) fun h' tk as hk hlt hl hG => ?_
  have lab : as.length = bs.length := by omega
  have nd : as.Nodup := List.Pairwise.imp (fun h => Nat.ne_of_lt h) hG.rise
  have pr : ∀ (j : Nat) (c : Addr) (b : Int × V × D), as[j]? = some c → bs[j]? = some b → ∃ (t : Tok) (u : Value), RelV b.2.1 u ∧ h'.get? c = some { cls := .type "tuple", data := .seq #[Value.int b.1 t, u] } := by
    intro j c b hj hb
    obtain ⟨en, he, hg⟩ := hG.pairs j c hj
    obtain ⟨kv, k1, k2, k3⟩ := pairs_get hpr (by rw [Array.getElem?_toList]; exact he)
    obtain ⟨y, y1, y2, y3⟩ := prd_get rel k1
    rw [List.getElem?_map, hb] at y1
    cases y1
    rw [← show Sum.inl b.1 = kv.1 from y2] at k2
    obtain ⟨t, ht⟩ := Value.isInt_shape (k := b.1) (v := en.key) k2
    refine ⟨t, kv.2, y3, ?_⟩
    rw [hg, ht, k3]
  have hob : (h'.push { cls := .type "list", data := .seq (as.map Value.ref).toArray }).get? h'.objs.size = some (seqObj "list" (as.map Value.ref).toArray 0) := Heap.get?_push_size _ rfl
  have ka : ∀ b o, h'.get? b = some o → (h'.push { cls := .type "list", data := .seq (as.map Value.ref).toArray }).get? b = some o := fun b o e => Heap.get?_push_of_some _ e
  have ne0 : ∀ b o, h'.get? b = some o → b ≠ h'.objs.size := fun b o e => Nat.ne_of_lt (Heap.lt_size e)
  generalize hh2 : h'.push { cls := .type "list", data := .seq (as.map Value.ref).toArray } = h2 at hob ka ⊢
  have rd : ∀ (j : Nat) (c : Addr) (b : Int × V × D), as[j]? = some c → bs[j]? = some b → Reads h2 (.ref c) (toPy (rowP b)) [] := by
    intro j c b hj hb
    obtain ⟨t, u, ru, hg⟩ := pr j c b hj hb
    obtain ⟨hD, hpu⟩ := hv b (List.mem_of_getElem? hb)
    obtain ⟨as', rd⟩ := Dp.reads I _ _ _ hD ru
    have e := reads_pure b.2.2 hpu rd
    subst e
    have rd2 : Reads h2 u (toPy b.2.2) [] := PyProof.Rows.Reads.keeps (fun x o e => ka x o (hk x o e)) rd
    have : toPy (rowP b) = .tuple [.int b.1, toPy b.2.2] := by simp [toPy, toPys]
    rw [this]
    exact .tuple (as := []) (ka _ _ hg) rfl rfl (.cons (as := []) (bs := []) (.int _ _) (.cons (as := []) (bs := []) rd2 .nil))
  refine list_sort_data2 (A := X.A.in1) (s := { s with heap := h2, toks := tk }) (vs := as.map Value.ref) (bs := as.zip bs) (β := Addr × Int × V × D) (enc := fun q => toPy (rowP q.2)) (R := fun v q => v = .ref q.1) hob
    (each_zip as bs lab fun _ _ _ _ _ => rfl) (each_zip as bs lab fun j c b h1 h2 => ⟨[], rd j c b h1 h2, by simp⟩) ?_ ?_ (by rw [List.length_zip]; omega) (fun b hb => ?_) fun out hlen eo => ?_
  · intro d hd d' hd'
    obtain ⟨q1, m1, rfl⟩ := List.mem_map.mp hd
    obtain ⟨q2, m2, rfl⟩ := List.mem_map.mp hd'
    exact hal _ (List.mem_map.mpr ⟨q1.2, (List.of_mem_zip m1).2, rfl⟩) _ (List.mem_map.mpr ⟨q2.2, (List.of_mem_zip m2).2, rfl⟩)
  · refine .inl fun d hd => ?_
    obtain ⟨q1, m1, rfl⟩ := List.mem_map.mp hd
    exact ⟨_, by rw [toPy]⟩
  · have := hdp b.2 (List.of_mem_zip hb).2
    show X.A.units + 1 + 1 + _ < cLine
    omega
  have eq : (dataLe false fun q : Addr × Int × V × D => toPy (rowP q.2)) = fun x y => dle (rowP x.2) (rowP y.2) := by
    funext x y
    rw [dataLe_eq]
    rfl
  rw [eq] at eo
  have eout := each_refs2 eo
  show EP X pins σ Q (.ref h'.objs.size) { s with heap := sortedHeap h2 h'.objs.size (as.map Value.ref) out.toArray, toks := tk }
  have kF : ∀ b o, b ≠ h'.objs.size → h2.get? b = some o → (sortedHeap h2 h'.objs.size (as.map Value.ref) out.toArray).get? b = some o := fun b o hb e => (PyProof.Rows.sortedHeap_old hb (Heap.lt_size e)).trans e
  have kS : ∀ b o, s.heap.get? b = some o → (sortedHeap h2 h'.objs.size (as.map Value.ref) out.toArray).get? b = some o := fun b o e => kF b o (ne0 _ _ (hk b o e)) (ka _ _ (hk b o e))
  obtain ⟨eF, heF⟩ := PyProof.Rows.sortedHeap_at (vs := as.map Value.ref) (out := out.toArray) hob
  have I1 : Inv X pins σ H { s with heap := sortedHeap h2 h'.objs.size (as.map Value.ref) out.toArray, toks := tk } := I.kept (t' := tk) kS
  have hn0 : H h'.objs.size = none := I.hok.fresh (Nat.le_of_lt hlt)
  let zs := (as.zip bs).mergeSort fun x y => dle (rowP x.2) (rowP y.2)
  have mz : ∀ z ∈ zs, ∃ j : Nat, as[j]? = some z.1 ∧ bs[j]? = some z.2 := by
    intro z' hz'
    obtain ⟨j, hj⟩ := List.mem_iff_getElem?.mp (List.mem_mergeSort.mp hz')
    exact ⟨j, List.getElem?_zip_eq_some.mp hj⟩
  have hlen2 : (zs.map fun z => V.ref z.1).length ≤ sizeLine := by
    rw [List.length_map, List.length_mergeSort, List.length_zip]; omega
  have rv : Vals (zs.map fun z => V.ref z.1) out := by
    rw [eout]
    exact vals_maps (fun z : Addr × Int × V × D => V.ref z.1) (fun z => Value.ref z.1) zs fun _ _ => rfl
  have I2 : Inv X pins σ (upd H h'.objs.size (.lst (zs.map fun z => V.ref z.1))) { s with heap := sortedHeap h2 h'.objs.size (as.map Value.ref) out.toArray, toks := tk } :=
    I1.take (h' := sortedHeap h2 h'.objs.size (as.map Value.ref) out.toArray) (t' := tk) (fun b ob _ e => e) (I.fpOk (Nat.le_of_lt hlt) hn0) ⟨hlen2, out, eF, rv, heF⟩
  obtain ⟨H2, I3, g, qt⟩ := L2.DX.takeT (P := fun b vs => ∃ (j : Nat) (e : Int × V × D), as[j]? = some b ∧ bs[j]? = some e ∧ vs = [.int e.1, e.2.1]) I as _ I2 nd fun b hb => by
    obtain ⟨j, hj⟩ := List.mem_iff_getElem?.mp hb
    have hjl : j < bs.length := by rw [← lab]; exact (List.getElem?_eq_some_iff.mp hj).1
    have hbj : bs[j]? = some bs[j] := List.getElem?_eq_getElem hjl
    obtain ⟨t, u, ru, hg⟩ := pr j b _ hj hbj
    have hbl : s.heap.objs.size ≤ b := Nat.le_of_lt (hG.above b hb)
    refine ⟨hbl, ?_, [.int bs[j].1, bs[j].2.1], ⟨j, _, hj, hbj, rfl⟩, fun H3 => ⟨by show 2 ≤ sizeLine; decide, [Value.int bs[j].1 t, u], .cons ⟨t, rfl⟩ (.cons ru .nil), ⟨_, kF _ _ (ne0 _ _ hg) (ka _ _ hg), rfl, 0, rfl⟩⟩⟩
    rw [upd_ne (ne0 _ _ hg)]
    exact I.hok.fresh hbl
  have gr : ∀ b o, H b = some o → H2 b = some o := fun b o e => g b o (by rw [upd_ne (ne_of_none e hn0)]; exact e)
  have esort : zs.map (fun z => rowP z.2) = (bs.map rowP).mergeSort dle := by
    show ((as.zip bs).mergeSort fun x y => dle (rowP x.2) (rowP y.2)).map (fun z => rowP z.2) = _
    rw [List.map_mergeSort (s := dle) (f := fun z : Addr × Int × V × D => rowP z.2) (fun a _ b _ => rfl)]
    congr 1
    have m2 : (as.zip bs).map (·.2) = bs := List.map_snd_zip (by omega)
    have m3 := List.map_map (f := fun z : Addr × Int × V × D => z.2) (g := rowP) (l := as.zip bs)
    rw [show (as.zip bs).map (fun z => z.2) = bs from m2] at m3
    exact m3.symm
  refine ⟨.ref h'.objs.size, H2, I3, rfl, q H2 h'.objs.size zs gr hn0 (by rw [List.length_map] at hlen2; exact hlen2) (fun z' hz' => ?_) esort (g _ _ upd_same) fun z' hz' => ?_⟩
  · obtain ⟨i, i1, i2⟩ := mz z' hz'
    exact List.mem_of_getElem? i2
  · obtain ⟨i, i1, i2⟩ := mz z' hz'
    obtain ⟨vs, ⟨j, e, j1, j2, ev⟩, hH⟩ := qt z'.1 (List.mem_of_getElem? i1)
    have eij : i = j := (List.getElem?_inj (List.getElem?_eq_some_iff.mp i1).1 nd).mp (i1.trans j1.symm)
    subst eij
    have ee : e = z'.2 := Option.some.inj (j2.symm.trans i2)
    rw [ev, ee] at hH
    exact hH
def kvsOk (es : List (D × D)) : Bool := (es.all fun e => kInt e.1) && (es.all fun e => pure' e.2) && srtOk (es.map fun e => .tup [e.1, e.2])
def oSortItems : D → Option D
  | .dct es => if kvsOk es then some (.lst (msort dle (es.map fun e => D.tup [e.1, e.2]))) else none
  | _ => none
theorem repsK_bs {K : PySem.W.Frag} {H : Hp} : ∀ {kvs : List (L2.Key × V)} {es : List (D × D)}, RepsK K cl H kvs es → ∃ bs : List (Int × V × D), kvs = bs.map (fun b => (Sum.inl b.1, b.2.1)) ∧ es = bs.map (fun b => (.int b.1, b.2.2)) ∧ ∀ b ∈ bs, Rep K cl H b.2.1 b.2.2
  | _, _, .nil => ⟨[], rfl, rfl, by simp⟩
  | _, _, .cons (i := i) (v := v) (d := d) h t => by
    obtain ⟨bs, e1, e2, e3⟩ := repsK_bs t
    refine ⟨(i, v, d) :: bs, by rw [e1]; rfl, by rw [e2]; rfl, fun b hb => ?_⟩
    rcases List.mem_cons.mp hb with rfl | hb
    · exact h
    · exact e3 b hb
theorem se_sortItems {o : Expr} {fa : DE} {p pos apos cpos : Pos} (hc : X.calm = true) (hu : X.A.units + 100 < cLine) (ha : SE X W cl o fa) (hm1 : X.mg "sorted" = none) (hg1 : Gl X "sorted" := by rfl)
    (hbase : attributeBase o "items" X.env (eval o X.env) = eval o X.env := by rfl) (hline : (apos.endLine == cpos.line) = true := by rfl)
    (he' : starEach [Expr.Call (.Attribute o "items" apos) [] [] cpos] X.env = (false, eval (Expr.Call (.Attribute o "items" apos) [] [] cpos) X.env) :: starEach [] X.env := by rfl) (hpl' : (backTo pos (starEach [] X.env)).any (·.1) = false := by rfl) :
    SE X W cl (.Call (.Name "sorted" p) [.Call (.Attribute o "items" apos) [] [] cpos] [] pos) (dUn oSortItems fa) := by
  obtain ⟨ta, pa, ha⟩ := ha
  have inner := pe_bm0 (apos := apos) (cpos := cpos) PySem.F.plainAttrs_dict PySem.F.slot_dict_items PySem.F.type_dict_items mt_itemsK pa hbase hline
  refine ⟨_, pe_callB (x := "sorted") (cr_sortK hc hu) hg1 hm1 (by decide +kernel) (pa_cons inner pa_nil he') (by decide) (by decide) he' hpl', ?_⟩
  intro Hv H σ ρ Q vw er pv
  refine ha Hv H σ ρ _ vw er (bindP pv fun x Hv1 H1 ex e1 pv1 v rv => ?_)
  obtain ⟨d, ed, q⟩ := ofO_ok pv1
  cases x with
  | dct es => ?_
  | _ => cases ed
  simp only [oSortItems, msort_eq] at ed
  split at ed
  · rename_i hok
    cases ed
    simp only [kvsOk, srtOk, Bool.and_eq_true] at hok
    obtain ⟨⟨k1, k2⟩, ⟨o1, o2⟩, o3⟩ := hok
    obtain ⟨a, kvs, rfl, hd, hr⟩ := rep_dctI rv k1
    obtain ⟨bs, rfl, rfl, hb⟩ := repsK_bs hr
    have hd1 := e1.vh.s _ _ hd rfl
    refine ⟨.inr (.inr (.inl ⟨rfl, .inl ⟨_, hd1⟩⟩)), a, _, rfl, rfl, hd1, fun p hp => ?_⟩
    have x1 := Ext.new (o := L2.DX.itemsO p a) e1.vh hp
    have emap : (bs.map fun b => (D.int b.1, b.2.2)).map (fun e => D.tup [e.1, e.2]) = bs.map rowP := by rw [List.map_map]; rfl
    rw [emap] at o1 o2 o3
    have o3' : plns 63 (bs.map rowP) = true := o3
    have pb : ∀ b ∈ bs, pln 63 (rowP b) = true := fun b hb => plns_mem o3' (List.mem_map.mpr ⟨b, hb, rfl⟩)
    have pv' : ∀ b ∈ bs, pln 62 b.2.2 = true := fun b hb => by
      have := pb b hb
      simp only [rowP, pln, plns, Bool.and_eq_true] at this
      exact this.2.1
    refine ⟨p, a, bs, rfl, upd_same, x1.hh _ _ hd1 rfl, fun b hm => ⟨(((hb b hm).mono x1.vv).mono x1.vh.s).dp (pv' b hm), ?_⟩, ?_, fun b hm => Nat.le_trans (pln_lay 63 _ (pb b hm)).2 (by decide), fun H' l ps gr hnl hzl hps es hl ht => ?_⟩
    · have := List.all_eq_true.mp k2 (.int b.1, b.2.2) (List.mem_map.mpr ⟨b, hm, rfl⟩)
      exact this
    · intro d hd d' hd'
      obtain ⟨b, mb, rfl⟩ := List.mem_map.mp hd
      obtain ⟨b', mb', rfl⟩ := List.mem_map.mp hd'
      exact List.all_eq_true.mp (List.all_eq_true.mp o1 _ (List.mem_map.mpr ⟨b, mb, rfl⟩)) _ (List.mem_map.mpr ⟨b', mb', rfl⟩)
    · have x2 := Ext.grow x1.vh gr
      have lv : ∀ c u, H' c = some u → upd H1 p (L2.DX.itemsO p a) c = none → lift (upd Hv1 p (L2.DX.itemsO p a)) (upd H1 p (L2.DX.itemsO p a)) H' c = some u := fun c u h n => by rw [lift_new n]; exact h
      have tv : ∀ c xs, H' c = some (.tup xs) → lift (upd Hv1 p (L2.DX.itemsO p a)) (upd H1 p (L2.DX.itemsO p a)) H' c = some (.tup xs) := fun c xs h => x2.vh.t c xs h
      have rr : Reps X.K cl (lift (upd Hv1 p (L2.DX.itemsO p a)) (upd H1 p (L2.DX.itemsO p a)) H') (ps.map fun z => V.ref z.1) ((bs.map rowP).mergeSort dle) := by
        rw [← es]
        have := reps_of (K := X.K) (cl := cl) (H := lift (upd Hv1 p (L2.DX.itemsO p a)) (upd H1 p (L2.DX.itemsO p a)) H') (ps.map fun z => (V.ref z.1, rowP z.2)) fun z hz => by
          obtain ⟨y, hy, rfl⟩ := List.mem_map.mp hz
          refine .tup (tv _ _ (ht y hy)) (by show 2 ≤ sizeLine; decide) (.cons (.int _) (.cons ?_ .nil))
          exact ((hb y.2 (hps y hy)).mono x1.vv).mono x2.vv
        rw [List.map_map, List.map_map] at this
        exact this
      have e0 : (bs.map fun b => (D.int b.1, b.2.2)).map (fun e => D.tup [e.1, e.2]) = bs.map rowP := emap
      exact q _ _ (x1.trans x2) _ (.lst (lv l _ hl hnl) (by rw [List.length_map]; exact hzl) (by rw [e0]; exact rr))
  · cases ed
end
end Sm
namespace Sm
open PySem PySem.Spec L2
section
variable {X : Cx} {W : WX} {cl : Glb} {pos p p1 p2 : Pos} {a b c e i fe : Expr} {es ns : List Expr} {fi : DE} {g : DA} {k n : Nat}
end
end Sm
namespace Sm
open PySem PySem.Spec L2 PyProof.Rows
theorem rev_pick (xs : Array Value) : ((List.range xs.size).filterMap fun (k : Nat) => xs[((xs.size : Int) - 1 + (k : Int) * (-1)).toNat]?) = xs.toList.reverse := by
  have gen : ∀ (l : List Nat), (∀ k ∈ l, k < xs.size) → (l.filterMap fun (k : Nat) => xs[((xs.size : Int) - 1 + (k : Int) * (-1)).toNat]?) = l.map fun k => xs.toList.reverse.getD k .none := by
    intro l
    induction l with
    | nil => intro _; rfl
    | cons k l ih =>
      intro hl
      have hk := hl k (by simp)
      have e : ((xs.size : Int) - 1 + (k : Int) * (-1)).toNat = xs.size - 1 - k := by omega
      have hk2 : k < xs.toList.reverse.length := by simpa using hk
      have e2 : xs[((xs.size : Int) - 1 + (k : Int) * (-1)).toNat]? = some (xs.toList.reverse.getD k .none) := by
        rw [e, List.getD_eq_getElem?_getD, List.getElem?_eq_getElem hk2, Option.getD_some, List.getElem_reverse]
        rw [Array.getElem?_eq_getElem (by omega)]
        simp
      rw [List.filterMap_cons, e2, List.map_cons, ih fun j hj => hl j (by simp [hj])]
  have h := gen (List.range xs.size) fun k hk => List.mem_range.mp hk
  rw [h]
  apply List.ext_getElem?
  intro i
  rw [List.getElem?_map]
  by_cases hi : i < xs.size
  · rw [List.getElem?_range hi]
    have : i < xs.toList.reverse.length := by simpa using hi
    rw [List.getElem?_eq_getElem this]
    simp [List.getD_eq_getElem?_getD, List.getElem?_eq_getElem this]
  · rw [List.getElem?_eq_none (by simpa using hi), List.getElem?_eq_none (by simpa using hi)]
    rfl
section
variable {prog : Program} {w : World} {A : Around} {E : Value → Shared → Prop} {s : Shared}
theorem getItem_tuple_rev {t sl : Addr} {items : Array Value} {vl vu vs : Value} {Q : Value → Shared → Prop} (ht : IsTup s.heap t items) (hs : s.heap.IsSliceOf sl vl vu vs) (pl : IsPart vl none) (pu : IsPart vu none) (ps : IsPart vs (some (-1)))
    (h : Q (.ref s.heap.objs.size) { s with heap := s.heap.push { cls := .type "tuple", data := .seq items.toList.reverse.toArray } }) (hsz : items.size ≤ sizeLine) : wpAny (model prog w) A (getItem (.ref t) (.ref sl)) Q E s := by
  have htake : sizeOk (.seq items.toList.reverse.toArray) := by
    show items.toList.reverse.toArray.size ≤ sizeLine
    simpa using hsz
  obtain ⟨os, hos, hcs, hds⟩ := id hs
  have hTs : s.TypeIs (.ref sl) "slice" := ⟨os, hos, hcs⟩
  unfold getItem
  try with_reducible refine wpAny_holding ?_
  first | refine wpAny_bind (wpAny_pure ?_) | skip
  refine wpAny_bind (wpAny_sequenceKey ht.typeIs (by decide) ?_)
  refine wpAny_bind (wpAny_callSpecial?_slot (name := Str.ofString "__getitem__") ht.typeIs PyProof.Rows.slot_tuple_getitem
    (wpAny_call_entry PyProof.Rows.slot_tuple_getitem ht.typeIs entry_tuple_getitem ?_ (args_tuple_getitem _ _)))
  show wpAny _ _ (Builtin.Tuple.tupleItemsOf (.ref t) >>= _) _ _ s
  refine wpAny_bind (tupleItemsOf_ ht ?_)
  refine wpAny_bind (wpAny_typeOf hTs ?_)
  rw [if_pos (by decide)]
  have ap : ∀ {R : Int × Int × Nat → Shared → Prop}, R ((items.size : Int) - 1, -1, items.size) s → wpAny (model prog w) A.in1 (Builtin.Slice.sliceApplied (.ref sl) (pure (items.size : Int))) R E s := fun {R} hr => by
    unfold Builtin.Slice.sliceApplied Builtin.Slice.sliceFields
    refine wpAny_bind (wpAny_bind (wpAny_field hos hds (x := vl) rfl (wpAny_bind (wpAny_field hos hds (x := vu) rfl (wpAny_bind (wpAny_field hos hds (x := vs) rfl (wpAny_pure ?_)))))))
    refine wpAny_bind (HT.slicePart_ ps ?_)
    show wpAny _ _ (if ((-1 : Int) == 0) = true then _ else _) _ _ s
    rw [if_neg (by decide)]
    refine wpAny_bind (HT.slicePart_ pl (wpAny_bind (HT.slicePart_ pu (wpAny_bind (wpAny_pure ?_)))))
    have e1 : Builtin.Slice.sliceAdjust none none (-1) (items.size : Int) = ((items.size : Int) - 1, -1) := rfl
    have e2 : Builtin.Slice.slicePlaces ((items.size : Int) - 1) (-1) (-1) = items.size := by
      unfold Builtin.Slice.slicePlaces
      rw [if_neg (by decide), show (-(-1) : Int) = 1 by decide, Int.ediv_one]
      split <;> omega
    show wpAny _ _ (match Builtin.Slice.sliceAdjust none none (-1) (items.size : Int) with | (lo, hi) => pure (lo, (-1 : Int), Builtin.Slice.slicePlaces lo hi (-1))) _ _ s
    rw [e1]
    show wpAny _ _ (pure ((items.size : Int) - 1, (-1 : Int), Builtin.Slice.slicePlaces ((items.size : Int) - 1) (-1) (-1))) _ _ s
    rw [e2]
    exact wpAny_pure hr
  refine wpAny_bind (ap ?_)
  show wpAny _ _ (if ((((items.size : Int) - 1) == 0 && (-1 : Int) == 1 && items.size == items.size) = true) then _ else _) _ _ s
  rw [if_neg (by simp), rev_pick]
  first
    | exact wpAny_bind (m := Builtin.Tuple.tupleExact _) (wpAny_newObj_type (wpAny_pure ⟨_, rfl, wpAny_pure h⟩) htake)
    | exact wpAny_bind (m := Builtin.Tuple.tupleExact _) (wpAny_newObj_type (wpAny_bind (wpAny_pure (wpAny_pure ⟨_, rfl, wpAny_pure h⟩))) htake)
    | exact wpAny_bind (wpAny_bind (m := Builtin.Tuple.tupleExact _) (wpAny_newObj_type (wpAny_pure (wpAny_pure ⟨_, rfl, wpAny_pure h⟩)) htake))
    | exact wpAny_bind (wpAny_bind (m := Builtin.Tuple.tupleExact _) (wpAny_newObj_type (wpAny_pure ⟨_, rfl, wpAny_pure h⟩) htake))
end
section
variable {X : Cx} {W : WX} {cl : Glb} {a : Expr} {fa : DE} {pos : Pos}
def tRevT (K : PySem.W.Frag) (te : TE) : TE := fun σ H Q => te σ H fun x H1 => ∃ a xs, x = .ref a ∧ SqT K H1 a xs ∧ ∀ p, H1 p = none → Q (.ref p) (upd H1 p (.tup xs.reverse))
theorem pe_revT {e : Expr} {te : TE} {k : Nat} {p1 p2 p3 : Pos} (he : PE X e te) : PE X (.Subscript e (.Slice none none (some (.UnaryOp .USub (.Constant (.int 1) k p1) p2)) p3) pos) (tRevT X.K te) := by
  refine ⟨fun pins s σ H Q I h => ?_⟩
  refine Subscript_ (thn (he.run pins s σ H _ I h) fun v s1 ⟨x, H1, I1, r1, q1⟩ => ?_)
  obtain ⟨a, xs, ex, hx, q⟩ := q1
  subst ex
  cases r1
  have hst : PO X (some (.UnaryOp .USub (.Constant (.int 1) k p1) p2)) (tPart (tUn (rU fun i => .int (-i)) (tC (.int 1)))) := po_some (pe_un un_neg pe_int)
  refine wpAny_Slice (thn (po_none.run pins s1 σ H1 (fun o H2 => o = none ∧ H2 = H1) I1 ⟨rfl, rfl⟩) fun vl s2 ⟨l, H2, I2, pl, el, e2⟩ => ?_)
  subst el e2
  refine thn (po_none.run pins s2 σ H2 (fun o H3 => o = none ∧ H3 = H2) I2 ⟨rfl, rfl⟩) fun vu s3 ⟨u, H3, I3, pu, eu, e3⟩ => ?_
  subst eu e3
  refine thn (hst.run pins s3 σ H3 (fun o H4 => o = some (-1) ∧ H4 = H3) I3 ⟨1, rfl, -1, rfl, rfl, rfl⟩) fun vs s4 ⟨o, H4, I4, ps, eo, e4⟩ => ?_
  subst eo e4
  have I5 : Inv X pins σ H4 { s4 with heap := s4.heap.push { cls := .type "slice", data := .fields #[vl, vu, vs] } } := I4.kept (t' := s4.toks) fun b ob q => Heap.get?_push_of_some _ q
  obtain ⟨its, r, ht, hz⟩ := I5.tuple hx
  have hlen := r.length
  show wpAny (model X.prog X.w) X.A (subscriptTail e (.Slice none none (some (.UnaryOp .USub (.Constant (.int 1) k p1) p2)) p3) (.ref a) (.ref s4.heap.objs.size)) (EP X pins σ Q) X.xe { s4 with heap := s4.heap.push { cls := .type "slice", data := .fields #[vl, vu, vs] } }
  refine tail_any (ops := [.ref a, .ref s4.heap.objs.size]) ht.typeIs (PyProof.Rows.slot_tuple_getitem.lookup) ?_ (by with_unfolding_all rfl)
  refine getItem_tuple_rev ht (Heap.IsSliceOf.new _ vl vu vs) pl pu ps ?_ (by rw [List.size_toArray]; omega)
  refine ⟨.ref _, _, I5.laid (t' := s4.toks) (o := .tup xs.reverse) (fun b ob q => Heap.get?_push_of_some _ q) (Nat.le_refl _) ?_, rfl, q _ (I5.hok.fresh (Nat.le_refl _))⟩
  exact ⟨by rw [List.length_reverse]; exact hz, _, by simpa using r.reverse, IsTup.new _ _⟩
def oRevA : D → Option D
  | .lst ds => some (.lst ds.reverse)
  | .tup ds => some (.tup ds.reverse)
  | _ => none
theorem se_revA {k : Nat} {p1 p2 p3 : Pos} (ha : SE X W cl a fa) : SE X W cl (.Subscript a (.Slice none none (some (.UnaryOp .USub (.Constant (.int 1) k p1) p2)) p3) pos) (dUn oRevA fa) := by
  obtain ⟨ta, pa, ha⟩ := ha
  refine ⟨_, PE.or (pe_revL pa) (pe_revT pa), fun Hv H σ ρ Q vw er pv => ?_⟩
  by_cases hd : ∃ ds, fa ρ = .ok (.tup ds)
  · obtain ⟨ds, hd⟩ := hd
    right
    refine ha Hv H σ ρ _ vw er (bindP pv fun x Hv1 H1 ex e1 pv1 v rv => ?_)
    rw [hd] at ex
    cases ex
    cases rv with
    | tup s z r => exact ⟨_, _, rfl, e1.vh.s.sqU s, new_tup e1.vh r.reverse (by rw [List.length_reverse]; exact z) fun v Hv' H' ex r => pv1 Hv' H' ex v r⟩
  · left
    refine ha Hv H σ ρ _ vw er (bindP pv fun x Hv1 H1 ex e1 pv1 v rv => ?_)
    obtain ⟨d, ed, q⟩ := ofO_ok pv1
    cases rv with
    | lst s z r =>
      cases ed
      exact ⟨_, _, rfl, .inl (.inl (e1.vh.s _ _ s rfl)), new_lst e1.vh r.reverse (by rw [List.length_reverse]; exact z) fun v Hv' H' ex r => q Hv' H' ex v r⟩
    | tup s z r => exact (hd ⟨_, ex⟩).elim
    | _ => cases ed
end
end Sm
namespace Sm
open PySem PySem.Spec L2
abbrev Zf := Addr → Option Obj
def Fz (o : Obj) : HO := .frz o (.own 0)
def trk (Z : Zf) (H : Hp) : Hp := fun b => match Z b with | some o => some (Fz o) | none => H b
def utr (Z : Zf) (H : Hp) : Hp := fun b => match Z b with | some _ => none | none => H b
section
variable {Z : Zf} {H H' : Hp} {b : Addr} {o : Obj} {u : HO}
theorem trk_in (h : Z b = some o) : trk Z H b = some (Fz o) := by unfold trk; rw [h]
theorem trk_out (h : Z b = none) : trk Z H b = H b := by unfold trk; rw [h]
theorem utr_in (h : Z b = some o) : utr Z H b = none := by unfold utr; rw [h]
theorem utr_out (h : Z b = none) : utr Z H b = H b := by unfold utr; rw [h]
theorem utr_some (h : utr Z H b = some u) : Z b = none ∧ H b = some u := by
  cases q : Z b with
  | none => rw [utr_out q] at h; exact ⟨rfl, h⟩
  | some o => rw [utr_in q] at h; cases h
theorem trk_none (h : trk Z H b = none) : Z b = none ∧ H b = none := by
  cases q : Z b with
  | none => rw [trk_out q] at h; exact ⟨rfl, h⟩
  | some o => rw [trk_in q] at h; cases h
def Fre (Z : Zf) (H : Hp) : Prop := ∀ b o, Z b = some o → H b = none
def Hld (Z : Zf) (H : Hp) : Prop := ∀ b o, Z b = some o → H b = some (Fz o)
theorem Fre.out (f : Fre Z H) (h : H b = some u) : Z b = none := by
  cases q : Z b with
  | none => rfl
  | some o => rw [f b o q] at h; cases h
theorem Hld.out (f : Hld Z H) (h : H b = some u) (n : ∀ o, u ≠ Fz o) : Z b = none := by
  cases q : Z b with
  | none => rfl
  | some o => rw [f b o q] at h; cases h; exact (n o rfl).elim
theorem Hld.outN (f : Hld Z H) (h : H b = none) : Z b = none := by
  cases q : Z b with
  | none => rfl
  | some o => rw [f b o q] at h; cases h
theorem hld_trk : Hld Z (trk Z H) := fun b o h => trk_in h
theorem fre_utr : Fre Z (utr Z H) := fun b o h => utr_in h
theorem Hld.mono (f : Hld Z H) (s : Sam H H') : Hld Z H' := fun b o h => s b _ (f b o h) rfl
theorem sam_trk (f : Fre Z H) : Sam H (trk Z H) := fun b u h n => by rw [trk_out (f.out h)]; exact h
theorem sam_utr (s : Sam H H') : Sam (utr Z H) (utr Z H') := fun b u h n => by
  obtain ⟨h1, h2⟩ := utr_some h
  rw [utr_out h1]; exact s b u h2 n
theorem utr_trk (f : Fre Z H) : utr Z (trk Z H) = H := by
  funext b
  cases q : Z b with
  | none => rw [utr_out q, trk_out q]
  | some o => rw [utr_in q, f b o q]
theorem hok_utr {P : Program} {w : World} {h : Heap} (k : HOk P w H h) (f : Hld Z H) : HOk P w (utr Z H) h := fun a u e => by
  obtain ⟨_, h2⟩ := utr_some e
  refine (k a u h2).stay (fun _ _ _ q => q) (fun b q => ?_) fun b xs q => ?_
  · rw [utr_out (f.out q fun o z => by cases z)]; exact q
  · rw [utr_out (f.out q fun o z => by cases z)]; exact q
theorem hok_trk {P : Program} {w : World} {h : Heap} (k : HOk P w H h) (f : Fre Z H) (hz : ∀ b o, Z b = some o → h.get? b = some o) : HOk P w (trk Z H) h := fun a u e => by
  cases q : Z a with
  | none =>
    rw [trk_out q] at e
    exact (k a u e).stay (fun _ _ _ q => q) (fun b q => by rw [trk_out (f.out q)]; exact q) fun b xs q => by rw [trk_out (f.out q)]; exact q
  | some o =>
    rw [trk_in q] at e
    cases e
    exact ⟨hz a o q, o, hz a o q⟩
end
section
variable {Z : Zf} {H H' : Hp} {P : Program} {w : World} {outer : List PySem.Env} {s s' : Shared} {Q Q' : VK} {E E' : XK} {r : Result}
theorem cr_utr (h : CR (L2.CX P w) outer P w (trk Z H) s Q' E' r s') (f : Fre Z H) (hz : ∀ b o, Z b = some o → s.heap.get? b = some o) (nf : ∀ b o, Z b = some o → b ∉ frs outer)
    (q : ∀ v H', Hld Z H' → Q' v H' → Q v (utr Z H')) (e : ∀ c d H', Hld Z H' → E' c d H' → E c d (utr Z H')) : CR (L2.CX P w) outer P w H s Q E r s' := by
  cases r with
  | error x =>
    obtain ⟨a, B, H', cls, d, rfl, fl, hok, ub, na, os, ag, hE⟩ := (show L2.CX P w outer (trk Z H) s E' x s' from h)
    have hl : Hld Z H' := fun b o z => ub.frzs b o _ (trk_in z)
    refine (show L2.CX P w outer H s E (.ref a) s' from ⟨a, B, utr Z H', cls, d, rfl, fl, hok_utr hok hl, ⟨fun b o g n nfb => ?_, ub.slot, fun b o g n => ?_, ub.there, fun b xs g => ?_, fun b o u g => ?_, fun b ps g => ?_⟩, ?_, os, ag, e _ _ _ hl hE⟩)
    · cases z : Z b with
      | none => exact ub.keep b o g (by rw [trk_out z]; exact n) nfb
      | some o' =>
        have := hz b o' z
        rw [g] at this; cases this
        exact (hok b _ (hl b o z)).1
    · cases z : Z b with
      | none => rw [utr_out z]; exact ub.free b o g (by rw [trk_out z]; exact n)
      | some o' => exact utr_in z
    · rw [utr_out (f.out g)]; exact ub.tups b xs (by rw [trk_out (f.out g)]; exact g)
    · rw [utr_out (f.out g)]; exact ub.frzs b o u (by rw [trk_out (f.out g)]; exact g)
    · rw [utr_out (f.out g)]; exact ub.tbls b ps (by rw [trk_out (f.out g)]; exact g)
    · cases z : Z a with
      | none => rw [utr_out z]; exact na
      | some o' => exact utr_in z
  | ok fl =>
    cases fl with
    | ret u =>
      obtain ⟨v, H', os, bare, un, hok, rv, hq⟩ := (show CE outer P w (trk Z H) s Q' u s' from h)
      have hl : Hld Z H' := fun b o z => un.frzs b o _ (trk_in z)
      refine (show CE outer P w H s Q u s' from ⟨v, utr Z H', os, bare, ⟨fun b o g n nfb nx => ?_, fun b o g n nfb nx => ?_, fun b o g n nx => ?_, un.there, fun b xs g => ?_, fun b o u g => ?_, fun b ps g => ?_⟩, hok_utr hok hl, rv, q _ _ hl hq⟩)
      · cases z : Z b with
        | none => exact un.keep b o g (by rw [trk_out z]; exact n) nfb nx
        | some o' =>
          have := hz b o' z
          rw [g] at this; cases this
          exact (hok b _ (hl b o z)).1
      · cases z : Z b with
        | none => exact un.slot b o g (by rw [trk_out z]; exact n) nfb nx
        | some o' => exact (nf b o' z nfb).elim
      · cases z : Z b with
        | none => rw [utr_out z]; exact un.free b o g (by rw [trk_out z]; exact n) nx
        | some o' => exact utr_in z
      · rw [utr_out (f.out g)]; exact un.tups b xs (by rw [trk_out (f.out g)]; exact g)
      · rw [utr_out (f.out g)]; exact un.frzs b o u (by rw [trk_out (f.out g)]; exact g)
      · rw [utr_out (f.out g)]; exact un.tbls b ps (by rw [trk_out (f.out g)]; exact g)
    | next => exact h
    | brk => exact h
    | cont => exact h
theorem cr_trk (h : CR (L2.CX P w) outer P w (utr Z H) s Q' E' r s') (f : Hld Z H) (hk : HOk P w H s.heap) (nf : ∀ b ∈ frs outer, H b = none)
    (q : ∀ v H', Fre Z H' → Q' v H' → Q v (trk Z H')) (e : ∀ c d H', Fre Z H' → E' c d H' → E c d (trk Z H')) : CR (L2.CX P w) outer P w H s Q E r s' := by
  have hz : ∀ b o, Z b = some o → s.heap.get? b = some o := fun b o z => (hk b _ (f b o z)).1
  have nfz : ∀ b o, Z b = some o → b ∉ frs outer := fun b o z hb => by
    have := nf b hb
    rw [f b o z] at this; cases this
  cases r with
  | error x =>
    obtain ⟨a, B, H', cls, d, rfl, fl, hok, ub, na, os, ag, hE⟩ := (show L2.CX P w outer (utr Z H) s E' x s' from h)
    have hl : Fre Z H' := fun b o z => ub.free b o (hz b o z) (utr_in z)
    have hB : ∀ b o, Z b = some o → B.get? b = some o := fun b o z => ub.keep b o (hz b o z) (utr_in z) (nfz b o z)
    have out : ∀ {b : Addr} {u : HO}, H b = some u → (∀ o, u ≠ Fz o) → Z b = none := fun g n => f.out g n
    refine (show L2.CX P w outer H s E (.ref a) s' from ⟨a, B, trk Z H', cls, d, rfl, fl, hok_trk hok hl hB, ⟨fun b o g n nfb => ?_, ub.slot, fun b o g n => ?_, ub.there, fun b xs g => ?_, fun b o u g => ?_, fun b ps g => ?_⟩, ?_, os, ag, e _ _ _ hl hE⟩)
    · exact ub.keep b o g (by rw [utr_out (f.outN n)]; exact n) nfb
    · rw [trk_out (f.outN n)]; exact ub.free b o g (by rw [utr_out (f.outN n)]; exact n)
    · have z := out g fun o z => by cases z
      rw [trk_out z]; exact ub.tups b xs (by rw [utr_out z]; exact g)
    · cases z : Z b with
      | none => rw [trk_out z]; exact ub.frzs b o u (by rw [utr_out z]; exact g)
      | some o' => rw [trk_in z, ← f b o' z]; exact g
    · have z := out g fun o z => by cases z
      rw [trk_out z]; exact ub.tbls b ps (by rw [utr_out z]; exact g)
    · cases z : Z a with
      | none => rw [trk_out z]; exact na
      | some o' =>
        have g := hB a o' z
        have g2 := fl.2.1
        rw [g] at g2; cases g2
  | ok fl =>
    cases fl with
    | ret u =>
      obtain ⟨v, H', os, bare, un, hok, rv, hq⟩ := (show CE outer P w (utr Z H) s Q' u s' from h)
      have hl : Fre Z H' := fun b o z => un.free b o (hz b o z) (utr_in z) (by simp)
      have hB : ∀ b o, Z b = some o → s'.heap.get? b = some o := fun b o z => un.keep b o (hz b o z) (utr_in z) (nfz b o z) (by simp)
      refine (show CE outer P w H s Q u s' from ⟨v, trk Z H', os, bare, ⟨fun b o g n nfb nx => ?_, fun b o g n nfb nx => ?_, fun b o g n nx => ?_, un.there, fun b xs g => ?_, fun b o u g => ?_, fun b ps g => ?_⟩, hok_trk hok hl hB, rv, q _ _ hl hq⟩)
      · exact un.keep b o g (by rw [utr_out (f.outN n)]; exact n) nfb nx
      · exact un.slot b o g (by rw [utr_out (f.outN n)]; exact n) nfb nx
      · rw [trk_out (f.outN n)]; exact un.free b o g (by rw [utr_out (f.outN n)]; exact n) nx
      · have z := f.out g fun o z => by cases z
        rw [trk_out z]; exact un.tups b xs (by rw [utr_out z]; exact g)
      · cases z : Z b with
        | none => rw [trk_out z]; exact un.frzs b o u (by rw [utr_out z]; exact g)
        | some o' => rw [trk_in z, ← f b o' z]; exact g
      · have z := f.out g fun o z => by cases z
        rw [trk_out z]; exact un.tbls b ps (by rw [utr_out z]; exact g)
    | next => exact h
    | brk => exact h
    | cont => exact h
theorem env0_utr {K : PySem.W.Frag} {mg : Str → Option Value} {base : Heap} {A : Around} (e : Env0 P w K mg base A outer s H) (f : Hld Z H) : Env0 P w K mg base A outer s (utr Z H) :=
  ⟨e.frames, e.mod, fun b o h => ⟨(e.bs b o h).1, by rw [utr_out (f.outN (e.bs b o h).2)]; exact (e.bs b o h).2⟩, e.bsz, e.funs, fun b h => by rw [utr_out (f.outN (e.frf b h))]; exact e.frf b h, hok_utr e.hok f, e.bare⟩
theorem env0_trk {K : PySem.W.Frag} {mg : Str → Option Value} {base : Heap} {A : Around} (e : Env0 P w K mg base A outer s H) (f : Fre Z H) (hz : ∀ b o, Z b = some o → s.heap.get? b = some o) (nf : ∀ b o, Z b = some o → b ∉ frs outer) (nb : ∀ b o, Z b = some o → base.get? b = none) : Env0 P w K mg base A outer s (trk Z H) := by
  refine ⟨e.frames, e.mod, fun b o h => ⟨(e.bs b o h).1, ?_⟩, e.bsz, e.funs, fun b h => ?_, hok_trk e.hok f hz, e.bare⟩
  · cases z : Z b with
    | none => rw [trk_out z]; exact (e.bs b o h).2
    | some o' => rw [nb b o' z] at h; cases h
  · cases z : Z b with
    | none => rw [trk_out z]; exact e.frf b h
    | some o' => exact (nf b o' z h).elim
end
section
variable {Z : Zf} {cl cl' : Glb} {Hv H Hv' H' : Hp}
theorem tabs_utr {T : List (Addr × Str)} (t : LamX.Tabs T H) (f : Hld Z H) : LamX.Tabs T (utr Z H) := fun p hp => by
  obtain ⟨ps, g1, g2, g3⟩ := t p hp
  refine ⟨ps, by rw [utr_out (f.out g1 fun o z => by cases z)]; exact g1, g2, fun pos cv hc => ?_⟩
  obtain ⟨c, ec, hc'⟩ := g3 pos cv hc
  exact ⟨c, ec, by rw [utr_out (f.out hc' fun o z => by unfold LamX.CodeO at z; cases z)]; exact hc'⟩
theorem tabs_trk {T : List (Addr × Str)} (t : LamX.Tabs T H) (f : Fre Z H) : LamX.Tabs T (trk Z H) := fun p hp => by
  obtain ⟨ps, g1, g2, g3⟩ := t p hp
  refine ⟨ps, by rw [trk_out (f.out g1)]; exact g1, g2, fun pos cv hc => ?_⟩
  obtain ⟨c, ec, hc'⟩ := g3 pos cv hc
  exact ⟨c, ec, by rw [trk_out (f.out hc')]; exact hc'⟩
theorem vw_trk (vw : Vw cl Hv H) (f : Fre Z H) (hT : cl'.T = cl.T) : Vw cl' (trk Z Hv) (trk Z H) := by
  refine ⟨fun b o h n => ?_, fun b h => ?_, fun b xs h => ?_, fun b o u h => ?_, by rw [hT]; exact tabs_trk vw.tab f, fun b φ h => ?_⟩
  · cases z : Z b with
    | none => rw [trk_out z] at h ⊢; exact vw.s b o h n
    | some o' => rw [trk_in z] at h ⊢; exact h
  · obtain ⟨z, h⟩ := trk_none h
    rw [trk_out z]; exact vw.d b h
  · cases z : Z b with
    | none => rw [trk_out z] at h ⊢; exact vw.t b xs h
    | some o' => rw [trk_in z] at h ⊢; exact h
  · cases z : Z b with
    | none => rw [trk_out z] at h ⊢; exact vw.z b o u h
    | some o' => rw [trk_in z] at h ⊢; exact h
  · cases z : Z b with
    | none => rw [trk_out z] at h ⊢; exact vw.x b φ h
    | some o' => rw [trk_in z] at h ⊢; exact h
theorem vw_utr (vw : Vw cl' Hv H) (f : Hld Z Hv) (hT : cl'.T = cl.T) : Vw cl (utr Z Hv) (utr Z H) := by
  have fH := f.mono vw.s
  refine ⟨sam_utr vw.s, fun b h => ?_, fun b xs h => ?_, fun b o u h => ?_, by rw [← hT]; exact tabs_utr vw.tab fH, fun b φ h => ?_⟩
  · cases z : Z b with
    | none => rw [utr_out z] at h ⊢; exact vw.d b h
    | some o' => exact utr_in z
  · obtain ⟨z, h⟩ := utr_some h
    rw [utr_out z]; exact vw.t b xs h
  · obtain ⟨z, h⟩ := utr_some h
    rw [utr_out z]; exact vw.z b o u h
  · obtain ⟨z, h⟩ := utr_some h
    rw [utr_out z]; exact vw.x b φ h
theorem ext_back (vw : Vw cl Hv H) (f : Fre Z H) (hT : cl'.T = cl.T) (e : Ext cl' (trk Z Hv) (trk Z H) Hv' H') : Ext cl Hv H (utr Z Hv') (utr Z H') := by
  have fv : Fre Z Hv := fun b o z => vw.d b (f b o z)
  have hv : Hld Z Hv' := hld_trk.mono e.vv
  refine ⟨fun b o h n => ?_, fun b o h n => ?_, vw_utr e.vh hv hT, fun b o h n => ?_, fun b h => ?_, fun b ps h => ?_⟩
  · have z := f.out h
    rw [utr_out z]; exact e.hh b o (by rw [trk_out z]; exact h) n
  · have z := fv.out h
    rw [utr_out z]; exact e.vv b o (by rw [trk_out z]; exact h) n
  · have z := f.out h
    rw [utr_out z]; exact e.old b o (by rw [trk_out z]; exact h) (by rw [trk_out z]; exact n)
  · cases z : Z b with
    | none =>
      rw [utr_out z] at h
      have := e.dom b h
      rw [trk_out z] at this; exact this
    | some o' => exact f b o' z
  · have z := f.out h
    rw [utr_out z]; exact e.tt b ps (by rw [trk_out z]; exact h)
theorem ext_on (vw : Vw cl' Hv H) (f : Hld Z Hv) (f' : Fre Z H') (hT : cl'.T = cl.T) (e : Ext cl (utr Z Hv) (utr Z H) Hv' H') : Ext cl' Hv H (trk Z Hv') (trk Z H') := by
  have fH := f.mono vw.s
  refine ⟨fun b o h n => ?_, fun b o h n => ?_, vw_trk e.vh f' hT, fun b o h n => ?_, fun b h => ?_, fun b ps h => ?_⟩
  · cases z : Z b with
    | none => rw [trk_out z]; exact e.hh b o (by rw [utr_out z]; exact h) n
    | some o' => rw [trk_in z, ← fH b o' z]; exact h
  · cases z : Z b with
    | none => rw [trk_out z]; exact e.vv b o (by rw [utr_out z]; exact h) n
    | some o' => rw [trk_in z, ← f b o' z]; exact h
  · have z := f.outN n
    rw [trk_out z]; exact e.old b o (by rw [utr_out z]; exact h) (by rw [utr_out z]; exact n)
  · obtain ⟨z, h⟩ := trk_none h
    have := e.dom b h
    rw [utr_out z] at this; exact this
  · have z := fH.out h fun o z => by cases z
    rw [trk_out z]; exact e.tt b ps (by rw [utr_out z]; exact h)
end
mutual
def noFn : D → Bool
  | .fnv => false
  | .tup xs => noFns xs
  | .lst xs => noFns xs
  | .dct es => noFnp es
  | .dcl _ => false
  | _ => true
def noFns : List D → Bool
  | [] => true
  | x :: xs => noFn x && noFns xs
def noFnp : List (D × D) → Bool
  | [] => true
  | x :: xs => noFn x.2 && noFnp xs
end
section
variable {Z : Zf} {K : PySem.W.Frag} {cl cl' : Glb} {Hv : Hp}
mutual
theorem rep_utr (f : Hld Z Hv) (hc : cl'.c = cl.c) (hn : cl'.ns = cl.ns) (ho : cl'.ob = cl.ob) : ∀ {v : V} {d : D}, Rep K cl' Hv v d → noFn d = true → Rep K cl (utr Z Hv) v d
  | _, _, .non, _ => .non
  | _, _, .bl b, _ => .bl b
  | _, _, .int b, _ => .int b
  | _, _, .str b, _ => .str b
  | _, _, .lst h n r, q => .lst (by rw [utr_out (f.out h fun o z => by cases z)]; exact h) n (reps_utr f hc hn ho r (by simpa [noFn] using q))
  | _, _, .tup h n r, q => .tup (by rw [utr_out (f.out h fun o z => by cases z)]; exact h) n (reps_utr f hc hn ho r (by simpa [noFn] using q))
  | _, _, .dctK h r, q => .dctK (by rw [utr_out (f.out h fun o z => by cases z)]; exact h) (repsK_utr f hc hn ho r (by simpa [noFn] using q))
  | _, _, .dctT h n r, q => .dctT (by rw [utr_out (f.out h fun o z => by cases z)]; exact h) n (repsT_utr f hc hn ho r (by simpa [noFn] using q))
  | _, _, .scr h n, _ => .scr (by
      rcases h with (h | ⟨o, h⟩) | h
      · exact .inl (.inl (by rw [utr_out (f.out h fun o z => by cases z)]; exact h))
      · exact .inl (.inr ⟨o, by rw [utr_out (f.out h fun o z => by cases z)]; exact h⟩)
      · exact .inr h) n
  | _, _, .scr0 h n, _ => .scr0 (by
      rw [hn] at h
      rcases h with (h | ⟨o, h⟩) | h
      · exact .inl (.inl (by rw [utr_out (f.out h fun o z => by cases z)]; exact h))
      · exact .inl (.inr ⟨o, by rw [utr_out (f.out h fun o z => by cases z)]; exact h⟩)
      · exact .inr h) (by rw [← hn]; exact n)
  | _, _, .exc h, _ => .exc (by rw [← hc, utr_out (f.out h fun o z => by cases z)]; exact h)
  | _, _, .fnv h, q => by simp [noFn] at q
  | _, _, .obj h, _ => .obj (by rw [← ho]; exact h)
  | _, _, .dclK h r, q => by simp [noFn] at q
  | _, _, .dclT h n r, q => by simp [noFn] at q
  | _, _, .scr1 h n, _ => .scr1 (by
      rw [hn] at h
      rcases h with (h | ⟨o, h⟩) | h
      · exact .inl (.inl (by rw [utr_out (f.out h fun o z => by cases z)]; exact h))
      · exact .inl (.inr ⟨o, by rw [utr_out (f.out h fun o z => by cases z)]; exact h⟩)
      · exact .inr h) (by rw [← hn]; exact n)
theorem reps_utr (f : Hld Z Hv) (hc : cl'.c = cl.c) (hn : cl'.ns = cl.ns) (ho : cl'.ob = cl.ob) : ∀ {v : List V} {d : List D}, Reps K cl' Hv v d → noFns d = true → Reps K cl (utr Z Hv) v d
  | _, _, .nil, _ => .nil
  | _, _, .cons r t, q => by
    simp only [noFns, Bool.and_eq_true] at q
    exact .cons (rep_utr f hc hn ho r q.1) (reps_utr f hc hn ho t q.2)
theorem repsK_utr (f : Hld Z Hv) (hc : cl'.c = cl.c) (hn : cl'.ns = cl.ns) (ho : cl'.ob = cl.ob) : ∀ {v : List (L2.Key × V)} {d : List (D × D)}, RepsK K cl' Hv v d → noFnp d = true → RepsK K cl (utr Z Hv) v d
  | _, _, .nil, _ => .nil
  | _, _, .cons r t, q => by
    simp only [noFnp, Bool.and_eq_true] at q
    exact .cons (rep_utr f hc hn ho r q.1) (repsK_utr f hc hn ho t q.2)
theorem repsT_utr (f : Hld Z Hv) (hc : cl'.c = cl.c) (hn : cl'.ns = cl.ns) (ho : cl'.ob = cl.ob) : ∀ {v : List (List L2.Key × V)} {d : List (D × D)}, RepsT K cl' Hv v d → noFnp d = true → RepsT K cl (utr Z Hv) v d
  | _, _, .nil, _ => .nil
  | _, _, .cons r t, q => by
    simp only [noFnp, Bool.and_eq_true] at q
    exact .cons (rep_utr f hc hn ho r q.1) (repsT_utr f hc hn ho t q.2)
end
theorem utr0 : utr (fun _ => none) Hv = Hv := by funext b; rfl
theorem rep_cl {v : V} {d : D} (hc : cl'.c = cl.c) (hn : cl'.ns = cl.ns) (ho : cl'.ob = cl.ob) (r : Rep K cl' Hv v d) (q : noFn d = true) : Rep K cl Hv v d := by
  have := rep_utr (Z := fun _ => none) (cl := cl) (fun _ _ z => nomatch z) hc hn ho r q
  rw [utr0] at this; exact this
theorem reps_cl {v : List V} {d : List D} (hc : cl'.c = cl.c) (hn : cl'.ns = cl.ns) (ho : cl'.ob = cl.ob) (r : Reps K cl' Hv v d) (q : noFns d = true) : Reps K cl Hv v d := by
  have := reps_utr (Z := fun _ => none) (cl := cl) (fun _ _ z => nomatch z) hc hn ho r q
  rw [utr0] at this; exact this
end
end Sm
namespace Sm
open PySem PySem.Spec L2
structure Gro (H H1 : Hp) : Prop where
  get : ∀ b o, H b = some o → isTbl o = false → H1 b = some o
  dom : ∀ b, H1 b = none → H b = none
  tt : ∀ b ps, H b = some (.tbl ps) → ∃ ps', H1 b = some (.tbl ps')
theorem Gro.ext {cl : Glb} {Hv H H1 : Hp} (g : Gro H H1) (vw : Vw cl Hv H) (t : LamX.Tabs cl.T H1) : Ext cl Hv H (lift Hv H H1) H1 := by
  refine ext_lift vw (Hv' := H1) ⟨g.get, g.get, Vw.refl t, fun b o h n => ?_, g.dom, g.tt⟩
  rw [h] at n; cases n
theorem Gro.new {H : Hp} {a : Addr} {o : HO} (n : H a = none) : Gro H (upd H a o) where
  get := fun b u e _ => (upd_ne (ne_of_none e n)).trans e
  dom := fun b e => (upd_none e).2
  tt := fun b ps e => ⟨ps, (upd_ne (ne_of_none e n)).trans e⟩
theorem Gro.tbl {H : Hp} {a : Addr} {ps ps' : Array Value} (h : H a = some (.tbl ps)) : Gro H (upd H a (.tbl ps')) where
  get := fun b u e n => by
    by_cases z : b = a
    · rw [z, h] at e; cases e; cases n
    · exact (upd_ne z).trans e
  dom := fun b e => (upd_none e).2
  tt := fun b qs e => by
    by_cases z : b = a
    · exact ⟨ps', by rw [z]; exact upd_same⟩
    · exact ⟨qs, (upd_ne z).trans e⟩
theorem Gro.trans {H H1 H2 : Hp} (a : Gro H H1) (b : Gro H1 H2) : Gro H H2 where
  get := fun c o e n => b.get c o (a.get c o e n) n
  dom := fun c e => a.dom c (b.dom c e)
  tt := fun c ps e => let ⟨_, e'⟩ := a.tt c ps e; b.tt c _ e'
abbrev lobj (F : NdefX.NF) (body : Expr) (pm ctv : Value) : Obj := PySem.W.kla_obj F.name F.qual F.params body F.scope F.cl pm F.c ctv
abbrev lamF (X : Cx) (params : Arguments) (scope : Scope) (c : Addr) : NdefX.NF := ⟨"<lambda>", X.env.qual ++ "<lambda>", params, [], scope, cloFrom X.env.cells scope.names [], c⟩
section
variable {X : Cx} {pins : List (Addr × Obj)} {σ : St} {H : Hp} {s : Shared}
theorem fz_ok {P : Program} {w : World} {H : Hp} {h : Heap} {a : Addr} {o : Obj} (e : h.get? a = some o) : ObjOk P w H h a (Fz o) := ⟨e, o, e⟩
theorem lam_new {T : List (Addr × Str)} {c P : Addr} {params : Arguments} {body : Expr} {scope : Scope} {pos : Pos} {E Q : Value → Shared → Prop} (I : Inv X pins σ H s) (TB : LamX.TabB X.base X.mg c P) (hcode : X.env.code = .ref c)
    (mT : (P, X.env.qual ++ "<lambda>") ∈ T) (uT : ∀ p ∈ T, p.1 = P → p.2 = X.env.qual ++ "<lambda>") (hT : LamX.Tabs T H) (hdef : defaultsOf params X.env = ([], [])) (hfree : ∀ y ∈ scope.names, y.2 = .free → ∃ c, X.env.cells.lookup y.1 = some c)
    (k : ∀ (f c' : Addr) (pm ctv : Value) (H1 : Hp) (s' : Shared), Inv X pins σ H1 s' → Gro H H1 → LamX.Tabs T H1 → H1 f = some (Fz (lobj (lamF X params scope c') body pm ctv)) → H1 c' = some (LamX.CodeO c' (X.env.qual ++ "<lambda>")) → H f = none → (H c' = none ∨ H c' = some (LamX.CodeO c' (X.env.qual ++ "<lambda>"))) → Q (.ref f) s') :
    wpAny (model X.prog X.w) X.A (eval (.Lambda params body scope pos) X.env) Q E s := by
  obtain ⟨ps, tP, tO, tC⟩ := hT _ mT
  have oP : s.heap.get? P = some { cls := .none, data := .fields ps } := I.hok P _ tP
  have gl := I.mod.glob.keeps I.bk
  have cd := TB.code.keeps I.bk
  have bm := TB.bm.keeps I.bk
  refine PySem.W.kla_eval hdef ?_
  cases among : codeAmong pos ps.toList with
  | some cv =>
    obtain ⟨c', rfl, oc⟩ := tC pos cv among
    refine PySem.W.kla_makeFunctionHit (P := P) (closure_ok hfree) I.ok.glob gl hcode cd oP tO among bm
      fun ctv h' tk keep size => ?_
    have I1 : Inv X pins σ H { s with heap := h', toks := tk } := I.kept keep
    have free : H h'.objs.size = none := I1.hok.fresh (Nat.le_refl _)
    have I2 := I1.laid (a := h'.objs.size) (t' := tk) (o := Fz (lobj (lamF X params scope c') body ((X.mg "__name__").getD .none) ctv))
      (fun b u e => Heap.get?_push_of_some _ e) (Nat.le_refl _) (fz_ok (Heap.get?_push_size _ rfl))
    have g := Gro.new (o := Fz (lobj (lamF X params scope c') body ((X.mg "__name__").getD .none) ctv)) free
    exact k _ c' _ ctv _ _ I2 g (hT.ext (same_upd free)) upd_same (g.get _ _ oc rfl) free (.inr oc)
  | none =>
    refine PySem.W.kla_makeFunction (P := P) (closure_ok hfree) I.ok.glob gl hcode cd oP tO among TB.gP bm
      fun c' ctv h' tk keep lo hi rec tab => ?_
    obtain ⟨c2, oc, vs, t, e2, g1, g2, g3⟩ := rec
    cases e2
    have freeC : H c' = none := I.hok.fresh lo
    have I1 := LamX.inv_table (t' := tk) (h' := h') (q := X.env.qual ++ "<lambda>") I tP (fun b o n e => keep b o n e) tab lo ⟨oc, vs, t, g1, g2, g3⟩
    have free := I1.hok.fresh (Nat.le_refl _)
    have I2 := I1.laid (a := h'.objs.size) (t' := tk) (o := Fz (lobj (lamF X params scope c') body ((X.mg "__name__").getD .none) ctv))
      (fun b u e => Heap.get?_push_of_some _ e) (Nat.le_refl _) (fz_ok (Heap.get?_push_size _ rfl))
    have gA := Gro.tbl (ps' := ps ++ #[rawInt pos.line, rawInt pos.col, .ref c']) tP
    have freeC' : upd H P (.tbl (ps ++ #[rawInt pos.line, rawInt pos.col, .ref c'])) c' = none := by
      rw [upd_ne fun z => by rw [z, tP] at freeC; cases freeC]; exact freeC
    have gB := Gro.new (o := LamX.CodeO c' (X.env.qual ++ "<lambda>")) freeC'
    have gC := Gro.new (o := Fz (lobj (lamF X params scope c') body ((X.mg "__name__").getD .none) ctv)) free
    have g := gA.trans gB
    have isL : (ps ++ #[rawInt pos.line, rawInt pos.col, .ref c']).toList = ps.toList ++ [rawInt pos.line, rawInt pos.col, .ref c'] := by simp
    have T1 : LamX.Tabs T (upd (upd H P (.tbl (ps ++ #[rawInt pos.line, rawInt pos.col, .ref c']))) c' (LamX.CodeO c' (X.env.qual ++ "<lambda>"))) := by
      intro p hp
      by_cases same : p.1 = P
      · rw [uT p hp same, same]
        refine ⟨ps ++ #[rawInt pos.line, rawInt pos.col, .ref c'], ?_, ?_, ?_⟩
        · rw [upd_ne fun z => by rw [z] at tP; rw [tP] at freeC; cases freeC]; exact upd_same
        · rw [isL]; exact PySem.TriplesOk_snoc _ _ _ _ tO
        · intro p' cv hcv
          rw [isL] at hcv
          rcases LamX.among_app _ tO hcv with old | new
          · obtain ⟨c0, e1, e2⟩ := tC p' cv old
            exact ⟨c0, e1, g.get _ _ e2 rfl⟩
          · exact ⟨c', new, upd_same⟩
      · obtain ⟨qs, a1, a2, a3⟩ := hT p hp
        refine ⟨qs, ?_, a2, fun p' cv hcv => ?_⟩
        · have nc : p.1 ≠ c' := ne_of_none a1 freeC
          rw [upd_ne nc, upd_ne same]; exact a1
        · obtain ⟨c0, e1, e2⟩ := a3 p' cv hcv
          exact ⟨c0, e1, g.get _ _ e2 rfl⟩
    exact k _ c' _ ctv _ _ I2 (g.trans gC) (T1.ext (same_upd free)) upd_same (gC.get _ _ upd_same rfl) (I.hok.fresh (Nat.le_trans lo (Nat.le_of_lt hi))) (.inl freeC)
end
structure Mk (X : Cx) (T : List (Addr × Str)) : Prop where
  ex : ∃ c P, LamX.TabB X.base X.mg c P ∧ X.env.code = .ref c ∧ (P, X.env.qual ++ "<lambda>") ∈ T ∧ ∀ p ∈ T, p.1 = P → p.2 = X.env.qual ++ "<lambda>"
def SL (X : Cx) (W : WX) (cl : Glb) (params : Arguments) (body : Expr) (scope : Scope) (es : List Expr) (g : DA) : Prop := ∃ t, PA X es t ∧ (∀ ρ ds, g ρ = .ok ds → ds.length + 1 = es.length) ∧
  ∀ (Hv H : Hp) (σ : St) (ρ : Env) (Q : List V → Hp → Prop), Vw cl Hv H → ER X.K cl Hv ρ σ →
    Pst cl W σ Hv H (fun Hv' H' ds => ∀ vs f c' pm ctv, Reps X.K cl Hv' vs ds → Hv' f = some (Fz (lobj (lamF X params scope c') body pm ctv)) → Hv' c' = some (LamX.CodeO c' (X.env.qual ++ "<lambda>")) → Q (vs ++ [.ref f]) H') (g ρ) → t σ H Q
section
variable {X : Cx} {W : WX} {cl : Glb} {params : Arguments} {body e : Expr} {scope : Scope} {lpos : Pos} {es : List Expr} {fa : DE} {g : DA}
def tLamE (X : Cx) (T : List (Addr × Str)) (params : Arguments) (body : Expr) (scope : Scope) : TE := fun _ H Q => LamX.Tabs T H ∧ ∀ (f c' : Addr) (pm ctv : Value) (H1 : Hp), Gro H H1 → LamX.Tabs T H1 → H1 f = some (Fz (lobj (lamF X params scope c') body pm ctv)) → H1 c' = some (LamX.CodeO c' (X.env.qual ++ "<lambda>")) → H f = none → (H c' = none ∨ H c' = some (LamX.CodeO c' (X.env.qual ++ "<lambda>"))) → Q (.ref f) H1
theorem pe_lamE {T : List (Addr × Str)} (mk : Mk X T) (hdef : defaultsOf params X.env = ([], [])) (hfree : ∀ y ∈ scope.names, y.2 = .free → X.env.scope.names.lookup y.1 = some .cell ∨ X.env.scope.names.lookup y.1 = some .free) : PE X (.Lambda params body scope lpos) (tLamE X T params body scope) := by
  obtain ⟨c, P, TB, hc, mT, uT⟩ := mk.ex
  refine ⟨fun pins s σ H Q I h => lam_new I TB hc mT uT h.1 hdef (fun y hy e => ?_) fun f c' pm ctv H1 s' I1 g t1 h1 h2 h3 h4 => ⟨.ref f, H1, I1, rfl, h.2 f c' pm ctv H1 g t1 h1 h2 h3 h4⟩⟩
  rcases hfree y hy e with z | z
  · exact I.ok.has _ (.inl z)
  · exact I.ok.has _ (.inr z)
theorem sl_lam (mk : Mk X cl.T) (hdef : defaultsOf params X.env = ([], [])) (hfree : ∀ y ∈ scope.names, y.2 = .free → X.env.scope.names.lookup y.1 = some .cell ∨ X.env.scope.names.lookup y.1 = some .free)
    (hs : starEach [.Lambda params body scope lpos] X.env = [(false, eval (.Lambda params body scope lpos) X.env)] := by rfl) : SL X W cl params body scope [.Lambda params body scope lpos] dNil := by
  refine ⟨_, pa_cons (pe_lamE mk hdef hfree) pa_nil hs, fun ρ ds h => by cases h; rfl, fun Hv H σ ρ Q vw er pv => ⟨vw.tab, fun f c' pm ctv H1 g t1 h1 h2 h3 h4 => ?_⟩⟩
  have ex := g.ext vw t1
  refine pv _ _ ex [] f c' pm ctv .nil ?_ ?_
  · rw [lift_new h3]; exact h1
  · rcases h4 with h4 | h4
    · rw [lift_new h4]; exact h2
    · rw [lift_old (vw.x _ _ h4)]; exact h2
theorem sl_cons (ha : SE X W cl e fa) (hr : SL X W cl params body scope es g) (hs : starEach (e :: es) X.env = (false, eval e X.env) :: starEach es X.env := by rfl) : SL X W cl params body scope (e :: es) (dCons fa g) := by
  obtain ⟨ta, pa, ha⟩ := ha
  obtain ⟨tr, pr, hl, hr⟩ := hr
  refine ⟨_, pa_cons pa pr hs, fun ρ ds h => ?_, fun Hv H σ ρ Q vw er pv => ?_⟩
  · unfold dCons at h
    cases h1 : fa ρ with
    | ok x =>
      cases h2 : g ρ with
      | ok y =>
        rw [h1, h2] at h
        cases h
        have := hl ρ y h2
        rw [List.length_cons, List.length_cons, ← this]
      | err c => rw [h1, h2] at h; cases h
      | bad => rw [h1, h2] at h; cases h
    | err c => rw [h1] at h; cases h
    | bad => rw [h1] at h; cases h
  · refine ha Hv H σ ρ _ vw er (bindP pv fun x Hv1 H1 _ e1 pv1 v rv => ?_)
    refine hr Hv1 H1 σ ρ _ e1.vh (er.mono e1.vv) (bindP pv1 fun y Hv2 H2 _ e2 pv2 vs f c' pm ctv ru h1 h2 => ?_)
    exact pv2 _ _ (Ext.refl e2.vh) (v :: vs) f c' pm ctv (.cons (rv.mono e2.vv) ru) h1 h2
end
end Sm
namespace Sm
open PySem PySem.Spec L2
structure FnV (P : Program) (w : World) (K : PySem.W.Frag) (mg : Str → Option Value) (base : Heap) (cl : Glb) (k n : Nat) (F : List D → R D) : Prop where
  isF : ∀ (Hv H : Hp) (h : Heap) (f : Addr), Vw cl Hv H → HOk P w H h → cl.fn Hv f → PySem.W.FnAt f h
  run : ∀ (A : Around) (outer : List PySem.Env) (s : Shared) (H Hv : Hp) (f : Addr) (us : List Value) (vs : List V) (ds : List D) (Q : VK) (E : XK), Room k A → Env0 P w K mg base A outer s H → Vw cl Hv H → cl.fn Hv f → Vals vs us → vs.length = n → Reps K cl Hv vs ds →
    Pst cl (fun c d _ H => E c d H) [] Hv H (TV K cl Q) (F ds) → codeAny (model P w) A (.call (.ref f) ⟨us, []⟩) (CR (L2.CX P w) outer P w H s Q E) s
section
variable {X : Cx} {W : WX} {cl : Glb} {pos p : Pos} {e : Expr} {es : List Expr} {g : DA} {k n i : Nat} {x : Str} {F : List D → R D} {t : TA}
def tAct (K : PySem.W.Frag) (cl : Glb) (n : Nat) (F : List D → R D) (i : Nat) (W : WX) (t : TA) : TE := fun σ H Q => ∃ f Hv, σ[i]? = some (some (.ref f)) ∧ Vw cl Hv H ∧ cl.fn Hv f ∧
  t σ H fun vs H1 => vs.length = n ∧ ∃ Hv1 ds, Vw cl Hv1 H1 ∧ cl.fn Hv1 f ∧ Reps K cl Hv1 vs ds ∧ Pst cl (fun c d _ H => W c d σ H) [] Hv1 H1 (TV K cl Q) (F ds)
theorem act_run {pins : List (Addr × Obj)} {σ : St} {H Hv : Hp} {s : Shared} {Q : VK} {f : Addr} {us : List Value} {vs : List V} {ds : List D} (V : FnV X.prog X.w X.K X.mg X.base cl k n F) (hr : Room k X.A) (tk : Takes X W) (I : Inv X pins σ H s) (vw : Vw cl Hv H) (hf : cl.fn Hv f) (r : Vals vs us) (hl : vs.length = n)
    (rs : Reps X.K cl Hv vs ds) (pv : Pst cl (fun c d _ H => W c d σ H) [] Hv H (TV X.K cl Q) (F ds)) : wpAny (model X.prog X.w) X.A (call (.ref f) us) (EP X pins σ Q) X.xe s := by
  refine wpAny_call (codeAny_mono (V.run X.A X.stack s H Hv f us vs ds Q (WE W σ) hr I.env0 vw hf r hl rs pv) fun o s' q => ?_)
  cases o with
  | error u => exact passAt tk σ pins H s u s' I q
  | ok fl =>
    cases fl with
    | ret u => exact I.after q
    | next => exact False.elim q
    | brk => exact False.elim q
    | cont => exact False.elim q
theorem pe_act (V : FnV X.prog X.w X.K X.mg X.base cl k n F) (hr : Room k X.A) (tk : Takes X W) (ha : PA X (e :: es) t) (hN : X.N[i]? = some x) (hv : Vis X.env.scope x) (hd : (x == ("__debug__" : Str)) = false) (hcd : (x == ("__classdict__" : Str)) = false)
    (he : starEach (e :: es) X.env = (false, eval e X.env) :: starEach es X.env) (hpl : (backTo pos (starEach es X.env)).any (·.1) = false) : PE X (.Call (.Name x p) (e :: es) [] pos) (tAct X.K cl n F i W t) := by
  refine ⟨fun pins s σ H Q I h => ?_⟩
  obtain ⟨f, Hv, hs, vw, hf, ht⟩ := h
  have first := (pe_var (pos := p) hN hv hd hcd).run pins s σ H (fun v H1 => v = .ref f ∧ H1 = H) I ⟨.ref f, hs, rfl, rfl⟩
  refine wpAny_Call_Name_kw (thn first fun u s1 ⟨v, H1, I1, r1, ev, eH⟩ => ?_)
  subst ev
  rw [eH] at I1
  cases (show u = Value.ref f from r1)
  refine PySem.W.callWith_F (first := []) (V.isF Hv H s1.heap f vw I1.hok hf)
    (thn (ha.run pos pins s1 σ H _ I1 ht) fun us s2 ⟨vs, H2, I2, r, hl, Hv1, ds, vw1, hf1, rs, pv⟩ => ⟨V.isF Hv1 H2 s2.heap f vw1 I2.hok hf1, act_run V hr tk I2 vw1 hf1 r hl rs pv⟩) he hpl
def dCallF (i : Nat) (F : List D → R D) (g : DA) : DE := fun ρ => match ρ[i]? with
  | some (some .fnv) => (g ρ).bind F
  | _ => .bad
theorem act_den {ta : TA} (ha : RunA X W cl g ta) (hl : ∀ ρ ds, g ρ = .ok ds → ds.length = n) : RunE X W cl (dCallF i F g) (tAct X.K cl n F i W ta) := by
  intro Hv H σ ρ Q vw er pv
  unfold dCallF at pv
  split at pv
  · rename_i hi
    obtain ⟨v, h1, h2⟩ := er.get i _ hi
    cases h2 with
    | fnv hf =>
      refine ⟨_, Hv, h1, vw, hf, ha Hv H σ ρ _ vw er (bindP pv fun ds Hv1 H1 ex e1 pv1 vs rv => ⟨?_, Hv1, ds, e1.vh, cl.fnM _ _ _ e1.vv hf, rv, ?_⟩)⟩
      · rw [rv.length]; exact hl ρ ds ex
      · cases q : F ds with
        | ok d => rw [q] at pv1; exact pv1
        | err c => rw [q] at pv1; exact pv1
        | bad => rw [q] at pv1; exact pv1.elim
  · exact pv.elim
theorem se_callF (i : Nat) (V : FnV X.prog X.w X.K X.mg X.base cl k n F) (hr : Room k X.A) (tk : Takes X W) (ha : SA X W cl (e :: es) g) (hn : (e :: es).length = n := by rfl) (hN : X.N[i]? = some x := by rfl)
    (hv : Vis X.env.scope x := by first | exact Or.inl rfl | exact Or.inr (Or.inl rfl) | exact Or.inr (Or.inr rfl)) (hd : (x == ("__debug__" : Str)) = false := by decide) (hcd : (x == ("__classdict__" : Str)) = false := by decide)
    (he : starEach (e :: es) X.env = (false, eval e X.env) :: starEach es X.env := by rfl) (hpl : (backTo pos (starEach es X.env)).any (·.1) = false := by rfl) : SE X W cl (.Call (.Name x p) (e :: es) [] pos) (dCallF i F g) := by
  obtain ⟨ta, pa, ha, hl⟩ := ha
  exact ⟨_, pe_act V hr tk pa hN hv hd hcd he hpl, act_den ha fun ρ ds h => (hl ρ ds h).trans hn⟩
end
def gdR : R D → R D
  | .ok d => if noFn d then .ok d else .bad
  | r => r
def lamD (fb : DE) (cs : List (Option D)) : List D → R D := fun as => if noFns as then gdR (fb (as.map some ++ cs)) else .bad
theorem fnv_lam {P : Program} {w : World} {K : PySem.W.Frag} {mg : Str → Option Value} {base : Heap} {cl cl' : Glb} {Z : Zf} {f : Addr} {F : NdefX.NF} {body : Expr} {pm ctv : Value} {ps fr : List Str} {ws : List (Option V)} {cs : List (Option D)} {Hv0 : Hp} {fb : DE} {k : Nat}
    (hT : cl'.T = cl.T) (hc : cl'.c = cl.c) (hn : cl'.ns = cl.ns) (ho : cl'.ob = cl.ob)
    (hfn : ∀ Hv f', cl'.fn Hv f' → f' = f ∧ Hld Z Hv ∧ Hv f = some (Fz (lobj F body pm ctv)) ∧ Hv F.c = some (LamX.CodeO F.c F.qual) ∧ Sam Hv0 (utr Z Hv))
    (S : NdefX.NScope (ps ++ fr) ps fr F.scope) (hb : ∀ us : List Value, us.length = ps.length → bindArgs (PySem.W.kla_fn F.name F.qual F.params body F.scope F.cl pm (.ref F.c) ctv) ⟨us, []⟩ = pure (ps.zip us))
    (hC : ∀ (h : Heap) (H : Hp), (∀ b o, Z b = some o → h.get? b = some o) → Fre Z H → NdefX.CellsAt F.cl fr ws h H) (hcs : cs.length = fr.length)
    (hcap : ∀ (i : Nat) d, cs[i]? = some (some d) → ∃ v, ws[i]? = some (some v) ∧ Rep K cl Hv0 v d)
    (hbody : ∀ (A : Around) (outer : List PySem.Env) (s : Shared) (H : Hp) (E : XK), Room k (A.deeper (NdefX.envF F f s.heap.objs.size)) → SE (NdefX.ncx (L2.CX P w) P w K mg base (ps ++ fr) F f A outer s H E) (fun c d _ H => E c d H) cl body fb) :
    FnV P w K mg base cl' (k + 1) ps.length (lamD fb cs) := by
  refine ⟨fun Hv H h f' vw hok hf => ?_, fun A outer s H Hv f' us vs ds Q E hr e0 vw hf r hl rs pv => ?_⟩
  · obtain ⟨rfl, _, h1, _⟩ := hfn Hv f' hf
    exact ⟨_, _, _, _, (hok f' _ (vw.s _ _ h1 rfl)).1⟩
  · obtain ⟨rfl, hh, h1, h2, h3⟩ := hfn Hv f' hf
    have hH : Hld Z H := hh.mono vw.s
    have hz : ∀ b o, Z b = some o → s.heap.get? b = some o := fun b o z => (e0.hok b _ (hH b o z)).1
    have gf : s.heap.get? f' = some (lobj F body pm ctv) := (e0.hok f' _ (vw.s _ _ h1 rfl)).1
    have gc : s.heap.CodeRec (.ref F.c) F.qual := NdefX.codeO_at e0.hok (vw.s _ _ h2 rfl)
    have lim : s.heap.NoLimit := e0.mod.nolimit.keeps fun b o e => (e0.bs b o e).1
    have C := hC s.heap (utr Z H) hz fre_utr
    have e1 := env0_utr e0 hH
    unfold lamD at pv
    by_cases hq : noFns ds = true
    · rw [if_pos hq] at pv
      refine codeAny_mono (R := CR (L2.CX P w) outer P w (utr Z H) s (fun v H' => Fre Z H' → Q v (trk Z H')) (fun c d H' => Fre Z H' → E c d (trk Z H'))) ?_ fun o s' q => cr_trk q hH e0.hok e0.frf (fun v H' fz q => q fz) (fun c d H' fz q => q fz)
      refine PySem.W.kla_callFunE hr.depth gf rfl S.co S.gen rfl gc ?_
      rw [hb us (by rw [← r.length]; exact hl)]
      refine wpAny_pure (wpAny_newFunctionEnv S.nocell (fun ⟨y, _⟩ hy => S.par y (List.of_mem_zip hy).1) (fun h₁ hns hsb => ⟨lim.fresh _ hsb, ?_⟩) S.kind)
      show codeAny _ _ (.expr body (NdefX.envF F f' s.heap.objs.size)) _ _
      have kp : ∀ b o, s.heap.get? b = some o → h₁.get? b = some o := fun b o e => hsb.extBut b o (Nat.ne_of_lt (Heap.lt_size e)) (Heap.get?_push_of_some _ e)
      obtain ⟨tb, pb, rb⟩ := hbody A outer s (utr Z H) (fun c d H' => Fre Z H' → E c d (trk Z H')) (hr.deeper _)
      have J := NdefX.inv_startN (CX := L2.CX P w) (E := fun c d H' => Fre Z H' → E c d (trk Z H')) (f := f') (tk := s.toks + (ps.zip us).length) S hr.hd e1 hl r C hns kp
      refine PySem.W.kla_codeExpr (wpAny_mono (pb.run [] _ _ (utr Z H) (fun v H' => Fre Z H' → Q v (trk Z H')) J (rb (utr Z Hv) (utr Z H) _ (ds.map some ++ cs) _ (vw_utr vw hh hT) ⟨fun i d hi => ?_, ?_⟩ ?_)) (fun u s' ⟨v, H', J', rv, q⟩ => ?_) fun u s' q => q)
      · have lw := C.len
        unfold NdefX.startF
        by_cases hi1 : i < ds.length
        · rw [List.getElem?_append_left (by rw [List.length_map]; exact hi1), List.getElem?_map] at hi
          cases e : ds[i]? with
          | none => rw [e] at hi; cases hi
          | some d' =>
            rw [e] at hi; cases hi
            obtain ⟨v, g1, g2⟩ := (reps_utr hh hc hn ho rs hq).get e
            exact ⟨v, by rw [List.getElem?_append_left (by rw [List.length_map, rs.length]; exact hi1), List.getElem?_map, g1]; rfl, g2⟩
        · rw [List.getElem?_append_right (by rw [List.length_map]; omega), List.length_map] at hi
          obtain ⟨v, g1, g2⟩ := hcap _ d hi
          have hlt : i - ds.length < ws.length := (List.getElem?_eq_some_iff.mp g1).1
          exact ⟨v, by rw [List.getElem?_append_right (by rw [List.length_map, rs.length]; omega), List.length_map, rs.length, List.getElem?_append_left hlt, g1], g2.mono h3⟩
      · have lw := C.len
        have lr := rs.length
        unfold NdefX.startF
        rw [List.length_append, List.length_append, List.length_append, List.length_map, List.length_map, List.length_replicate, List.length_append]
        omega
      · cases qb : fb (ds.map some ++ cs) with
        | bad => rw [qb] at pv; exact pv.elim
        | err c =>
          rw [qb] at pv
          intro Hv' H' ex fz
          rw [← hc]
          exact pv _ _ (ext_on vw hh fz hT ex)
        | ok d =>
          rw [qb] at pv
          unfold gdR at pv
          by_cases hd : noFn d = true
          · simp only [hd, if_true] at pv
            intro Hv' H' ex v rv fz
            have fv : Fre Z Hv' := fun b o z => ex.vh.d b (fz b o z)
            exact pv _ _ (ext_on vw hh fz hT ex) v (rep_cl hc.symm hn.symm ho.symm (rv.mono (sam_trk fv)) hd)
          · simp only [hd] at pv
            exact pv.elim
      · exact ⟨v, H', J'.os, J'.bare, J'.base, J'.hok, rv, q⟩
    · rw [if_neg hq] at pv
      exact pv.elim
end Sm
namespace Sm
open PySem PySem.Spec L2
def capsD (js : List Nat) (ρ : Env) : List (Option D) := js.map fun j => (ρ[j]?).join
def dLam (FF : (List D → R D) → List D → R D) (js : List Nat) (fb : DE) (g : DA) : DE := fun ρ => (g ρ).bind fun ds => if noFns ds then gdR (FF (lamD fb (capsD js ρ)) (ds ++ [.fnv])) else .bad
def tLC (X : Cx) (W : WX) (k : Nat) (gA : Addr) (clo : List (Str × Addr)) (fr : List Str) (js : List Nat) (t : TA) : TE := fun σ H Q => t σ H fun vs H1 => ∀ Z : Zf, Fre Z H1 →
  (∀ (h : Heap) (H : Hp), (∀ b o, Z b = some o → h.get? b = some o) → Fre Z H → NdefX.CellsAt clo fr (js.map (NdefX.slotAt σ)) h H) →
  ∃ (fd : FuncData) (pp : List Str) (sp : Sp) (Q' : VK) (E' : XK), FnOk X.prog X.w X.K X.mg X.base (L2.CX X.prog X.w) k gA fd pp sp ∧ Binds X.K fd pp [] ∧ sp vs (trk Z H1) Q' E' ∧ (∀ v H', Hld Z H' → Q' v H' → Q v (utr Z H')) ∧ (∀ c d H', Hld Z H' → E' c d H' → WE W σ c d (utr Z H'))
section
variable {X : Cx} {W : WX} {cl : Glb} {params : Arguments} {body e : Expr} {scope : Scope} {pos p : Pos} {es : List Expr} {g : DA} {k kb m : Nat} {x : Str} {gA : Addr} {fr ps : List Str} {js : List Nat} {t : TA} {fb : DE} {FF : (List D → R D) → List D → R D}
open Classical in
theorem pe_lamC (hg : Gl X x) (hm : X.mg x = some (.ref gA)) (hk : PySem.W.keepIn X.K (.ref gA) = true) (hr : Room k X.A) (tk : Takes X W) (pa : PA X (e :: es) t) (hfn : ∀ y, X.fn y = true) (hstk : X.stack = X.env :: X.outer) (hfrm : X.env.frame = some X.env.locals)
    (hfree : ∀ y ∈ scope.names, y.2 = .free → X.env.scope.names.lookup y.1 = some .cell ∨ X.env.scope.names.lookup y.1 = some .free) (hfr : ∀ y ∈ fr, (y, NameKind.free) ∈ scope.names) (hjs : js.map (fun j => X.N[j]?) = fr.map some) (hdb : (x == ("__debug__" : Str)) = false)
    (he : starEach (e :: es) X.env = (false, eval e X.env) :: starEach es X.env) (hpl : (backTo pos (starEach es X.env)).any (·.1) = false) :
    PE X (.Call (.Name x p) (e :: es) [] pos) (tLC X W k gA (cloFrom X.env.cells scope.names []) fr js t) := by
  refine ⟨fun pins s σ H Q I h => wpAny_Call_Name_kw (ld_glob I hg hm ?_ hdb)⟩
  refine PySem.W.callWith_K (h₀ := X.base) I.ok.mod.kin hk (thn (pa.run pos pins s σ H _ I h) fun us s1 ⟨vs, H1, I1, r, q⟩ => ⟨I1.kIn, ?_⟩) he hpl
  have cap := NdefX.Caps.made (fr := fr) (js := js) I1.ok hfree hfr hjs
  have CA := NdefX.cells_of I1 cap
  have hx : ∀ y c, (cloFrom X.env.cells scope.names []).lookup y = some c → X.env.cells.lookup y = some c := cap.sub
  let Z : Zf := fun b => if ∃ y, (cloFrom X.env.cells scope.names []).lookup y = some b then s1.heap.get? b else none
  have hz : ∀ b o, Z b = some o → (∃ y, (cloFrom X.env.cells scope.names []).lookup y = some b) ∧ s1.heap.get? b = some o := fun b o z => by
    have z : (if ∃ y, (cloFrom X.env.cells scope.names []).lookup y = some b then s1.heap.get? b else none) = some o := z
    split at z
    · exact ⟨by assumption, z⟩
    · cases z
  have zin : ∀ y c o, (cloFrom X.env.cells scope.names []).lookup y = some c → s1.heap.get? c = some o → Z c = some o := fun y c o hy ho => (if_pos ⟨y, hy⟩).trans ho
  have fZ : Fre Z H1 := fun b o z => by
    obtain ⟨⟨y, hy⟩, _⟩ := hz b o z
    exact (CA.all y b hy).1
  have ab : ∀ b o, Z b = some o → X.s_0.heap.objs.size ≤ b := fun b o z => by
    obtain ⟨⟨y, hy⟩, _⟩ := hz b o z
    exact I1.ok.cab y b (hfn y) (hx y b hy)
  have nf : ∀ b o, Z b = some o → b ∉ frs X.stack := fun b o z hb => by
    obtain ⟨⟨y, hy⟩, _⟩ := hz b o z
    rw [hstk] at hb
    have hb : b ∈ List.filterMap (·.frame) (X.env :: X.outer) := hb
    rw [List.filterMap_cons, hfrm] at hb
    rcases List.mem_cons.mp hb with e1 | e1
    · exact I1.cne y b (hx y b hy) e1
    · obtain ⟨_, o', ho', _⟩ := I1.ok.funs.mem e1
      exact absurd (Heap.lt_size ho') (Nat.not_lt.mpr (ab b o z))
  have nb : ∀ b o, Z b = some o → X.base.get? b = none := fun b o z => by
    cases q : X.base.get? b with
    | none => rfl
    | some o' => exact absurd (Heap.lt_size (I1.ok.bs b o' q).1) (Nat.not_lt.mpr (ab b o z))
  obtain ⟨fd, pp, sp, Q', E', F, hb, hsp, hq, hE⟩ := q Z fZ fun h H2 hh f2 => by
    refine ⟨CA.len, fun y c e1 => ?_, CA.inj, fun i y e1 => ?_⟩
    · obtain ⟨_, v, o, ho, hd⟩ := CA.all y c e1
      exact ⟨f2 c o (zin y c o e1 ho), v, o, hh c o (zin y c o e1 ho), hd⟩
    · obtain ⟨c, e2, e3⟩ := CA.has i y e1
      refine ⟨c, e2, fun v hv => ?_⟩
      obtain ⟨u, ru, o, ho, hd⟩ := e3 v hv
      exact ⟨u, ru, o, hh c o (zin y c o e2 ho), hd⟩
  have hl : us.length = pp.length := by rw [← r.length]; exact F.len _ _ _ _ hsp
  have b := hb s1 us I1.kIn (by rw [List.append_nil]; exact hl)
  rw [List.append_nil] at b
  have hz' : ∀ b o, Z b = some o → s1.heap.get? b = some o := fun b o z => (hz b o z).2
  show wpAny _ _ (call (.ref gA) us) _ _ _
  refine wpAny_call (codeAny_mono (F.run X.A X.stack s1 (trk Z H1) ⟨us, []⟩ us vs Q' E' hr (env0_trk I1.env0 fZ hz' nf nb) b r hsp) fun o s' q' => ?_)
  have q2 : CR (L2.CX X.prog X.w) X.stack X.prog X.w H1 s1 Q (WE W σ) o s' := cr_utr q' fZ hz' nf hq hE
  cases o with
  | error u => exact passAt tk σ pins H1 s1 u s' I1 q2
  | ok fl =>
    cases fl with
    | ret u => exact I1.after q2
    | next => exact False.elim q2
    | brk => exact False.elim q2
    | cont => exact False.elim q2
def lamB (sc scope : Scope) (ps fr : List Str) : Bool := NdefX.nscB (ps ++ fr) ps fr scope && scope.names.all (fun y => !decide (y.2 = .free) || decide (sc.names.lookup y.1 = some .cell) || decide (sc.names.lookup y.1 = some .free)) && fr.all (fun y => decide ((y, NameKind.free) ∈ scope.names))
theorem lam_free {sc : Scope} (h : lamB sc scope ps fr = true) : ∀ y ∈ scope.names, y.2 = .free → sc.names.lookup y.1 = some .cell ∨ sc.names.lookup y.1 = some .free := fun y hy e => by
  unfold lamB at h
  simp only [Bool.and_eq_true, Bool.or_eq_true, Bool.not_eq_true', List.all_eq_true, decide_eq_true_eq, decide_eq_false_iff_not] at h
  rcases h.1.2 y hy with (z | z) | z
  · exact absurd e z
  · exact .inl z
  · exact .inr z
theorem lam_fr {sc : Scope} (h : lamB sc scope ps fr = true) : ∀ y ∈ fr, (y, NameKind.free) ∈ scope.names := fun y hy => by
  unfold lamB at h
  simp only [Bool.and_eq_true, List.all_eq_true, decide_eq_true_eq] at h
  exact h.2 y hy
theorem lam_sc {sc : Scope} (h : lamB sc scope ps fr = true) : NdefX.NScope (ps ++ fr) ps fr scope := by
  unfold lamB at h
  simp only [Bool.and_eq_true] at h
  exact NdefX.nscope_by h.1.1
abbrev lamX (X : Cx) (params : Arguments) (scope : Scope) (N : List Str) (f c' : Addr) (A : Around) (outer : List PySem.Env) (s : Shared) (H : Hp) (E : XK) : Cx := NdefX.ncx (L2.CX X.prog X.w) X.prog X.w X.K X.mg X.base N (lamF X params scope c') f A outer s H E
theorem se_lamC (ps fr : List Str) (js : List Nat) (hm : X.mg x = some (.ref gA)) (hk : PySem.W.keepIn X.K (.ref gA) = true)
    (G : ∀ (cl' : Glb) (Fb : List D → R D), cl'.c = cl.c → cl'.ns = cl.ns → cl'.T = cl.T → cl'.ob = cl.ob → FnV X.prog X.w X.K X.mg X.base cl' (kb + 1) ps.length Fb → Fn X.prog X.w X.K X.mg X.base cl' k x m (FF Fb))
    (hr : Room k X.A) (tk : Takes X W) (hL : SL X W cl params body scope (e :: es) g)
    (hbody : ∀ (f c' : Addr) (A : Around) (outer : List PySem.Env) (s : Shared) (H : Hp) (E : XK), Gd (lamX X params scope (ps ++ fr) f c' A outer s H E) (fun c d _ H => E c d H) → Room kb (lamX X params scope (ps ++ fr) f c' A outer s H E).A → SE (lamX X params scope (ps ++ fr) f c' A outer s H E) (fun c d _ H => E c d H) cl body fb)
    (hB : lamB X.env.scope scope ps fr = true) (hjs : js.map (fun j => X.N[j]?) = fr.map some := by rfl) (hb : ∀ (q : Str) (clo : List (Str × Addr)) (pm cv ctv : Value) (us : List Value), us.length = ps.length → bindArgs (PySem.W.kla_fn "<lambda>" q params body scope clo pm cv ctv) ⟨us, []⟩ = pure (ps.zip us))
    (hfn : ∀ y, X.fn y = true := by intro _; rfl) (hstk : X.stack = X.env :: X.outer := by rfl) (hfrm : X.env.frame = some X.env.locals := by rfl)
    (hg : Gl X x := by rfl) (hm2 : (e :: es).length = m := by rfl) (hdb : (x == ("__debug__" : Str)) = false := by decide)
    (he : starEach (e :: es) X.env = (false, eval e X.env) :: starEach es X.env := by rfl) (hpl : (backTo pos (starEach es X.env)).any (·.1) = false := by rfl) :
    SE X W cl (.Call (.Name x p) (e :: es) [] pos) (dLam FF js fb g) := by
  obtain ⟨t, pt, hlen, rt⟩ := hL
  have S := lam_sc hB
  refine ⟨_, pe_lamC hg hm hk hr tk pt hfn hstk hfrm (lam_free hB) (lam_fr hB) hjs hdb he hpl, fun Hv H σ ρ Q vw er pv => ?_⟩
  refine rt Hv H σ ρ _ vw er (bindP pv fun ds Hv1 H1 ex e1 pv1 vs f c' pm ctv rs h1 h2 => ?_)
  intro Z fZ hC
  have fv : Fre Z Hv1 := fun b o z => e1.vh.d b (fZ b o z)
  by_cases hq : noFns ds = true
  · rw [if_pos hq] at pv1
    have er1 := er.mono e1.vv
    let cl' : Glb := { cl with fn := fun Hv f' => f' = f ∧ Hld Z Hv ∧ Hv f = some (Fz (lobj (lamF X params scope c') body pm ctv)) ∧ Hv c' = some (LamX.CodeO c' (X.env.qual ++ "<lambda>")) ∧ Sam Hv1 (utr Z Hv), fnM := fun Ha Hb f' sm ⟨a1, a2, a3, a4, a5⟩ => ⟨a1, a2.mono sm, sm _ _ a3 rfl, sm _ _ a4 rfl, a5.trans (sam_utr sm)⟩ }
    have V : FnV X.prog X.w X.K X.mg X.base cl' (kb + 1) ps.length (lamD fb (capsD js ρ)) := by
      refine fnv_lam (cl := cl) (Z := Z) (F := lamF X params scope c') (ws := js.map (NdefX.slotAt σ)) (Hv0 := Hv1) rfl rfl rfl rfl (fun Hv f' h => h) S (hb _ _ _ _ _) hC ?_ (fun i d hi => ?_) fun A outer s H E hr2 => hbody f c' A outer s H E ⟨rfl, S.nd, takes_of rfl rfl rfl rfl, passes_of rfl⟩ hr2
      · have q := congrArg List.length hjs
        rw [List.length_map, List.length_map] at q
        unfold capsD
        rw [List.length_map]; exact q
      · unfold capsD at hi
        rw [List.getElem?_map] at hi ⊢
        cases ej : js[i]? with
        | none => rw [ej] at hi; cases hi
        | some j =>
          rw [ej] at hi
          have hi : (ρ[j]?).join = some d := Option.some.inj hi
          have hj : ρ[j]? = some (some d) := by
            cases z : ρ[j]? with
            | none => rw [z] at hi; cases hi
            | some u => rw [z] at hi; exact congrArg some hi
          obtain ⟨v, g1, g2⟩ := er1.get j d hj
          exact ⟨v, congrArg some (NdefX.slotAt_of g1), g2⟩
    obtain ⟨fA, fd, pp, ok, hm', hk', hbn, hpl'⟩ := G cl' _ rfl rfl rfl rfl V
    rw [hm] at hm'
    cases hm'
    refine ⟨fd, pp, _, fun v H' => Hld Z H' → Q v (utr Z H'), fun c d H' => Hld Z H' → W c d σ (utr Z H'), ok, hbn, ⟨?_, trk Z Hv1, ds ++ [.fnv], vw_trk e1.vh fZ rfl, ?_, ?_⟩, fun v H' hl q => q hl, fun c d H' hl q => q hl⟩
    · have := hlen ρ ds ex
      rw [List.length_append, rs.length]
      exact this.trans hm2
    · refine Reps.append (reps_cl (cl := cl') (cl' := cl) rfl rfl rfl (rs.mono (sam_trk fv)) hq) (.cons (.fnv ⟨rfl, hld_trk, ?_, ?_, ?_⟩) .nil)
      · rw [trk_out (fv.out h1)]; exact h1
      · rw [trk_out (fv.out h2)]; exact h2
      · rw [utr_trk fv]; exact Sam.refl _
    · cases qF : FF (lamD fb (capsD js ρ)) (ds ++ [.fnv]) with
      | bad => rw [qF] at pv1; exact pv1.elim
      | err c =>
        rw [qF] at pv1
        exact fun Hv' H' ex2 hl => pv1 _ _ (ext_back (cl' := cl') e1.vh fZ rfl ex2)
      | ok d =>
        rw [qF] at pv1
        unfold gdR at pv1
        by_cases hd : noFn d = true
        · simp only [hd, if_true] at pv1
          intro Hv' H' ex2 v rv hl
          exact pv1 _ _ (ext_back (cl' := cl') e1.vh fZ rfl ex2) v (rep_utr (cl := cl) (cl' := cl') (hld_trk.mono ex2.vv) rfl rfl rfl rv hd)
        · simp only [hd] at pv1
          exact pv1.elim
  · rw [if_neg hq] at pv1
    exact pv1.elim
end
def lq (x : Str) : Str := (x ++ ".<locals>.") ++ "<lambda>"
structure FunC (K : PySem.W.Frag) (x : Str) (st : Stmt) (f : Addr) (fd : FuncData) (c : Addr) : Prop where
  ex : ∃ (oc : Value) (od : Option Addr) (kV doc pm : Value) (an : Option Addr) (ct : Value) (osl : Array (Option Value)),
    fd = PySem.W.fnOf x x (defArgs st) (defBody st) (defScope st) .none kV doc pm an (.ref c) ct ∧ K.lookup f = some ⟨oc, od, .func fd, osl⟩ ∧ PySem.W.codeIn K (.ref c) x = true
  kp : PySem.W.keepIn K (.ref f) = true
theorem okC {P : Program} {w : World} {K : PySem.W.Frag} {mg : Str → Option Value} {base : Heap} {x : Str} {st : Stmt} {f : Addr} {fd : FuncData} {c : Addr} {N ps : List Str} {k : Nat} {sp : Sp} (F : FunC K x st f fd c) (S : FnScope N ps (defScope st)) (len : ∀ vs H Q E, sp vs H Q E → vs.length = ps.length)
    (h : ∀ (A : Around) (outer : List PySem.Env) (s : Shared) (H : Hp) (vs : List V) (Q : VK) (E : XK), Room k (A.deeper (PyProof.Rows.envOfC x (defScope st) s.heap.objs.size f (.ref c))) → sp vs H Q E →
      ∃ t, PSs (cxOf (L2.CX P w) P w K mg base N x (defScope st) f (.ref c) A outer s H E) (defBody st) t ∧ t { nx := fun _ H' => Q .non H', rt := Q } (start N vs) H) : FnOk P w K mg base (L2.CX P w) (k + 1) f fd ps sp := by
  obtain ⟨oc, od, kV, doc, pm, an, ct, osl, rfl, lk, hcd⟩ := F.ex
  exact fn_of lk hcd S len h
end Sm
namespace Sm
open PySem PySem.Spec L2
structure TabAt (base : Heap) (mg : Str → Option Value) (cl : Glb) (x : Str) (c : Addr) : Prop where
  ex : ∃ P, LamX.TabB base mg c P ∧ (P, lq x) ∈ cl.T ∧ ∀ p ∈ cl.T, p.1 = P → p.2 = lq x
theorem fn_okC {P : Program} {w : World} {K : PySem.W.Frag} {mg : Str → Option Value} {base : Heap} {cl : Glb} {k n m : Nat} {x : Str} {st : Stmt} {f c : Addr} {fd : FuncData} {N ps : List Str} {den : DS} {own : List Nat}
    (F : FunC K x st f fd c) (tb : TabAt base mg cl x c) (S : FnScope N ps (defScope st)) (hn : ps.length = n) (hN : N.length = m)
    (h : ∀ (A : Around) (outer : List PySem.Env) (s : Shared) (H : Hp) (E : XK), Gd (cxOf (L2.CX P w) P w K mg base N x (defScope st) f (.ref c) A outer s H E) (fun cls d _ H => E cls d H) → Mk (cxOf (L2.CX P w) P w K mg base N x (defScope st) f (.ref c) A outer s H E) cl.T →
      Room k (A.deeper (PyProof.Rows.envOfC x (defScope st) s.heap.objs.size f (.ref c))) → SSs (cxOf (L2.CX P w) P w K mg base N x (defScope st) f (.ref c) A outer s H E) (fun cls d _ H => E cls d H) cl [] own (defBody st) den) :
    FnOk P w K mg base (L2.CX P w) (k + 1) f fd ps (spF K cl n (defD n m den)) := by
  refine okC F S (fun vs H Q E h => h.1.trans hn.symm) fun A outer s H vs Q E hr hsp => ?_
  obtain ⟨hv, Hv, ds, vw, r, po⟩ := hsp
  obtain ⟨PT, t1, t2, t3⟩ := tb.ex
  have gd : Gd (cxOf (L2.CX P w) P w K mg base N x (defScope st) f (.ref c) A outer s H E) (fun cls d _ H => E cls d H) := ⟨rfl, S.nd, takes_of rfl rfl rfl rfl, passes_of rfl⟩
  obtain ⟨t, pt, run⟩ := h A outer s H E gd ⟨c, PT, t1, rfl, t2, t3⟩ hr
  have hd : ds.length = n := by rw [← r.length]; exact hv
  have hlen : (args N.length ds).length = (start N vs).length := by
    unfold args L2.start
    rw [List.length_append, List.length_append, List.length_map, List.length_map, List.length_replicate, List.length_replicate, r.length]
  refine ⟨t, pt, run Hv H (args N.length ds) (start N vs) Hv H _ ⟨Ext.refl vw, hlen, fun i d _ e => args_get r e, fun i hi => absurd hi (by simp), fun i j p hi => absurd hi (by simp)⟩ ?_ ?_⟩
  · unfold L2.start
    have h1 : ps.length ≤ N.length := by have := congrArg List.length S.pre; rw [List.length_take] at this; omega
    show _ = N.length
    rw [List.length_append, List.length_map, List.length_replicate]
    omega
  · unfold defD at po
    rw [if_pos hd] at po
    rw [hN]
    cases q : den (args m ds) with
    | nx ρ =>
      rw [q] at po
      exact fun σ' Hv' H' sr sm hl => po Hv' H' sr.ext .non .non
    | ret d =>
      rw [q] at po
      exact fun v Hv' H' e r' => po Hv' H' e v r'
    | err ρ c =>
      rw [q] at po
      exact fun σ' Hv' H' sr _ hl => po Hv' H' sr.ext
    | bad => rw [q] at po; exact po.elim
theorem fn_mkC {P : Program} {w : World} {K : PySem.W.Frag} {mg : Str → Option Value} {base : Heap} {cl : Glb} {k n m : Nat} {x : Str} {st : Stmt} {f c : Addr} {fd : FuncData} {N ps : List Str} {den : DS} {own : List Nat}
    (F : FunC K x st f fd c) (tb : TabAt base mg cl x c) (S : FnScope N ps (defScope st)) (hm : mg x = some (.ref f)) (hb : Binds K fd ps []) (hn : ps.length = n) (hN : N.length = m)
    (h : ∀ (A : Around) (outer : List PySem.Env) (s : Shared) (H : Hp) (E : XK), Gd (cxOf (L2.CX P w) P w K mg base N x (defScope st) f (.ref c) A outer s H E) (fun cls d _ H => E cls d H) → Mk (cxOf (L2.CX P w) P w K mg base N x (defScope st) f (.ref c) A outer s H E) cl.T →
      Room k (A.deeper (PyProof.Rows.envOfC x (defScope st) s.heap.objs.size f (.ref c))) → SSs (cxOf (L2.CX P w) P w K mg base N x (defScope st) f (.ref c) A outer s H E) (fun cls d _ H => E cls d H) cl [] own (defBody st) den) :
    Fn P w K mg base cl (k + 1) x n (defD n m den) := ⟨f, fd, ps, fn_okC F tb S hn hN h, hm, F.kp, hb, hn⟩
def spT (K : PySem.W.Frag) (cs : List (Addr × Addr)) : Sp := fun vs H Q _ => ∃ (a : Addr) (ns : List Int), vs = [.ref a] ∧ SqL K H a (ns.map V.int) ∧ ns.length ≤ 63 ∧ (∀ p ∈ cs, H p.2 = some (.tbl #[])) ∧ ∀ H', Q (.bl true) H'
abbrev AllTabs (q : Program) (mg : Str → Option Value) (h : Heap) : Prop := ∀ d ∈ PyProof.Rows.recsOf q, ∃ a o fd c P, mg d.name = some (.ref a) ∧ h.get? a = some o ∧ o.data = .func fd ∧ fd.code = .ref c ∧ h.IsCode c P #[] ∧ h.TableAt c P #[]
theorem tab_of {q : Program} {mg : Str → Option Value} {h : Heap} {K : PySem.W.Frag} {x : Str} {f c P : Addr} {oc e : Value} {od dd : Option Addr} {fd : FuncData} {sl sl' : Array (Option Value)} {vs : Array Value} (tabs : AllTabs q mg h) (hrec : ((PyProof.Rows.recsOf q).any fun e => e.name == x) = true) (hm : mg x = some (.ref f)) (KX : K.In h)
    (lk : K.lookup f = some ⟨oc, od, .func fd, sl⟩) (hcd : fd.code = .ref c) (lc : K.lookup c = some ⟨e, dd, .fields vs, sl'⟩) (v11 : vs[11]? = some (.ref P)) : h.get? P = some { cls := .none, data := .fields #[] } ∧ PySem.W.CodeHd h c P := by
  obtain ⟨d, hd, hx⟩ := List.any_eq_true.mp hrec
  have hx : d.name = x := beq_iff_eq.mp hx
  obtain ⟨a, o, fd', c', P', h1, h2, h3, h4, h5, h6⟩ := tabs d hd
  rw [hx, hm] at h1
  cases h1
  rw [KX _ _ lk] at h2
  cases h2
  cases h3
  rw [hcd] at h4
  cases h4
  have hd := PySem.W.CodeHd.of h5 h6
  obtain ⟨⟨o1, v1, g1, _, g3, g4⟩, hP⟩ := h6
  rw [KX _ _ lc] at g1
  cases g1
  cases g3
  rw [v11] at g4
  cases g4
  exact ⟨hP, hd⟩
theorem walk_all {l : PySem.W.OpenLaw} {n k : Nat} {q : Program} {loose : List Str} {XP : (Str → Option Value) → Heap → Prop} {YP : World → Heap → Prop} {d : DefRec} {K : Params → PySem.W.Frag} {CX : World → CXT} {x : Str}
    (hn : l.most = some n) (hn2 : n ≤ sizeLine) (hdf : d.params.defaults = []) (hr : Room k callerA) (hY : ∀ (w : World) (h : Heap), YP w h → (K w.params).In h)
    (F : ∀ (w : World) (mg : Str → Option Value) (fa : Addr) (h : Heap), (K w.params).In h → h.Ns mainGlobals mg → mg d.name = some (.ref fa) → AllTabs q mg h → LamX.LawAtS l w (K w.params) (CX w) k n x mg fa h)
    (hCX : ∀ (w : World) (H : Hp) (s : Shared) (e : Value) (s' : Shared), CX w [] H s (fun _ _ _ => False) e s' → False) : PySem.W.WalkO q loose XP YP l.row.toRowW d [] (fun f vs => PySem.call f vs) := by
  refine Att.attach_callB hn hdf fun w s0 s1 mg mb fa o pm cd doc a vs ns G Y ho hd hcd hmg hobj hints hlen hbits hg => ?_
  have KX := hY w _ Y
  obtain ⟨fd, cs, sp, hT, nT, C, hb, hsp, hF⟩ := F w mg fa _ KX G.T.g hmg G.T.tab
  exact LamX.law_callTs KX G.T.g G.T.b G.T.builtins G.T.nolimit hg hT nT C G.T.bmain hobj hints (Nat.le_trans hlen hn2) hr hF hb
    (fun H hH hS => hsp H a ns hlen hbits hH hS) (fun H e s' => hCX w H s1 e s')
end Sm
namespace Sm
open PySem PySem.Spec L2
structure RoomN (k : Nat) (A : Around) : Prop where
  dp : A.depth + 3 * k + 5 < recursionLimit
  un : A.units + 16 * k + 200 < cLine
theorem RoomN.of {k : Nat} {A : Around} (r : Room k A) : RoomN k A := ⟨r.dp, r.un⟩
theorem RoomN.mono {j k : Nat} {A : Around} (r : RoomN k A) (h : j ≤ k) : RoomN j A := ⟨by have := r.dp; omega, by have := r.un; omega⟩
theorem RoomN.u65 {k : Nat} {A : Around} (r : RoomN k A) : A.units + 65 < cLine := by have := r.un; omega
theorem RoomN.units {k : Nat} {A : Around} (r : RoomN k A) : A.units + 64 < cLine := by have := r.un; omega
theorem RoomN.deeper {k : Nat} {A : Around} (r : RoomN (k + 1) A) (env : PySem.Env) : RoomN k (A.deeper env) :=
  ⟨by have := r.dp; show A.depth + 1 + 3 * k + 5 < _; omega, by have := r.un; show A.units + 3 + 16 * k + 200 < _; omega⟩
section
variable {X : Cx} {W : WX} {cl : Glb} {pos p : Pos} {a e e1 e2 : Expr} {es : List Expr} {g : DA} {k n i : Nat} {x : Str} {F : List D → R D} {fa f1 f2 : DE} {own : List Nat}
end
end Sm
namespace Sm
open PySem PySem.Spec L2
section
variable {X : Cx} {W : WX} {cl : Glb} {pos p : Pos} {a b c e : Expr} {es : List Expr} {fa fb : DE} {g : DA} {own : List Nat}
end
section
variable {K : PySem.W.Frag} {cl : Glb} {Hv0 H0 Hv H Hv' H' : Hp} {own : List Nat} {ρ : Env} {σ : St}
theorem ext_hid {p : Addr} {o : HO} {d : D} (vw : Vw cl Hv H) (hp : H p = none) (r : OwnO K cl Hv o d) : Ext cl Hv H Hv (upd H p o) := by
  have smh : Sam H (upd H p o) := .of (same_upd hp)
  have vw' : Vw cl Hv (upd H p o) := ⟨vw.s.trans smh, fun b h => vw.d b (upd_none h).2, fun b xs h => by
    by_cases z : b = p
    · subst z; rw [upd_same] at h; cases h; exact (r.noT.1 _ rfl).elim
    · rw [upd_ne z] at h; exact vw.t b xs h, fun b o' u h => by
    by_cases z : b = p
    · subst z; rw [upd_same] at h; cases h; exact (r.noT.2.1 _ _ rfl).elim
    · rw [upd_ne z] at h; exact vw.z b o' u h, vw.tab.ext (same_upd hp), fun b φ h => by
    by_cases z : b = p
    · subst z; rw [upd_same] at h; cases h; cases r
    · rw [upd_ne z] at h; exact vw.x b φ h⟩
  exact ⟨smh, Sam.refl _, vw', fun b o h n => n, fun b h => (upd_none h).2, fun b ps h => ⟨ps, by rw [upd_ne (ne_of_none h hp)]; exact h⟩⟩
theorem SR.hid {i : Nat} {p : Addr} {o : HO} {d : D} (s : SR K cl Hv0 H0 own ρ σ Hv H) (hp : H p = some o) (hv : Hv p = none) (h0 : H0 p = none) (r : OwnO K cl Hv o d) (hi : i < σ.length) (hq : ∀ j ∈ own, σ[j]? ≠ some (some (.ref p))) :
    SR K cl Hv0 H0 (i :: nots own i) (ρ.set i (some d)) (σ.set i (some (.ref p))) Hv H := by
  have mem : ∀ j, j ∈ i :: nots own i → j ≠ i → j ∈ own := fun j h n => by
    rcases List.mem_cons.mp h with z | z
    · exact absurd z n
    · exact (nots_mem j z).1
  refine ⟨s.ext, ?_, fun j d h1 h2 => ?_, fun j hj => ?_, fun j k q h1 h2 e1 e2 => ?_⟩
  · rw [List.length_set, List.length_set]; exact s.len
  · have hj : j ≠ i := fun z => h1 (by rw [z]; exact List.mem_cons_self)
    rw [List.getElem?_set_ne (Ne.symm hj)] at h2 ⊢
    exact s.sh j d (fun z => h1 (List.mem_cons_of_mem _ ((nots_or j z).resolve_right hj))) h2
  · by_cases hji : j = i
    · subst hji
      exact ⟨p, d, List.getElem?_set_self (by rw [s.len]; exact hi), List.getElem?_set_self hi, hv, h0, o, hp, r⟩
    · rw [List.getElem?_set_ne (Ne.symm hji), List.getElem?_set_ne (Ne.symm hji)]
      exact s.ow j (mem j hj hji)
  · have key : ∀ m, m ∈ i :: nots own i → m ≠ i → (σ.set i (some (.ref p)))[m]? = some (some (.ref p)) → False := fun m hm n e => by
      rw [List.getElem?_set_ne (Ne.symm n)] at e
      exact hq m (mem m hm n) e
    have self : (σ.set i (some (.ref p)))[i]? = some (some (.ref p)) := List.getElem?_set_self hi
    by_cases hj : j = i
    · by_cases hk : k = i
      · rw [hj, hk]
      · rw [hj, self] at e1
        cases e1
        exact (key k h2 hk e2).elim
    · by_cases hk : k = i
      · rw [hk, self] at e2
        cases e2
        exact (key j h1 hj e1).elim
      · rw [List.getElem?_set_ne (Ne.symm hj)] at e1
        rw [List.getElem?_set_ne (Ne.symm hk)] at e2
        exact s.ap j k q (mem j h1 hj) (mem k h2 hk) e1 e2
def RO (K : PySem.W.Frag) (cl : Glb) (Hv H : Hp) : List Bool → Hp → List V → List D → Prop
  | [], _, [], [] => True
  | false :: bs, H0, v :: vs, d :: ds => Rep K cl Hv v d ∧ RO K cl Hv H bs H0 vs ds
  | true :: bs, H0, v :: vs, d :: ds => ∃ p o H1, v = .ref p ∧ H0 p = none ∧ H1 p = some o ∧ (∀ b, H1 b = none → H0 b = none) ∧ Hv p = none ∧ H p = some o ∧ OwnO K cl Hv o d ∧ RO K cl Hv H bs H1 vs ds
  | _, _, _, _ => False
end
section
variable {X : Cx} {W : WX} {cl : Glb} {pos p : Pos} {a b c e : Expr} {es : List Expr} {fa fb : DE} {g g1 : DA} {own : List Nat} {fl : List Bool}
def SAo (X : Cx) (W : WX) (cl : Glb) (es : List Expr) (f : DA) (fl : List Bool) : Prop := ∃ t, PA X es t ∧ ∀ (Hv H : Hp) (σ : St) (ρ : Env) (Q : List V → Hp → Prop), Vw cl Hv H → ER X.K cl Hv ρ σ →
  Pst cl W σ Hv H (fun Hv' H' ds => ∀ vs, RO X.K cl Hv' H' fl H vs ds → Q vs H') (f ρ) → t σ H Q
theorem SAo.len : ∀ {fl : List Bool} {K : PySem.W.Frag} {Hv H H0 : Hp} {vs : List V} {ds : List D}, RO K cl Hv H fl H0 vs ds → vs.length = fl.length ∧ ds.length = fl.length
  | [], _, _, _, _, [], [], _ => ⟨rfl, rfl⟩
  | false :: fl, _, _, _, _, v :: vs, d :: ds, h => by have := SAo.len h.2; simp [this.1, this.2]
  | true :: fl, _, _, _, _, v :: vs, d :: ds, ⟨_, _, _, _, _, _, _, _, _, _, h⟩ => by have := SAo.len h; simp [this.1, this.2]
  | [], _, _, _, _, _ :: _, _, h => h.elim
  | [], _, _, _, _, [], _ :: _, h => h.elim
  | true :: _, _, _, _, _, [], _, h => h.elim
  | true :: _, _, _, _, _, _ :: _, [], h => h.elim
  | false :: _, _, _, _, _, [], _, h => h.elim
  | false :: _, _, _, _, _, _ :: _, [], h => h.elim
end
end Sm
namespace Sm
open PySem PySem.Spec L2
section
variable {K : PySem.W.Frag} {cl : Glb} {H Hv : Hp} {a : Addr} {x y : HO}
end
section
variable {X : Cx} {W : WX} {cl : Glb} {pos p : Pos} {a b c e tg : Expr} {es : List Expr} {fa fb f : DE}
theorem RepsT.length {K : PySem.W.Frag} {H : Hp} : ∀ {kvs : List (List L2.Key × V)} {es : List (D × D)}, RepsT K cl H kvs es → kvs.length = es.length
  | _, _, .nil => rfl
  | _, _, .cons _ t => by rw [List.length_cons, List.length_cons, RepsT.length t]
end
end Sm
namespace Sm
open PySem PySem.Spec L2
section
variable {X : Cx} {W : WX} {cl : Glb} {pos : Pos} {e elt tg iter : Expr} {ifs : List Expr} {scope : Scope} {own : List (Str × Nat)} {pt : Pat} {it : DI} {t : DT} {f : DE} {ow ow1 : List Nat}
end
end Sm
namespace Sm
open PySem PySem.Spec L2
structure Pl where
  own : D
  now : D
  past : List D
  later : List D
abbrev PLS := List Pl
inductive RP (α : Type) where
  | ok (a : α) (ps : PLS) | err (c : Nat) (ps : PLS) | bad
def RP.bind {α β : Type} : RP α → (α → PLS → RP β) → RP β
  | .ok a ps, k => k a ps
  | .err c ps, _ => .err c ps
  | .bad, _ => .bad
def R.up {α : Type} (ps : PLS) : R α → RP α
  | .ok a => .ok a ps
  | .err c => .err c ps
  | .bad => .bad
structure Ft where
  x : Addr
  dx : Addr
  p : Addr
  l : Addr
def Ft.all (f : Ft) : List Addr := [f.x, f.dx, f.p, f.l]
def feet (F : List Ft) : List Addr := F.flatMap Ft.all
def obA (F : List Ft) : Nat → Addr → Prop := fun k a => (F[k]?).map Ft.x = some a
def Glb.at (cl : Glb) (F : List Ft) : Glb := { cl with ob := obA F }
theorem mem_feet {F : List Ft} {b : Addr} : b ∈ feet F ↔ ∃ f ∈ F, b ∈ f.all := by unfold feet; exact List.mem_flatMap
section
variable {K : PySem.W.Frag} {cl : Glb} {F F' : List Ft}
theorem Vw.to {cl' : Glb} {Hv H : Hp} (v : Vw cl Hv H) (h : cl'.T = cl.T) : Vw cl' Hv H := ⟨v.s, v.d, v.t, v.z, by rw [h]; exact v.tab, v.x⟩
theorem Vw.at {Hv H : Hp} (v : Vw cl Hv H) : Vw (cl.at F) Hv H := v.to rfl
theorem Vw.un {Hv H : Hp} (v : Vw (cl.at F) Hv H) : Vw cl Hv H := v.to rfl
mutual
theorem Rep.ob {H : Hp} (h : ∀ k a, obA F k a → obA F' k a) : ∀ {v : V} {d : D}, Rep K (cl.at F) H v d → Rep K (cl.at F') H v d
  | _, _, .non => .non
  | _, _, .bl b => .bl b
  | _, _, .int i => .int i
  | _, _, .str x => .str x
  | _, _, .lst e n r => .lst e n (Reps.ob h r)
  | _, _, .scr e n => .scr e n
  | _, _, .scr0 e n => .scr0 e n
  | _, _, .tup e n r => .tup e n (Reps.ob h r)
  | _, _, .dctK e r => .dctK e (RepsK.ob h r)
  | _, _, .dctT e n r => .dctT e n (RepsT.ob h r)
  | _, _, .exc e => .exc e
  | _, _, .fnv e => .fnv e
  | _, _, .obj e => .obj (h _ _ e)
  | _, _, .dclK e r => .dclK e (RepsK.ob h r)
  | _, _, .dclT e n r => .dclT e n (RepsT.ob h r)
  | _, _, .scr1 e n => .scr1 e n
theorem Reps.ob {H : Hp} (h : ∀ k a, obA F k a → obA F' k a) : ∀ {v : List V} {d : List D}, Reps K (cl.at F) H v d → Reps K (cl.at F') H v d
  | _, _, .nil => .nil
  | _, _, .cons r t => .cons (Rep.ob h r) (Reps.ob h t)
theorem RepsK.ob {H : Hp} (h : ∀ k a, obA F k a → obA F' k a) : ∀ {v : List (L2.Key × V)} {d : List (D × D)}, RepsK K (cl.at F) H v d → RepsK K (cl.at F') H v d
  | _, _, .nil => .nil
  | _, _, .cons r t => .cons (Rep.ob h r) (RepsK.ob h t)
theorem RepsT.ob {H : Hp} (h : ∀ k a, obA F k a → obA F' k a) : ∀ {v : List (List L2.Key × V)} {d : List (D × D)}, RepsT K (cl.at F) H v d → RepsT K (cl.at F') H v d
  | _, _, .nil => .nil
  | _, _, .cons r t => .cons (Rep.ob h r) (RepsT.ob h t)
end
end
structure ExtE (cl : Glb) (F : List Ft) (Hv H : Hp) (F' : List Ft) (Hv' H' : Hp) : Prop where
  hh : ∀ b o, H b = some o → isTbl o = false → b ∉ feet F → H' b = some o
  vv : Sam Hv Hv'
  vh : Vw cl Hv' H'
  old : ∀ b o, H b = some o → Hv b = none → Hv' b = none
  dom : ∀ b, H' b = none → H b = none
  tt : ∀ b ps, H b = some (.tbl ps) → ∃ ps', H' b = some (.tbl ps')
  ob : ∀ k a, obA F k a → obA F' k a
  ft : ∀ b, b ∈ feet F' → b ∈ feet F ∨ H b = none
section
variable {K : PySem.W.Frag} {cl : Glb} {F F1 F2 F' : List Ft} {Hv H Hv1 H1 Hv2 H2 Hv' H' : Hp}
theorem ExtE.refl (v : Vw cl Hv H) : ExtE cl F Hv H F Hv H := ⟨fun _ _ h _ _ => h, Sam.refl _, v, fun _ _ _ h => h, fun _ h => h, fun _ ps h => ⟨ps, h⟩, fun _ _ h => h, fun _ h => .inl h⟩
theorem ExtE.trans (a : ExtE cl F Hv H F1 Hv1 H1) (b : ExtE cl F1 Hv1 H1 F2 Hv2 H2) : ExtE cl F Hv H F2 Hv2 H2 where
  hh := fun c o h n hf => b.hh c o (a.hh c o h n hf) n fun z => (a.ft c z).elim hf fun y => by rw [h] at y; cases y
  vv := a.vv.trans b.vv
  vh := b.vh
  old := fun c o h n => by
    cases q : H1 c with
    | none => rw [a.dom c q] at h; cases h
    | some u => exact b.old c u q (a.old c o h n)
  dom := fun c h => a.dom c (b.dom c h)
  tt := fun c ps h => let ⟨ps', h'⟩ := a.tt c ps h; b.tt c ps' h'
  ob := fun k x h => b.ob k x (a.ob k x h)
  ft := fun c h => by
    rcases b.ft c h with h | h
    · exact a.ft c h
    · exact .inr (a.dom c h)
theorem ExtE.of (e : Ext (cl.at F) Hv H Hv' H') : ExtE cl F Hv H F Hv' H' := ⟨fun b o h n _ => e.hh b o h n, e.vv, e.vh.un, e.old, e.dom, e.tt, fun _ _ h => h, fun _ h => .inl h⟩
theorem Rep.ee {v : V} {d : D} (r : Rep K (cl.at F) Hv v d) (e : ExtE cl F Hv H F' Hv' H') : Rep K (cl.at F') Hv' v d := (r.ob e.ob).mono e.vv
theorem Reps.ee {v : List V} {d : List D} (r : Reps K (cl.at F) Hv v d) (e : ExtE cl F Hv H F' Hv' H') : Reps K (cl.at F') Hv' v d := (r.ob e.ob).mono e.vv
theorem ER.ee {ρ : Env} {σ : St} (r : ER K (cl.at F) Hv ρ σ) (e : ExtE cl F Hv H F' Hv' H') : ER K (cl.at F') Hv' ρ σ := ⟨fun i d h => let ⟨v, h1, h2⟩ := r.get i d h; ⟨v, h1, h2.ee e⟩, r.len⟩
end
structure PlAt (K : PySem.W.Frag) (cl : Glb) (C : Addr) (Hv H : Hp) (f : Ft) (pl : Pl) : Prop where
  ins : ∃ vo vn, H f.x = some (.ins C f.dx [("own", vo), ("now", vn), ("past", .ref f.p), ("later", .ref f.l)]) ∧ Rep K cl Hv vo pl.own ∧ Rep K cl Hv vn pl.now
  own : H f.dx = some (.own f.x)
  past : ∃ vs, H f.p = some (.lst vs) ∧ vs.length ≤ sizeLine ∧ Reps K cl Hv vs pl.past
  later : ∃ vs, H f.l = some (.lst vs) ∧ vs.length ≤ sizeLine ∧ Reps K cl Hv vs pl.later
  hid : ∀ a ∈ f.all, Hv a = none
structure Pls (K : PySem.W.Frag) (cl : Glb) (C : Addr) (F : List Ft) (ps : PLS) (Hv H : Hp) : Prop where
  len : F.length = ps.length
  pl : ∀ (k : Nat) f q, F[k]? = some f → ps[k]? = some q → PlAt K (cl.at F) C Hv H f q
  nd : (feet F).Nodup
  ob0 : ∀ k a, cl.ob k a → obA F k a
section
variable {K : PySem.W.Frag} {cl : Glb} {C : Addr} {F F1 F2 F' : List Ft} {Hv H Hv1 H1 Hv2 H2 Hv' H' : Hp} {ps : PLS}
theorem PlAt.full {f : Ft} {q : Pl} (h : PlAt K cl C Hv H f q) : ∀ a ∈ f.all, ∃ o, H a = some o ∧ isTbl o = false := fun a ha => by
  obtain ⟨vo, vn, h1, _⟩ := h.ins
  obtain ⟨vs, h2, _⟩ := h.past
  obtain ⟨us, h3, _⟩ := h.later
  simp only [Ft.all, List.mem_cons, List.not_mem_nil, or_false] at ha
  rcases ha with rfl | rfl | rfl | rfl
  · exact ⟨_, h1, rfl⟩
  · exact ⟨_, h.own, rfl⟩
  · exact ⟨_, h2, rfl⟩
  · exact ⟨_, h3, rfl⟩
theorem PlAt.mono {f : Ft} {q : Pl} (h : PlAt K cl C Hv H f q) (hs : ∀ a ∈ f.all, ∀ o, H a = some o → isTbl o = false → H' a = some o) (hv : Sam Hv Hv') (hn : ∀ a ∈ f.all, Hv' a = none) : PlAt K cl C Hv' H' f q := by
  obtain ⟨vo, vn, h1, r1, r2⟩ := h.ins
  obtain ⟨vs, h2, z2, r3⟩ := h.past
  obtain ⟨us, h3, z3, r4⟩ := h.later
  exact ⟨⟨vo, vn, hs f.x (by simp [Ft.all]) _ h1 rfl, r1.mono hv, r2.mono hv⟩, hs f.dx (by simp [Ft.all]) _ h.own rfl, ⟨vs, hs f.p (by simp [Ft.all]) _ h2 rfl, z2, r3.mono hv⟩, ⟨us, hs f.l (by simp [Ft.all]) _ h3 rfl, z3, r4.mono hv⟩, hn⟩
theorem Pls.get (h : Pls K cl C F ps Hv H) {k : Nat} {f : Ft} (hf : F[k]? = some f) : ∃ q, ps[k]? = some q ∧ PlAt K (cl.at F) C Hv H f q := by
  have hk := (List.getElem?_eq_some_iff.mp hf).1
  have hk2 : k < ps.length := by rw [← h.len]; exact hk
  have : ps[k]? = some ps[k] := by simp [hk2]
  exact ⟨_, this, h.pl k f _ hf this⟩
theorem Pls.foot (h : Pls K cl C F ps Hv H) {b : Addr} (hb : b ∈ feet F) : Hv b = none ∧ ∃ o, H b = some o ∧ isTbl o = false := by
  obtain ⟨f, hf, hb⟩ := mem_feet.mp hb
  obtain ⟨k, hk⟩ := List.getElem?_of_mem hf
  obtain ⟨q, _, hp⟩ := h.get hk
  exact ⟨hp.hid b hb, hp.full b hb⟩
theorem Pls.ext (h : Pls K cl C F ps Hv H) (e : Ext (cl.at F) Hv H Hv' H') : Pls K cl C F ps Hv' H' := ⟨h.len, fun k f q hf hq => (h.pl k f q hf hq).mono (fun a _ o ha n => e.hh a o ha n) e.vv (fun a ha => by
  obtain ⟨o, ho, _⟩ := (h.pl k f q hf hq).full a ha
  exact e.old a o ho ((h.pl k f q hf hq).hid a ha)), h.nd, h.ob0⟩
end
section
variable (K : PySem.W.Frag) (cl : Glb) (C : Addr) (W : WX) (σ : St)
def PstE {α : Type} (F : List Ft) (Hv H : Hp) (T : List Ft → Hp → Hp → α → Prop) : RP α → Prop
  | .ok a ps => ∀ F' Hv' H', ExtE cl F Hv H F' Hv' H' → Pls K cl C F' ps Hv' H' → T F' Hv' H' a
  | .err c ps => ∀ F' Hv' H', ExtE cl F Hv H F' Hv' H' → Pls K cl C F' ps Hv' H' → W (.ref (cl.c c)) none σ H'
  | .bad => False
end
section
variable {K : PySem.W.Frag} {cl : Glb} {C : Addr} {W : WX} {σ : St} {F F1 : List Ft} {Hv H Hv1 H1 : Hp} {α β : Type}
theorem PstE.ext {T : List Ft → Hp → Hp → α → Prop} {r : RP α} (h : PstE K cl C W σ F Hv H T r) (e : ExtE cl F Hv H F1 Hv1 H1) : PstE K cl C W σ F1 Hv1 H1 T r := by
  cases r with
  | ok d ps => exact fun F' Hv' H' e' => h F' Hv' H' (e.trans e')
  | err c ps => exact fun F' Hv' H' e' => h F' Hv' H' (e.trans e')
  | bad => exact h
theorem bindE {r : RP α} {k : α → PLS → RP β} {T : List Ft → Hp → Hp → β → Prop} {T1 : List Ft → Hp → Hp → α → Prop} (h : PstE K cl C W σ F Hv H T (r.bind k))
    (hk : ∀ a ps F1 Hv1 H1, r = .ok a ps → ExtE cl F Hv H F1 Hv1 H1 → Pls K cl C F1 ps Hv1 H1 → PstE K cl C W σ F1 Hv1 H1 T (k a ps) → T1 F1 Hv1 H1 a) : PstE K cl C W σ F Hv H T1 r := by
  cases r with
  | ok d ps => exact fun F' Hv' H' e pl => hk d ps F' Hv' H' rfl e pl (PstE.ext (r := k d ps) h e)
  | err c ps => exact h
  | bad => exact h
theorem up_pst {T : List Ft → Hp → Hp → α → Prop} {r : R α} {ps : PLS} (pl : Pls K cl C F ps Hv H) (h : PstE K cl C W σ F Hv H T (r.up ps)) : Pst (cl.at F) W σ Hv H (fun Hv' H' a => T F Hv' H' a) r := by
  cases r with
  | ok d => exact fun Hv' H' e => h F Hv' H' (.of e) (pl.ext e)
  | err c => exact fun Hv' H' e => h F Hv' H' (.of e) (pl.ext e)
  | bad => exact h
end
def TVe (K : PySem.W.Frag) (cl : Glb) (Q : VK) : List Ft → Hp → Hp → D → Prop := fun F Hv H d => ∀ v, Rep K (cl.at F) Hv v d → Q v H
def TVse (K : PySem.W.Frag) (cl : Glb) (Q : List V → Hp → Prop) : List Ft → Hp → Hp → List D → Prop := fun F Hv H d => ∀ v, Reps K (cl.at F) Hv v d → Q v H
def TBe (Q : Bool → Hp → Prop) : List Ft → Hp → Hp → Bool → Prop := fun _ _ H b => Q b H
abbrev EE := Env → PLS → RP D
abbrev EA := Env → PLS → RP (List D)
abbrev ET := Env → PLS → RP Bool
section
variable (X : Cx) (W : WX) (cl : Glb) (C : Addr)
def RunEe (f : EE) (t : TE) : Prop := ∀ (F : List Ft) (Hv H : Hp) (σ : St) (ρ : Env) (ps : PLS) (Q : VK), Vw cl Hv H → Pls X.K cl C F ps Hv H → ER X.K (cl.at F) Hv ρ σ → PstE X.K cl C W σ F Hv H (TVe X.K cl Q) (f ρ ps) → t σ H Q
def RunAe (f : EA) (t : TA) : Prop := ∀ (F : List Ft) (Hv H : Hp) (σ : St) (ρ : Env) (ps : PLS) (Q : List V → Hp → Prop), Vw cl Hv H → Pls X.K cl C F ps Hv H → ER X.K (cl.at F) Hv ρ σ → PstE X.K cl C W σ F Hv H (TVse X.K cl Q) (f ρ ps) → t σ H Q
def RunTe (f : ET) (t : TT) : Prop := ∀ (F : List Ft) (Hv H : Hp) (σ : St) (ρ : Env) (ps : PLS) (Q : Bool → Hp → Prop), Vw cl Hv H → Pls X.K cl C F ps Hv H → ER X.K (cl.at F) Hv ρ σ → PstE X.K cl C W σ F Hv H (TBe Q) (f ρ ps) → t σ H Q
def SEe (e : Expr) (f : EE) : Prop := ∃ t, PE X e t ∧ RunEe X W cl C f t
def SAe (es : List Expr) (f : EA) : Prop := ∃ t, PA X es t ∧ RunAe X W cl C f t ∧ ∀ ρ ps ds ps', f ρ ps = .ok ds ps' → ds.length = es.length
def STe (e : Expr) (f : ET) : Prop := ∃ t, L2.PT X e t ∧ RunTe X W cl C f t
def SWe (e : Expr) (f : ET) : Prop := ∃ t, PW X e t ∧ RunTe X W cl C f t
end
section
variable {X : Cx} {W : WX} {cl : Glb} {C : Addr} {pos p : Pos} {a b c e : Expr} {es : List Expr} {fa fb fc : EE} {g : EA}
def eP (f : DE) : EE := fun ρ ps => (f ρ).up ps
def eT (f : DT) : ET := fun ρ ps => (f ρ).up ps
theorem ee_pure {f : DE} (h : ∀ F, SE X W (cl.at F) e f) : SEe X W cl C e (eP f) :=
  ⟨fun σ H Q => ∃ F, tE X.K (cl.at F) W f σ H Q, ⟨fun pins s σ H Q I ⟨F, q⟩ => (h F).pe.run pins s σ H Q I q⟩, fun F Hv H σ ρ ps Q vw pl er pv => ⟨F, Hv, ρ, vw.at, er, up_pst pl pv⟩⟩
def eBin (o : D → D → Option D) (fa fb : EE) : EE := fun ρ ps => (fa ρ ps).bind fun a ps => (fb ρ ps).bind fun b ps => (ofO (o a b)).up ps
theorem opsE {f : Value → Value → Sem Value} {o : D → D → Option D} (ho : ∀ F, OpS X (cl.at F) f o) : ∃ r, OpR X f r ∧ ∀ (F : List Ft) (Hv H : Hp) (x y : V) (a b d : D) (Q : VK), Vw (cl.at F) Hv H → Rep X.K (cl.at F) Hv x a → Rep X.K (cl.at F) Hv y b → o a b = some d →
    (∀ v Hv' H', Ext (cl.at F) Hv H Hv' H' → Rep X.K (cl.at F) Hv' v d → Q v H') → r x y H Q :=
  ⟨fun x y H Q => ∃ F, (ho F).choose x y H Q, fun pins s σ H x y v u Q I rx ry ⟨F, q⟩ => (ho F).choose_spec.1 pins s σ H x y v u Q I rx ry q, fun F Hv H x y a b d Q vw rx ry e q => ⟨F, (ho F).choose_spec.2 Hv H x y a b d Q vw rx ry e q⟩⟩
theorem upO_ok {α : Type} {o : Option α} {K : PySem.W.Frag} {σ : St} {F : List Ft} {ps : PLS} {Hv H : Hp} {T : List Ft → Hp → Hp → α → Prop} (h : PstE K cl C W σ F Hv H T ((ofO o).up ps)) : ∃ a, o = some a ∧ ∀ F' Hv' H', ExtE cl F Hv H F' Hv' H' → Pls K cl C F' ps Hv' H' → T F' Hv' H' a := by
  cases o with
  | none => exact h.elim
  | some a => exact ⟨a, rfl, h⟩
theorem binE_run {o : D → D → Option D} {r : R2} {ta tb : TE} (hs : ∀ (F : List Ft) (Hv H : Hp) (x y : V) (a b d : D) (Q : VK), Vw (cl.at F) Hv H → Rep X.K (cl.at F) Hv x a → Rep X.K (cl.at F) Hv y b → o a b = some d →
      (∀ v Hv' H', Ext (cl.at F) Hv H Hv' H' → Rep X.K (cl.at F) Hv' v d → Q v H') → r x y H Q)
    (ha : RunEe X W cl C fa ta) (hb : RunEe X W cl C fb tb) : RunEe X W cl C (eBin o fa fb) (tOp r ta tb) := by
  intro F Hv H σ ρ ps Q vw pl er pv
  refine ha F Hv H σ ρ ps _ vw pl er (bindE pv fun x ps1 F1 Hv1 H1 _ e1 pl1 pv1 v rv => ?_)
  refine hb F1 Hv1 H1 σ ρ ps1 _ e1.vh pl1 (er.ee e1) (bindE pv1 fun y ps2 F2 Hv2 H2 _ e2 pl2 pv2 u ru => ?_)
  obtain ⟨d, ed, q⟩ := upO_ok pv2
  exact hs F2 Hv2 H2 v u x y d Q e2.vh.at (rv.ee e2) ru ed fun v' Hv' H' e' r' => q F2 Hv' H' (.of e') (pl2.ext e') v' r'
theorem ee_cmp {op : CmpOp} {o : D → D → Option D} (ho : ∀ F, OpS X (cl.at F) (compareOp op) o) (ha : SEe X W cl C a fa) (hb : SEe X W cl C b fb) (hm : behindInMarks op b = false := by rfl) : SEe X W cl C (.Compare a [op] [b] pos) (eBin o fa fb) := by
  obtain ⟨r, hr, hs⟩ := opsE ho
  obtain ⟨ta, pa, ha⟩ := ha
  obtain ⟨tb, pb, hb⟩ := hb
  exact ⟨_, pe_cmpR hr pa pb hm, binE_run hs ha hb⟩
def easB : EE → ET := fun f ρ ps => (f ρ ps).bind fun d ps => match d with | .bl b => .ok b ps | _ => .bad
def eTru (f : EE) : ET := fun ρ ps => (f ρ ps).bind fun d ps => (ofO (tru d)).up ps
def eNotT (f : ET) : ET := fun ρ ps => (f ρ ps).bind fun b ps => .ok (!b) ps
def eAndT (f g : ET) : ET := fun ρ ps => (f ρ ps).bind fun b ps => match b with | true => g ρ ps | false => .ok false ps
def eOrT (f g : ET) : ET := fun ρ ps => (f ρ ps).bind fun b ps => match b with | true => .ok true ps | false => g ρ ps
theorem SWe.st {f : ET} (h : SWe X W cl C e f) : STe X W cl C e f := by
  obtain ⟨t, pt, h⟩ := h
  exact ⟨t, pt.pt, h⟩
def eIf (t : ET) (f g : EE) : EE := fun ρ ps => (t ρ ps).bind fun k ps => match k with | true => f ρ ps | false => g ρ ps
def eAnd (f g : EE) : EE := fun ρ ps => (f ρ ps).bind fun x ps => ((ofO (tru x)).up ps).bind fun k ps => match k with | true => g ρ ps | false => .ok x ps
def eNil : EA := fun _ ps => .ok [] ps
def eCons (f : EE) (g : EA) : EA := fun ρ ps => (f ρ ps).bind fun a ps => (g ρ ps).bind fun as ps => .ok (a :: as) ps
theorem ae_nil : SAe X W cl C [] eNil := ⟨_, pa_nil, fun F Hv H σ ρ ps Q vw pl er pv => pv F _ _ (ExtE.refl vw) pl [] .nil, fun ρ ps ds ps' h => by cases h; rfl⟩
theorem ae_cons (ha : SEe X W cl C e fa) (hr : SAe X W cl C es g) (hs : starEach (e :: es) X.env = (false, eval e X.env) :: starEach es X.env := by rfl) : SAe X W cl C (e :: es) (eCons fa g) := by
  obtain ⟨ta, pa, ha⟩ := ha
  obtain ⟨tr, pr, hr, hl⟩ := hr
  refine ⟨_, pa_cons pa pr hs, fun F Hv H σ ρ ps Q vw pl er pv => ?_, fun ρ ps ds ps' h => ?_⟩
  · refine ha F Hv H σ ρ ps _ vw pl er (bindE pv fun x ps1 F1 Hv1 H1 _ e1 pl1 pv1 v rv => ?_)
    refine hr F1 Hv1 H1 σ ρ ps1 _ e1.vh pl1 (er.ee e1) (bindE pv1 fun y ps2 F2 Hv2 H2 _ e2 pl2 pv2 u ru => ?_)
    exact pv2 F2 _ _ (ExtE.refl e2.vh) pl2 _ (.cons (rv.ee e2) ru)
  · unfold eCons at h
    cases h1 : fa ρ ps with
    | ok x ps1 =>
      cases h2 : g ρ ps1 with
      | ok y ps2 =>
        simp only [h1, h2, RP.bind] at h
        cases h
        rw [List.length_cons, List.length_cons, hl ρ ps1 y _ h2]
      | err c ps2 => simp only [h1, h2, RP.bind] at h; cases h
      | bad => simp only [h1, h2, RP.bind] at h; cases h
    | err c ps2 => simp only [h1, RP.bind] at h; cases h
    | bad => simp only [h1, RP.bind] at h; cases h
def eTup (g : EA) : EE := fun ρ ps => (g ρ ps).bind fun ds ps => .ok (.tup ds) ps
def eLst (g : EA) : EE := fun ρ ps => (g ρ ps).bind fun ds ps => .ok (.lst ds) ps
end
end Sm
namespace Sm
open PySem PySem.Spec L2
inductive OE where
  | nx (ρ : Env) (ps : PLS) | ret (d : D) (ps : PLS) | err (ρ : Env) (c : Nat) (ps : PLS) | bad
abbrev DSe := Env → PLS → OE
def OE.seq : OE → DSe → OE
  | .nx ρ ps, k => k ρ ps
  | .ret d ps, _ => .ret d ps
  | .err ρ c ps, _ => .err ρ c ps
  | .bad, _ => .bad
def RP.to {α : Type} (ρ : Env) : RP α → (α → PLS → OE) → OE
  | .ok a ps, k => k a ps
  | .err c ps, _ => .err ρ c ps
  | .bad, _ => .bad
def O.up (ps : PLS) : O → OE
  | .nx ρ => .nx ρ ps
  | .ret d => .ret d ps
  | .err ρ c => .err ρ c ps
  | .bad => .bad
structure SRe (K : PySem.W.Frag) (cl : Glb) (C : Addr) (F0 : List Ft) (Hv0 H0 : Hp) (own : List Nat) (ρ : Env) (σ : St) (ps : PLS) (F : List Ft) (Hv H : Hp) : Prop where
  ext : ExtE cl F0 Hv0 H0 F Hv H
  pls : Pls K cl C F ps Hv H
  len : ρ.length = σ.length
  sh : ∀ (i : Nat) d, i ∉ own → ρ[i]? = some (some d) → ∃ v, σ[i]? = some (some v) ∧ Rep K (cl.at F) Hv v d
  ow : ∀ i, i ∈ own → ∃ p d, ρ[i]? = some (some d) ∧ σ[i]? = some (some (.ref p)) ∧ Hv p = none ∧ H0 p = none ∧ p ∉ feet F ∧ OwnR K (cl.at F) Hv H p d
  ap : ∀ (i j : Nat) p, i ∈ own → j ∈ own → σ[i]? = some (some (.ref p)) → σ[j]? = some (some (.ref p)) → i = j
def IsOw (own : List Nat) (σ : St) (b : Addr) : Prop := ∃ i, i ∈ own ∧ σ[i]? = some (some (.ref b))
open Classical in
noncomputable def lessH (own : List Nat) (σ : St) (H : Hp) : Hp := fun b => if IsOw own σ b then none else H b
section
variable {K : PySem.W.Frag} {cl : Glb} {C : Addr} {F0 F F' : List Ft} {Hv0 H0 Hv H Hv' H' : Hp} {own own' : List Nat} {ρ ρ' : Env} {σ σ' : St} {ps ps' : PLS}
theorem less_ow {b : Addr} (h : IsOw own σ b) : lessH own σ H b = none := if_pos h
theorem less_no {b : Addr} (h : ¬ IsOw own σ b) : lessH own σ H b = H b := if_neg h
theorem less_some {b : Addr} {o : HO} (h : lessH own σ H b = some o) : ¬ IsOw own σ b ∧ H b = some o := by
  by_cases z : IsOw own σ b
  · rw [less_ow z] at h; cases h
  · rw [less_no z] at h; exact ⟨z, h⟩
theorem SRe.isOw (s : SRe K cl C F0 Hv0 H0 own ρ σ ps F Hv H) {b : Addr} (h : IsOw own σ b) : Hv b = none ∧ H0 b = none ∧ b ∉ feet F := by
  obtain ⟨i, hi, e⟩ := h
  obtain ⟨p, d, _, e2, e3, e4, e5, _⟩ := s.ow i hi
  rw [e] at e2; cases e2
  exact ⟨e3, e4, e5⟩
theorem SRe.sr (s : SRe K cl C F0 Hv0 H0 own ρ σ ps F Hv H) : SR K (cl.at F) Hv (lessH own σ H) own ρ σ Hv H where
  ext := ⟨fun b o h _ => (less_some h).2, Sam.refl _, s.ext.vh.at, fun b o h n => n, fun b h => by
    by_cases z : IsOw own σ b
    · exact less_ow z
    · rw [less_no z]; exact h, fun b ps h => ⟨ps, (less_some h).2⟩⟩
  len := s.len
  sh := s.sh
  ow := fun i hi => by
    obtain ⟨p, d, e1, e2, e3, e4, e5, e6⟩ := s.ow i hi
    exact ⟨p, d, e1, e2, e3, less_ow ⟨i, hi, e2⟩, e6⟩
  ap := s.ap
theorem SRe.backX (s : SRe K cl C F0 Hv0 H0 own ρ σ ps F Hv H) (e : Ext (cl.at F) Hv (lessH own σ H) Hv' H') : ExtE cl F0 Hv0 H0 F Hv' H' ∧ Pls K cl C F ps Hv' H' := by
  have no : ∀ {b o}, H0 b = some o → ¬ IsOw own σ b := fun {b o} h z => by rw [(s.isOw z).2.1] at h; cases h
  have fo : ∀ {b}, b ∈ feet F → ¬ IsOw own σ b := fun {b} h z => (s.isOw z).2.2 h
  refine ⟨⟨fun b o h n hf => ?_, s.ext.vv.trans e.vv, e.vh.un, fun b o h n => ?_, fun b h => ?_, fun b ps h => ?_, s.ext.ob, s.ext.ft⟩, ⟨s.pls.len, fun k f q hf hq => ?_, s.pls.nd, s.pls.ob0⟩⟩
  · exact e.hh b o (by rw [less_no (no h)]; exact s.ext.hh b o h n hf) n
  · cases q : H b with
    | none => rw [s.ext.dom b q] at h; cases h
    | some u => exact e.old b u (by rw [less_no (no h)]; exact q) (s.ext.old b o h n)
  · have := e.dom b h
    by_cases z : IsOw own σ b
    · exact (s.isOw z).2.1
    · rw [less_no z] at this
      exact s.ext.dom b this
  · obtain ⟨ps', h'⟩ := s.ext.tt b ps h
    exact e.tt b ps' (by rw [less_no (no h)]; exact h')
  · have mf : ∀ a ∈ f.all, a ∈ feet F := fun a ha => mem_feet.mpr ⟨f, List.mem_of_getElem? hf, ha⟩
    refine (s.pls.pl k f q hf hq).mono (fun a ha o h n => e.hh a o (by rw [less_no (fo (mf a ha))]; exact h) n) e.vv fun a ha => ?_
    obtain ⟨hv, o, ho, _⟩ := s.pls.foot (mf a ha)
    exact e.old a o (by rw [less_no (fo (mf a ha))]; exact ho) hv
theorem SRe.back (s : SRe K cl C F0 Hv0 H0 own ρ σ ps F Hv H) (r : SR K (cl.at F) Hv (lessH own σ H) own' ρ' σ' Hv' H') : SRe K cl C F0 Hv0 H0 own' ρ' σ' ps F Hv' H' := by
  obtain ⟨e1, e2⟩ := s.backX r.ext
  refine ⟨e1, e2, r.len, r.sh, fun i hi => ?_, r.ap⟩
  obtain ⟨p, d, a1, a2, a3, a4, a5⟩ := r.ow i hi
  refine ⟨p, d, a1, a2, a3, ?_, fun hf => ?_, a5⟩
  · by_cases z : IsOw own σ p
    · exact (s.isOw z).2.1
    · rw [less_no z] at a4
      exact s.ext.dom p a4
  · obtain ⟨_, o, ho, _⟩ := s.pls.foot hf
    rw [less_no fun z => (s.isOw z).2.2 hf, ho] at a4
    cases a4
theorem SRe.er (s : SRe K cl C F0 Hv0 H0 own ρ σ ps F Hv H) : ER K (cl.at F) Hv (mask own ρ) σ := s.sr.er
theorem SRe.step (s : SRe K cl C F0 Hv0 H0 own ρ σ ps F Hv H) (e : ExtE cl F Hv H F' Hv' H') (pl : Pls K cl C F' ps' Hv' H') : SRe K cl C F0 Hv0 H0 own ρ σ ps' F' Hv' H' where
  ext := s.ext.trans e
  pls := pl
  len := s.len
  sh := fun i d h1 h2 => let ⟨v, h3, h4⟩ := s.sh i d h1 h2; ⟨v, h3, h4.ee e⟩
  ow := fun i hi => by
    obtain ⟨p, d, h1, h2, h3, h4, h5, o, h6, h7⟩ := s.ow i hi
    refine ⟨p, d, h1, h2, e.old p _ h6 h3, h4, fun hf => (e.ft p hf).elim h5 fun z => (by rw [h6] at z; cases z), o, e.hh _ _ h6 h7.tbl h5, ?_⟩
    cases h7 with
    | lst z r => exact .lst z (r.ee e)
    | dct z r => exact .dct z ((r.ob e.ob).mono e.vv)
  ap := s.ap
theorem SRe.freeze (s : SRe K cl C F0 Hv0 H0 own ρ σ ps F Hv H) (hs : ∀ i ∈ own', i ∈ own) : SRe K cl C F0 Hv0 H0 own' ρ σ ps F (thaw own own' σ Hv H) H ∧ Sam Hv (thaw own own' σ Hv H) := by
  obtain ⟨h1, h2⟩ := s.sr.freeze hs
  exact ⟨s.back h1, h2⟩
end
section
variable (X : Cx) (W : WX) (cl : Glb) (C : Addr)
def PSOe (F0 : List Ft) (Hv0 H0 : Hp) (own : List Nat) (F : List Ft) (Hv : Hp) (Dn : Ends) : OE → Prop
  | .nx ρ' ps' => ∀ σ' F' Hv' H', SRe X.K cl C F0 Hv0 H0 own ρ' σ' ps' F' Hv' H' → Sam Hv Hv' → (∀ k a, obA F k a → obA F' k a) → σ'.length = X.N.length → Dn.nx σ' H'
  | .ret d ps' => ∀ v F' Hv' H', ExtE cl F0 Hv0 H0 F' Hv' H' → Pls X.K cl C F' ps' Hv' H' → Rep X.K (cl.at F') Hv' v d → Dn.rt v H'
  | .err ρ' c ps' => ∀ σ' F' Hv' H', SRe X.K cl C F0 Hv0 H0 [] ρ' σ' ps' F' Hv' H' → Sam Hv Hv' → (∀ k a, obA F k a → obA F' k a) → σ'.length = X.N.length → W (.ref (cl.c c)) none σ' H'
  | .bad => False
def RunSe (own own' : List Nat) (f : DSe) (t : TS) : Prop := ∀ (F0 : List Ft) (Hv0 H0 : Hp) (ρ : Env) (σ : St) (ps : PLS) (F : List Ft) (Hv H : Hp) (Dn : Ends), SRe X.K cl C F0 Hv0 H0 own ρ σ ps F Hv H → σ.length = X.N.length → PSOe X W cl C F0 Hv0 H0 own' F Hv Dn (f ρ ps) → t Dn σ H
def SSe (own own' : List Nat) (st : Stmt) (f : DSe) : Prop := ∃ t, PS X st t ∧ RunSe X W cl C own own' f t
def SSes (own own' : List Nat) (st : List Stmt) (f : DSe) : Prop := ∃ t, PSs X st t ∧ RunSe X W cl C own own' f t
end
section
variable {X : Cx} {W : WX} {cl : Glb} {C : Addr} {F0 F F1 : List Ft} {Hv0 H0 Hv Hv1 H : Hp} {own own1 own2 own3 : List Nat} {Dn : Ends} {pos p : Pos} {a b c e tg iter : Expr} {es : List Expr} {fa fb : EE} {g : EA} {st : Stmt} {sts : List Stmt}
theorem PSOe.mono {r : OE} (h : PSOe X W cl C F0 Hv0 H0 own F Hv Dn r) (s : Sam Hv Hv1) (so : ∀ k a, obA F k a → obA F1 k a) : PSOe X W cl C F0 Hv0 H0 own F1 Hv1 Dn r := by
  cases r with
  | nx ρ ps => exact fun σ' F' Hv' H' sr sm ob hl => h σ' F' Hv' H' sr (s.trans sm) (fun k a z => ob k a (so k a z)) hl
  | ret d ps => exact h
  | err ρ c ps => exact fun σ' F' Hv' H' sr sm ob hl => h σ' F' Hv' H' sr (s.trans sm) (fun k a z => ob k a (so k a z)) hl
  | bad => exact h
theorem PSOe.less {r : OE} (h : PSOe X W cl C F0 Hv0 H0 own2 F Hv Dn r) (hs : ∀ i ∈ own2, i ∈ own1) : PSOe X W cl C F0 Hv0 H0 own1 F Hv Dn r := by
  cases r with
  | nx ρ ps =>
    intro σ' F' Hv' H' sr sm ob hl
    obtain ⟨s1, s2⟩ := sr.freeze hs
    exact h σ' F' _ H' s1 (sm.trans s2) ob hl
  | ret d ps => exact h
  | err ρ c ps => exact h
  | bad => exact h
theorem SSe.pre {f : DSe} (h : SSe X W cl C own1 own2 st f) (hs : sub own1 own = true := by rfl) : SSe X W cl C own own2 st f := by
  obtain ⟨t, pt, h⟩ := h
  refine ⟨t, pt, fun F0 Hv0 H0 ρ σ ps F Hv H Dn sr hl po => ?_⟩
  obtain ⟨s1, s2⟩ := sr.freeze (sub_mem hs)
  exact h F0 Hv0 H0 ρ σ ps F _ H Dn s1 hl (po.mono s2 fun _ _ z => z)
theorem SSes.post {f : DSe} (h : SSes X W cl C own own1 sts f) (hs : sub own2 own1 = true := by rfl) : SSes X W cl C own own2 sts f := by
  obtain ⟨t, pt, h⟩ := h
  exact ⟨t, pt, fun F0 Hv0 H0 ρ σ ps F Hv H Dn sr hl po => h F0 Hv0 H0 ρ σ ps F Hv H Dn sr hl (po.less (sub_mem hs))⟩
def sP (f : DS) : DSe := fun ρ ps => (f ρ).up ps
theorem SS.ps {f : DS} (h : SS X W cl own own1 st f) : PS X st (tS X.K X.N W cl own own1 f) := by
  obtain ⟨t, pt, hr⟩ := h
  refine ⟨fun pins s σ H D I ⟨Hv0, H0, ρ, Hv, sr, hl, po⟩ => pt.run pins s σ H D I (hr Hv0 H0 ρ σ Hv H D sr hl ?_)⟩
  cases q : f ρ with
  | nx ρ' => rw [q] at po; exact po
  | ret d => rw [q] at po; exact po
  | err ρ' c => rw [q] at po; exact po
  | bad => rw [q] at po; exact po
theorem es_pure {f : DS} (h : ∀ F, SS X W (cl.at F) own own1 st f) : SSe X W cl C own own1 st (sP f) := by
  refine ⟨fun Dn σ H => ∃ F, tS X.K X.N W (cl.at F) own own1 f Dn σ H, ⟨fun pins s σ H D I ⟨F, q⟩ => (h F).ps.run pins s σ H D I q⟩, fun F0 Hv0 H0 ρ σ ps F Hv H Dn sr hl po => ⟨F, Hv, lessH own σ H, ρ, Hv, sr.sr, hl, ?_⟩⟩
  unfold sP at po
  cases q : f ρ with
  | nx ρ' =>
    rw [q] at po
    exact fun σ' Hv' H' r sm l => po σ' F Hv' H' (sr.back r) sm (fun _ _ z => z) l
  | ret d =>
    rw [q] at po
    exact fun v Hv' H' e r => po v F Hv' H' (sr.backX e).1 (sr.backX e).2 r
  | err ρ' c =>
    rw [q] at po
    exact fun σ' Hv' H' r sm l => po σ' F Hv' H' (sr.back r) sm (fun _ _ z => z) l
  | bad => rw [q] at po; exact po
def eSeq (f g : DSe) : DSe := fun ρ ps => (f ρ ps).seq g
theorem es_cons {f g : DSe} (h1 : SSe X W cl C own own1 st f) (h2 : SSes X W cl C own2 own3 sts g) (hs : sub own2 own1 = true := by rfl) : SSes X W cl C own own3 (st :: sts) (eSeq f g) := by
  obtain ⟨t, pt, h1⟩ := h1
  obtain ⟨u, pu, h2⟩ := h2
  refine ⟨_, pss_cons pt pu, fun F0 Hv0 H0 ρ σ ps F Hv H Dn sr hl po => ?_⟩
  refine h1 F0 Hv0 H0 ρ σ ps F Hv H _ sr hl ?_
  unfold eSeq at po
  cases q : f ρ ps with
  | nx ρ' ps' =>
    rw [q] at po
    intro σ' F' Hv' H' sr' sm ob hl'
    obtain ⟨s1, s2⟩ := sr'.freeze (sub_mem hs)
    exact h2 F0 Hv0 H0 ρ' σ' ps' F' _ H' Dn s1 hl' (PSOe.mono (r := g ρ' ps') po (sm.trans s2) ob)
  | ret d ps' => rw [q] at po; exact po
  | err ρ c ps' => rw [q] at po; exact po
  | bad => rw [q] at po; exact po
theorem es_one {f : DSe} (h1 : SSe X W cl C own own1 st f) : SSes X W cl C own own1 [st] f := by
  obtain ⟨t, pt, h1⟩ := h1
  exact ⟨_, pss_one pt, h1⟩
theorem use_maskE {α : Type} {ρ : Env} {σ : St} {ps : PLS} {T : List Ft → Hp → Hp → α → Prop} {r : RP α} {k : α → PLS → OE} (sr : SRe X.K cl C F0 Hv0 H0 own ρ σ ps F Hv H) (hl : σ.length = X.N.length) (po : PSOe X W cl C F0 Hv0 H0 own1 F Hv Dn (r.to ρ k))
    (h : ∀ a ps' F' Hv' H', r = .ok a ps' → ExtE cl F Hv H F' Hv' H' → SRe X.K cl C F0 Hv0 H0 own ρ σ ps' F' Hv' H' → PSOe X W cl C F0 Hv0 H0 own1 F' Hv' Dn (k a ps') → T F' Hv' H' a) : PstE X.K cl C W σ F Hv H T r := by
  cases r with
  | ok a ps' => exact fun F' Hv' H' e pl => h a ps' F' Hv' H' rfl e (sr.step e pl) (PSOe.mono (r := k a ps') po e.vv e.ob)
  | err c ps' =>
    intro F' Hv' H' e pl
    obtain ⟨s1, s2⟩ := (sr.step e pl).freeze (own' := []) (by simp)
    exact po σ F' _ H' s1 (e.vv.trans s2) e.ob hl
  | bad => exact po
def eRet (f : EE) : DSe := fun ρ ps => (f ρ ps).to ρ .ret
theorem es_ret (ha : SEe X W cl C a fa) : SSe X W cl C own own1 (.Return (some a) pos) (eRet fa) := by
  obtain ⟨ta, pa, ha⟩ := ha
  refine ⟨_, ps_ret pa, fun F0 Hv0 H0 ρ σ ps F Hv H Dn sr hl po => ?_⟩
  obtain ⟨s1, s2⟩ := sr.freeze (own' := []) (by simp)
  refine ha F _ H σ ρ ps _ s1.ext.vh s1.pls s1.er (use_maskE s1 hl (po.mono s2 fun _ _ z => z) fun d ps' F' Hv' H' _ e sr' po' v r => ?_)
  exact po' v F' Hv' H' sr'.ext sr'.pls r
def eDrop (own : List Nat) (f : EE) : DSe := fun ρ ps => (f (mask own ρ) ps).to ρ fun _ ps => .nx ρ ps
def eIfS (own : List Nat) (t : ET) (f g : DSe) : DSe := fun ρ ps => (t (mask own ρ) ps).to ρ fun k ps => match k with | true => f ρ ps | false => g ρ ps
def eSet (own : List Nat) (i : Nat) (f : EE) : DSe := fun ρ ps => (f (mask own ρ) ps).to ρ fun d ps => .nx (ρ.set i (some d)) ps
def eAsg (own : List Nat) (pt : Pat) (f : EE) : DSe := fun ρ ps => (f (mask own ρ) ps).to ρ fun d ps => match bindPat pt d ρ with | some ρ' => .nx ρ' ps | none => .bad
end
end Sm
namespace Sm
open PySem PySem.Spec L2
section
variable {X : Cx} {W : WX} {cl : Glb} {C : Addr} {F0 F F1 : List Ft} {Hv0 H0 Hv Hv1 H : Hp} {own own1 own2 own3 : List Nat} {Dn : Ends} {pos p : Pos} {a b c e o tg iter : Expr} {es : List Expr} {fa fb : EE} {g : EA} {st : Stmt} {sts : List Stmt}
theorem psoE {r : O} {ρ : Env} {σ : St} {ps : PLS} (sr : SRe X.K cl C F0 Hv0 H0 own ρ σ ps F Hv H) (po : PSOe X W cl C F0 Hv0 H0 own1 F Hv Dn (r.up ps)) : PSO X W (cl.at F) Hv (lessH own σ H) own1 Hv Dn r := by
  cases r with
  | nx ρ' => exact fun σ' Hv' H' r sm l => po σ' F Hv' H' (sr.back r) sm (fun _ _ z => z) l
  | ret d => exact fun v Hv' H' e r => po v F Hv' H' (sr.backX e).1 (sr.backX e).2 r
  | err ρ' c => exact fun σ' Hv' H' r sm l => po σ' F Hv' H' (sr.back r) sm (fun _ _ z => z) l
  | bad => exact po
def eApp (own : List Nat) (i : Nat) (f : EE) : DSe := fun ρ ps => if lstAt i ρ then (f (mask own ρ) ps).to ρ fun d ps => (putIn i ρ [d]).up ps else .bad
theorem es_app {i : Nat} {x : Str} {apos npos : Pos} (ha : SEe X W cl C a fa) (ho : own.contains i = true := by rfl) (hN : X.N[i]? = some x := by rfl) (hv : Vis X.env.scope x := by first | exact Or.inl rfl | exact Or.inr (Or.inl rfl)) (hd : (x == ("__debug__" : Str)) = false := by decide)
    (hcd : (x == ("__classdict__" : Str)) = false := by decide) (hline : (apos.endLine == p.line) = true := by rfl) (hs1 : starEach [a] X.env = [(false, eval a X.env)] := by rfl)
    (hfew : ((backTo p (starEach [a] X.env)).all (fun x => !x.1) && (backToKw p (keywordEach [] X.env)).all (fun x => x.1.isSome) && decide ([a].length + ([] : List Keyword).length + (if ([] : List Keyword).isEmpty then 0 else 1) < 30)) = true := by rfl)
    (hs : swapsWith (.Call (.Attribute (.Name x npos) "append" apos) [a] [] p) none pos.line X.env = pure false := by rfl) :
    SSe X W cl C own own (.Expr (.Call (.Attribute (.Name x npos) "append" apos) [a] [] p) pos) (eApp own i fa) := by
  obtain ⟨ta, pa, ha⟩ := ha
  refine ⟨_, ps_expr (pe_bm PySem.F.plainAttrs_list PySem.F.slot_list_append PySem.F.type_list_append mt_append (pe_var hN hv hd hcd) (pa_cons pa pa_nil hs1) rfl hfew hline hs1 rfl) hs, fun F0 Hv0 H0 ρ σ ps F Hv H Dn sr hl po => ?_⟩
  have hi : i ∈ own := by simpa using ho
  obtain ⟨q, d0, e1, e2, e3, e4, e5, o, e6, eo⟩ := sr.ow i hi
  cases hla : lstAt i ρ with
  | false => simp only [eApp, hla] at po; exact po.elim
  | true => ?_
  obtain ⟨ds, h1⟩ := lstAt_ok hla
  rw [h1] at e1; cases e1
  obtain ⟨vs, rfl, e7, e8⟩ := eo.ofL
  simp only [eApp, hla, if_true] at po
  refine ⟨.ref q, e2, .inl ⟨rfl, vs, .inl (.inl e6)⟩, ?_⟩
  refine ha F Hv H σ _ ps _ sr.ext.vh sr.pls sr.er (use_maskE sr hl po fun d ps' F' Hv' H' _ e sr' po' v r => ?_)
  exact app_end (H := H) sr'.sr hl hi e2 r (psoE sr' po')
theorem ItOk.at {K : PySem.W.Frag} {J : It} {ds : List D} (h : ItOk K (cl.at F) J Hv ds) (ho : ∀ k a, obA F k a → obA F1 k a) : ItOk K (cl.at F1) J Hv ds where
  go := fun i Hv' H' sm vw hi => h.go i Hv' H' sm vw.un.at hi
  stop := fun i Hv' H' sm vw hi => h.stop i Hv' H' sm vw.un.at hi
  yld := fun i Hv' H' sm vw d hd x H2 y => by
    obtain ⟨Hv2, e, r⟩ := h.yld i Hv' H' sm vw.un.at d hd x H2 y
    exact ⟨Hv2, ⟨e.hh, e.vv, e.vh.un.at, e.old, e.dom, e.tt⟩, r.ob ho⟩
end
def outE : OE → RP D
  | .nx _ ps => .ok .non ps
  | .ret d ps => .ok d ps
  | .err _ c ps => .err c ps
  | .bad => .bad
def defE (n m : Nat) (f : DSe) : List D → PLS → RP D := fun ds ps => if ds.length = n then outE (f (args m ds) ps) else .bad
def spE (K : PySem.W.Frag) (cl : Glb) (C : Addr) (n : Nat) (Fd : List D → PLS → RP D) : Sp := fun vs H Q E => vs.length = n ∧ ∃ F Hv ds ps, Vw cl Hv H ∧ Pls K cl C F ps Hv H ∧ Reps K (cl.at F) Hv vs ds ∧ PstE K cl C (fun c d _ H => E c d H) [] F Hv H (TVe K cl Q) (Fd ds ps)
section
variable {P : Program} {w : World} {K : PySem.W.Frag} {mg : Str → Option Value} {base : Heap} {cl : Glb} {C : Addr}
theorem fnE_ok {k n m : Nat} {x q : Str} {st : Stmt} {f : Addr} {fd : FuncData} {N ps : List Str} {den : DSe} {own : List Nat}
    (F : Fun K x q st f fd) (S : FnScope N ps (defScope st)) (hn : ps.length = n) (hN : N.length = m)
    (h : ∀ (cdv : Value) (A : Around) (outer : List PySem.Env) (s : Shared) (H : Hp) (E : XK), Gd (cxOf (L2.CX P w) P w K mg base N q (defScope st) f cdv A outer s H E) (fun cls d _ H => E cls d H) →
      Room k (A.deeper (PyProof.Rows.envOfC q (defScope st) s.heap.objs.size f cdv)) → SSes (cxOf (L2.CX P w) P w K mg base N q (defScope st) f cdv A outer s H E) (fun cls d _ H => E cls d H) cl C [] own (defBody st) den) :
    FnOk P w K mg base (L2.CX P w) (k + 1) f fd ps (spE K cl C n (defE n m den)) := by
  refine F.okX S (fun vs H Q E h => h.1.trans hn.symm) (fun cdv A outer s H vs Q E hr hsp => ?_)
  obtain ⟨hv, Ft, Hv, ds, ps0, vw, pl, r, ps'⟩ := hsp
  have gd : Gd (cxOf (L2.CX P w) P w K mg base N q (defScope st) f cdv A outer s H E) (fun cls d _ H => E cls d H) := ⟨rfl, S.nd, takes_of rfl rfl rfl rfl, passes_of rfl⟩
  obtain ⟨t, pt, run⟩ := h cdv A outer s H E gd hr
  refine ⟨t, pt, run Ft Hv H (args N.length ds) (start N vs) ps0 Ft Hv H _ ⟨ExtE.refl vw, pl, ?_, fun i d _ e => args_get r e, fun i hi => absurd hi (by simp), fun i j p hi => absurd hi (by simp)⟩ ?_ ?_⟩
  · unfold args L2.start
    rw [List.length_append, List.length_append, List.length_map, List.length_map, List.length_replicate, List.length_replicate, r.length]
  · unfold L2.start
    have h1 : ps.length ≤ N.length := by have := congrArg List.length S.pre; rw [List.length_take] at this; omega
    show _ = N.length
    rw [List.length_append, List.length_map, List.length_replicate]
    omega
  · have hd : ds.length = n := by rw [← r.length]; exact hv
    unfold defE at ps'
    rw [if_pos hd] at ps'
    rw [hN]
    cases q : den (args m ds) ps0 with
    | nx ρ ps1 =>
      rw [q] at ps'
      exact fun σ' F' Hv' H' sr sm ob hl => ps' F' Hv' H' sr.ext sr.pls .non .non
    | ret d ps1 =>
      rw [q] at ps'
      exact fun v F' Hv' H' e pl r' => ps' F' Hv' H' e pl v r'
    | err ρ c ps1 =>
      rw [q] at ps'
      exact fun σ' F' Hv' H' sr _ _ hl => ps' F' Hv' H' sr.ext sr.pls
    | bad => rw [q] at ps'; exact ps'.elim
end
structure FnA (P : Program) (w : World) (K : PySem.W.Frag) (mg : Str → Option Value) (base : Heap) (cl : Glb) (C : Addr) (k : Nat) (x : Str) (n : Nat) (Fd : List D → PLS → RP D) : Prop where
  ex : ∃ f, FnR P w K mg base (L2.CX P w) k f (spE K cl C n Fd) ∧ mg x = some (.ref f) ∧ PySem.W.keepIn K (.ref f) = true
structure FnM (P : Program) (w : World) (K : PySem.W.Frag) (mg : Str → Option Value) (base : Heap) (cl : Glb) (C : Addr) (k : Nat) (m : Str) (n : Nat) (Fd : List D → PLS → RP D) : Prop where
  ex : ∃ f, FnR P w K mg base (L2.CX P w) k f (spE K cl C n Fd) ∧ Meth K C m f
section
variable {P : Program} {w : World} {K : PySem.W.Frag} {mg : Str → Option Value} {base : Heap} {cl : Glb} {C : Addr} {k n m : Nat} {x q : Str}
theorem FnOk.rawN {f : Addr} {fd : FuncData} {ps : List Str} {sp : Sp} {CX : CXT} (F : FnOk P w K mg base CX k f fd ps sp) (hb : Binds K fd ps []) : FnR P w K mg base CX k f sp := (F.raw hb .nil).imp fun vs H Q E h => by rw [List.append_nil]; exact h
theorem FnA.mono {k' : Nat} {Fd : List D → PLS → RP D} (h : FnA P w K mg base cl C k x n Fd) (hk : k ≤ k') : FnA P w K mg base cl C k' x n Fd := let ⟨f, h1, h2, h3⟩ := h.ex; ⟨f, h1.mono hk, h2, h3⟩
theorem FnM.mono {k' : Nat} {Fd : List D → PLS → RP D} (h : FnM P w K mg base cl C k x n Fd) (hk : k ≤ k') : FnM P w K mg base cl C k' x n Fd := let ⟨f, h1, h2⟩ := h.ex; ⟨f, h1.mono hk, h2⟩
def upF (Fp : List D → R D) : List D → PLS → RP D := fun ds ps => (Fp ds).up ps
theorem FnA.of {Fp : List D → R D} (G : ∀ F, Fn P w K mg base (cl.at F) k x n Fp) : FnA P w K mg base cl C k x n (upF Fp) := by
  obtain ⟨f, fd, ps, h1, h2, h3, h4, h5⟩ := G []
  refine ⟨f, ?_, h2, h3⟩
  intro A outer s H us vs Q E hr e0 r ⟨hl, F, Hv, ds, ps', vw, pl, rs, pv⟩
  obtain ⟨f', fd', ps'', g1, g2, g3, g4, g5⟩ := G F
  rw [h2] at g2; cases g2
  exact FnOk.rawN g1 g4 A outer s H us vs Q E hr e0 r ⟨hl, Hv, ds, vw.at, rs, up_pst pl pv⟩
theorem fnA_mk {st : Stmt} {f : Addr} {fd : FuncData} {N ps : List Str} {den : DSe} {own : List Nat}
    (F : Fun K x x st f fd) (S : FnScope N ps (defScope st)) (hm : mg x = some (.ref f)) (hb : Binds K fd ps []) (hn : ps.length = n) (hN : N.length = m)
    (h : ∀ (cdv : Value) (A : Around) (outer : List PySem.Env) (s : Shared) (H : Hp) (E : XK), Gd (cxOf (L2.CX P w) P w K mg base N x (defScope st) f cdv A outer s H E) (fun cls d _ H => E cls d H) →
      Room k (A.deeper (PyProof.Rows.envOfC x (defScope st) s.heap.objs.size f cdv)) → SSes (cxOf (L2.CX P w) P w K mg base N x (defScope st) f cdv A outer s H E) (fun cls d _ H => E cls d H) cl C [] own (defBody st) den) :
    FnA P w K mg base cl C (k + 1) x n (defE n m den) := ⟨f, FnOk.rawN (fnE_ok F S hn hN h) hb, hm, F.kp⟩
end
section
variable {X : Cx} {CX : CXT} {k : Nat} {f C : Addr} {sp : Sp} {E : St → XK} {x m : Str} {p pos apos : Pos} {e o : Expr} {es : List Expr} {ta : TE} {t : TA}
theorem run_fnRS {pins : List (Addr × Obj)} {σ : St} {H : Hp} {s : Shared} {Q : VK} {us : List Value} {vs : List V} (F : FnR X.prog X.w X.K X.mg X.base CX k f sp) (hr : Room k X.A) (hx : PassesAt CX X σ (E σ))
    (I : Inv X pins σ H s) (r : Vals vs us) (h : sp vs H Q (E σ)) : wpAny (model X.prog X.w) X.A (call (.ref f) us) (EP X pins σ Q) X.xe s := by
  refine wpAny_call (codeAny_mono (F X.A X.stack s H us vs Q (E σ) hr I.env0 r h) fun r s' hq => ?_)
  cases r with
  | error e => exact hx pins H s e s' I hq
  | ok fl =>
    cases fl with
    | ret u => exact I.after hq
    | next => exact False.elim hq
    | brk => exact False.elim hq
    | cont => exact False.elim hq
theorem pe_callRS (F : FnR X.prog X.w X.K X.mg X.base CX k f sp) (hr : Room k X.A) (hg : Gl X x) (hm : X.mg x = some (.ref f)) (hk : PySem.W.keepIn X.K (.ref f) = true) (hx : ∀ σ, PassesAt CX X σ (E σ))
    (ha : PA X (e :: es) t) (hdb : (x == ("__debug__" : Str)) = false := by decide) (he : starEach (e :: es) X.env = (false, eval e X.env) :: starEach es X.env := by rfl) (hpl : (backTo pos (starEach es X.env)).any (·.1) = false := by rfl) :
    PE X (.Call (.Name x p) (e :: es) [] pos) (tCallS sp E t) := by
  refine ⟨fun pins s σ H Q I h => ?_⟩
  refine wpAny_Call_Name_kw (ld_glob I hg hm ?_ hdb)
  refine PySem.W.callWith_K (h₀ := X.base) I.ok.mod.kin hk (thn (ha.run pos pins s σ H _ I h) fun us s1 ⟨vs, H1, I1, r, q⟩ => ⟨I1.kIn, ?_⟩) he hpl
  exact run_fnRS F hr (hx σ) I1 r q
end
section
variable {X : Cx} {W : WX} {cl : Glb} {C : Addr} {pos p apos : Pos} {a b c e o : Expr} {es : List Expr} {fa fb : EE} {g : EA}
def eCallA (Fd : List D → PLS → RP D) (g : EA) : EE := fun ρ ps => (g ρ ps).bind Fd
def eMeth (Fd : List D → PLS → RP D) (fo : EE) (g : EA) : EE := fun ρ ps => (fo ρ ps).bind fun d ps => match d with
  | .obj k => (g ρ ps).bind fun ds ps => Fd (.obj k :: ds) ps
  | _ => .bad
def eB (o : List D → Option D) (g : EA) : EE := fun ρ ps => (g ρ ps).bind fun ds ps => (ofO (o ds)).up ps
end
end Sm
namespace Sm
open PySem PySem.Spec L2
def Pl.get (q : Pl) : Bool → List D | true => q.past | false => q.later
def Pl.put (q : Pl) : Bool → List D → Pl | true, ds => { q with past := ds } | false, ds => { q with later := ds }
def Ft.at (f : Ft) : Bool → Addr | true => f.p | false => f.l
section
variable {K : PySem.W.Frag} {cl : Glb} {C : Addr} {F F' : List Ft} {Hv H Hv' H' : Hp} {ps : PLS}
theorem PlAt.lst {f : Ft} {q : Pl} (h : PlAt K cl C Hv H f q) (b : Bool) : ∃ vs, H (f.at b) = some (.lst vs) ∧ vs.length ≤ sizeLine ∧ Reps K cl Hv vs (q.get b) := by
  cases b
  · exact h.later
  · exact h.past
theorem Pls.set (h : Pls K cl C F ps Hv H) {k : Nat} {f : Ft} {q : Pl} (hf : F[k]? = some f) (hs : ∀ (j : Nat) g u, j ≠ k → F[j]? = some g → PlAt K (cl.at F) C Hv H g u → PlAt K (cl.at F) C Hv H' g u) (hp : PlAt K (cl.at F) C Hv H' f q) : Pls K cl C F (ps.set k q) Hv H' := by
  refine ⟨by rw [List.length_set]; exact h.len, fun j g u hg hu => ?_, h.nd, h.ob0⟩
  by_cases z : j = k
  · subst z
    rw [hf] at hg; cases hg
    have : j < ps.length := by rw [← h.len]; exact (List.getElem?_eq_some_iff.mp hf).1
    rw [List.getElem?_set_self this] at hu; cases hu
    exact hp
  · rw [List.getElem?_set_ne (Ne.symm z)] at hu
    exact hs j g u z hg (h.pl j g u hg hu)
theorem PlAt.ob {f : Ft} {q : Pl} (h : PlAt K (cl.at F) C Hv H f q) (ho : ∀ k a, obA F k a → obA F' k a) : PlAt K (cl.at F') C Hv H f q := by
  obtain ⟨vo, vn, h1, r1, r2⟩ := h.ins
  obtain ⟨vp, h2, z2, r3⟩ := h.past
  obtain ⟨vl, h3, z3, r4⟩ := h.later
  exact ⟨⟨vo, vn, h1, r1.ob ho, r2.ob ho⟩, h.own, ⟨vp, h2, z2, r3.ob ho⟩, ⟨vl, h3, z3, r4.ob ho⟩, h.hid⟩
end
end Sm
namespace Sm
open PySem PySem.Spec L2
def objAt (i : Nat) (ρ : Env) : Option Nat := match ρ[i]? with | some (some (.obj k)) => some k | _ => none
def plAt (i : Nat) (ρ : Env) (ps : PLS) : Option (Nat × Pl) := match objAt i ρ with | some k => (ps[k]?).map fun q => (k, q) | none => none
section
variable {X : Cx} {W : WX} {cl : Glb} {C : Addr} {F0 F F1 : List Ft} {Hv0 H0 Hv Hv1 H : Hp} {own own1 own2 own3 : List Nat} {Dn : Ends} {pos pos' p p1 p2 p3 p4 apos : Pos} {a b c e o tg iter : Expr} {es : List Expr} {fa fb : EE} {g : EA} {st : Stmt} {sts : List Stmt} {ρ : Env} {σ : St} {ps : PLS}
def eNow (i : Nat) : EE := fun ρ ps => match plAt i ρ ps with | some (_, q) => .ok q.now ps | none => .bad
def eOwn (i : Nat) : EE := fun ρ ps => match plAt i ρ ps with | some (_, q) => .ok q.own ps | none => .bad
end
end Sm
namespace Sm
open PySem PySem.Spec L2
section
variable {X : Cx} {W : WX} {cl : Glb} {C : Addr} {F0 F F1 : List Ft} {Hv0 H0 Hv Hv1 H : Hp} {own own1 own2 own3 : List Nat} {Dn : Ends} {pos pos' p p1 p2 p3 p4 apos : Pos} {a b c e o tg iter : Expr} {es : List Expr} {fa fb : EE} {g : EA} {st : Stmt} {sts : List Stmt} {ρ : Env} {σ : St} {ps : PLS}
def oIxT : D → D → Option D
  | .lst ds, .int i => atI ds i
  | .tup ds, .int i => atI ds i
  | _, _ => none
end
end Sm
namespace Sm
open PySem PySem.Spec L2
def mkPl (d : D) : Pl := ⟨d, .tup [.tup [], .int 0, .int 0], [], []⟩
def makeR (Lk : List D → R D) (d : D) (ps : PLS) : RP D := ((Lk [d]).up ps).bind fun _ ps => .ok (D.obj ps.length) (ps ++ [mkPl d])
def eMake (Lk : List D → R D) (f : EE) : EE := fun ρ ps => (f ρ ps).bind fun d ps => makeR Lk d ps
section
variable {X : Cx} {CX : CXT} {k i : Nat} {f C : Addr} {sp : Sp} {E : St → XK} {x : Str} {e fe : Expr} {es : List Expr} {te tf : TE} {t : TA} {p pos : Pos}
end
section
variable {X : Cx} {W : WX} {cl : Glb} {C : Addr} {pos p : Pos} {e : Expr} {fa : EE}
end
section
variable {K : PySem.W.Frag} {cl : Glb} {C : Addr} {F0 F : List Ft} {Hv0 H0 Hv H H' : Hp} {ps : PLS}
end
end Sm
namespace Sm
open PySem PySem.Spec L2
section
variable {X : Cx} {W : WX} {cl : Glb} {C : Addr} {pos p : Pos}
end
end Sm
namespace Sm
open PySem PySem.Spec L2
def okPl (q : Pl) : Bool := noFn q.own && noFn q.now && noFns q.past && noFns q.later
def okPS (ps : PLS) : Bool := ps.all okPl
section
variable {Z : Zf} {K : PySem.W.Frag} {cl cl' : Glb} {C : Addr} {F F' : List Ft} {Hv H Hv' H' : Hp} {ps : PLS}
theorem okPS_get (h : okPS ps = true) {k : Nat} {q : Pl} (hq : ps[k]? = some q) : noFn q.own = true ∧ noFn q.now = true ∧ noFns q.past = true ∧ noFns q.later = true := by
  have := List.all_eq_true.mp h q (List.mem_of_getElem? hq)
  simp only [okPl, Bool.and_eq_true] at this
  exact ⟨this.1.1.1, this.1.1.2, this.1.2, this.2⟩
theorem exte_back (vw : Vw cl Hv H) (f : Fre Z H) (hT : cl'.T = cl.T) (e : ExtE cl' F (trk Z Hv) (trk Z H) F' Hv' H') : ExtE cl F Hv H F' (utr Z Hv') (utr Z H') := by
  have fv : Fre Z Hv := fun b o z => vw.d b (f b o z)
  have hv : Hld Z Hv' := hld_trk.mono e.vv
  refine ⟨fun b o h n nf => ?_, fun b o h n => ?_, vw_utr e.vh hv hT, fun b o h n => ?_, fun b h => ?_, fun b ps h => ?_, e.ob, fun b h => ?_⟩
  · have z := f.out h
    rw [utr_out z]; exact e.hh b o (by rw [trk_out z]; exact h) n nf
  · have z := fv.out h
    rw [utr_out z]; exact e.vv b o (by rw [trk_out z]; exact h) n
  · have z := f.out h
    rw [utr_out z]; exact e.old b o (by rw [trk_out z]; exact h) (by rw [trk_out z]; exact n)
  · cases z : Z b with
    | none =>
      rw [utr_out z] at h
      have := e.dom b h
      rw [trk_out z] at this; exact this
    | some o' => exact f b o' z
  · have z := f.out h
    rw [utr_out z]; exact e.tt b ps (by rw [trk_out z]; exact h)
  · exact (e.ft b h).imp id fun z => (trk_none z).2
theorem exte_on (vw : Vw cl' Hv H) (f : Hld Z Hv) (f' : Fre Z H') (hT : cl'.T = cl.T) (e : ExtE cl F (utr Z Hv) (utr Z H) F' Hv' H') (pl : Pls K cl C F' ps Hv' H') : ExtE cl' F Hv H F' (trk Z Hv') (trk Z H') := by
  have fH := f.mono vw.s
  refine ⟨fun b o h n nf => ?_, fun b o h n => ?_, vw_trk e.vh f' hT, fun b o h n => ?_, fun b h => ?_, fun b ps h => ?_, e.ob, fun b h => ?_⟩
  · cases z : Z b with
    | none => rw [trk_out z]; exact e.hh b o (by rw [utr_out z]; exact h) n nf
    | some o' => rw [trk_in z, ← fH b o' z]; exact h
  · cases z : Z b with
    | none => rw [trk_out z]; exact e.vv b o (by rw [utr_out z]; exact h) n
    | some o' => rw [trk_in z, ← f b o' z]; exact h
  · cases z : Z b with
    | none => rw [trk_out z]; exact e.old b o (by rw [utr_out z]; exact h) (by rw [utr_out z]; exact n)
    | some o' => rw [f b o' z] at n; cases n
  · obtain ⟨z, h⟩ := trk_none h
    have := e.dom b h
    rw [utr_out z] at this; exact this
  · have z := fH.out h fun o z => by cases z
    rw [trk_out z]; exact e.tt b ps (by rw [utr_out z]; exact h)
  · refine (e.ft b h).imp id fun z => ?_
    obtain ⟨_, o, ho, _⟩ := pl.foot h
    have zb := f'.out ho
    rw [utr_out zb] at z; exact z
theorem pls_trk (vw : Vw cl Hv H) (h : Pls K cl C F ps Hv H) (f : Fre Z H) (hq : okPS ps = true) (hc : cl'.c = cl.c) (hn : cl'.ns = cl.ns) (ob0 : ∀ k a, cl'.ob k a → obA F k a) : Pls K cl' C F ps (trk Z Hv) (trk Z H) := by
  have fv : Fre Z Hv := fun b o z => vw.d b (f b o z)
  refine ⟨h.len, fun k g q hg hk => ?_, h.nd, ob0⟩
  have hp := h.pl k g q hg hk
  obtain ⟨n1, n2, n3, n4⟩ := okPS_get hq hk
  obtain ⟨vo, vn, h1, r1, r2⟩ := hp.ins
  obtain ⟨vs, h2, z2, r3⟩ := hp.past
  obtain ⟨us, h3, z3, r4⟩ := hp.later
  have up : ∀ {b : Addr} {o : HO}, H b = some o → trk Z H b = some o := fun hb => by rw [trk_out (f.out hb)]; exact hb
  have tr : ∀ {v : V} {d : D}, Rep K (cl.at F) Hv v d → noFn d = true → Rep K (cl'.at F) (trk Z Hv) v d := fun r hd => rep_cl (cl := cl'.at F) (cl' := cl.at F) hc.symm hn.symm rfl (r.mono (sam_trk fv)) hd
  have trs : ∀ {v : List V} {d : List D}, Reps K (cl.at F) Hv v d → noFns d = true → Reps K (cl'.at F) (trk Z Hv) v d := fun r hd => reps_cl (cl := cl'.at F) (cl' := cl.at F) hc.symm hn.symm rfl (r.mono (sam_trk fv)) hd
  refine ⟨⟨vo, vn, up h1, tr r1 n1, tr r2 n2⟩, up hp.own, ⟨vs, up h2, z2, trs r3 n3⟩, ⟨us, up h3, z3, trs r4 n4⟩, fun a ha => ?_⟩
  obtain ⟨o, ho, _⟩ := hp.full a ha
  rw [trk_out (f.out ho)]; exact hp.hid a ha
theorem pls_utr (vw : Vw cl' Hv H) (h : Pls K cl' C F ps Hv H) (f : Hld Z Hv) (hq : okPS ps = true) (hc : cl'.c = cl.c) (hn : cl'.ns = cl.ns) (ob0 : ∀ k a, cl.ob k a → obA F k a) : Pls K cl C F ps (utr Z Hv) (utr Z H) := by
  have fH := f.mono vw.s
  refine ⟨h.len, fun k g q hg hk => ?_, h.nd, ob0⟩
  have hp := h.pl k g q hg hk
  obtain ⟨n1, n2, n3, n4⟩ := okPS_get hq hk
  obtain ⟨vo, vn, h1, r1, r2⟩ := hp.ins
  obtain ⟨vs, h2, z2, r3⟩ := hp.past
  obtain ⟨us, h3, z3, r4⟩ := hp.later
  have up : ∀ {b : Addr} {o : HO}, H b = some o → (∀ u, o ≠ Fz u) → utr Z H b = some o := fun hb hn => by rw [utr_out (fH.out hb hn)]; exact hb
  have tr : ∀ {v : V} {d : D}, Rep K (cl'.at F) Hv v d → noFn d = true → Rep K (cl.at F) (utr Z Hv) v d := fun r hd => rep_utr (cl := cl.at F) (cl' := cl'.at F) f hc hn rfl r hd
  have trs : ∀ {v : List V} {d : List D}, Reps K (cl'.at F) Hv v d → noFns d = true → Reps K (cl.at F) (utr Z Hv) v d := fun r hd => reps_utr (cl := cl.at F) (cl' := cl'.at F) f hc hn rfl r hd
  refine ⟨⟨vo, vn, up h1 (fun _ z => nomatch z), tr r1 n1, tr r2 n2⟩, up hp.own (fun _ z => nomatch z), ⟨vs, up h2 (fun _ z => nomatch z), z2, trs r3 n3⟩, ⟨us, up h3 (fun _ z => nomatch z), z3, trs r4 n4⟩, fun a ha => ?_⟩
  cases z : Z a with
  | none => rw [utr_out z]; exact hp.hid a ha
  | some o => exact utr_in z
end
section
variable {X : Cx} {W : WX} {cl : Glb} {C : Addr} {pos p : Pos} {k i : Nat} {x : Str} {Fd : PLS → RP D}
def eCallF (i : Nat) (Fd : PLS → RP D) : EE := fun ρ ps => match ρ[i]? with
  | some (some .fnv) => Fd ps
  | _ => .bad
end
def gdE : RP D → RP D
  | .ok d ps => if noFn d && okPS ps then .ok d ps else .bad
  | .err c ps => if okPS ps then .err c ps else .bad
  | .bad => .bad
end Sm
namespace Sm
open PySem PySem.Spec L2
def tLR (X : Cx) (W : WX) (k : Nat) (gA : Addr) (clo : List (Str × Addr)) (fr : List Str) (js : List Nat) (t : TA) : TE := fun σ H Q => t σ H fun vs H1 => ∀ Z : Zf, Fre Z H1 →
  (∀ (h : Heap) (H : Hp), (∀ b o, Z b = some o → h.get? b = some o) → Fre Z H → NdefX.CellsAt clo fr (js.map (NdefX.slotAt σ)) h H) →
  ∃ (sp : Sp) (Q' : VK) (E' : XK), FnR X.prog X.w X.K X.mg X.base (L2.CX X.prog X.w) k gA sp ∧ sp vs (trk Z H1) Q' E' ∧ (∀ v H', Hld Z H' → Q' v H' → Q v (utr Z H')) ∧ (∀ c d H', Hld Z H' → E' c d H' → WE W σ c d (utr Z H'))
section
variable {X : Cx} {W : WX} {cl : Glb} {C : Addr} {params : Arguments} {body e : Expr} {scope : Scope} {pos p lpos : Pos} {es : List Expr} {k kb m : Nat} {x : Str} {gA : Addr} {fr : List Str} {js : List Nat} {t : TA} {fb : EE} {FF : (PLS → RP D) → List D → PLS → RP D}
open Classical in
theorem pe_lamR (hg : Gl X x) (hm : X.mg x = some (.ref gA)) (hk : PySem.W.keepIn X.K (.ref gA) = true) (hr : Room k X.A) (tk : Takes X W) (pa : PA X (e :: es) t) (hfn : ∀ y, X.fn y = true) (hstk : X.stack = X.env :: X.outer) (hfrm : X.env.frame = some X.env.locals)
    (hfree : ∀ y ∈ scope.names, y.2 = .free → X.env.scope.names.lookup y.1 = some .cell ∨ X.env.scope.names.lookup y.1 = some .free) (hfr : ∀ y ∈ fr, (y, NameKind.free) ∈ scope.names) (hjs : js.map (fun j => X.N[j]?) = fr.map some) (hdb : (x == ("__debug__" : Str)) = false)
    (he : starEach (e :: es) X.env = (false, eval e X.env) :: starEach es X.env) (hpl : (backTo pos (starEach es X.env)).any (·.1) = false) :
    PE X (.Call (.Name x p) (e :: es) [] pos) (tLR X W k gA (cloFrom X.env.cells scope.names []) fr js t) := by
  refine ⟨fun pins s σ H Q I h => wpAny_Call_Name_kw (ld_glob I hg hm ?_ hdb)⟩
  refine PySem.W.callWith_K (h₀ := X.base) I.ok.mod.kin hk (thn (pa.run pos pins s σ H _ I h) fun us s1 ⟨vs, H1, I1, r, q⟩ => ⟨I1.kIn, ?_⟩) he hpl
  have cap := NdefX.Caps.made (fr := fr) (js := js) I1.ok hfree hfr hjs
  have CA := NdefX.cells_of I1 cap
  have hx : ∀ y c, (cloFrom X.env.cells scope.names []).lookup y = some c → X.env.cells.lookup y = some c := cap.sub
  let Z : Zf := fun b => if ∃ y, (cloFrom X.env.cells scope.names []).lookup y = some b then s1.heap.get? b else none
  have hz : ∀ b o, Z b = some o → (∃ y, (cloFrom X.env.cells scope.names []).lookup y = some b) ∧ s1.heap.get? b = some o := fun b o z => by
    have z : (if ∃ y, (cloFrom X.env.cells scope.names []).lookup y = some b then s1.heap.get? b else none) = some o := z
    split at z
    · exact ⟨by assumption, z⟩
    · cases z
  have zin : ∀ y c o, (cloFrom X.env.cells scope.names []).lookup y = some c → s1.heap.get? c = some o → Z c = some o := fun y c o hy ho => (if_pos ⟨y, hy⟩).trans ho
  have fZ : Fre Z H1 := fun b o z => by
    obtain ⟨⟨y, hy⟩, _⟩ := hz b o z
    exact (CA.all y b hy).1
  have ab : ∀ b o, Z b = some o → X.s_0.heap.objs.size ≤ b := fun b o z => by
    obtain ⟨⟨y, hy⟩, _⟩ := hz b o z
    exact I1.ok.cab y b (hfn y) (hx y b hy)
  have nf : ∀ b o, Z b = some o → b ∉ frs X.stack := fun b o z hb => by
    obtain ⟨⟨y, hy⟩, _⟩ := hz b o z
    rw [hstk] at hb
    have hb : b ∈ List.filterMap (·.frame) (X.env :: X.outer) := hb
    rw [List.filterMap_cons, hfrm] at hb
    rcases List.mem_cons.mp hb with e1 | e1
    · exact I1.cne y b (hx y b hy) e1
    · obtain ⟨_, o', ho', _⟩ := I1.ok.funs.mem e1
      exact absurd (Heap.lt_size ho') (Nat.not_lt.mpr (ab b o z))
  have nb : ∀ b o, Z b = some o → X.base.get? b = none := fun b o z => by
    cases q : X.base.get? b with
    | none => rfl
    | some o' => exact absurd (Heap.lt_size (I1.ok.bs b o' q).1) (Nat.not_lt.mpr (ab b o z))
  obtain ⟨sp, Q', E', F, hsp, hq, hE⟩ := q Z fZ fun h H2 hh f2 => by
    refine ⟨CA.len, fun y c e1 => ?_, CA.inj, fun i y e1 => ?_⟩
    · obtain ⟨_, v, o, ho, hd⟩ := CA.all y c e1
      exact ⟨f2 c o (zin y c o e1 ho), v, o, hh c o (zin y c o e1 ho), hd⟩
    · obtain ⟨c, e2, e3⟩ := CA.has i y e1
      refine ⟨c, e2, fun v hv => ?_⟩
      obtain ⟨u, ru, o, ho, hd⟩ := e3 v hv
      exact ⟨u, ru, o, hh c o (zin y c o e2 ho), hd⟩
  have hz' : ∀ b o, Z b = some o → s1.heap.get? b = some o := fun b o z => (hz b o z).2
  show wpAny _ _ (call (.ref gA) us) _ _ _
  refine wpAny_call (codeAny_mono (F X.A X.stack s1 (trk Z H1) us vs Q' E' hr (env0_trk I1.env0 fZ hz' nf nb) r hsp) fun o s' q' => ?_)
  have q2 : CR (L2.CX X.prog X.w) X.stack X.prog X.w H1 s1 Q (WE W σ) o s' := cr_utr q' fZ hz' nf hq hE
  cases o with
  | error u => exact passAt tk σ pins H1 s1 u s' I1 q2
  | ok fl =>
    cases fl with
    | ret u => exact I1.after q2
    | next => exact False.elim q2
    | brk => exact False.elim q2
    | cont => exact False.elim q2
end
section
variable {X : Cx} {W : WX} {cl : Glb} {C : Addr} {pos p : Pos} {a e e1 e2 : Expr} {es : List Expr} {k n i : Nat} {x : Str} {own : List Nat}
def tEe (K : PySem.W.Frag) (cl : Glb) (C : Addr) (W : WX) (f : EE) : TE := fun σ H Q => ∃ F Hv ρ ps, Vw cl Hv H ∧ Pls K cl C F ps Hv H ∧ ER K (cl.at F) Hv ρ σ ∧ PstE K cl C W σ F Hv H (TVe K cl Q) (f ρ ps)
theorem SEe.pe {f : EE} (h : SEe X W cl C e f) : PE X e (tEe X.K cl C W f) := by
  obtain ⟨t, pt, h⟩ := h
  exact ⟨fun pins s σ H Q I ⟨F, Hv, ρ, ps, vw, pl, er, pv⟩ => pt.run pins s σ H Q I (h F Hv H σ ρ ps Q vw pl er pv)⟩
end
end Sm
namespace Sm
open PySem PySem.Spec L2
theorem fnE_okC {P : Program} {w : World} {K : PySem.W.Frag} {mg : Str → Option Value} {base : Heap} {cl : Glb} {C : Addr} {k n m : Nat} {x : Str} {st : Stmt} {f c : Addr} {fd : FuncData} {N ps : List Str} {den : DSe} {own : List Nat}
    (F : FunC K x st f fd c) (tb : TabAt base mg cl x c) (S : FnScope N ps (defScope st)) (hn : ps.length = n) (hN : N.length = m)
    (h : ∀ (A : Around) (outer : List PySem.Env) (s : Shared) (H : Hp) (E : XK), Gd (cxOf (L2.CX P w) P w K mg base N x (defScope st) f (.ref c) A outer s H E) (fun cls d _ H => E cls d H) → Mk (cxOf (L2.CX P w) P w K mg base N x (defScope st) f (.ref c) A outer s H E) cl.T →
      Room k (A.deeper (PyProof.Rows.envOfC x (defScope st) s.heap.objs.size f (.ref c))) → SSes (cxOf (L2.CX P w) P w K mg base N x (defScope st) f (.ref c) A outer s H E) (fun cls d _ H => E cls d H) cl C [] own (defBody st) den) :
    FnOk P w K mg base (L2.CX P w) (k + 1) f fd ps (spE K cl C n (defE n m den)) := by
  refine okC F S (fun vs H Q E h => h.1.trans hn.symm) fun A outer s H vs Q E hr hsp => ?_
  obtain ⟨hv, Ft, Hv, ds, ps0, vw, pl, r, ps'⟩ := hsp
  obtain ⟨PT, t1, t2, t3⟩ := tb.ex
  have gd : Gd (cxOf (L2.CX P w) P w K mg base N x (defScope st) f (.ref c) A outer s H E) (fun cls d _ H => E cls d H) := ⟨rfl, S.nd, takes_of rfl rfl rfl rfl, passes_of rfl⟩
  obtain ⟨t, pt, run⟩ := h A outer s H E gd ⟨c, PT, t1, rfl, t2, t3⟩ hr
  refine ⟨t, pt, run Ft Hv H (args N.length ds) (start N vs) ps0 Ft Hv H _ ⟨ExtE.refl vw, pl, ?_, fun i d _ e => args_get r e, fun i hi => absurd hi (by simp), fun i j p hi => absurd hi (by simp)⟩ ?_ ?_⟩
  · unfold args L2.start
    rw [List.length_append, List.length_append, List.length_map, List.length_map, List.length_replicate, List.length_replicate, r.length]
  · unfold L2.start
    have h1 : ps.length ≤ N.length := by have := congrArg List.length S.pre; rw [List.length_take] at this; omega
    show _ = N.length
    rw [List.length_append, List.length_map, List.length_replicate]
    omega
  · have hd : ds.length = n := by rw [← r.length]; exact hv
    unfold defE at ps'
    rw [if_pos hd] at ps'
    rw [hN]
    cases q : den (args m ds) ps0 with
    | nx ρ ps1 =>
      rw [q] at ps'
      exact fun σ' F' Hv' H' sr sm ob hl => ps' F' Hv' H' sr.ext sr.pls .non .non
    | ret d ps1 =>
      rw [q] at ps'
      exact fun v F' Hv' H' e pl r' => ps' F' Hv' H' e pl v r'
    | err ρ c ps1 =>
      rw [q] at ps'
      exact fun σ' F' Hv' H' sr _ _ hl => ps' F' Hv' H' sr.ext sr.pls
    | bad => rw [q] at ps'; exact ps'.elim
theorem pls0 {K : PySem.W.Frag} {c : Nat → Addr} {ns : List Int} {T : List (Addr × Str)} {C : Addr} {Hv H : Hp} : Pls K (Glb.of c ns T) C [] [] Hv H :=
  ⟨rfl, fun k f q h => (by simp at h), (by simp [feet]), fun _ _ z => z.elim⟩
theorem law_byTE {P : Program} {w : World} {K : PySem.W.Frag} {mg : Str → Option Value} {base : Heap} {k : Nat} {f : Addr} {fd : FuncData} {ps : List Str} (hp : ps.length = 1) (c : Nat → Addr) (C : Addr) (T : List (Addr × Str)) (cs : List (Addr × Addr)) (hT : T.map (·.1) = cs.map (·.2))
    (h : ∀ ns : List Int, ns.length ≤ 63 → ∃ Fd : List D → PLS → RP D, (∃ qs, Fd [.scr0] [] = .ok (.bl true) qs) ∧ FnOk P w K mg base (L2.CX P w) k f fd ps (spE K (Glb.of c ns T) C 1 Fd)) : FnOk P w K mg base (L2.CX P w) k f fd ps (spT K cs) := by
  refine ⟨fun vs H Q E ⟨a, ns, e, _⟩ => by rw [e, hp]; rfl, fun A outer s H args us vs Q E hr e0 hb hv hs => ?_⟩
  obtain ⟨a, ns, rfl, hq, hl, ht, q⟩ := hs
  obtain ⟨Fd, ⟨qs, hF⟩, ok⟩ := h ns hl
  have tb : LamX.Tabs T H := fun p hp => by
    have : p.1 ∈ cs.map (·.2) := by rw [← hT]; exact List.mem_map.mpr ⟨p, hp, rfl⟩
    obtain ⟨c, hc, e⟩ := List.mem_map.mp this
    exact LamX.TabS.nil (by rw [← e]; exact ht c hc)
  refine ok.run A outer s H args us _ Q E hr e0 hb hv ⟨rfl, [], H, [.scr0], [], Vw.refl tb, pls0, .cons (.scr0 (cl := (Glb.of c ns T).at []) hq (Nat.le_trans hl (by decide))) .nil, ?_⟩
  rw [hF]
  intro F' Hv' H' e pl v r
  cases r
  exact q H'
section
variable {X : Cx} {W : WX} {cl : Glb} {C : Addr} {F0 F F1 : List Ft} {Hv0 H0 Hv Hv1 H : Hp} {own own1 own2 own3 : List Nat} {Dn : Ends} {pos pos' p lp : Pos} {a b c e : Expr} {es : List Expr} {fa fb : EE} {g : EA} {st : Stmt} {sts : List Stmt}
def eSetL (own : List Nat) (i : Nat) (g : EA) : DSe := fun ρ ps => (g (mask own ρ) ps).to ρ fun ds ps => .nx (ρ.set i (some (.lst ds))) ps
theorem es_setL {i : Nat} {x : Str} {p' : Pos} (gd : Gd X W) (ha : SAe X W cl C es g) (hi : X.N[i]? = some x := by rfl) (hx : Loc X.env.scope x := by first | exact Or.inl rfl | exact Or.inr rfl) (hs : swapsWith (.List es lp) (some (.Name x p')) pos.line X.env = pure false := by rfl)
    (hf : X.fn x = true ∨ X.env.scope.names.lookup x = some .local := by first | exact .inl rfl | exact .inr rfl | assumption) (hn : decide (es.length ≤ 1000) = true := by rfl) : SSe X W cl C own (i :: nots own i) (.Assign [.Name x p'] (.List es lp) pos) (eSetL own i g) := by
  obtain ⟨ta, pa, ha, hl1⟩ := ha
  refine ⟨_, ps_set gd.nd hi hx (pe_lst pa) hs hf, fun F0 Hv0 H0 ρ σ ps F Hv H Dn sr hl po => ?_⟩
  refine ha F Hv H σ _ ps _ sr.ext.vh sr.pls sr.er (use_maskE sr hl po fun ds ps' F' Hv' H' ex e sr' po' vs r => ?_)
  have z : vs.length ≤ sizeLine := by rw [r.length, hl1 _ ps ds ps' ex]; exact small_line hn
  exact ⟨z, fun q hq => po' _ F' Hv' _ (sr'.back (sr'.sr.setOwn hq z r (ilt hi hl))) (Sam.refl _) (fun _ _ z => z) (by rw [List.length_set]; exact hl)⟩
end
end Sm
namespace Sm
open PySem PySem.Spec L2
def TVle (K : PySem.W.Frag) (cl : Glb) (H0 : Hp) (Q : VK) : List Ft → Hp → Hp → D → Prop := fun F Hv H d => match d with
  | .lst es => ∀ p vs, Hv p = none → H0 p = none → p ∉ feet F → H p = some (.lst vs) → vs.length ≤ sizeLine → Reps K (cl.at F) Hv vs es → Q (.ref p) H
  | _ => False
theorem TVle.mono {K : PySem.W.Frag} {cl : Glb} {H0 H1 : Hp} {Q : VK} {F : List Ft} {Hv H : Hp} {d : D} (h : TVle K cl H0 Q F Hv H d) (hs : ∀ b, H1 b = none → H0 b = none) : TVle K cl H1 Q F Hv H d := by
  cases d with
  | lst es => exact fun p vs a b c d e f => h p vs a (hs p b) c d e f
  | _ => exact h
def SNe (X : Cx) (W : WX) (cl : Glb) (C : Addr) (e : Expr) (f : EE) : Prop := ∃ t, PE X e t ∧ ∀ (F : List Ft) (Hv H : Hp) (σ : St) (ρ : Env) (ps : PLS) (Q : VK), Vw cl Hv H → Pls X.K cl C F ps Hv H → ER X.K (cl.at F) Hv ρ σ → PstE X.K cl C W σ F Hv H (TVle X.K cl H Q) (f ρ ps) → t σ H Q
section
variable {K : PySem.W.Frag} {cl : Glb} {C : Addr} {F : List Ft} {Hv H : Hp} {ps : PLS}
theorem Pls.nofoot (h : Pls K cl C F ps Hv H) {p : Addr} (hp : H p = none) : p ∉ feet F := fun z => by
  obtain ⟨_, o, ho, _⟩ := h.foot z
  rw [hp] at ho; cases ho
end
section
variable {X : Cx} {W : WX} {cl : Glb} {C : Addr} {pos p : Pos} {a b c e : Expr} {es : List Expr} {fa fb : EE} {g : EA}
theorem ne_new {g : DA} (h : ∀ F, SN X W (cl.at F) e g) : SNe X W cl C e (eP fun ρ => (g ρ).bind fun ds => .ok (.lst ds)) := by
  refine ⟨fun σ H Q => ∃ F, (h F).choose σ H Q, ⟨fun pins s σ H Q I ⟨F, q⟩ => (h F).choose_spec.1.run pins s σ H Q I q⟩, fun F Hv H σ ρ ps Q vw pl er pv => ⟨F, (h F).choose_spec.2 Hv H σ ρ Q vw.at er ?_⟩⟩
  have pv' := up_pst pl pv
  refine bindP pv' fun ds Hv1 H1 _ e1 pv1 p vs hp hz rv => ?_
  have ow : OwnO X.K (cl.at F) Hv1 (.lst vs) (.lst ds) := .lst hz rv
  have x1 := ext_hid e1.vh hp ow
  have pl1 := pl.ext e1
  exact pv1 Hv1 (upd H1 p (.lst vs)) x1 p vs (e1.vh.d p hp) (e1.dom p hp) (pl1.nofoot hp) upd_same hz rv
theorem SNe.ee {f : EE} (h : SNe X W cl C e f) (hl : ∀ ρ ps d ps', f ρ ps = .ok d ps' → ∃ es, d = .lst es) : SEe X W cl C e f := by
  obtain ⟨t, pt, h⟩ := h
  refine ⟨t, pt, fun F Hv H σ ρ ps Q vw pl er pv => h F Hv H σ ρ ps Q vw pl er ?_⟩
  cases q : f ρ ps with
  | bad => rw [q] at pv; exact pv
  | err c ps' => rw [q] at pv; exact pv
  | ok d ps' =>
    rw [q] at pv
    obtain ⟨es, rfl⟩ := hl ρ ps d ps' q
    intro F' Hv' H' ex pl' p vs h1 h2 h3 h4 h5 h6
    have sm : Sam Hv' (upd Hv' p (.lst vs)) := .of (same_upd h1)
    have vw' : Vw cl (upd Hv' p (.lst vs)) H' := by
      have v := ex.vh
      refine ⟨fun b o hb n => ?_, fun b hb => ?_, fun b xs hb => ?_, fun b o u hb => ?_, v.tab, fun b φ hb => ?_⟩
      · by_cases z : b = p
        · subst z; rw [upd_same] at hb; cases hb; exact h4
        · rw [upd_ne z] at hb; exact v.s b o hb n
      · by_cases z : b = p
        · subst z; rw [h4] at hb; cases hb
        · rw [upd_ne z]; exact v.d b hb
      · rw [upd_ne (show b ≠ p from fun z => by rw [z, h4] at hb; cases hb)]; exact v.t b xs hb
      · rw [upd_ne (show b ≠ p from fun z => by rw [z, h4] at hb; cases hb)]; exact v.z b o u hb
      · rw [upd_ne (show b ≠ p from fun z => by rw [z, h4] at hb; cases hb)]; exact v.x b φ hb
    have ex2 : ExtE cl F Hv H F' (upd Hv' p (.lst vs)) H' := ⟨ex.hh, ex.vv.trans sm, vw', fun b o hb n => by
      rw [upd_ne (show b ≠ p from fun z => by rw [z, h2] at hb; cases hb)]; exact ex.old b o hb n, ex.dom, ex.tt, ex.ob, ex.ft⟩
    have pl2 : Pls X.K cl C F' ps' (upd Hv' p (.lst vs)) H' := ⟨pl'.len, fun k f q hf hq => (pl'.pl k f q hf hq).mono (fun a _ o ha _ => ha) sm (fun a ha => by
      rw [upd_ne (show a ≠ p from fun z => h3 (z ▸ mem_feet.mpr ⟨f, List.mem_of_getElem? hf, ha⟩))]; exact (pl'.pl k f q hf hq).hid a ha), pl'.nd, pl'.ob0⟩
    exact pv F' _ H' ex2 pl2 (.ref p) (.lst upd_same h5 (h6.mono sm))
end
def spEl (K : PySem.W.Frag) (cl : Glb) (C : Addr) (n : Nat) (Fd : List D → PLS → RP D) : Sp := fun vs H Q E => vs.length = n ∧ ∃ F Hv ds ps, Vw cl Hv H ∧ Pls K cl C F ps Hv H ∧ Reps K (cl.at F) Hv vs ds ∧ PstE K cl C (fun c d _ H => E c d H) [] F Hv H (TVle K cl H Q) (Fd ds ps)
structure FnAl (P : Program) (w : World) (K : PySem.W.Frag) (mg : Str → Option Value) (base : Heap) (cl : Glb) (C : Addr) (k : Nat) (x : Str) (n : Nat) (Fd : List D → PLS → RP D) : Prop where
  ex : ∃ f, FnR P w K mg base (L2.CX P w) k f (spEl K cl C n Fd) ∧ mg x = some (.ref f) ∧ PySem.W.keepIn K (.ref f) = true
section
variable {X : Cx} {W : WX} {cl : Glb} {C : Addr} {pos p apos : Pos} {a b c e o : Expr} {es : List Expr} {fa fb : EE} {g : EA}
theorem PstE.wk {K : PySem.W.Frag} {σ : St} {F : List Ft} {Hv H H1 : Hp} {Q : VK} {r : RP D} (h : PstE K cl C W σ F Hv H1 (TVle K cl H Q) r) (hs : ∀ b, H1 b = none → H b = none) : PstE K cl C W σ F Hv H1 (TVle K cl H1 Q) r := by
  cases r with
  | ok d ps => exact fun F' Hv' H' e pl => (h F' Hv' H' e pl).mono hs
  | err c ps => exact h
  | bad => exact h
theorem ne_callA {k n : Nat} {x : Str} {Fd : List D → PLS → RP D} (G : FnAl X.prog X.w X.K X.mg X.base cl C k x n Fd) (hr : Room k X.A) (tk : Takes X W) (ha : SAe X W cl C (e :: es) g) (hg : Gl X x := by rfl) (hn : (e :: es).length = n := by rfl) (hdb : (x == ("__debug__" : Str)) = false := by decide)
    (he : starEach (e :: es) X.env = (false, eval e X.env) :: starEach es X.env := by rfl) (hpl : (backTo pos (starEach es X.env)).any (·.1) = false := by rfl) :
    SNe X W cl C (.Call (.Name x p) (e :: es) [] pos) (eCallA Fd g) := by
  obtain ⟨f, h1, h2, h3⟩ := G.ex
  obtain ⟨ta, pa, ha, hl⟩ := ha
  refine ⟨_, pe_callRS h1 hr hg h2 h3 (fun σ => passAt tk σ) pa hdb he hpl, fun F Hv H σ ρ ps Q vw pl er pv => ?_⟩
  refine ha F Hv H σ ρ ps _ vw pl er (bindE pv fun ds ps1 F1 Hv1 H1 ex e1 pl1 pv1 vs rv => ?_)
  refine ⟨?_, F1, Hv1, ds, ps1, e1.vh, pl1, rv, ?_⟩
  · rw [rv.length, hl ρ ps ds ps1 ex]; exact hn
  · have := PstE.wk pv1 e1.dom
    cases q : Fd ds ps1 with
    | ok d ps2 => rw [q] at this; exact this
    | err c ps2 => rw [q] at this; exact this
    | bad => rw [q] at this; exact this.elim
end
end Sm
namespace Sm
open PySem PySem.Spec L2
def PSOl (X : Cx) (W : WX) (cl : Glb) (C : Addr) (F0 : List Ft) (Hv0 H0 : Hp) (F : List Ft) (Hv : Hp) (Dn : Ends) : OE → Prop
  | .nx ρ' ps' => ∀ σ' F' Hv' H', SRe X.K cl C F0 Hv0 H0 [] ρ' σ' ps' F' Hv' H' → False
  | .ret d ps' => ∀ F' Hv' H', ExtE cl F0 Hv0 H0 F' Hv' H' → Pls X.K cl C F' ps' Hv' H' → TVle X.K cl H0 Dn.rt F' Hv' H' d
  | .err ρ' c ps' => ∀ σ' F' Hv' H', SRe X.K cl C F0 Hv0 H0 [] ρ' σ' ps' F' Hv' H' → Sam Hv Hv' → (∀ k a, obA F k a → obA F' k a) → σ'.length = X.N.length → W (.ref (cl.c c)) none σ' H'
  | .bad => False
def SSel (X : Cx) (W : WX) (cl : Glb) (C : Addr) (own : List Nat) (sts : List Stmt) (f : DSe) : Prop := ∃ t, PSs X sts t ∧ ∀ (F0 : List Ft) (Hv0 H0 : Hp) (ρ : Env) (σ : St) (ps : PLS) (F : List Ft) (Hv H : Hp) (Dn : Ends), SRe X.K cl C F0 Hv0 H0 own ρ σ ps F Hv H → σ.length = X.N.length → PSOl X W cl C F0 Hv0 H0 F Hv Dn (f ρ ps) → t Dn σ H
def NoRet (f : DSe) : Prop := ∀ ρ ps d ps', f ρ ps ≠ .ret d ps'
section
variable {X : Cx} {W : WX} {cl : Glb} {C : Addr} {F0 F F1 : List Ft} {Hv0 H0 Hv Hv1 H : Hp} {own own1 own2 own3 : List Nat} {Dn : Ends} {pos p : Pos} {a b c e tg iter : Expr} {es : List Expr} {fa fb : EE} {g : EA} {st : Stmt} {sts : List Stmt}
theorem PSOl.mono {r : OE} (h : PSOl X W cl C F0 Hv0 H0 F Hv Dn r) (s : Sam Hv Hv1) (so : ∀ k a, obA F k a → obA F1 k a) : PSOl X W cl C F0 Hv0 H0 F1 Hv1 Dn r := by
  cases r with
  | nx ρ ps => exact h
  | ret d ps => exact h
  | err ρ c ps => exact fun σ' F' Hv' H' sr sm ob hl => h σ' F' Hv' H' sr (s.trans sm) (fun k a z => ob k a (so k a z)) hl
  | bad => exact h
theorem sel_cons {f g : DSe} (h1 : SSe X W cl C own own1 st f) (nr : NoRet f) (h2 : SSel X W cl C own2 sts g) (hs : sub own2 own1 = true := by rfl) : SSel X W cl C own (st :: sts) (eSeq f g) := by
  obtain ⟨t, pt, h1⟩ := h1
  obtain ⟨u, pu, h2⟩ := h2
  refine ⟨_, pss_cons pt pu, fun F0 Hv0 H0 ρ σ ps F Hv H Dn sr hl po => ?_⟩
  refine h1 F0 Hv0 H0 ρ σ ps F Hv H _ sr hl ?_
  unfold eSeq at po
  cases q : f ρ ps with
  | nx ρ' ps' =>
    rw [q] at po
    intro σ' F' Hv' H' sr' sm ob hl'
    obtain ⟨s1, s2⟩ := sr'.freeze (sub_mem hs)
    exact h2 F0 Hv0 H0 ρ' σ' ps' F' _ H' Dn s1 hl' (PSOl.mono (r := g ρ' ps') po (sm.trans s2) ob)
  | ret d ps' => exact absurd q (nr ρ ps d ps')
  | err ρ c ps' => rw [q] at po; exact po
  | bad => rw [q] at po; exact po
theorem sel_ret (ha : SNe X W cl C a fa) : SSel X W cl C own [.Return (some a) pos] (eRet fa) := by
  obtain ⟨ta, pa, ha⟩ := ha
  refine ⟨_, pss_one (ps_ret pa), fun F0 Hv0 H0 ρ σ ps F Hv H Dn sr hl po => ?_⟩
  obtain ⟨s1, s2⟩ := sr.freeze (own' := []) (by simp)
  refine ha F _ H σ ρ ps _ s1.ext.vh s1.pls s1.er ?_
  have po := po.mono s2 fun _ _ z => z
  unfold eRet at po
  have em : mask [] ρ = ρ := rfl
  cases q : fa ρ ps with
  | ok d ps' =>
    rw [q] at po
    exact fun F' Hv' H' ex pl => (po F' Hv' H' (s1.ext.trans ex) pl).mono s1.ext.dom
  | err c ps' =>
    rw [q] at po
    intro F' Hv' H' ex pl
    have s3 := s1.step ex pl
    exact po σ F' Hv' H' s3 ex.vv ex.ob hl
  | bad => rw [q] at po; exact po
theorem sel_retO {x : Str} (i : Nat) (ho : own.contains i = true := by rfl) (hN : X.N[i]? = some x := by rfl) (hv : Vis X.env.scope x := by first | exact Or.inl rfl | exact Or.inr (Or.inl rfl) | exact Or.inr (Or.inr rfl)) (hd : (x == ("__debug__" : Str)) = false := by decide)
    (hcd : (x == ("__classdict__" : Str)) = false := by decide) : SSel X W cl C own [.Return (some (.Name x p)) pos] (eRet (eP (dVar i))) := by
  refine ⟨_, pss_one (ps_ret (pe_var hN hv hd hcd)), fun F0 Hv0 H0 ρ σ ps F Hv H Dn sr hl po => ?_⟩
  obtain ⟨q, d, e1, e2, e3, e4, e5, o, e6, eo⟩ := sr.ow i (by simpa using ho)
  have ed : eRet (eP (dVar i)) ρ ps = .ret d ps := by unfold eRet eP dVar; rw [e1]; rfl
  rw [ed] at po
  have po := po F Hv H sr.ext sr.pls
  cases d with
  | lst ds =>
    obtain ⟨vs, rfl, e7, e8⟩ := eo.ofL
    exact ⟨_, e2, po q vs e3 e4 e5 e6 e7 e8⟩
  | _ => exact po.elim
end
section
variable {P : Program} {w : World} {K : PySem.W.Frag} {mg : Str → Option Value} {base : Heap} {cl : Glb} {C : Addr} {k n m : Nat} {x q : Str}
theorem fnEl_ok {st : Stmt} {f : Addr} {fd : FuncData} {N ps : List Str} {den : DSe}
    (F : Fun K x q st f fd) (S : FnScope N ps (defScope st)) (hn : ps.length = n) (hN : N.length = m)
    (h : ∀ (cdv : Value) (A : Around) (outer : List PySem.Env) (s : Shared) (H : Hp) (E : XK), Gd (cxOf (L2.CX P w) P w K mg base N q (defScope st) f cdv A outer s H E) (fun cls d _ H => E cls d H) →
      Room k (A.deeper (PyProof.Rows.envOfC q (defScope st) s.heap.objs.size f cdv)) → SSel (cxOf (L2.CX P w) P w K mg base N q (defScope st) f cdv A outer s H E) (fun cls d _ H => E cls d H) cl C [] (defBody st) den) :
    FnOk P w K mg base (L2.CX P w) (k + 1) f fd ps (spEl K cl C n (defE n m den)) := by
  refine F.okX S (fun vs H Q E h => h.1.trans hn.symm) (fun cdv A outer s H vs Q E hr hsp => ?_)
  obtain ⟨hv, Ft, Hv, ds, ps0, vw, pl, r, ps'⟩ := hsp
  have gd : Gd (cxOf (L2.CX P w) P w K mg base N q (defScope st) f cdv A outer s H E) (fun cls d _ H => E cls d H) := ⟨rfl, S.nd, takes_of rfl rfl rfl rfl, passes_of rfl⟩
  obtain ⟨t, pt, run⟩ := h cdv A outer s H E gd hr
  refine ⟨t, pt, run Ft Hv H (args N.length ds) (start N vs) ps0 Ft Hv H _ ⟨ExtE.refl vw, pl, ?_, fun i d _ e => args_get r e, fun i hi => absurd hi (by simp), fun i j p hi => absurd hi (by simp)⟩ ?_ ?_⟩
  · unfold args L2.start
    rw [List.length_append, List.length_append, List.length_map, List.length_map, List.length_replicate, List.length_replicate, r.length]
  · unfold L2.start
    have h1 : ps.length ≤ N.length := by have := congrArg List.length S.pre; rw [List.length_take] at this; omega
    show _ = N.length
    rw [List.length_append, List.length_map, List.length_replicate]
    omega
  · have hd : ds.length = n := by rw [← r.length]; exact hv
    unfold defE at ps'
    rw [if_pos hd] at ps'
    rw [hN]
    cases q : den (args m ds) ps0 with
    | nx ρ ps1 =>
      rw [q] at ps'
      exact fun σ' F' Hv' H' sr => ps' F' Hv' H' sr.ext sr.pls
    | ret d ps1 =>
      rw [q] at ps'
      exact fun F' Hv' H' e pl => ps' F' Hv' H' e pl
    | err ρ c ps1 =>
      rw [q] at ps'
      exact fun σ' F' Hv' H' sr _ _ hl => ps' F' Hv' H' sr.ext sr.pls
    | bad => rw [q] at ps'; exact ps'.elim
theorem fnAl_mk {st : Stmt} {f : Addr} {fd : FuncData} {N ps : List Str} {den : DSe}
    (F : Fun K x x st f fd) (S : FnScope N ps (defScope st)) (hm : mg x = some (.ref f)) (hb : Binds K fd ps []) (hn : ps.length = n) (hN : N.length = m)
    (h : ∀ (cdv : Value) (A : Around) (outer : List PySem.Env) (s : Shared) (H : Hp) (E : XK), Gd (cxOf (L2.CX P w) P w K mg base N x (defScope st) f cdv A outer s H E) (fun cls d _ H => E cls d H) →
      Room k (A.deeper (PyProof.Rows.envOfC x (defScope st) s.heap.objs.size f cdv)) → SSel (cxOf (L2.CX P w) P w K mg base N x (defScope st) f cdv A outer s H E) (fun cls d _ H => E cls d H) cl C [] (defBody st) den) :
    FnAl P w K mg base cl C (k + 1) x n (defE n m den) := ⟨f, FnOk.rawN (fnEl_ok F S hn hN h) hb, hm, F.kp⟩
end
theorem nr_pure {f : DS} (h : ∀ ρ d, f ρ ≠ .ret d) : NoRet (sP f) := fun ρ ps d ps' e => by
  unfold sP at e
  cases q : f ρ with
  | ret d' => exact h ρ d' q
  | nx ρ' => rw [q] at e; cases e
  | err ρ' c => rw [q] at e; cases e
  | bad => rw [q] at e; cases e
theorem nr_to {α : Type} {r : R α} {ρ : Env} {k : α → O} (h : ∀ a d, k a ≠ .ret d) (d : D) : r.to ρ k ≠ .ret d := by
  cases r with
  | ok a => exact h a d
  | err c => exact fun z => nomatch z
  | bad => exact fun z => nomatch z
theorem nr_drop (f : DE) : ∀ ρ d, dDrop f ρ ≠ .ret d := fun ρ d => by unfold dDrop; exact nr_to (by intro a d z; cases z) d
theorem nr_set (own : List Nat) (i : Nat) (f : DE) : ∀ ρ d, dSet own i f ρ ≠ .ret d := fun ρ d => by unfold dSet; exact nr_to (by intro a d z; cases z) d
theorem nr_setN (own : List Nat) (i : Nat) (f : DA) : ∀ ρ d, dSetN own i f ρ ≠ .ret d := fun ρ d => by unfold dSetN; exact nr_to (by intro a d z; cases z) d
theorem nr_setD (i : Nat) : ∀ ρ d, dSetD i ρ ≠ .ret d := fun ρ d => by unfold dSetD; exact fun z => nomatch z
theorem nr_seq {f g : DS} (hf : ∀ ρ d, f ρ ≠ .ret d) (hg : ∀ ρ d, g ρ ≠ .ret d) : ∀ ρ d, dSeq f g ρ ≠ .ret d := fun ρ d => by
  unfold dSeq
  cases q : f ρ with
  | nx ρ' => exact hg ρ' d
  | ret d' => exact absurd q (hf ρ d')
  | err ρ' c => exact fun z => nomatch z
  | bad => exact fun z => nomatch z
theorem nr_forGo {pt : Pat} {f : DS} (hf : ∀ ρ d, f ρ ≠ .ret d) : ∀ (ds : List D) ρ d, forGo pt f ds ρ ≠ .ret d
  | [], ρ, d => fun z => nomatch z
  | x :: ds, ρ, d => by
    unfold forGo
    cases q : bindPat pt x ρ with
    | none => exact fun z => nomatch z
    | some ρ' =>
      simp only
      cases w : f ρ' with
      | nx ρ2 => exact nr_forGo hf ds ρ2 d
      | ret d' => exact absurd w (hf ρ' d')
      | err ρ2 c => exact fun z => nomatch z
      | bad => exact fun z => nomatch z
theorem nr_for {own : List Nat} {pt : Pat} {it : DI} {f : DS} (hf : ∀ ρ d, f ρ ≠ .ret d) : ∀ ρ d, dFor own pt it f ρ ≠ .ret d := fun ρ d => nr_to (fun a d => nr_forGo hf a ρ d) d
end Sm
namespace Sm
open PySem PySem.Spec L2
structure FnVl (P : Program) (w : World) (K : PySem.W.Frag) (mg : Str → Option Value) (base : Heap) (cl : Glb) (C : Addr) (k : Nat) (Fd : PLS → RP D) : Prop where
  isF : ∀ (Hv H : Hp) (h : Heap) (f : Addr), Vw cl Hv H → HOk P w H h → cl.fn Hv f → PySem.W.FnAt f h
  run : ∀ (A : Around) (outer : List PySem.Env) (s : Shared) (H : Hp) (F : List Ft) (Hv : Hp) (f : Addr) (ps : PLS) (Q : VK) (E : XK), Room k A → Env0 P w K mg base A outer s H → Vw cl Hv H → Pls K cl C F ps Hv H → cl.fn Hv f →
    PstE K cl C (fun c d _ H => E c d H) [] F Hv H (TVle K cl H Q) (Fd ps) → codeAny (model P w) A (.call (.ref f) ⟨[], []⟩) (CR (L2.CX P w) outer P w H s Q E) s
section
variable {X : Cx} {W : WX} {cl : Glb} {C : Addr} {pos p : Pos} {k i : Nat} {x : Str} {Fd : PLS → RP D}
theorem ne_callF0 (i : Nat) (V : FnVl X.prog X.w X.K X.mg X.base cl C k Fd) (hr : Room k X.A) (tk : Takes X W) (hN : X.N[i]? = some x := by rfl)
    (hv : Vis X.env.scope x := by first | exact Or.inl rfl | exact Or.inr (Or.inl rfl) | exact Or.inr (Or.inr rfl)) (hd : (x == ("__debug__" : Str)) = false := by decide) (hcd : (x == ("__classdict__" : Str)) = false := by decide) : SNe X W cl C (.Call (.Name x p) [] [] pos) (eCallF i Fd) := by
  refine ⟨fun σ H Q => ∃ f Hv F ps, σ[i]? = some (some (.ref f)) ∧ Vw cl Hv H ∧ Pls X.K cl C F ps Hv H ∧ cl.fn Hv f ∧ PstE X.K cl C (fun c d _ H => W c d σ H) [] F Hv H (TVle X.K cl H Q) (Fd ps), ⟨fun pins s σ H Q I h => ?_⟩, fun F Hv H σ ρ ps Q vw pl er pv => ?_⟩
  · obtain ⟨f, Hv, F, ps, hs, vw, pl, hf, pv⟩ := h
    have first := (pe_var (pos := p) hN hv hd hcd).run pins s σ H (fun v H1 => v = .ref f ∧ H1 = H) I ⟨.ref f, hs, rfl, rfl⟩
    refine wpAny_Call_Name_kw (thn first fun u s1 ⟨v, H1, I1, r1, ev, eH⟩ => ?_)
    subst ev
    rw [eH] at I1
    cases (show u = Value.ref f from r1)
    refine PySem.W.callWith_F0 (first := []) (V.isF Hv H s1.heap f vw I1.hok hf) ?_
    refine wpAny_call (codeAny_mono (V.run X.A X.stack s1 H F Hv f ps Q (WE W σ) hr I1.env0 vw pl hf pv) fun o s' q => ?_)
    cases o with
    | error u => exact passAt tk σ pins H s1 u s' I1 q
    | ok fl =>
      cases fl with
      | ret u => exact I1.after q
      | next => exact False.elim q
      | brk => exact False.elim q
      | cont => exact False.elim q
  · unfold eCallF at pv
    split at pv
    · rename_i hi
      obtain ⟨v, h1, h2⟩ := er.get i _ hi
      cases h2 with
      | fnv hf =>
        refine ⟨_, Hv, F, ps, h1, vw, pl, hf, ?_⟩
        cases q : Fd ps with
        | ok d ps' => rw [q] at pv; exact pv
        | err c ps' => rw [q] at pv; exact pv
        | bad => rw [q] at pv; exact pv.elim
    · exact pv.elim
end
def gdL : RP D → RP D
  | .ok (.lst es) ps => if noFns es && okPS ps then .ok (.lst es) ps else .bad
  | .err c ps => if okPS ps then .err c ps else .bad
  | _ => .bad
def lamL (fb : EE) (cs : List (Option D)) : PLS → RP D := fun ps => if okPS ps then gdL (fb cs ps) else .bad
theorem fnvl_lam {P : Program} {w : World} {K : PySem.W.Frag} {mg : Str → Option Value} {base : Heap} {cl cl' : Glb} {C : Addr} {Z : Zf} {f : Addr} {F : NdefX.NF} {body : Expr} {pm ctv : Value} {fr : List Str} {ws : List (Option V)} {cs : List (Option D)} {F0 : List Ft} {Hv0 : Hp} {fb : EE} {k : Nat}
    (hT : cl'.T = cl.T) (hc : cl'.c = cl.c) (hn : cl'.ns = cl.ns) (ho : cl'.ob = obA F0) (ho0 : ∀ k a, cl.ob k a → obA F0 k a)
    (hfn : ∀ Hv f', cl'.fn Hv f' → f' = f ∧ Hld Z Hv ∧ Hv f = some (Fz (lobj F body pm ctv)) ∧ Hv F.c = some (LamX.CodeO F.c F.qual) ∧ Sam Hv0 (utr Z Hv))
    (S : NdefX.NScope fr [] fr F.scope) (hb : bindArgs (PySem.W.kla_fn F.name F.qual F.params body F.scope F.cl pm (.ref F.c) ctv) ⟨[], []⟩ = pure [])
    (hC : ∀ (h : Heap) (H : Hp), (∀ b o, Z b = some o → h.get? b = some o) → Fre Z H → NdefX.CellsAt F.cl fr ws h H) (hcs : cs.length = fr.length)
    (hcap : ∀ (i : Nat) d, cs[i]? = some (some d) → ∃ v, ws[i]? = some (some v) ∧ Rep K (cl.at F0) Hv0 v d)
    (hbody : ∀ (A : Around) (outer : List PySem.Env) (s : Shared) (H : Hp) (E : XK), Room k (A.deeper (NdefX.envF F f s.heap.objs.size)) → SNe (NdefX.ncx (L2.CX P w) P w K mg base fr F f A outer s H E) (fun c d _ H => E c d H) cl C body fb) :
    FnVl P w K mg base cl' C (k + 1) (lamL fb cs) := by
  refine ⟨fun Hv H h f' vw hok hf => ?_, fun A outer s H Fx Hv f' ps Q E hr e0 vw pl hf pv => ?_⟩
  · obtain ⟨rfl, _, h1, _⟩ := hfn Hv f' hf
    exact ⟨_, _, _, _, (hok f' _ (vw.s _ _ h1 rfl)).1⟩
  · obtain ⟨rfl, hh, h1, h2, h3⟩ := hfn Hv f' hf
    have hH : Hld Z H := hh.mono vw.s
    have hz : ∀ b o, Z b = some o → s.heap.get? b = some o := fun b o z => (e0.hok b _ (hH b o z)).1
    have gf : s.heap.get? f' = some (lobj F body pm ctv) := (e0.hok f' _ (vw.s _ _ h1 rfl)).1
    have gc : s.heap.CodeRec (.ref F.c) F.qual := NdefX.codeO_at e0.hok (vw.s _ _ h2 rfl)
    have lim : s.heap.NoLimit := e0.mod.nolimit.keeps fun b o e => (e0.bs b o e).1
    have C1 := hC s.heap (utr Z H) hz fre_utr
    have e1 := env0_utr e0 hH
    have oF : ∀ k a, obA F0 k a → obA Fx k a := fun k a z => pl.ob0 k a (by rw [ho]; exact z)
    unfold lamL at pv
    by_cases hq : okPS ps = true
    · rw [if_pos hq] at pv
      refine codeAny_mono (R := CR (L2.CX P w) outer P w (utr Z H) s (fun v H' => Fre Z H' → Q v (trk Z H')) (fun c d H' => Fre Z H' → E c d (trk Z H'))) ?_ fun o s' q => cr_trk q hH e0.hok e0.frf (fun v H' fz q => q fz) (fun c d H' fz q => q fz)
      refine PySem.W.kla_callFunE hr.depth gf rfl S.co S.gen rfl gc ?_
      rw [hb]
      refine wpAny_pure (wpAny_newFunctionEnv S.nocell (fun y hy => nomatch hy) (fun h₁ hns hsb => ⟨lim.fresh _ hsb, ?_⟩) S.kind)
      show codeAny _ _ (.expr body (NdefX.envF F f' s.heap.objs.size)) _ _
      have kp : ∀ b o, s.heap.get? b = some o → h₁.get? b = some o := fun b o e => hsb.extBut b o (Nat.ne_of_lt (Heap.lt_size e)) (Heap.get?_push_of_some _ e)
      obtain ⟨tb, pb, rb⟩ := hbody A outer s (utr Z H) (fun c d H' => Fre Z H' → E c d (trk Z H')) (hr.deeper _)
      have J := NdefX.inv_startN (CX := L2.CX P w) (E := fun c d H' => Fre Z H' → E c d (trk Z H')) (f := f') (tk := s.toks + (([] : List Str).zip ([] : List Value)).length) (vs := []) S hr.hd e1 rfl .nil C1 hns kp
      refine PySem.W.kla_codeExpr (wpAny_mono (pb.run [] _ _ (utr Z H) (fun v H' => Fre Z H' → Q v (trk Z H')) J (rb Fx (utr Z Hv) (utr Z H) _ cs ps _ (vw_utr vw hh hT) (pls_utr vw pl hh hq hc hn fun k a z => oF k a (ho0 k a z)) ⟨fun i d hi => ?_, ?_⟩ ?_)) (fun u s' ⟨v, H', J', rv, q⟩ => ?_) fun u s' q => q)
      · have lw := C1.len
        unfold NdefX.startF
        obtain ⟨v, g1, g2⟩ := hcap _ d hi
        have hlt : i < ws.length := (List.getElem?_eq_some_iff.mp g1).1
        exact ⟨v, by rw [List.map_nil, List.nil_append, List.getElem?_append_left hlt, g1], (g2.ob oF).mono h3⟩
      · have lw := C1.len
        unfold NdefX.startF
        rw [List.length_append, List.length_append, List.length_map, List.length_replicate]
        simp only [List.length_nil]
        omega
      · cases qb : fb cs ps with
        | bad => rw [qb] at pv; exact pv.elim
        | err c ps1 =>
          rw [qb] at pv
          unfold gdL at pv
          by_cases hp : okPS ps1 = true
          · simp only [hp, if_true] at pv
            intro F' Hv' H' ex pl' fz
            rw [← hc]
            have fv : Fre Z Hv' := fun b o z => ex.vh.d b (fz b o z)
            exact pv F' _ _ (exte_on vw hh fz hT ex pl') (pls_trk ex.vh pl' fz hp hc hn fun k a z => ex.ob k a (pl.ob0 k a z))
          · simp only [hp] at pv
            exact pv.elim
        | ok d ps1 =>
          rw [qb] at pv
          cases d with
          | lst es =>
            simp only [gdL] at pv
            by_cases hd : (noFns es && okPS ps1) = true
            · simp only [hd, if_true] at pv
              rw [Bool.and_eq_true] at hd
              intro F' Hv' H' ex pl' q vs g1 g2 g3 g4 g5 g6 fz
              have fv : Fre Z Hv' := fun b o z => ex.vh.d b (fz b o z)
              have zq : Z q = none := fz.out g4
              rw [utr_out zq] at g2
              exact pv F' _ _ (exte_on vw hh fz hT ex pl') (pls_trk ex.vh pl' fz hd.2 hc hn fun k a z => ex.ob k a (pl.ob0 k a z)) q vs (by rw [trk_out zq]; exact g1) g2 g3 (by rw [trk_out zq]; exact g4) g5 (reps_cl (cl := cl'.at F') (cl' := cl.at F') hc.symm hn.symm rfl (g6.mono (sam_trk fv)) hd.1)
            · simp only [hd] at pv
              exact pv.elim
          | _ => exact pv.elim
      · exact ⟨v, H', J'.os, J'.bare, J'.base, J'.hok, rv, q⟩
    · rw [if_neg hq] at pv
      exact pv.elim
def eLamL (FF : (PLS → RP D) → List D → PLS → RP D) (js : List Nat) (fb : EE) : EE := fun ρ ps => if okPS ps then gdE (FF (lamL fb (capsD js ρ)) [.fnv] ps) else .bad
section
variable {X : Cx} {W : WX} {cl : Glb} {C : Addr} {params : Arguments} {body e : Expr} {scope : Scope} {pos p lpos : Pos} {es : List Expr} {k kb m : Nat} {x : Str} {gA : Addr} {fr : List Str} {js : List Nat} {t : TA} {fb : EE} {FF : (PLS → RP D) → List D → PLS → RP D}
theorem ee_lamL (fr : List Str) (js : List Nat) (mk : Mk X cl.T) (hm : X.mg x = some (.ref gA)) (hk : PySem.W.keepIn X.K (.ref gA) = true)
    (G : ∀ (cl' : Glb) (Fb : PLS → RP D), cl'.c = cl.c → cl'.ns = cl.ns → cl'.T = cl.T → FnVl X.prog X.w X.K X.mg X.base cl' C (kb + 1) Fb → FnA X.prog X.w X.K X.mg X.base cl' C k x 1 (FF Fb))
    (hr : Room k X.A) (tk : Takes X W)
    (hbody : ∀ (f c' : Addr) (A : Around) (outer : List PySem.Env) (s : Shared) (H : Hp) (E : XK), Gd (lamX X params scope fr f c' A outer s H E) (fun c d _ H => E c d H) → Room kb (lamX X params scope fr f c' A outer s H E).A → SNe (lamX X params scope fr f c' A outer s H E) (fun c d _ H => E c d H) cl C body fb)
    (hB : lamB X.env.scope scope [] fr = true) (hjs : js.map (fun j => X.N[j]?) = fr.map some := by rfl) (hb : ∀ (q : Str) (clo : List (Str × Addr)) (pm cv ctv : Value), bindArgs (PySem.W.kla_fn "<lambda>" q params body scope clo pm cv ctv) ⟨[], []⟩ = pure [] := by intros; rfl)
    (hdef : defaultsOf params X.env = ([], []) := by rfl)
    (hfn : ∀ y, X.fn y = true := by intro _; rfl) (hstk : X.stack = X.env :: X.outer := by rfl) (hfrm : X.env.frame = some X.env.locals := by rfl)
    (hg : Gl X x := by rfl) (hdb : (x == ("__debug__" : Str)) = false := by decide)
    (he : starEach [.Lambda params body scope lpos] X.env = [(false, eval (.Lambda params body scope lpos) X.env)] := by rfl) (hpl : (backTo pos (starEach [] X.env)).any (·.1) = false := by rfl) :
    SEe X W cl C (.Call (.Name x p) [.Lambda params body scope lpos] [] pos) (eLamL FF js fb) := by
  have S := lam_sc hB
  refine ⟨_, pe_lamR hg hm hk hr tk (pa_cons (pe_lamE mk hdef (lam_free hB)) pa_nil he) hfn hstk hfrm (lam_free hB) (lam_fr hB) hjs hdb he hpl, fun F Hv H σ ρ ps Q vw pl er pv => ⟨vw.tab, fun f c' pm ctv H1 g t1 h1 h2 h3 h4 => ?_⟩⟩
  have ex := g.ext vw.at (cl := cl.at F) t1
  have hf : (lift Hv H H1) f = some (Fz (lobj (lamF X params scope c') body pm ctv)) := by rw [lift_new h3]; exact h1
  have hcd : (lift Hv H H1) c' = some (LamX.CodeO c' (X.env.qual ++ "<lambda>")) := by
    rcases h4 with h4 | h4
    · rw [lift_new h4]; exact h2
    · rw [lift_old (vw.x _ _ h4)]; exact h2
  generalize lift Hv H H1 = Hv1 at ex hf hcd
  have e1 : ExtE cl F Hv H F Hv1 H1 := .of ex
  have pl1 := pl.ext ex
  have er1 := er.ee e1
  have pv1 := PstE.ext pv e1
  intro Z fZ hC
  have fv : Fre Z Hv1 := fun b o z => e1.vh.d b (fZ b o z)
  unfold eLamL at pv1
  by_cases hq : okPS ps = true
  · rw [if_pos hq] at pv1
    let cl' : Glb := { cl with fn := fun Hv f' => f' = f ∧ Hld Z Hv ∧ Hv f = some (Fz (lobj (lamF X params scope c') body pm ctv)) ∧ Hv c' = some (LamX.CodeO c' (X.env.qual ++ "<lambda>")) ∧ Sam Hv1 (utr Z Hv), fnM := fun Ha Hb f' sm ⟨a1, a2, a3, a4, a5⟩ => ⟨a1, a2.mono sm, sm _ _ a3 rfl, sm _ _ a4 rfl, a5.trans (sam_utr sm)⟩, ob := obA F }
    have V : FnVl X.prog X.w X.K X.mg X.base cl' C (kb + 1) (lamL fb (capsD js ρ)) := by
      refine fnvl_lam (cl := cl) (Z := Z) (F := lamF X params scope c') (ws := js.map (NdefX.slotAt σ)) (F0 := F) (Hv0 := Hv1) rfl rfl rfl rfl pl1.ob0 (fun Hv f' h => h) S (hb _ _ _ _ _) hC ?_ (fun i d hi => ?_) fun A outer s H E hr2 => hbody f c' A outer s H E ⟨rfl, S.nd, takes_of rfl rfl rfl rfl, passes_of rfl⟩ hr2
      · have q := congrArg List.length hjs
        rw [List.length_map, List.length_map] at q
        unfold capsD
        rw [List.length_map]; exact q
      · unfold capsD at hi
        rw [List.getElem?_map] at hi ⊢
        cases ej : js[i]? with
        | none => rw [ej] at hi; cases hi
        | some j =>
          rw [ej] at hi
          have hi : (ρ[j]?).join = some d := Option.some.inj hi
          have hj : ρ[j]? = some (some d) := by
            cases z : ρ[j]? with
            | none => rw [z] at hi; cases hi
            | some u => rw [z] at hi; exact congrArg some hi
          obtain ⟨v, g1, g2⟩ := er1.get j d hj
          exact ⟨v, congrArg some (NdefX.slotAt_of g1), g2⟩
    obtain ⟨fA, ok, hm', hk'⟩ := (G cl' _ rfl rfl rfl V).ex
    rw [hm] at hm'
    cases hm'
    refine ⟨_, fun v H' => Hld Z H' → Q v (utr Z H'), fun c d H' => Hld Z H' → W c d σ (utr Z H'), ok, ⟨rfl, F, trk Z Hv1, [.fnv], ps, vw_trk e1.vh fZ rfl, pls_trk e1.vh pl1 fZ hq rfl rfl fun _ _ z => z, ?_, ?_⟩, fun v H' hl q => q hl, fun c d H' hl q => q hl⟩
    · refine .cons (.fnv ⟨rfl, hld_trk, ?_, ?_, ?_⟩) .nil
      · rw [trk_out (fv.out hf)]; exact hf
      · rw [trk_out (fv.out hcd)]; exact hcd
      · rw [utr_trk fv]; exact Sam.refl _
    · cases qF : FF (lamL fb (capsD js ρ)) [.fnv] ps with
      | bad => rw [qF] at pv1; exact pv1.elim
      | err c ps1 =>
        rw [qF] at pv1
        unfold gdE at pv1
        by_cases hp : okPS ps1 = true
        · simp only [hp, if_true] at pv1
          intro F' Hv' H' ex2 pl2 hl
          exact pv1 F' _ _ (exte_back (cl' := cl') e1.vh fZ rfl ex2) (pls_utr (cl' := cl') ex2.vh pl2 (hld_trk.mono ex2.vv) hp rfl rfl fun k a z => ex2.ob k a (pl1.ob0 k a z))
        · simp only [hp] at pv1
          exact pv1.elim
      | ok d ps1 =>
        rw [qF] at pv1
        unfold gdE at pv1
        by_cases hd : (noFn d && okPS ps1) = true
        · simp only [hd, if_true] at pv1
          rw [Bool.and_eq_true] at hd
          intro F' Hv' H' ex2 pl2 v rv hl
          exact pv1 F' _ _ (exte_back (cl' := cl') e1.vh fZ rfl ex2) (pls_utr (cl' := cl') ex2.vh pl2 (hld_trk.mono ex2.vv) hd.2 rfl rfl fun k a z => ex2.ob k a (pl1.ob0 k a z)) v (rep_utr (cl := cl.at F') (cl' := cl'.at F') (hld_trk.mono ex2.vv) rfl rfl rfl rv hd.1)
        · simp only [hd] at pv1
          exact pv1.elim
  · rw [if_neg hq] at pv1
    exact pv1.elim
end
section
variable {X : Cx} {W : WX} {cl : Glb} {C : Addr} {F0 F F1 : List Ft} {Hv0 H0 Hv Hv1 H : Hp} {own own1 own2 own3 : List Nat} {Dn : Ends} {pos p p1 p2 p3 : Pos} {a b c e tg iter : Expr} {es : List Expr} {fa fb : EE} {g : EA} {st : Stmt} {sts : List Stmt}
def eSetF (own : List Nat) (i : Nat) (f : EE) : DSe := fun ρ ps => (f (mask own ρ) ps).to ρ fun d ps => match d with | .lst _ => .nx (ρ.set i (some d)) ps | _ => .bad
theorem es_setF {i : Nat} {x : Str} {p' : Pos} (gd : Gd X W) (ha : SNe X W cl C a fa) (hi : X.N[i]? = some x := by rfl) (hx : Loc X.env.scope x := by first | exact Or.inl rfl | exact Or.inr rfl) (hs : swapsWith a (some (.Name x p')) pos.line X.env = pure false := by rfl)
    (hf : X.fn x = true ∨ X.env.scope.names.lookup x = some .local := by first | exact .inl rfl | exact .inr rfl | assumption) : SSe X W cl C own (i :: nots own i) (.Assign [.Name x p'] a pos) (eSetF own i fa) := by
  obtain ⟨ta, pa, ha⟩ := ha
  refine ⟨_, ps_set gd.nd hi hx pa hs hf, fun F0 Hv0 H0 ρ σ ps F Hv H Dn sr hl po => ?_⟩
  refine ha F Hv H σ _ ps _ sr.ext.vh sr.pls sr.er ?_
  unfold eSetF at po
  cases q : fa (mask own ρ) ps with
  | bad => rw [q] at po; exact po
  | err c ps' =>
    rw [q] at po
    intro F' Hv' H' ex pl
    obtain ⟨s1, s2⟩ := (sr.step ex pl).freeze (own' := []) (by simp)
    exact po σ F' _ H' s1 (ex.vv.trans s2) ex.ob hl
  | ok d ps' =>
    rw [q] at po
    cases d with
    | lst ds =>
      intro F' Hv' H' ex pl q vs h1 h2 h3 h4 h5 h6
      have s1 := sr.step ex pl
      have s2 : SRe X.K cl C F0 Hv0 H0 (i :: nots own i) (ρ.set i (some (.lst ds))) (σ.set i (some (.ref q))) ps' F' Hv' H' := by
        have hil : i < σ.length := by rw [hl]; exact (List.getElem?_eq_some_iff.mp hi).1
        have hir : i < ρ.length := by rw [s1.len]; exact hil
        refine ⟨s1.ext, s1.pls, by rw [List.length_set, List.length_set]; exact s1.len, fun j d hj hd => ?_, fun j hj => ?_, ?_⟩
        · have hji : j ≠ i := fun z => hj (by rw [z]; exact List.mem_cons_self)
          rw [List.getElem?_set_ne (Ne.symm hji)] at hd ⊢
          refine s1.sh j d (fun z => hj (List.mem_cons_of_mem _ ?_)) hd
          exact (nots_or j z).resolve_right hji
        · by_cases hji : j = i
          · subst hji
            exact ⟨q, .lst ds, List.getElem?_set_self hir, List.getElem?_set_self hil, h1, sr.ext.dom q h2, h3, .lst vs, h4, .lst h5 h6⟩
          · have hj' : j ∈ own := by
              rcases List.mem_cons.mp hj with z | z
              · exact absurd z hji
              · exact (nots_mem j z).1
            obtain ⟨p, d, a1, a2, a3, a4, a5, o, a6, a7⟩ := s1.ow j hj'
            exact ⟨p, d, by rw [List.getElem?_set_ne (Ne.symm hji)]; exact a1, by rw [List.getElem?_set_ne (Ne.symm hji)]; exact a2, a3, a4, a5, o, a6, a7⟩
        · have other : ∀ j, j ∈ i :: nots own i → j ≠ i → σ[j]? ≠ some (some (.ref q)) := fun j hj hji e => by
            have hj' : j ∈ own := by
              rcases List.mem_cons.mp hj with z | z
              · exact absurd z hji
              · exact (nots_mem j z).1
            obtain ⟨p, d, a1, a2, a3, a4, a5, o, a6, a7⟩ := sr.ow j hj'
            rw [e] at a2; cases a2
            rw [h2] at a6; cases a6
          intro j1 j2 p hj1 hj2 e1 e2
          by_cases z1 : j1 = i
          · by_cases z2 : j2 = i
            · rw [z1, z2]
            · subst z1
              rw [List.getElem?_set_self hil] at e1
              cases e1
              rw [List.getElem?_set_ne (Ne.symm z2)] at e2
              exact absurd e2 (other j2 hj2 z2)
          · rw [List.getElem?_set_ne (Ne.symm z1)] at e1
            by_cases z2 : j2 = i
            · subst z2
              rw [List.getElem?_set_self hil] at e2
              cases e2
              exact absurd e1 (other j1 hj1 z1)
            · rw [List.getElem?_set_ne (Ne.symm z2)] at e2
              refine s1.ap j1 j2 p ?_ ?_ e1 e2
              · rcases List.mem_cons.mp hj1 with z | z
                · exact absurd z z1
                · exact (nots_mem j1 z).1
              · rcases List.mem_cons.mp hj2 with z | z
                · exact absurd z z2
                · exact (nots_mem j2 z).1
      exact po _ F' Hv' H' s2 ex.vv ex.ob (by rw [List.length_set]; exact hl)
    | _ => exact fun F' Hv' H' ex pl => po.elim
end
end Sm
namespace Sm
open PySem PySem.Spec L2
section
variable {X : Cx} {W : WX} {cl : Glb} {C : Addr} {own : List Nat} {pos p p1 p2 p3 apos cpos : Pos} {a e o : Expr} {fa : DE}
def dCpO (i j : Nat) : DS := fun ρ => match ρ[j]? with
  | some (some (.lst ds)) => .nx (ρ.set i (some (.lst ds)))
  | _ => .bad
theorem ss_cpO {i j : Nat} {x y : Str} {p' : Pos} (gd : Gd X W) (hml : X.mg "list" = none) (ho : own.contains j = true := by rfl) (hg : Gl X "list" := by rfl) (hi : X.N[i]? = some y := by rfl) (hx : Loc X.env.scope y := by first | exact Or.inl rfl | exact Or.inr rfl)
    (hN : X.N[j]? = some x := by rfl) (hv : Vis X.env.scope x := by first | exact Or.inl rfl | exact Or.inr (Or.inl rfl) | exact Or.inr (Or.inr rfl)) (hd : (x == ("__debug__" : Str)) = false := by decide) (hcd : (x == ("__classdict__" : Str)) = false := by decide)
    (he : starEach [.Name x p3] X.env = (false, eval (.Name x p3) X.env) :: starEach [] X.env := by rfl) (hpl : (backTo p2 (starEach [] X.env)).any (·.1) = false := by rfl)
    (hs : swapsWith (.Call (.Name ("list" : Str) p1) [.Name x p3] [] p2) (some (.Name y p')) pos.line X.env = pure false := by rfl)
    (hf : X.fn y = true ∨ X.env.scope.names.lookup y = some .local := by first | exact .inl rfl | exact .inr rfl | assumption) :
    SS X W cl own (nots own i) (.Assign [.Name y p'] (.Call (.Name ("list" : Str) p1) [.Name x p3] [] p2) pos) (dCpO i j) := by
  refine ⟨_, ps_set gd.nd hi hx (pe_callTy call_list_of hg hml (by decide +kernel) (pa_cons (pe_var hN hv hd hcd) pa_nil he) (by decide) (by decide) he hpl) hs hf, fun Hv0 H0 ρ σ Hv H Dn sr hl po => ?_⟩
  obtain ⟨q, d, e1, e2, e3, e4, o, e6, eo⟩ := sr.ow j (by simpa using ho)
  unfold dCpO at po
  rw [e1] at po
  cases d with
  | lst ds =>
    obtain ⟨vs, rfl, e7, e8⟩ := eo.ofL
    refine ⟨_, e2, q, vs, rfl, .inl (.inl (.inl e6)), fun n hn => ?_⟩
    have x1 := Ext.new (o := .lst vs) sr.ext.vh hn
    have s1 := sr.step x1
    exact po _ _ _ (s1.set nots_mem (.lst upd_same e7 (e8.mono x1.vv)) nots_or) x1.vv (by rw [List.length_set]; exact hl)
  | _ => exact po.elim
end
theorem Ext.hideN {cl : Glb} {Hv H Hv' H' : Hp} {l : Addr} {vs : List V} (x : Ext cl Hv H Hv' H') (vw : Vw cl Hv H) (h0 : H l = none) (h1 : H' l = some (.lst vs)) : Ext cl Hv H (hideA l Hv') H' := by
  have out : ∀ b, b ≠ l → hideA l Hv' b = Hv' b := fun b n => if_neg n
  have inn : hideA l Hv' l = none := if_pos rfl
  have v := x.vh
  refine ⟨x.hh, fun b o h n => ?_, ⟨fun b o h n => ?_, fun b h => ?_, fun b xs h => ?_, fun b o u h => ?_, v.tab, fun b φ h => ?_⟩, fun b o h n => ?_, x.dom, x.tt⟩
  · rw [out b fun z => by rw [z, vw.d l h0] at h; cases h]; exact x.vv b o h n
  · by_cases z : b = l
    · subst z; rw [inn] at h; cases h
    · rw [out b z] at h; exact v.s b o h n
  · by_cases z : b = l
    · subst z; exact inn
    · rw [out b z]; exact v.d b h
  · rw [out b fun z => by rw [z, h1] at h; cases h]; exact v.t b xs h
  · rw [out b fun z => by rw [z, h1] at h; cases h]; exact v.z b o u h
  · rw [out b fun z => by rw [z, h1] at h; cases h]; exact v.x b φ h
  · by_cases z : b = l
    · subst z; exact inn
    · rw [out b z]; exact x.old b o h n
def TVl (K : PySem.W.Frag) (cl : Glb) (H0 : Hp) (Q : VK) : Hp → Hp → D → Prop := fun Hv H d => match d with
  | .lst es => ∀ p vs, Hv p = none → H0 p = none → H p = some (.lst vs) → vs.length ≤ sizeLine → Reps K cl Hv vs es → Q (.ref p) H
  | _ => False
def SNf (X : Cx) (W : WX) (cl : Glb) (e : Expr) (f : DE) : Prop := ∃ t, PE X e t ∧ ∀ (Hv H : Hp) (σ : St) (ρ : Env) (Q : VK), Vw cl Hv H → ER X.K cl Hv ρ σ → Pst cl W σ Hv H (TVl X.K cl H Q) (f ρ) → t σ H Q
section
variable {X : Cx} {W : WX} {cl : Glb} {C : Addr} {own : List Nat} {pos p p1 p2 p3 apos cpos : Pos} {a e o : Expr} {fa : DE}
theorem ne_of {f : DE} (h : ∀ F, SNf X W (cl.at F) e f) : SNe X W cl C e (eP f) := by
  refine ⟨fun σ H Q => ∃ F, (h F).choose σ H Q, ⟨fun pins s σ H Q I ⟨F, q⟩ => (h F).choose_spec.1.run pins s σ H Q I q⟩, fun F Hv H σ ρ ps Q vw pl er pv => ⟨F, (h F).choose_spec.2 Hv H σ ρ Q vw.at er ?_⟩⟩
  have pv' := up_pst pl pv
  cases q : f ρ with
  | bad => rw [q] at pv'; exact pv'
  | err c => rw [q] at pv'; exact pv'
  | ok d =>
    rw [q] at pv'
    cases d with
    | lst es => exact fun Hv' H' ex p vs h1 h2 h3 h4 h5 => pv' Hv' H' ex p vs h1 h2 (pl.nofoot h2) h3 h4 h5
    | _ => exact fun Hv' H' ex => pv' Hv' H' ex
theorem sn_sortItems (hc : X.calm = true) (hu : X.A.units + 100 < cLine) (ha : SE X W cl o fa) (hm1 : X.mg "sorted" = none) (hg1 : Gl X "sorted" := by rfl)
    (hbase : attributeBase o "items" X.env (eval o X.env) = eval o X.env := by rfl) (hline : (apos.endLine == cpos.line) = true := by rfl)
    (he' : starEach [Expr.Call (.Attribute o "items" apos) [] [] cpos] X.env = (false, eval (Expr.Call (.Attribute o "items" apos) [] [] cpos) X.env) :: starEach [] X.env := by rfl) (hpl' : (backTo pos (starEach [] X.env)).any (·.1) = false := by rfl) :
    SNf X W cl (.Call (.Name "sorted" p) [.Call (.Attribute o "items" apos) [] [] cpos] [] pos) (dUn oSortItems fa) := by
  obtain ⟨ta, pa, ha⟩ := ha
  have inner := pe_bm0 (apos := apos) (cpos := cpos) PySem.F.plainAttrs_dict PySem.F.slot_dict_items PySem.F.type_dict_items mt_itemsK pa hbase hline
  refine ⟨_, pe_callB (x := "sorted") (cr_sortK hc hu) hg1 hm1 (by decide +kernel) (pa_cons inner pa_nil he') (by decide) (by decide) he' hpl', ?_⟩
  intro Hv H σ ρ Q vw er pv
  refine ha Hv H σ ρ _ vw er (bindP pv fun x Hv1 H1 ex e1 pv1 v rv => ?_)
  obtain ⟨d, ed, q⟩ := ofO_ok pv1
  cases x with
  | dct es => ?_
  | _ => cases ed
  simp only [oSortItems, msort_eq] at ed
  split at ed
  · rename_i hok
    cases ed
    simp only [kvsOk, srtOk, Bool.and_eq_true] at hok
    obtain ⟨⟨k1, k2⟩, ⟨o1, o2⟩, o3⟩ := hok
    obtain ⟨a, kvs, rfl, hd, hr⟩ := rep_dctI rv k1
    obtain ⟨bs, rfl, rfl, hb⟩ := repsK_bs hr
    have hd1 := e1.vh.s _ _ hd rfl
    refine ⟨.inr (.inr (.inl ⟨rfl, .inl ⟨_, hd1⟩⟩)), a, _, rfl, rfl, hd1, fun p hp => ?_⟩
    have x1 := Ext.new (o := L2.DX.itemsO p a) e1.vh hp
    have emap : (bs.map fun b => (D.int b.1, b.2.2)).map (fun e => D.tup [e.1, e.2]) = bs.map rowP := by rw [List.map_map]; rfl
    rw [emap] at o1 o2 o3
    have o3' : plns 63 (bs.map rowP) = true := o3
    have pb : ∀ b ∈ bs, pln 63 (rowP b) = true := fun b hb => plns_mem o3' (List.mem_map.mpr ⟨b, hb, rfl⟩)
    have pv' : ∀ b ∈ bs, pln 62 b.2.2 = true := fun b hb => by
      have := pb b hb
      simp only [rowP, pln, plns, Bool.and_eq_true] at this
      exact this.2.1
    refine ⟨p, a, bs, rfl, upd_same, x1.hh _ _ hd1 rfl, fun b hm => ⟨(((hb b hm).mono x1.vv).mono x1.vh.s).dp (pv' b hm), ?_⟩, ?_, fun b hm => Nat.le_trans (pln_lay 63 _ (pb b hm)).2 (by decide), fun H' l ps gr hnl hzl hps es hl ht => ?_⟩
    · have := List.all_eq_true.mp k2 (.int b.1, b.2.2) (List.mem_map.mpr ⟨b, hm, rfl⟩)
      exact this
    · intro d hd d' hd'
      obtain ⟨b, mb, rfl⟩ := List.mem_map.mp hd
      obtain ⟨b', mb', rfl⟩ := List.mem_map.mp hd'
      exact List.all_eq_true.mp (List.all_eq_true.mp o1 _ (List.mem_map.mpr ⟨b, mb, rfl⟩)) _ (List.mem_map.mpr ⟨b', mb', rfl⟩)
    · have x2 := Ext.grow x1.vh gr
      have lv : ∀ c u, H' c = some u → upd H1 p (L2.DX.itemsO p a) c = none → lift (upd Hv1 p (L2.DX.itemsO p a)) (upd H1 p (L2.DX.itemsO p a)) H' c = some u := fun c u h n => by rw [lift_new n]; exact h
      have tv : ∀ c xs, H' c = some (.tup xs) → lift (upd Hv1 p (L2.DX.itemsO p a)) (upd H1 p (L2.DX.itemsO p a)) H' c = some (.tup xs) := fun c xs h => x2.vh.t c xs h
      have hl0 : H1 l = none := (upd_none hnl).2
      have h12 := (x1.trans x2).hideN e1.vh hl0 hl
      have lv' : hideA l (lift (upd Hv1 p (L2.DX.itemsO p a)) (upd H1 p (L2.DX.itemsO p a)) H') l = none := if_pos rfl
      have rr : Reps X.K cl (hideA l (lift (upd Hv1 p (L2.DX.itemsO p a)) (upd H1 p (L2.DX.itemsO p a)) H')) (ps.map fun z => V.ref z.1) ((bs.map rowP).mergeSort dle) := by
        rw [← es]
        have := reps_of (K := X.K) (cl := cl) (H := hideA l (lift (upd Hv1 p (L2.DX.itemsO p a)) (upd H1 p (L2.DX.itemsO p a)) H')) (ps.map fun z => (V.ref z.1, rowP z.2)) fun z hz => by
          obtain ⟨y, hy, rfl⟩ := List.mem_map.mp hz
          refine .tup (h12.vh.t _ _ (ht y hy)) (by show 2 ≤ sizeLine; decide) (.cons (.int _) (.cons ?_ .nil))
          exact (hb y.2 (hps y hy)).mono h12.vv
        rw [List.map_map, List.map_map] at this
        exact this
      have e0 : (bs.map fun b => (D.int b.1, b.2.2)).map (fun e => D.tup [e.1, e.2]) = bs.map rowP := emap
      exact q _ _ h12 _ _ lv' (e1.dom _ hl0) hl (by rw [List.length_map]; exact hzl) (by rw [e0]; exact rr)
  · cases ed
end
section
variable {X : Cx} {W : WX} {cl : Glb} {C : Addr} {F0 F F1 : List Ft} {Hv0 H0 Hv Hv1 H : Hp} {own own1 own2 own3 : List Nat} {Dn : Ends} {pos pos' p p1 p2 p3 p4 apos : Pos} {a b c e o tg iter : Expr} {es : List Expr} {fa fb : EE} {g : EA} {st : Stmt} {sts : List Stmt} {ρ : Env} {σ : St} {ps : PLS}
end
theorem nr_put (i : Nat) (ρ : Env) (ds : List D) (d : D) : putIn i ρ ds ≠ .ret d := by
  unfold putIn
  split
  · split
    · exact fun z => nomatch z
    · exact fun z => nomatch z
  · exact fun z => nomatch z
theorem nr_appP (i : Nat) (f : DE) : ∀ ρ d, dAppP i f ρ ≠ .ret d := fun ρ d => by
  unfold dAppP
  split
  · refine nr_to (fun a d => ?_) d
    split
    · exact nr_put i ρ [a] d
    · exact fun z => nomatch z
  · exact fun z => nomatch z
theorem nr_putD (own : List Nat) (i : Nat) (fk fe : DE) : ∀ ρ d, dPutD own i fk fe ρ ≠ .ret d := fun ρ d => by
  unfold dPutD
  refine nr_to (fun a d => ?_) d
  split
  · refine nr_to (fun k d => ?_) d
    split
    · split
      · exact fun z => nomatch z
      · exact fun z => nomatch z
    · exact fun z => nomatch z
  · exact fun z => nomatch z
theorem nr_whileGo {t : DT} {f : DS} (hf : ∀ ρ d, f ρ ≠ .ret d) : ∀ (n : Nat) ρ d, whileGo t f n ρ ≠ .ret d
  | 0, ρ, d => fun z => nomatch z
  | n + 1, ρ, d => by
    unfold whileGo
    refine nr_to (fun k d => ?_) d
    cases k with
    | false => exact fun z => nomatch z
    | true =>
      simp only
      cases w : f ρ with
      | nx ρ2 => exact nr_whileGo hf n ρ2 d
      | ret d' => exact absurd w (hf ρ d')
      | err ρ2 c => exact fun z => nomatch z
      | bad => exact fun z => nomatch z
theorem nr_while {n : Env → Nat} {t : DT} {f : DS} (hf : ∀ ρ d, f ρ ≠ .ret d) : ∀ ρ d, dWhile n t f ρ ≠ .ret d := fun ρ d => nr_whileGo hf (n ρ) ρ d
theorem up_seq {f g : DS} {g' : DSe} {ρ : Env} {ps : PLS} (h : ∀ ρ', outE (g' ρ' ps) = (outR (g ρ')).up ps) : outE (eSeq (sP f) g' ρ ps) = (outR (dSeq f g ρ)).up ps := by
  unfold eSeq sP dSeq
  cases f ρ with
  | nx ρ' => exact h ρ'
  | ret d => rfl
  | err ρ' c => rfl
  | bad => rfl
theorem up_ret {f : DE} {ρ : Env} {ps : PLS} : outE (eRet (eP f) ρ ps) = (outR (dRet f ρ)).up ps := by
  unfold eRet eP dRet
  cases f ρ with
  | ok d => rfl
  | err c => rfl
  | bad => rfl
theorem up_def {n m : Nat} {f : DSe} {g : DS} (h : ∀ ρ ps, outE (f ρ ps) = (outR (g ρ)).up ps) : defE n m f = upF (defD n m g) := by
  funext ds ps
  unfold defE upF defD
  split
  · exact h _ _
  · rfl
def eL (f : EE) : EE := fun ρ ps => match f ρ ps with
  | .ok (.lst es) ps' => .ok (.lst es) ps'
  | .err c ps' => .err c ps'
  | _ => .bad
theorem SNe.eeL {X : Cx} {W : WX} {cl : Glb} {C : Addr} {e : Expr} {f : EE} (h : SNe X W cl C e f) : SEe X W cl C e (eL f) := by
  refine SNe.ee ?_ fun ρ ps d ps' q => ?_
  · obtain ⟨t, pt, h⟩ := h
    refine ⟨t, pt, fun F Hv H σ ρ ps Q vw pl er pv => h F Hv H σ ρ ps Q vw pl er ?_⟩
    unfold eL at pv
    cases q : f ρ ps with
    | bad => rw [q] at pv; exact pv
    | err c ps' => rw [q] at pv; exact pv
    | ok d ps' =>
      rw [q] at pv
      cases d with
      | lst es => exact pv
      | _ => exact pv.elim
  · unfold eL at q
    split at q
    · cases q; exact ⟨_, rfl⟩
    · cases q
    · cases q
end Sm
namespace Sm
open PySem PySem.Spec L2
theorem oAdd_ii (i j : Int) : oAdd (.int i) (.int j) = some (.int (i + j)) := rfl
theorem oNe_int (i j : Int) : oNe (.int i) (.int j) = some (.bl (!(i == j))) := by simp [oNe, pln, deq]
theorem oEq_int (i j : Int) : oEq (.int i) (.int j) = some (.bl (i == j)) := by simp [oEq, pln, deq]
theorem gcd_fmod (a b : Int) : Int.gcd b (a.fmod b) = Int.gcd a b := by
  rw [Int.fmod_def, Int.gcd_comm]
  have : a - b * a.fdiv b = a + (-(a.fdiv b)) * b := by
    rw [Int.neg_mul, Int.mul_comm b]; omega
  rw [this, Int.gcd_add_mul_right_left]
theorem fmod_small (a b : Int) (h : b ≠ 0) : (a.fmod b).natAbs < b.natAbs := by
  rcases Int.lt_or_gt_of_ne h with h | h
  · have e : a.fmod b = -((-a).fmod (-b)) := by rw [Int.neg_fmod_neg, Int.neg_neg]
    have h1 := Int.fmod_nonneg_of_pos (-a) (b := -b) (by omega)
    have h2 := Int.fmod_lt_of_pos (-a) (b := -b) (by omega)
    omega
  · have h1 := Int.fmod_nonneg_of_pos a h
    have h2 := Int.fmod_lt_of_pos a h
    omega
theorem gcd_loop (i j : Nat) (mk : Int → Int → Env) (h1 : ∀ a b, (mk a b)[i]? = some (some (.int a))) (h2 : ∀ a b, (mk a b)[j]? = some (some (.int b)))
    (h3 : ∀ a b c d, ((mk a b).set i (some (.int c))).set j (some (.int d)) = mk c d) : ∀ (n : Nat) (a b : Int), b.natAbs < n →
    ∃ g : Int, whileGo (asB (dBin oNe (dVar j) (dC (.int 0)))) (dPar [] i j (dCons (dVar j) (dCons (dBin oModI (dVar i) (dVar j)) dNil))) n (mk a b) = .nx (mk g 0) ∧ g.natAbs = Int.gcd a b ∧ (0 ≤ a → 0 ≤ b → 0 ≤ g) := by
  intro n
  induction n with
  | zero => intro a b h; omega
  | succ n ih =>
    intro a b h
    by_cases hb : b = 0
    · subst hb
      refine ⟨a, ?_, by simp, fun h _ => h⟩
      simp [whileGo, asB, dBin, dVar, dC, R.bind, R.to, ofO, h2, oNe_int]
    · obtain ⟨g, e1, e2, e3⟩ := ih b (a.fmod b) (by have := fmod_small a b hb; omega)
      refine ⟨g, ?_, by rw [e2, gcd_fmod], fun h1 h2 => e3 h2 (Int.fmod_nonneg h1 h2)⟩
      rw [← e1]
      have hb' : (b == 0) = false := by simpa using hb
      conv => lhs; unfold whileGo
      simp [asB, dBin, dVar, dC, dPar, dCons, dNil, R.bind, R.to, ofO, h1, h2, oNe_int, hb', O.seq, mask, oModI, hb, h3]
def encQ (q : Rat) : D := .tup [.int q.num, .int (q.den : Nat)]
def Sz (n : Nat) (q : Rat) : Prop := q.num.natAbs < 2 ^ n ∧ q.den < 2 ^ n
theorem share_num {u d : Int} (hd : d ≠ 0) : u.fdiv (if d < 0 then 0 - (Int.gcd u d : Nat) else (Int.gcd u d : Nat)) = (Rat.divInt u d).num ∧ d.fdiv (if d < 0 then 0 - (Int.gcd u d : Nat) else (Int.gcd u d : Nat)) = ((Rat.divInt u d).den : Nat) := by
  have hg : (Int.gcd u d : Int) ≠ 0 := by
    intro h
    have : Int.gcd u d = 0 := by omega
    rw [Int.gcd_eq_zero_iff] at this
    exact hd this.2
  have du : (Int.gcd u d : Int) ∣ u := Int.gcd_dvd_left ..
  have dd : (Int.gcd u d : Int) ∣ d := Int.gcd_dvd_right ..
  rw [Rat.num_divInt, Rat.den_divInt, if_neg hd, Int.gcd_comm d u]
  by_cases h : d < 0
  · rw [if_pos h]
    have e : (0 : Int) - (Int.gcd u d : Nat) = -(Int.gcd u d : Nat) := by omega
    rw [e, Int.sign_eq_neg_one_of_neg h]
    constructor
    · rw [Int.fdiv_eq_ediv_of_dvd (Int.neg_dvd.mpr du), Int.ediv_neg, Int.neg_mul, Int.one_mul, Int.neg_ediv_of_dvd du]
    · rw [Int.fdiv_eq_ediv_of_dvd (Int.neg_dvd.mpr dd), Int.ediv_neg, Int.natCast_ediv]
      have : ((d.natAbs : Nat) : Int) = -d := by omega
      rw [this, Int.neg_ediv_of_dvd dd]
  · rw [if_neg h]
    have h' : 0 < d := by omega
    rw [Int.sign_eq_one_of_pos h', Int.one_mul]
    constructor
    · rw [Int.fdiv_eq_ediv_of_dvd du]
    · rw [Int.fdiv_eq_ediv_of_dvd dd, Int.natCast_ediv]
      have : ((d.natAbs : Nat) : Int) = d := by omega
      rw [this]
theorem log2_lt {x n : Nat} (h : x < 2 ^ n) (hn : 0 < n) : x.log2 < n := by
  by_cases h0 : x = 0
  · subst h0; simpa using hn
  · exact (Nat.log2_lt h0).mpr h
theorem mulOk_of {i j : Int} {m n : Nat} (hi : i.natAbs < 2 ^ m) (hj : j.natAbs < 2 ^ n) (hs : m + n < 900000) : mulOk i j = true := by
  have h1 : i.natAbs.log2 < m + 1 := log2_lt (Nat.lt_trans hi (Nat.pow_lt_pow_right (by omega) (by omega))) (by omega)
  have h2 : j.natAbs.log2 < n + 1 := log2_lt (Nat.lt_trans hj (Nat.pow_lt_pow_right (by omega) (by omega))) (by omega)
  unfold mulOk
  rw [decide_eq_true (show i.natAbs.log2 + j.natAbs.log2 < 1000000 by omega)]
  rfl
theorem gcd_small {u d : Int} {n : Nat} (hd : d ≠ 0) (h : d.natAbs < 2 ^ n) (hn : n < 9000) : (Int.gcd u d).log2 < 9000 := by
  have h1 : Int.gcd u d ≤ d.natAbs := Nat.le_of_dvd (by omega) (Int.gcd_dvd_natAbs_right ..)
  have := log2_lt (Nat.lt_of_le_of_lt h1 (Nat.lt_trans h (Nat.pow_lt_pow_right (by omega) (Nat.lt_succ_self n)))) (by omega)
  omega
theorem divInt_sz {u d : Int} {m n : Nat} (hd : d ≠ 0) (hu : u.natAbs < 2 ^ m) (h : d.natAbs < 2 ^ n) : (Rat.divInt u d).num.natAbs < 2 ^ m ∧ (Rat.divInt u d).den < 2 ^ n := by
  rw [Rat.num_divInt, Rat.den_divInt, if_neg hd]
  constructor
  · refine Nat.lt_of_le_of_lt ?_ hu
    rw [Int.natAbs_ediv_of_dvd (Int.dvd_mul_of_dvd_right (Int.gcd_dvd_right ..)), Int.natAbs_mul]
    refine Nat.le_trans (Nat.div_le_self ..) ?_
    rw [Int.natAbs_sign_of_ne_zero hd]; omega
  · exact Nat.lt_of_le_of_lt (Nat.div_le_self ..) h
theorem oIx_q0 (q : Rat) : oIx (encQ q) (.int 0) = some (.int q.num) := rfl
theorem oIx_q1 (q : Rat) : oIx (encQ q) (.int 1) = some (.int (q.den : Nat)) := rfl
theorem oMul_ok {i j : Int} (h : mulOk i j = true) : oMul (.int i) (.int j) = some (.int (i * j)) := by simp only [oMul, h, if_true]
theorem two_pow_mul {x y m n : Nat} (hx : x < 2 ^ m) (hy : y < 2 ^ n) : x * y < 2 ^ (m + n) := by
  rw [Nat.pow_add]
  exact Nat.mul_lt_mul'' hx hy
theorem abs_mul_lt {x y : Int} {m n : Nat} (hx : x.natAbs < 2 ^ m) (hy : y.natAbs < 2 ^ n) : (x * y).natAbs < 2 ^ (m + n) := by
  rw [Int.natAbs_mul]
  exact two_pow_mul hx hy
theorem abs_add_lt {x y : Int} {n : Nat} (hx : x.natAbs < 2 ^ n) (hy : y.natAbs < 2 ^ n) : (x + y).natAbs < 2 ^ (n + 1) := by
  rw [Nat.pow_succ]; omega
theorem abs_sub_lt {x y : Int} {n : Nat} (hx : x.natAbs < 2 ^ n) (hy : y.natAbs < 2 ^ n) : (x - y).natAbs < 2 ^ (n + 1) := by
  rw [Nat.pow_succ]; omega
theorem den_nat {q : Rat} {n : Nat} (h : Sz n q) : ((q.den : Nat) : Int).natAbs < 2 ^ n := by rw [Int.natAbs_natCast]; exact h.2
theorem den_ne (a b : Rat) : ((a.den : Nat) : Int) * (b.den : Nat) ≠ 0 := by
  have := a.den_pos
  have := b.den_pos
  exact Int.mul_ne_zero (by omega) (by omega)
theorem Sz.mono {m n : Nat} {q : Rat} (h : Sz m q) (hm : m ≤ n) : Sz n q :=
  ⟨Nat.lt_of_lt_of_le h.1 (Nat.pow_le_pow_right (by omega) hm), Nat.lt_of_lt_of_le h.2 (Nat.pow_le_pow_right (by omega) hm)⟩
theorem add_q (a b : Rat) : Rat.divInt (a.num * (b.den : Nat) + b.num * (a.den : Nat)) ((a.den : Nat) * (b.den : Nat)) = a + b := by
  rw [Rat.add_def', ← Rat.divInt_ofNat, Int.natCast_mul]
theorem sub_q (a b : Rat) : Rat.divInt (a.num * (b.den : Nat) - b.num * (a.den : Nat)) ((a.den : Nat) * (b.den : Nat)) = a - b := by
  rw [Rat.sub_def', ← Rat.divInt_ofNat, Int.natCast_mul]
theorem mul_q (a b : Rat) : Rat.divInt (a.num * b.num) ((a.den : Nat) * (b.den : Nat)) = a * b := by
  rw [Rat.mul_def', ← Rat.divInt_ofNat, Int.natCast_mul]
theorem Sz.add {m n : Nat} {a b : Rat} (ha : Sz m a) (hb : Sz n b) : Sz (m + n + 1) (a + b) := by
  rw [← add_q]
  have h1 := abs_mul_lt ha.1 (den_nat hb)
  have h2 := abs_mul_lt hb.1 (den_nat ha)
  rw [Nat.add_comm n m] at h2
  obtain ⟨g1, g2⟩ := divInt_sz (den_ne a b) (abs_add_lt h1 h2) (abs_mul_lt (den_nat ha) (den_nat hb))
  exact ⟨g1, Nat.lt_trans g2 (Nat.pow_lt_pow_right (by omega) (Nat.lt_succ_self _))⟩
theorem Sz.sub {m n : Nat} {a b : Rat} (ha : Sz m a) (hb : Sz n b) : Sz (m + n + 1) (a - b) := by
  rw [← sub_q]
  have h1 := abs_mul_lt ha.1 (den_nat hb)
  have h2 := abs_mul_lt hb.1 (den_nat ha)
  rw [Nat.add_comm n m] at h2
  obtain ⟨g1, g2⟩ := divInt_sz (den_ne a b) (abs_sub_lt h1 h2) (abs_mul_lt (den_nat ha) (den_nat hb))
  exact ⟨g1, Nat.lt_trans g2 (Nat.pow_lt_pow_right (by omega) (Nat.lt_succ_self _))⟩
theorem Sz.mul {m n : Nat} {a b : Rat} (ha : Sz m a) (hb : Sz n b) : Sz (m + n) (a * b) := by
  rw [← mul_q]
  exact divInt_sz (den_ne a b) (abs_mul_lt ha.1 hb.1) (abs_mul_lt (den_nat ha) (den_nat hb))
theorem Sz.int {n : Nat} {i : Int} (h : i.natAbs < 2 ^ n) (hn : 0 < n) : Sz n (i : Rat) := ⟨by rw [Rat.num_intCast]; exact h, by rw [Rat.den_intCast]; exact Nat.one_lt_two_pow (by omega)⟩
theorem encQ_int (i : Int) : encQ (i : Rat) = .tup [.int i, .int 1] := rfl
theorem encQ_deq (a b : Rat) : deq (encQ a) (encQ b) = decide (a = b) := by
  simp only [encQ, deq, deqs, Bool.and_true]
  rw [Bool.eq_iff_iff]
  simp only [Bool.and_eq_true, beq_iff_eq, decide_eq_true_eq]
  constructor
  · rintro ⟨h1, h2⟩
    exact Rat.ext h1 (by omega)
  · rintro rfl
    exact ⟨rfl, rfl⟩
theorem encQ_pln (n : Nat) (a : Rat) : pln (n + 1) (encQ a) = true := by simp [encQ, pln, plns]
theorem oNe_q (a b : Rat) : oNe (encQ a) (encQ b) = some (.bl (!decide (a = b))) := by
  unfold oNe; rw [encQ_pln, encQ_pln, encQ_deq]; rfl
def qsum : List Rat → Rat
  | [] => 0
  | q :: qs => q + qsum qs
def cellI (ns : List Int) (k : Nat) : Int := if k < ns.length then ns.getD k 0 else if ns = [] then 0 else ns.getD (k % ns.length) 0 * 31 + k
def drawI (ns : List Int) (k : Nat) : Int := (cellI ns k + 6151 * ((k : Int) + 1)) * 40692 % 2147483399
def pickI (ns : List Int) (k : Nat) (m : Int) : Int := (drawI ns k * drawI ns k + drawI ns k / 31) % 2147483629 % m
theorem pickI_nonneg (ns : List Int) (k : Nat) {m : Int} (h : 0 < m) : 0 ≤ pickI ns k m := Int.emod_nonneg _ (by omega)
theorem pickI_lt (ns : List Int) (k : Nat) {m : Int} (h : 0 < m) : pickI ns k m < m := Int.emod_lt_of_pos _ h
theorem atI_nat' {α : Type} {xs : List α} {k : Nat} (h : k < xs.length) : atI xs (k : Int) = xs[k]? := by
  obtain ⟨x, e⟩ : ∃ x, xs[k]? = some x := ⟨xs[k], by simp [h]⟩
  rw [e]; exact atI_nat e
theorem ns_at {ns : List Int} {k : Nat} (h : k < ns.length) : ns[k]? = some (ns.getD k 0) := by simp [h]
theorem mulOk_r {i j : Int} (h : -(2 ^ 64) < j ∧ j < 2 ^ 64) : mulOk i j = true := by unfold mulOk; rw [decide_eq_true h, Bool.or_true]
theorem mulOk_l {i j : Int} (h : -(2 ^ 64) < i ∧ i < 2 ^ 64) : mulOk i j = true := by unfold mulOk; rw [decide_eq_true h, Bool.or_true, Bool.true_or]
end Sm
namespace Kx
open PySem PySem.Spec L2 Sm
def b_is_whole : DS :=
  (dRet (dAnd (dUn oIsInt (dVar 0)) (dAnd (dNot (dUn oIsBool (dVar 0))) (dChain oLe oLe (dVar 1) (dVar 0) (dVar 2)))))
def d_is_whole : List D → R D := defD 3 3 (b_is_whole)
def b_is_game_in (self : List D → R D) : DS :=
  (dSeq (dIfS (dOrT (asB (dBin oEq (dVar 1) (dC (.int 0)))) (dOrT (dNotT (dTru (dUn oIsTup (dVar 0)))) (dOrT (dNotT (dTru (dVar 0))) (dNotT (dTru (dCall d_is_whole (dCons (dBin oIx (dVar 0) (dC (.int 0))) (dCons (dBin oSubI (dC (.int 0)) (dC (.int 20))) (dCons (dC (.int 20)) dNil))))))))) (dRet (dC (.bl false))) .nx)
    (dSeq (dIfS (asB (dBin oEq (dB oLen (dCons (dVar 0) dNil)) (dC (.int 1)))) (dRet (dC (.bl true))) .nx)
    (dSeq (dIfS (dOrT (asB (dBin oNe (dB oLen (dCons (dVar 0) dNil)) (dC (.int 2)))) (dOrT (dNotT (dTru (dUn oIsTup (dBin oIx (dVar 0) (dC (.int 1)))))) (dNotT (asB (dChain oLe oLe (dC (.int 1)) (dB oLen (dCons (dBin oIx (dVar 0) (dC (.int 1))) dNil)) (dC (.int 3))))))) (dRet (dC (.bl false))) .nx)
    (dSeq (dFor [] (.v 2) (dItems (dBin oIx (dVar 0) (dC (.int 1)))) (dIfS (dOrT (dNotT (dTru (dUn oIsTup (dVar 2)))) (dOrT (asB (dBin oNe (dB oLen (dCons (dVar 2) dNil)) (dC (.int 2)))) (dNotT (dTru (dCall d_is_whole (dCons (dBin oIx (dVar 2) (dC (.int 0))) (dCons (dC (.int 1)) (dCons (dC (.int 9)) dNil)))))))) (dRet (dC (.bl false))) .nx))
    (dRet (dB oAll (dCons (dLc [2] (.v 2) (dItems (dBin oIx (dVar 0) (dC (.int 1)))) dYes (dCall self (dCons (dBin oIx (dVar 2) (dC (.int 1))) (dCons (dBin oSubI (dVar 1) (dC (.int 1))) dNil)))) dNil)))))))
def d_is_game_in : Nat → List D → R D
  | 0 => fun _ => .bad
  | n + 1 => defD 2 3 (b_is_game_in (d_is_game_in n))
def b_is_game : DS :=
  (dRet (dCall (d_is_game_in 8) (dCons (dVar 0) (dCons (dC (.int 4)) dNil))))
def d_is_game : List D → R D := defD 1 1 (b_is_game)
def b_look_game : DS :=
  (dIfS (dNotT (dTru (dCall d_is_game (dCons (dVar 0) dNil)))) (dRaise 1) .nx)
def d_look_game : List D → R D := defD 1 1 (b_look_game)
def b_ways_of : DS :=
  (dRet (dIf (asB (dBin oEq (dB oLen (dCons (dVar 0) dNil)) (dC (.int 2)))) (dBin oIx (dVar 0) (dC (.int 1))) (dTup dNil)))
def d_ways_of : List D → R D := defD 1 1 (b_ways_of)
def b_paths_of (self : List D → R D) : DS :=
  (dSeq (dSetN [] 1 (dCons (dTup dNil) dNil))
    (dSeq (dFor [1] (.t [(.v 2), (.t [(.v 3), (.v 4)])]) (dRng enumD (dCons (dCall d_ways_of (dCons (dVar 0) dNil)) dNil)) (dExt [1] 1 (dLc [5] (.v 5) (dItems (dCall self (dCons (dVar 4) dNil))) dYes (dBin oAdd (dTup (dCons (dVar 2) dNil)) (dVar 5)))))
    (dRet (dVar 1))))
def d_paths_of : Nat → List D → R D
  | 0 => fun _ => .bad
  | n + 1 => defD 1 6 (b_paths_of (d_paths_of n))
def b__law_cell : DS :=
  (dSeq (dIfS (asB (dBin oLt (dVar 1) (dB oLen (dCons (dVar 0) dNil)))) (dRet (dBin oIx (dVar 0) (dVar 1))) .nx)
    (dSeq (dIfS (asB (dBin oEq (dVar 0) (dLst dNil))) (dRet (dC (.int 0))) .nx)
    (dRet (dBin oAdd (dBin oMul (dBin oIx (dVar 0) (dBin oModI (dVar 1) (dB oLen (dCons (dVar 0) dNil)))) (dC (.int 31))) (dVar 1)))))
def d__law_cell : List D → R D := defD 2 2 (b__law_cell)
def b__law_pick : DS :=
  (dSeq (dSet [] 3 (dBin oModI (dBin oMul (dBin oAdd (dCall d__law_cell (dCons (dVar 0) (dCons (dVar 1) dNil))) (dBin oMul (dC (.int 6151)) (dBin oAdd (dVar 1) (dC (.int 1))))) (dC (.int 40692))) (dC (.int 2147483399))))
    (dRet (dBin oModI (dBin oModI (dBin oAdd (dBin oMul (dVar 3) (dVar 3)) (dBin oDivI (dVar 3) (dC (.int 31)))) (dC (.int 2147483629))) (dVar 2))))
def d__law_pick : List D → R D := defD 3 4 (b__law_pick)
def b__law_game (pk : Nat → Int → Int) (self : List D → R D) : DS :=
  (dSeq (dSet [] 5 (dBin oMul (dC (.int 20)) (dVar 1)))
    (dSeq (dSet [] 6 (dBin oIx (dLst (dCons (dC (.int 0)) (dCons (dC (.int 1)) (dCons (dC (.int 2)) (dCons (dC (.int 2)) (dCons (dC (.int 3)) dNil)))))) (dCall (dPick pk) (dCons (dVar 0) (dCons (dVar 5) (dCons (dC (.int 5)) dNil))))))
    (dSeq (dIfS (asB (dBin oEq (dVar 1) (dC (.int 1)))) (dSet [] 6 (dB oMax2 (dCons (dC (.int 1)) (dCons (dVar 6) dNil)))) .nx)
    (dSeq (dIfS (dOrT (asB (dBin oEq (dVar 3) (dC (.int 1)))) (asB (dBin oEq (dVar 6) (dC (.int 0))))) (dRet (dTup (dCons (dVar 2) dNil))) .nx)
    (dSeq (dSetN [] 7 dNil)
    (dSeq (dIfS (dTru (dVar 4)) (dSeq (dPar [7] 12 13 (dCons (dBin oAdd (dC (.int 1)) (dCall (dPick pk) (dCons (dVar 0) (dCons (dBin oAdd (dVar 5) (dC (.int 1))) (dCons (dC (.int 3)) dNil))))) (dCons (dBin oAdd (dC (.int 1)) (dCall (dPick pk) (dCons (dVar 0) (dCons (dBin oAdd (dVar 5) (dC (.int 2))) (dCons (dC (.int 3)) dNil))))) dNil)))
    (dSeq (dSetN [7] 7 (dCons (dTup (dCons (dVar 13) (dCons (dVar 12) dNil))) (dCons (dTup (dCons (dVar 12) (dCons (dBin oSubI (dC (.int 0)) (dVar 13)) dNil))) (dCons (dTup (dCons (dBin oAdd (dC (.int 1)) (dCall (dPick pk) (dCons (dVar 0) (dCons (dBin oAdd (dVar 5) (dC (.int 3))) (dCons (dC (.int 9)) dNil))))) (dCons (dC (.int 0)) dNil))) dNil))))
    (dSet [] 7 (dIf (asB (dBin oEq (dVar 6) (dC (.int 1)))) (dSl (dVar 7) (dSo (dC (.int 2))) dNo) (dSl (dVar 7) dNo (dSo (dVar 6))))))) (dFor [7] (.v 9) (dRng rng1 (dCons (dVar 6) dNil)) (dApp [7] 7 (dTup (dCons (dBin oAdd (dC (.int 1)) (dCall (dPick pk) (dCons (dVar 0) (dCons (dBin oAdd (dBin oAdd (dVar 5) (dC (.int 5))) (dVar 9)) (dCons (dC (.int 9)) dNil))))) (dCons (dBin oSubI (dCall (dPick pk) (dCons (dVar 0) (dCons (dBin oAdd (dBin oAdd (dVar 5) (dC (.int 8))) (dVar 9)) (dCons (dC (.int 7)) dNil)))) (dC (.int 3))) dNil))))))
    (dSeq (dIfS (asB (dBin oEq (dCall (dPick pk) (dCons (dVar 0) (dCons (dBin oAdd (dVar 5) (dC (.int 4))) (dCons (dC (.int 2)) dNil)))) (dC (.int 0)))) (dSet [] 7 (dUn oRevA (dVar 7))) .nx)
    (dSeq (dSetN [] 8 dNil)
    (dSeq (dFor [8] (.t [(.v 9), (.t [(.v 10), (.v 11)])]) (dRng enumD (dCons (dVar 7) dNil)) (dApp [8] 8 (dTup (dCons (dVar 10) (dCons (dCall self (dCons (dVar 0) (dCons (dBin oAdd (dBin oAdd (dBin oMul (dC (.int 4)) (dVar 1)) (dC (.int 1))) (dVar 9)) (dCons (dBin oAdd (dVar 2) (dVar 11)) (dCons (dBin oSubI (dVar 3) (dC (.int 1))) (dCons (dVar 4) dNil)))))) dNil)))))
    (dRet (dTup (dCons (dVar 2) (dCons (dB oTuple (dCons (dVar 8) dNil)) dNil)))))))))))))
def d__law_game (pk : Nat → Int → Int) : Nat → List D → R D
  | 0 => fun _ => .bad
  | n + 1 => defD 5 14 (b__law_game pk (d__law_game pk n))
def b__law_drawn (pk : Nat → Int → Int) : DS :=
  (dRet (dCall (d__law_game pk 8) (dCons (dVar 0) (dCons (dC (.int 1)) (dCons (dBin oSubI (dCall (dPick pk) (dCons (dVar 0) (dCons (dC (.int 0)) (dCons (dC (.int 13)) dNil)))) (dC (.int 6))) (dCons (dVar 1) (dCons (dBin oEq (dCall (dPick pk) (dCons (dVar 0) (dCons (dC (.int 1)) (dCons (dC (.int 2)) dNil)))) (dC (.int 0))) dNil)))))))
def d__law_drawn (pk : Nat → Int → Int) : List D → R D := defD 2 2 (b__law_drawn pk)
def b_divisor : DS :=
  (dSeq (dWhile (fuelI 1) (asB (dBin oNe (dVar 1) (dC (.int 0)))) (dPar [] 0 1 (dCons (dVar 1) (dCons (dBin oModI (dVar 0) (dVar 1)) dNil))))
    (dRet (dB oAbs (dCons (dVar 0) dNil))))
def d_divisor : List D → R D := defD 2 2 (b_divisor)
def b_share : DS :=
  (dSeq (dSet [] 2 (dCall d_divisor (dCons (dVar 0) (dCons (dVar 1) dNil))))
    (dSeq (dIfS (asB (dBin oLt (dVar 1) (dC (.int 0)))) (dSet [] 2 (dBin oSubI (dC (.int 0)) (dVar 2))) .nx)
    (dRet (dTup (dCons (dBin oDivI (dVar 0) (dVar 2)) (dCons (dBin oDivI (dVar 1) (dVar 2)) dNil))))))
def d_share : List D → R D := defD 2 3 (b_share)
def b_times : DS :=
  (dRet (dCall d_share (dCons (dBin oMul (dBin oIx (dVar 0) (dC (.int 0))) (dBin oIx (dVar 1) (dC (.int 0)))) (dCons (dBin oMul (dBin oIx (dVar 0) (dC (.int 1))) (dBin oIx (dVar 1) (dC (.int 1)))) dNil))))
def d_times : List D → R D := defD 2 2 (b_times)
def b_is_end : DS :=
  (dRet (dBin oEq (dB oLen (dCons (dVar 0) dNil)) (dC (.int 1))))
def d_is_end : List D → R D := defD 1 1 (b_is_end)
def b_part_of : DS :=
  (dSeq (dFor [] (.v 2) (dItems (dVar 1)) (dSet [] 0 (dBin oIx (dBin oIx (dCall d_ways_of (dCons (dVar 0) dNil)) (dVar 2)) (dC (.int 1)))))
    (dRet (dVar 0)))
def d_part_of : List D → R D := defD 2 3 (b_part_of)
def b_is_path : DS :=
  (dSeq (dIfS (dNotT (dTru (dUn oIsTup (dVar 1)))) (dRet (dC (.bl false))) .nx)
    (dSeq (dFor [] (.v 2) (dItems (dVar 1)) (dSeq (dIfS (dNotT (dTru (dCall d_is_whole (dCons (dVar 2) (dCons (dC (.int 0)) (dCons (dBin oSubI (dB oLen (dCons (dCall d_ways_of (dCons (dVar 0) dNil)) dNil)) (dC (.int 1))) dNil)))))) (dRet (dC (.bl false))) .nx)
    (dSet [] 0 (dBin oIx (dBin oIx (dCall d_ways_of (dCons (dVar 0) dNil)) (dVar 2)) (dC (.int 1))))))
    (dRet (dC (.bl true)))))
def d_is_path : List D → R D := defD 2 3 (b_is_path)
def b_ends_of : DS :=
  (dRet (dLc [1] (.v 1) (dItems (dCall (d_paths_of 8) (dCons (dVar 0) dNil))) (dTru (dCall d_is_end (dCons (dCall d_part_of (dCons (dVar 0) (dCons (dVar 1) dNil))) dNil))) (dVar 1)))
def d_ends_of : List D → R D := defD 1 2 (b_ends_of)
def b_shares_of : DS :=
  (dSeq (dSet [] 1 (dB oSum (dCons (dLc [2, 3] (.t [(.v 2), (.v 3)]) (dItems (dCall d_ways_of (dCons (dVar 0) dNil))) dYes (dVar 2)) dNil)))
    (dRet (dLc [2, 3] (.t [(.v 2), (.v 3)]) (dItems (dCall d_ways_of (dCons (dVar 0) dNil))) dYes (dCall d_share (dCons (dVar 2) (dCons (dVar 1) dNil))))))
def d_shares_of : List D → R D := defD 1 4 (b_shares_of)
def b_chance_of : DS :=
  (dSeq (dSet [] 2 (dTup (dCons (dC (.int 1)) (dCons (dC (.int 1)) dNil))))
    (dSeq (dFor [] (.v 3) (dItems (dVar 1)) (dSeq (dSet [] 2 (dCall d_times (dCons (dVar 2) (dCons (dBin oIx (dCall d_shares_of (dCons (dVar 0) dNil)) (dVar 3)) dNil))))
    (dSet [] 0 (dBin oIx (dBin oIx (dCall d_ways_of (dCons (dVar 0) dNil)) (dVar 3)) (dC (.int 1))))))
    (dRet (dVar 2))))
def d_chance_of : List D → R D := defD 2 4 (b_chance_of)
def b_plus : DS :=
  (dRet (dCall d_share (dCons (dBin oAdd (dBin oMul (dBin oIx (dVar 0) (dC (.int 0))) (dBin oIx (dVar 1) (dC (.int 1)))) (dBin oMul (dBin oIx (dVar 1) (dC (.int 0))) (dBin oIx (dVar 0) (dC (.int 1))))) (dCons (dBin oMul (dBin oIx (dVar 0) (dC (.int 1))) (dBin oIx (dVar 1) (dC (.int 1)))) dNil))))
def d_plus : List D → R D := defD 2 2 (b_plus)
def b_less : DS :=
  (dRet (dCall d_share (dCons (dBin oSubI (dBin oMul (dBin oIx (dVar 0) (dC (.int 0))) (dBin oIx (dVar 1) (dC (.int 1)))) (dBin oMul (dBin oIx (dVar 1) (dC (.int 0))) (dBin oIx (dVar 0) (dC (.int 1))))) (dCons (dBin oMul (dBin oIx (dVar 0) (dC (.int 1))) (dBin oIx (dVar 1) (dC (.int 1)))) dNil))))
def d_less : List D → R D := defD 2 2 (b_less)
def b_all_plus : DS :=
  (dSeq (dSet [] 1 (dTup (dCons (dC (.int 0)) (dCons (dC (.int 1)) dNil))))
    (dSeq (dFor [] (.v 2) (dItems (dVar 0)) (dSet [] 1 (dCall d_plus (dCons (dVar 1) (dCons (dVar 2) dNil)))))
    (dRet (dVar 1))))
def d_all_plus : List D → R D := defD 1 3 (b_all_plus)
def b_is_rule_of : DS :=
  (dSeq (dIfS (dOrT (dNotT (dTru (dUn oIsTup (dVar 1)))) (dNotT (dTru (dB oAll (dCons (dLc [3] (.v 3) (dItems (dVar 1)) dYes (dCall d_is_path (dCons (dVar 0) (dCons (dVar 3) dNil)))) dNil))))) (dRet (dC (.bl false))) .nx)
    (dSeq (dIfS (asB (dBin oNe (dB oList (dCons (dVar 1) dNil)) (dB oSortSet (dCons (dVar 1) dNil)))) (dRet (dC (.bl false))) .nx)
    (dSeq (dFor [] (.v 2) (dItems (dCall d_ends_of (dCons (dVar 0) dNil))) (dIfS (asB (dBin oNe (dB oLen (dCons (dLc [3] (.v 3) (dItems (dVar 1)) (asB (dBin oEq (dSl (dVar 2) dNo (dSo (dB oLen (dCons (dVar 3) dNil)))) (dVar 3))) (dVar 3)) dNil)) (dC (.int 1)))) (dRet (dC (.bl false))) .nx))
    (dRet (dC (.bl true))))))
def d_is_rule_of : List D → R D := defD 2 4 (b_is_rule_of)
def b_is_rule : DS :=
  (dSeq (dDrop (dCall d_look_game (dCons (dVar 0) dNil)))
    (dRet (dCall d_is_rule_of (dCons (dVar 0) (dCons (dVar 1) dNil)))))
def d_is_rule : List D → R D := defD 2 2 (b_is_rule)
def b_look_rule : DS :=
  (dIfS (dNotT (dTru (dCall d_is_rule (dCons (dVar 0) (dCons (dVar 1) dNil))))) (dRaise 3) .nx)
def d_look_rule : List D → R D := defD 2 2 (b_look_rule)
def b_mean_of : DS :=
  (dSeq (dDrop (dCall d_look_rule (dCons (dVar 0) (dCons (dVar 1) dNil))))
    (dRet (dCall d_all_plus (dCons (dLc [2] (.v 2) (dItems (dVar 1)) dYes (dCall d_times (dCons (dCall d_chance_of (dCons (dVar 0) (dCons (dVar 2) dNil))) (dCons (dTup (dCons (dBin oIx (dCall d_part_of (dCons (dVar 0) (dCons (dVar 2) dNil))) (dC (.int 0))) (dCons (dC (.int 1)) dNil))) dNil)))) dNil))))
def d_mean_of : List D → R D := defD 2 3 (b_mean_of)
def b_first_met (lf : List D → R D) : DS :=
  (dSeq (dSetN [] 2 dNil)
    (dSeq (dFor [2] (.v 3) (dItems (dCall d_ends_of (dCons (dVar 0) dNil))) (dSeq (dSet [2] 4 (dBin oAdd (dLc [5] (.v 5) (dRng rng1 (dCons (dBin oAdd (dB oLen (dCons (dVar 3) dNil)) (dC (.int 1))) dNil)) (dTru (dCallF 1 lf (dCons (dSl (dVar 3) dNo (dSo (dVar 5))) dNil))) (dSl (dVar 3) dNo (dSo (dVar 5)))) (dLst (dCons (dVar 3) dNil))))
    (dIfS (asB (dBin oNotIn (dBin oIx (dVar 4) (dC (.int 0))) (dVar 2))) (dApp [2] 2 (dBin oIx (dVar 4) (dC (.int 0)))) .nx)))
    (dRet (dB oTuple (dCons (dB oSorted (dCons (dVar 2) dNil)) dNil)))))
def d_first_met (lf : List D → R D) : List D → R D := defD 2 6 (b_first_met lf)
def b_rule_at : DS :=
  (dSeq (dDrop (dCall d_look_game (dCons (dVar 0) dNil)))
    (dRet (dLam d_first_met [1] (dBin oEq (dB oLen (dCons (dVar 0) dNil)) (dVar 1)) (dCons (dVar 0) dNil))))
def d_rule_at : List D → R D := defD 2 2 (b_rule_at)
def bl_ahead_of : DSe :=
  (eSeq (sP (dDrop (dCall d_look_game (dCons (dVar 0) dNil))))
    (eSeq (sP (dDrop (dCall d_look_rule (dCons (dVar 0) (dCons (dVar 1) dNil)))))
    (eRet (eP (dLc [2] (.v 2) (dItems (dCall (d_paths_of 8) (dCons (dVar 0) dNil))) (dTru (dB oAny (dCons (dLc [3] (.v 3) (dItems (dVar 1)) dYes (dAnd (dBin oEq (dSl (dVar 3) dNo (dSo (dB oLen (dCons (dVar 2) dNil)))) (dVar 2)) (dBin oNe (dVar 3) (dVar 2)))) dNil))) (dVar 2))))))
def el_ahead_of : List D → PLS → RP D := defE 2 4 bl_ahead_of
def b_ahead_of : DS :=
  (dSeq (dDrop (dCall d_look_game (dCons (dVar 0) dNil)))
    (dSeq (dDrop (dCall d_look_rule (dCons (dVar 0) (dCons (dVar 1) dNil))))
    (dRet (dLc [2] (.v 2) (dItems (dCall (d_paths_of 8) (dCons (dVar 0) dNil))) (dTru (dB oAny (dCons (dLc [3] (.v 3) (dItems (dVar 1)) dYes (dAnd (dBin oEq (dSl (dVar 3) dNo (dSo (dB oLen (dCons (dVar 2) dNil)))) (dVar 2)) (dBin oNe (dVar 3) (dVar 2)))) dNil))) (dVar 2)))))
def d_ahead_of : List D → R D := defD 2 4 (b_ahead_of)
def bl_spread_of : DSe :=
  (eSeq (sP (dSetD 2))
    (eSeq (sP (dFor [2] (.v 3) (dItems (dVar 1)) (dSeq (dSet [2] 4 (dBin oIx (dCall d_part_of (dCons (dVar 0) (dCons (dVar 3) dNil))) (dC (.int 0))))
    (dPutD [2] 2 (dVar 4) (dCall d_plus (dCons (dGet2 (dVar 2) (dVar 4) (dTup (dCons (dC (.int 0)) (dCons (dC (.int 1)) dNil)))) (dCons (dCall d_chance_of (dCons (dVar 0) (dCons (dVar 3) dNil))) dNil)))))))
    (eRet (eP (dUn oSortItems (dVar 2))))))
def el_spread_of : List D → PLS → RP D := defE 2 5 bl_spread_of
def b_spread_of : DS :=
  (dSeq (dSetD 2)
    (dSeq (dFor [2] (.v 3) (dItems (dVar 1)) (dSeq (dSet [2] 4 (dBin oIx (dCall d_part_of (dCons (dVar 0) (dCons (dVar 3) dNil))) (dC (.int 0))))
    (dPutD [2] 2 (dVar 4) (dCall d_plus (dCons (dGet2 (dVar 2) (dVar 4) (dTup (dCons (dC (.int 0)) (dCons (dC (.int 1)) dNil)))) (dCons (dCall d_chance_of (dCons (dVar 0) (dCons (dVar 3) dNil))) dNil))))))
    (dRet (dUn oSortItems (dVar 2)))))
def d_spread_of : List D → R D := defD 2 5 (b_spread_of)
def bl_spread : DSe :=
  (eSeq (sP (dDrop (dCall d_look_game (dCons (dVar 0) dNil))))
    (eSeq (sP (dDrop (dCall d_look_rule (dCons (dVar 0) (dCons (dVar 1) dNil)))))
    (eRet (eCallA el_spread_of (eCons (eP (dVar 0)) (eCons (eP (dVar 1)) eNil))))))
def el_spread : List D → PLS → RP D := defE 2 2 bl_spread
def b_spread : DS :=
  (dSeq (dDrop (dCall d_look_game (dCons (dVar 0) dNil)))
    (dSeq (dDrop (dCall d_look_rule (dCons (dVar 0) (dCons (dVar 1) dNil))))
    (dRet (dCall d_spread_of (dCons (dVar 0) (dCons (dVar 1) dNil))))))
def d_spread : List D → R D := defD 2 2 (b_spread)
def b_last_spread : DS :=
  (dSeq (dDrop (dCall d_look_game (dCons (dVar 0) dNil)))
    (dRet (dCall d_spread_of (dCons (dVar 0) (dCons (dCall d_ends_of (dCons (dVar 0) dNil)) dNil)))))
def d_last_spread : List D → R D := defD 1 1 (b_last_spread)
def b_most_along : DS :=
  (dRet (dB oMax (dCons (dLc [2] (.v 2) (dRng rng1 (dCons (dBin oAdd (dB oLen (dCons (dVar 1) dNil)) (dC (.int 1))) dNil)) dYes (dBin oIx (dCall d_part_of (dCons (dVar 0) (dCons (dSl (dVar 1) dNo (dSo (dVar 2))) dNil))) (dC (.int 0)))) dNil)))
def d_most_along : List D → R D := defD 2 3 (b_most_along)
def bl_spread_at : DSe :=
  (eSeq (sP (dDrop (dCall d_look_game (dCons (dVar 0) dNil))))
    (eRet (eCallA el_spread (eCons (eP (dVar 0)) (eCons (eP (dCall d_rule_at (dCons (dVar 0) (dCons (dVar 1) dNil)))) eNil)))))
def el_spread_at : List D → PLS → RP D := defE 2 2 bl_spread_at
def b_spread_at : DS :=
  (dSeq (dDrop (dCall d_look_game (dCons (dVar 0) dNil)))
    (dRet (dCall d_spread (dCons (dVar 0) (dCons (dCall d_rule_at (dCons (dVar 0) (dCons (dVar 1) dNil))) dNil)))))
def d_spread_at : List D → R D := defD 2 2 (b_spread_at)
def b_mean_at : DS :=
  (dSeq (dDrop (dCall d_look_game (dCons (dVar 0) dNil)))
    (dRet (dCall d_mean_of (dCons (dVar 0) (dCons (dCall d_rule_at (dCons (dVar 0) (dCons (dVar 1) dNil))) dNil)))))
def d_mean_at : List D → R D := defD 2 2 (b_mean_at)
def b_still_going : DS :=
  (dSeq (dDrop (dCall d_look_game (dCons (dVar 0) dNil)))
    (dSeq (dSetN [] 2 (dLcs [3] (.v 3) (dItems (dCall d_rule_at (dCons (dVar 0) (dCons (dVar 1) dNil)))) (dAndT (asB (dBin oEq (dB oLen (dCons (dVar 3) dNil)) (dVar 1))) (dNotT (dTru (dCall d_is_end (dCons (dCall d_part_of (dCons (dVar 0) (dCons (dVar 3) dNil))) dNil))))) (dVar 3)))
    (dRet (dCall d_all_plus (dCons (dLc [3] (.v 3) (dItems (dVar 2)) dYes (dCall d_chance_of (dCons (dVar 0) (dCons (dVar 3) dNil)))) dNil)))))
def d_still_going : List D → R D := defD 2 4 (b_still_going)
def bl_step_means : DSe :=
  (eSeq (sP (dDrop (dCall d_look_game (dCons (dVar 0) dNil))))
    (eSeq (sP (dSetN [] 1 dNil))
    (eSeq (sP (dWhile (fun _ => 8) (asB (dBin oNe (dCall d_still_going (dCons (dVar 0) (dCons (dB oLen (dCons (dVar 1) dNil)) dNil))) (dTup (dCons (dC (.int 0)) (dCons (dC (.int 1)) dNil))))) (dAppP 1 (dCall d_less (dCons (dCall d_mean_at (dCons (dVar 0) (dCons (dBin oAdd (dB oLen (dCons (dVar 1) dNil)) (dC (.int 1))) dNil))) (dCons (dCall d_mean_at (dCons (dVar 0) (dCons (dB oLen (dCons (dVar 1) dNil)) dNil))) dNil))))))
    (eRet (eP (dVar 1))))))
def el_step_means : List D → PLS → RP D := defE 1 2 bl_step_means
def b_step_means : DS :=
  (dSeq (dDrop (dCall d_look_game (dCons (dVar 0) dNil)))
    (dSeq (dSetN [] 1 dNil)
    (dSeq (dWhile (fun _ => 8) (asB (dBin oNe (dCall d_still_going (dCons (dVar 0) (dCons (dB oLen (dCons (dVar 1) dNil)) dNil))) (dTup (dCons (dC (.int 0)) (dCons (dC (.int 1)) dNil))))) (dAppP 1 (dCall d_less (dCons (dCall d_mean_at (dCons (dVar 0) (dCons (dBin oAdd (dB oLen (dCons (dVar 1) dNil)) (dC (.int 1))) dNil))) (dCons (dCall d_mean_at (dCons (dVar 0) (dCons (dB oLen (dCons (dVar 1) dNil)) dNil))) dNil)))))
    (dRet (dVar 1)))))
def d_step_means : List D → R D := defD 1 2 (b_step_means)
def bl_together : DSe :=
  (eSeq (sP (dDrop (dCall d_look_game (dCons (dVar 0) dNil))))
    (eSeq (sP (dDrop (dCall d_look_game (dCons (dVar 1) dNil))))
    (eSeq (sP (dSetD 2))
    (eSeq (sP (dFor [2] (.t [(.v 3), (.v 4)]) (dItems (dCall d_last_spread (dCons (dVar 0) dNil))) (dFor [2] (.t [(.v 5), (.v 6)]) (dItems (dCall d_last_spread (dCons (dVar 1) dNil))) (dPutD [2] 2 (dBin oAdd (dVar 3) (dVar 5)) (dCall d_all_plus (dCons (dLst (dCons (dGet2 (dVar 2) (dBin oAdd (dVar 3) (dVar 5)) (dTup (dCons (dC (.int 0)) (dCons (dC (.int 1)) dNil)))) (dCons (dCall d_times (dCons (dVar 4) (dCons (dVar 6) dNil))) dNil))) dNil))))))
    (eRet (eP (dUn oSortItems (dVar 2))))))))
def el_together : List D → PLS → RP D := defE 2 7 bl_together
def b_together : DS :=
  (dSeq (dDrop (dCall d_look_game (dCons (dVar 0) dNil)))
    (dSeq (dDrop (dCall d_look_game (dCons (dVar 1) dNil)))
    (dSeq (dSetD 2)
    (dSeq (dFor [2] (.t [(.v 3), (.v 4)]) (dItems (dCall d_last_spread (dCons (dVar 0) dNil))) (dFor [2] (.t [(.v 5), (.v 6)]) (dItems (dCall d_last_spread (dCons (dVar 1) dNil))) (dPutD [2] 2 (dBin oAdd (dVar 3) (dVar 5)) (dCall d_all_plus (dCons (dLst (dCons (dGet2 (dVar 2) (dBin oAdd (dVar 3) (dVar 5)) (dTup (dCons (dC (.int 0)) (dCons (dC (.int 1)) dNil)))) (dCons (dCall d_times (dCons (dVar 4) (dCons (dVar 6) dNil))) dNil))) dNil)))))
    (dRet (dUn oSortItems (dVar 2)))))))
def d_together : List D → R D := defD 2 7 (b_together)
def be__law_stays (lf : PLS → RP D) : DSe :=
  (eSeq (eSetF [] 1 (eCallF 0 lf))
    (eSeq (sP (dIfS (dNotT (dTru (dUn oIsList (dVar 1)))) (dRet (dC (.bl false))) .nx))
    (eSeq (sP (dCpO 2 1))
    (eSeq (sP (dApp [1] 1 (dC (.str "?"))))
    (eRet (eBin oEq (eL (eCallF 0 lf)) (eP (dVar 2))))))))
def e__law_stays (lf : PLS → RP D) : List D → PLS → RP D := defE 1 3 (be__law_stays lf)
end Kx
namespace Kx
open PySem PySem.Spec L2 Sm
theorem divisor_ok (a b : Int) : d_divisor [.int a, .int b] = .ok (.int (Int.gcd a b : Nat)) := by
  obtain ⟨g, e1, e2, _⟩ := gcd_loop 0 1 (fun a b => [some (.int a), some (.int b)]) (fun _ _ => rfl) (fun _ _ => rfl) (fun _ _ _ _ => rfl) (b.natAbs + 1) a b (by omega)
  have e3 : (if g < 0 then -g else g) = (Int.gcd a b : Nat) := by split <;> omega
  simp only [d_divisor, b_divisor, fuelI, e1, oAbs, e3, defD, args, dSeq, dSet, dSetP, dSetN, lstAt, dApp, dAppP, dAsg, dPar, dDrop, dWhile, dIfS, dRet, dB, dCall, dCons, dNil, dVar, dC, dBin, dChain, asB, dTru, dNotT, dAndT, dOrT, dAnd, dOr, dNot, dIf, dUn, dTup, dLst, dItems, dYes, R.bind, R.to, O.seq, outR, ofO, noErr, mask, Sm.putIn, bindPat, bindPats, itemsOf, tru, List.foldr_cons, List.foldr_nil, List.length_cons, List.length_nil, List.map_cons, List.map_nil, List.cons_append, List.nil_append, Nat.sub_self, List.replicate_zero, List.replicate_succ, List.getElem?_cons_succ, List.getElem?_cons_zero, List.set_cons_zero, List.set_cons_succ, Nat.reduceAdd, Nat.reduceSub, ↓reduceIte, Bool.not_true, Bool.not_false, Bool.and_true, Bool.true_and, Bool.false_and, Bool.and_false, if_true, if_false, Bool.false_eq_true, oNeg, oAddI, oSubI, oAdd_ii, oLt, oLe, oGt, oGe, Option.bind_some, Option.map_some, dFor, dRng, dLc, dLcs]
theorem share_ok {u d : Int} {n : Nat} (hd : d ≠ 0) (h : d.natAbs < 2 ^ n) (hn : n < 9000) : d_share [.int u, .int d] = .ok (encQ (Rat.divInt u d)) := by
  have hs := share_num (u := u) hd
  have hl := gcd_small (u := u) hd h hn
  have hg : Int.gcd u d ≠ 0 := by
    intro h
    rw [Int.gcd_eq_zero_iff] at h
    exact hd h.2
  by_cases hneg : d < 0
  · rw [if_pos hneg] at hs
    have h1 : (0 : Int) - (Int.gcd u d : Nat) ≠ 0 := by omega
    have h2 : ((0 : Int) - (Int.gcd u d : Nat)).natAbs.log2 < 9000 := by
      have : ((0 : Int) - (Int.gcd u d : Nat)).natAbs = Int.gcd u d := by omega
      rw [this]; exact hl
    simp only [d_share, b_share, divisor_ok, decide_eq_true hneg, oDivI, if_pos (And.intro h1 h2), hs.1, hs.2, encQ, defD, args, dSeq, dSet, dSetP, dSetN, lstAt, dApp, dAppP, dAsg, dPar, dDrop, dWhile, dIfS, dRet, dB, dCall, dCons, dNil, dVar, dC, dBin, dChain, asB, dTru, dNotT, dAndT, dOrT, dAnd, dOr, dNot, dIf, dUn, dTup, dLst, dItems, dYes, R.bind, R.to, O.seq, outR, ofO, noErr, mask, Sm.putIn, bindPat, bindPats, itemsOf, tru, List.foldr_cons, List.foldr_nil, List.length_cons, List.length_nil, List.map_cons, List.map_nil, List.cons_append, List.nil_append, Nat.sub_self, List.replicate_zero, List.replicate_succ, List.getElem?_cons_succ, List.getElem?_cons_zero, List.set_cons_zero, List.set_cons_succ, Nat.reduceAdd, Nat.reduceSub, ↓reduceIte, Bool.not_true, Bool.not_false, Bool.and_true, Bool.true_and, Bool.false_and, Bool.and_false, if_true, if_false, Bool.false_eq_true, oNeg, oAddI, oSubI, oAdd_ii, oLt, oLe, oGt, oGe, Option.bind_some, Option.map_some, dFor, dRng, dLc, dLcs]
  · rw [if_neg hneg] at hs
    have h1 : ((Int.gcd u d : Nat) : Int) ≠ 0 := by omega
    have h2 : ((Int.gcd u d : Nat) : Int).natAbs.log2 < 9000 := by rw [Int.natAbs_natCast]; exact hl
    simp only [d_share, b_share, divisor_ok, decide_eq_false hneg, oDivI, if_pos (And.intro h1 h2), hs.1, hs.2, encQ, defD, args, dSeq, dSet, dSetP, dSetN, lstAt, dApp, dAppP, dAsg, dPar, dDrop, dWhile, dIfS, dRet, dB, dCall, dCons, dNil, dVar, dC, dBin, dChain, asB, dTru, dNotT, dAndT, dOrT, dAnd, dOr, dNot, dIf, dUn, dTup, dLst, dItems, dYes, R.bind, R.to, O.seq, outR, ofO, noErr, mask, Sm.putIn, bindPat, bindPats, itemsOf, tru, List.foldr_cons, List.foldr_nil, List.length_cons, List.length_nil, List.map_cons, List.map_nil, List.cons_append, List.nil_append, Nat.sub_self, List.replicate_zero, List.replicate_succ, List.getElem?_cons_succ, List.getElem?_cons_zero, List.set_cons_zero, List.set_cons_succ, Nat.reduceAdd, Nat.reduceSub, ↓reduceIte, Bool.not_true, Bool.not_false, Bool.and_true, Bool.true_and, Bool.false_and, Bool.and_false, if_true, if_false, Bool.false_eq_true, oNeg, oAddI, oSubI, oAdd_ii, oLt, oLe, oGt, oGe, Option.bind_some, Option.map_some, dFor, dRng, dLc, dLcs]
theorem plus_ok {a b : Rat} {m n : Nat} (ha : Sz m a) (hb : Sz n b) (h : m + n < 8990) : d_plus [encQ a, encQ b] = .ok (encQ (a + b)) := by
  have m1 := mulOk_of ha.1 (den_nat hb) (by omega)
  have m2 := mulOk_of hb.1 (den_nat ha) (by omega)
  have m3 := mulOk_of (den_nat ha) (den_nat hb) (by omega)
  have sh := share_ok (u := a.num * (b.den : Nat) + b.num * (a.den : Nat)) (den_ne a b) (abs_mul_lt (den_nat ha) (den_nat hb)) (by omega)
  simp only [d_plus, b_plus, oIx_q0, oIx_q1, oMul_ok m1, oMul_ok m2, oMul_ok m3, sh, add_q, defD, args, dSeq, dSet, dSetP, dSetN, lstAt, dApp, dAppP, dAsg, dPar, dDrop, dWhile, dIfS, dRet, dB, dCall, dCons, dNil, dVar, dC, dBin, dChain, asB, dTru, dNotT, dAndT, dOrT, dAnd, dOr, dNot, dIf, dUn, dTup, dLst, dItems, dYes, R.bind, R.to, O.seq, outR, ofO, noErr, mask, Sm.putIn, bindPat, bindPats, itemsOf, tru, List.foldr_cons, List.foldr_nil, List.length_cons, List.length_nil, List.map_cons, List.map_nil, List.cons_append, List.nil_append, Nat.sub_self, List.replicate_zero, List.replicate_succ, List.getElem?_cons_succ, List.getElem?_cons_zero, List.set_cons_zero, List.set_cons_succ, Nat.reduceAdd, Nat.reduceSub, ↓reduceIte, Bool.not_true, Bool.not_false, Bool.and_true, Bool.true_and, Bool.false_and, Bool.and_false, if_true, if_false, Bool.false_eq_true, oNeg, oAddI, oSubI, oAdd_ii, oLt, oLe, oGt, oGe, Option.bind_some, Option.map_some, dFor, dRng, dLc, dLcs]
theorem less_ok {a b : Rat} {m n : Nat} (ha : Sz m a) (hb : Sz n b) (h : m + n < 8990) : d_less [encQ a, encQ b] = .ok (encQ (a - b)) := by
  have m1 := mulOk_of ha.1 (den_nat hb) (by omega)
  have m2 := mulOk_of hb.1 (den_nat ha) (by omega)
  have m3 := mulOk_of (den_nat ha) (den_nat hb) (by omega)
  have sh := share_ok (u := a.num * (b.den : Nat) - b.num * (a.den : Nat)) (den_ne a b) (abs_mul_lt (den_nat ha) (den_nat hb)) (by omega)
  simp only [d_less, b_less, oIx_q0, oIx_q1, oMul_ok m1, oMul_ok m2, oMul_ok m3, sh, sub_q, defD, args, dSeq, dSet, dSetP, dSetN, lstAt, dApp, dAppP, dAsg, dPar, dDrop, dWhile, dIfS, dRet, dB, dCall, dCons, dNil, dVar, dC, dBin, dChain, asB, dTru, dNotT, dAndT, dOrT, dAnd, dOr, dNot, dIf, dUn, dTup, dLst, dItems, dYes, R.bind, R.to, O.seq, outR, ofO, noErr, mask, Sm.putIn, bindPat, bindPats, itemsOf, tru, List.foldr_cons, List.foldr_nil, List.length_cons, List.length_nil, List.map_cons, List.map_nil, List.cons_append, List.nil_append, Nat.sub_self, List.replicate_zero, List.replicate_succ, List.getElem?_cons_succ, List.getElem?_cons_zero, List.set_cons_zero, List.set_cons_succ, Nat.reduceAdd, Nat.reduceSub, ↓reduceIte, Bool.not_true, Bool.not_false, Bool.and_true, Bool.true_and, Bool.false_and, Bool.and_false, if_true, if_false, Bool.false_eq_true, oNeg, oAddI, oSubI, oAdd_ii, oLt, oLe, oGt, oGe, Option.bind_some, Option.map_some, dFor, dRng, dLc, dLcs]
theorem times_ok {a b : Rat} {m n : Nat} (ha : Sz m a) (hb : Sz n b) (h : m + n < 8990) : d_times [encQ a, encQ b] = .ok (encQ (a * b)) := by
  have m1 := mulOk_of ha.1 hb.1 (by omega)
  have m3 := mulOk_of (den_nat ha) (den_nat hb) (by omega)
  have sh := share_ok (u := a.num * b.num) (den_ne a b) (abs_mul_lt (den_nat ha) (den_nat hb)) (by omega)
  simp only [d_times, b_times, oIx_q0, oIx_q1, oMul_ok m1, oMul_ok m3, sh, mul_q, defD, args, dSeq, dSet, dSetP, dSetN, lstAt, dApp, dAppP, dAsg, dPar, dDrop, dWhile, dIfS, dRet, dB, dCall, dCons, dNil, dVar, dC, dBin, dChain, asB, dTru, dNotT, dAndT, dOrT, dAnd, dOr, dNot, dIf, dUn, dTup, dLst, dItems, dYes, R.bind, R.to, O.seq, outR, ofO, noErr, mask, Sm.putIn, bindPat, bindPats, itemsOf, tru, List.foldr_cons, List.foldr_nil, List.length_cons, List.length_nil, List.map_cons, List.map_nil, List.cons_append, List.nil_append, Nat.sub_self, List.replicate_zero, List.replicate_succ, List.getElem?_cons_succ, List.getElem?_cons_zero, List.set_cons_zero, List.set_cons_succ, Nat.reduceAdd, Nat.reduceSub, ↓reduceIte, Bool.not_true, Bool.not_false, Bool.and_true, Bool.true_and, Bool.false_and, Bool.and_false, if_true, if_false, Bool.false_eq_true, oNeg, oAddI, oSubI, oAdd_ii, oLt, oLe, oGt, oGe, Option.bind_some, Option.map_some, dFor, dRng, dLc, dLcs]
theorem sum_loop (all : D) : ∀ (qs : List Rat) (acc : Rat) (m n : Nat) (x : Option D), Sz m acc → (∀ q ∈ qs, Sz n q) → m + (n + 1) * qs.length < 8980 →
    ∃ y, forGo (.v 2) (dSet [] 1 (dCall d_plus (dCons (dVar 1) (dCons (dVar 2) dNil)))) (qs.map encQ) [some all, some (encQ acc), x] = .nx [some all, some (encQ (acc + qsum qs)), y]
  | [], acc, m, n, x, _, _, _ => ⟨x, by simp only [List.map_nil, forGo, qsum, Rat.add_zero]⟩
  | q :: qs, acc, m, n, x, ha, hq, hs => by
    have hq1 := hq q (by simp)
    rw [List.length_cons, Nat.mul_succ] at hs
    obtain ⟨y, e⟩ := sum_loop all qs (acc + q) (m + n + 1) n (some (encQ q)) (ha.add hq1) (fun r hr => hq r (by simp [hr])) (by omega)
    refine ⟨y, ?_⟩
    rw [show acc + qsum (q :: qs) = acc + q + qsum qs by simp only [qsum, Rat.add_assoc]]
    simp only [forGo, plus_ok ha hq1 (by omega), defD, args, dSeq, dSet, dSetP, dSetN, lstAt, dApp, dAppP, dAsg, dPar, dDrop, dWhile, dIfS, dRet, dB, dCall, dCons, dNil, dVar, dC, dBin, dChain, asB, dTru, dNotT, dAndT, dOrT, dAnd, dOr, dNot, dIf, dUn, dTup, dLst, dItems, dYes, R.bind, R.to, O.seq, outR, ofO, noErr, mask, Sm.putIn, bindPat, bindPats, itemsOf, tru, List.foldr_cons, List.foldr_nil, List.length_cons, List.length_nil, List.map_cons, List.map_nil, List.cons_append, List.nil_append, Nat.sub_self, List.replicate_zero, List.replicate_succ, List.getElem?_cons_succ, List.getElem?_cons_zero, List.set_cons_zero, List.set_cons_succ, Nat.reduceAdd, Nat.reduceSub, ↓reduceIte, Bool.not_true, Bool.not_false, Bool.and_true, Bool.true_and, Bool.false_and, Bool.and_false, if_true, if_false, Bool.false_eq_true, oNeg, oAddI, oSubI, oAdd_ii, oLt, oLe, oGt, oGe, Option.bind_some, Option.map_some, dFor, dRng, dLc, dLcs]
    exact e
theorem all_plus_ok {qs : List Rat} {n : Nat} (hq : ∀ q ∈ qs, Sz n q) (hs : (n + 1) * qs.length < 8970) : d_all_plus [.lst (qs.map encQ)] = .ok (encQ (qsum qs)) := by
  obtain ⟨y, e⟩ := sum_loop (.lst (qs.map encQ)) qs 0 1 n none ⟨by decide, by decide⟩ hq (by omega)
  rw [Rat.zero_add] at e
  have e0 : (D.tup [.int 0, .int 1]) = encQ 0 := rfl
  simp only [d_all_plus, b_all_plus, e0, e, defD, args, dSeq, dSet, dSetP, dSetN, lstAt, dApp, dAppP, dAsg, dPar, dDrop, dWhile, dIfS, dRet, dB, dCall, dCons, dNil, dVar, dC, dBin, dChain, asB, dTru, dNotT, dAndT, dOrT, dAnd, dOr, dNot, dIf, dUn, dTup, dLst, dItems, dYes, R.bind, R.to, O.seq, outR, ofO, noErr, mask, Sm.putIn, bindPat, bindPats, itemsOf, tru, List.foldr_cons, List.foldr_nil, List.length_cons, List.length_nil, List.map_cons, List.map_nil, List.cons_append, List.nil_append, Nat.sub_self, List.replicate_zero, List.replicate_succ, List.getElem?_cons_succ, List.getElem?_cons_zero, List.set_cons_zero, List.set_cons_succ, Nat.reduceAdd, Nat.reduceSub, ↓reduceIte, Bool.not_true, Bool.not_false, Bool.and_true, Bool.true_and, Bool.false_and, Bool.and_false, if_true, if_false, Bool.false_eq_true, oNeg, oAddI, oSubI, oAdd_ii, oLt, oLe, oGt, oGe, Option.bind_some, Option.map_some, dFor, dRng, dLc, dLcs]
theorem cell_ok (ns : List Int) (k : Nat) : d__law_cell [.scr ns, .int k] = .ok (.int (cellI ns k)) := by
  by_cases h : k < ns.length
  · have h' : ((k : Int) < (ns.length : Int)) := by omega
    simp only [d__law_cell, b__law_cell, oLen, decide_eq_true h', oIx, atI_nat' h, ns_at h, cellI, if_pos h, defD, args, dSeq, dSet, dSetP, dSetN, lstAt, dApp, dAppP, dAsg, dPar, dDrop, dWhile, dIfS, dRet, dB, dCall, dCons, dNil, dVar, dC, dBin, dChain, asB, dTru, dNotT, dAndT, dOrT, dAnd, dOr, dNot, dIf, dUn, dTup, dLst, dItems, dYes, R.bind, R.to, O.seq, outR, ofO, noErr, mask, Sm.putIn, bindPat, bindPats, itemsOf, tru, List.foldr_cons, List.foldr_nil, List.length_cons, List.length_nil, List.map_cons, List.map_nil, List.cons_append, List.nil_append, Nat.sub_self, List.replicate_zero, List.replicate_succ, List.getElem?_cons_succ, List.getElem?_cons_zero, List.set_cons_zero, List.set_cons_succ, Nat.reduceAdd, Nat.reduceSub, ↓reduceIte, Bool.not_true, Bool.not_false, Bool.and_true, Bool.true_and, Bool.false_and, Bool.and_false, if_true, if_false, Bool.false_eq_true, oNeg, oAddI, oSubI, oAdd_ii, oLt, oLe, oGt, oGe, Option.bind_some, Option.map_some, dFor, dRng, dLc, dLcs]
  · have h' : ¬ ((k : Int) < (ns.length : Int)) := by omega
    cases ns with
    | nil =>
      have h0 : ¬ ((k : Int) < ((0 : Nat) : Int)) := by omega
      have h1 : ¬ (k < 0) := by omega
      simp only [d__law_cell, b__law_cell, oLen, decide_eq_false h0, cellI, if_neg h1, oEq, pln, plns, deq, deqIs, defD, args, dSeq, dSet, dSetP, dSetN, lstAt, dApp, dAppP, dAsg, dPar, dDrop, dWhile, dIfS, dRet, dB, dCall, dCons, dNil, dVar, dC, dBin, dChain, asB, dTru, dNotT, dAndT, dOrT, dAnd, dOr, dNot, dIf, dUn, dTup, dLst, dItems, dYes, R.bind, R.to, O.seq, outR, ofO, noErr, mask, Sm.putIn, bindPat, bindPats, itemsOf, tru, List.foldr_cons, List.foldr_nil, List.length_cons, List.length_nil, List.map_cons, List.map_nil, List.cons_append, List.nil_append, Nat.sub_self, List.replicate_zero, List.replicate_succ, List.getElem?_cons_succ, List.getElem?_cons_zero, List.set_cons_zero, List.set_cons_succ, Nat.reduceAdd, Nat.reduceSub, ↓reduceIte, Bool.not_true, Bool.not_false, Bool.and_true, Bool.true_and, Bool.false_and, Bool.and_false, if_true, if_false, Bool.false_eq_true, oNeg, oAddI, oSubI, oAdd_ii, oLt, oLe, oGt, oGe, Option.bind_some, Option.map_some, dFor, dRng, dLc, dLcs]
    | cons a r =>
      have hl : (0 : Nat) < (a :: r).length := by simp
      have hm : k % (a :: r).length < (a :: r).length := Nat.mod_lt _ hl
      have e1 : (k : Int).fmod ((a :: r).length : Nat) = ((k % (a :: r).length : Nat) : Int) := by
        rw [Int.fmod_eq_emod_of_nonneg _ (by omega)]; rfl
      have hne : (((a :: r).length : Nat) : Int) ≠ 0 := by omega
      have hc : a :: r ≠ [] := by simp
      simp only [List.length_cons] at e1 hne hm h h'
      simp only [d__law_cell, b__law_cell, oLen, decide_eq_false h', cellI, if_neg h, if_neg hc, oEq, pln, plns, deq, deqIs, oModI, if_pos hne, e1, oIx, List.length_cons, atI_nat' (xs := a :: r) (k := k % (r.length + 1)) hm, ns_at (ns := a :: r) (k := k % (r.length + 1)) hm, oMul_ok (mulOk_r (i := (a :: r).getD (k % (r.length + 1)) 0) (j := 31) (by decide)), defD, args, dSeq, dSet, dSetP, dSetN, lstAt, dApp, dAppP, dAsg, dPar, dDrop, dWhile, dIfS, dRet, dB, dCall, dCons, dNil, dVar, dC, dBin, dChain, asB, dTru, dNotT, dAndT, dOrT, dAnd, dOr, dNot, dIf, dUn, dTup, dLst, dItems, dYes, R.bind, R.to, O.seq, outR, ofO, noErr, mask, Sm.putIn, bindPat, bindPats, itemsOf, tru, List.foldr_cons, List.foldr_nil, List.length_cons, List.length_nil, List.map_cons, List.map_nil, List.cons_append, List.nil_append, Nat.sub_self, List.replicate_zero, List.replicate_succ, List.getElem?_cons_succ, List.getElem?_cons_zero, List.set_cons_zero, List.set_cons_succ, Nat.reduceAdd, Nat.reduceSub, ↓reduceIte, Bool.not_true, Bool.not_false, Bool.and_true, Bool.true_and, Bool.false_and, Bool.and_false, if_true, if_false, Bool.false_eq_true, oNeg, oAddI, oSubI, oAdd_ii, oLt, oLe, oGt, oGe, Option.bind_some, Option.map_some, dFor, dRng, dLc, dLcs]
theorem pick_ok (ns : List Int) (k : Nat) {m : Int} (hm : 0 < m) : d__law_pick [.scr ns, .int k, .int m] = .ok (.int (pickI ns k m)) := by
  have f1 : ∀ a b : Int, 0 < b → a.fmod b = a % b := fun a b h => Int.fmod_eq_emod_of_nonneg _ (by omega)
  have f2 : ∀ a b : Int, 0 < b → a.fdiv b = a / b := fun a b h => Int.fdiv_eq_ediv_of_nonneg _ (by omega)
  have hd : 0 ≤ drawI ns k ∧ drawI ns k < 2147483399 := ⟨Int.emod_nonneg _ (by decide), Int.emod_lt_of_pos _ (by decide)⟩
  have ed : (cellI ns k + 6151 * ((k : Int) + 1)) * 40692 % 2147483399 = drawI ns k := rfl
  have o1 : oMul (.int 6151) (.int ((k : Int) + 1)) = some (.int (6151 * ((k : Int) + 1))) := oMul_ok (mulOk_l (by decide))
  have o2 : oMul (.int (cellI ns k + 6151 * ((k : Int) + 1))) (.int 40692) = some (.int ((cellI ns k + 6151 * ((k : Int) + 1)) * 40692)) := oMul_ok (mulOk_r (by decide))
  have o3 : oMul (.int (drawI ns k)) (.int (drawI ns k)) = some (.int (drawI ns k * drawI ns k)) := oMul_ok (mulOk_l (by omega))
  have c1 : (31 : Int) ≠ 0 ∧ (31 : Int).natAbs.log2 < 9000 := ⟨by decide, by decide⟩
  simp only [d__law_pick, b__law_pick, cell_ok, o1, o2, o3, oModI, oDivI, f1 _ 2147483399 (by decide), f1 _ 2147483629 (by decide), f2 _ 31 (by decide), f1 _ m hm, ed, if_pos c1, if_pos (show (2147483399 : Int) ≠ 0 by decide), if_pos (show (2147483629 : Int) ≠ 0 by decide), if_pos (show m ≠ 0 by omega), pickI, defD, args, dSeq, dSet, dSetP, dSetN, lstAt, dApp, dAppP, dAsg, dPar, dDrop, dWhile, dIfS, dRet, dB, dCall, dCons, dNil, dVar, dC, dBin, dChain, asB, dTru, dNotT, dAndT, dOrT, dAnd, dOr, dNot, dIf, dUn, dTup, dLst, dItems, dYes, R.bind, R.to, O.seq, outR, ofO, noErr, mask, Sm.putIn, bindPat, bindPats, itemsOf, tru, List.foldr_cons, List.foldr_nil, List.length_cons, List.length_nil, List.map_cons, List.map_nil, List.cons_append, List.nil_append, Nat.sub_self, List.replicate_zero, List.replicate_succ, List.getElem?_cons_succ, List.getElem?_cons_zero, List.set_cons_zero, List.set_cons_succ, Nat.reduceAdd, Nat.reduceSub, ↓reduceIte, Bool.not_true, Bool.not_false, Bool.and_true, Bool.true_and, Bool.false_and, Bool.and_false, if_true, if_false, Bool.false_eq_true, oNeg, oAddI, oSubI, oAdd_ii, oLt, oLe, oGt, oGe, Option.bind_some, Option.map_some, dFor, dRng, dLc, dLcs]
def PkOk (pk : Nat → Int → Int) : Prop := ∀ k m, 0 < m → 0 ≤ pk k m ∧ pk k m < m
theorem pickI_ok (ns : List Int) : PkOk (pickI ns) := fun k _ h => ⟨pickI_nonneg ns k h, pickI_lt ns k h⟩
def pickJ (ns : List Int) (k : Nat) (m : Int) : Int := if 0 < m then pickI ns k m else pickI (ns.map (· + 1)) k (-m)
theorem pickJ_ok (ns : List Int) : PkOk (pickJ ns) := fun k m h => by unfold pickJ; rw [if_pos h]; exact pickI_ok ns k m h
theorem pick_fn {P : Program} {w : World} {K : PySem.W.Frag} {mg : Str → Option Value} {base : Heap} {cl : Glb} {k : Nat} (h : Fn P w K mg base cl k "_law_pick" 3 d__law_pick) : Fn P w K mg base cl k "_law_pick" 3 (dPick (pickJ cl.ns)) := by
  refine h.imp fun ds => ?_
  by_cases hd1 : ∃ i m, ds = [.scr1, .int i, .int m] ∧ 0 ≤ i ∧ 0 < m
  · obtain ⟨i, m, rfl, h1, h2⟩ := hd1
    refine .inr ⟨[.scr (cl.ns.map (· + 1)), .int i, .int m], ?_, fun H vs r => ?_⟩
    · have := pick_ok (cl.ns.map (· + 1)) i.toNat h2
      rw [Int.toNat_of_nonneg h1] at this
      rw [this]
      have e : pickJ cl.ns i.toNat (-m) = pickI (cl.ns.map (· + 1)) i.toNat m := by
        unfold pickJ; rw [if_neg (by omega), Int.neg_neg]
      simp only [dPick, if_pos (And.intro h1 h2), e]
      rw [if_pos (pickI_ok _ _ _ h2)]
    · cases r with
      | cons r t =>
        cases r with
        | scr1 a b => exact .cons (.scr a (by rw [List.length_map]; exact b)) t
  by_cases hd : ∃ i m, ds = [.scr0, .int i, .int m] ∧ 0 ≤ i ∧ 0 < m
  · obtain ⟨i, m, rfl, h1, h2⟩ := hd
    refine .inr ⟨[.scr cl.ns, .int i, .int m], ?_, fun H vs r => ?_⟩
    · have := pick_ok cl.ns i.toNat h2
      rw [Int.toNat_of_nonneg h1] at this
      rw [this]
      simp only [dPick, if_pos (And.intro h1 h2), pickJ, if_pos h2]
    · cases r with
      | cons r t =>
        cases r with
        | scr0 a b => exact .cons (.scr a b) t
  · refine .inl ?_
    unfold dPick
    split
    · split
      · rename_i z; exact (hd ⟨_, _, rfl, z⟩).elim
      · rfl
    · split
      · rename_i z; exact (hd1 ⟨_, _, rfl, z⟩).elim
      · rfl
    · rfl
end Kx
namespace Sm
open PySem PySem.Spec L2
section
variable {α β : Type} {pt : Pat} {f g : DS} {ρ ρ1 : Env} {r : R D} {t : DT} {fe : DE}
theorem forGo_all (I : Env → Prop) : ∀ (ds : List D) (ρ : Env), I ρ → (∀ d ρ, d ∈ ds → I ρ → ∃ ρ1 ρ2, bindPat pt d ρ = some ρ1 ∧ f ρ1 = .nx ρ2 ∧ I ρ2) → ∃ ρ', forGo pt f ds ρ = .nx ρ' ∧ I ρ'
  | [], ρ, h, _ => ⟨ρ, rfl, h⟩
  | d :: ds, ρ, h, hs => by
    obtain ⟨ρ1, ρ2, e1, e2, e3⟩ := hs d ρ (by simp) h
    obtain ⟨ρ', e4, e5⟩ := forGo_all I ds ρ2 e3 fun d ρ hy => hs d ρ (by simp [hy])
    refine ⟨ρ', ?_, e5⟩
    simp only [forGo, e1, e2, O.seq]
    exact e4
theorem lcGo_map (enc : α → D) (p : α → Bool) (g : α → D) : ∀ (xs : List α), (∀ x ∈ xs, ∃ ρ1, bindPat pt (enc x) ρ = some ρ1 ∧ t ρ1 = .ok (p x) ∧ (p x = true → fe ρ1 = .ok (g x))) → lcGo pt t fe (xs.map enc) ρ = .ok ((xs.filter p).map g)
  | [], _ => rfl
  | x :: xs, h => by
    obtain ⟨ρ1, e1, e2, e3⟩ := h x (by simp)
    have ih := lcGo_map enc p g xs fun y hy => h y (by simp [hy])
    rw [List.map_cons]
    unfold lcGo
    rw [e1]
    simp only [e2, noErr, R.bind]
    cases q : p x with
    | true => simp only [e3 q, noErr, R.bind, ih, List.filter_cons_of_pos q, List.map_cons]
    | false => rw [List.filter_cons_of_neg (by simp [q])]; exact ih
theorem lcGo_all (enc : α → D) (g : α → D) (xs : List α) (h : ∀ x ∈ xs, ∃ ρ1, bindPat pt (enc x) ρ = some ρ1 ∧ fe ρ1 = .ok (g x)) : lcGo pt dYes fe (xs.map enc) ρ = .ok (xs.map g) := by
  have := lcGo_map (pt := pt) (ρ := ρ) (t := dYes) (fe := fe) enc (fun _ => true) g xs fun x hx => let ⟨ρ1, e1, e2⟩ := h x hx; ⟨ρ1, e1, rfl, fun _ => e2⟩
  rw [List.filter_eq_self.mpr (by simp)] at this
  exact this
theorem out_seq (h1 : f ρ = .nx ρ1) (h2 : outR (g ρ1) = r) : outR (dSeq f g ρ) = r := by
  unfold dSeq; rw [h1]; exact h2
theorem out_seqR {d : D} (h1 : f ρ = .ret d) : outR (dSeq f g ρ) = .ok d := by
  unfold dSeq; rw [h1]; rfl
theorem seq_nx {o : O} (h1 : f ρ = .nx ρ1) (h2 : g ρ1 = o) : dSeq f g ρ = o := by
  unfold dSeq; rw [h1]; exact h2
end
theorem defD_eq {n m : Nat} {f : DS} {ds : List D} {r : R D} (h : ds.length = n) (h2 : outR (f (args m ds)) = r) : defD n m f ds = r := by
  unfold defD; rw [if_pos h]; exact h2
section
variable {α β : Type} {own : List Nat} {pt : Pat} {it : DI} {f g : DS} {ρ ρ1 : Env} {r : R D} {o : O}
theorem for_nx {ds : List D} (I : Env → Prop) (hit : it (mask own ρ) = .ok ds) (h0 : I ρ) (st : ∀ d ρ, d ∈ ds → I ρ → ∃ ρ1 ρ2, bindPat pt d ρ = some ρ1 ∧ f ρ1 = .nx ρ2 ∧ I ρ2) : ∃ ρ', dFor own pt it f ρ = .nx ρ' ∧ I ρ' := by
  obtain ⟨ρ', e1, e2⟩ := forGo_all (pt := pt) (f := f) I ds ρ h0 st
  refine ⟨ρ', ?_, e2⟩
  unfold dFor
  rw [hit]; exact e1
theorem for_out {ds : List D} (I : Env → Prop) (hit : it (mask own ρ) = .ok ds) (h0 : I ρ) (st : ∀ d ρ, d ∈ ds → I ρ → ∃ ρ1 ρ2, bindPat pt d ρ = some ρ1 ∧ f ρ1 = .nx ρ2 ∧ I ρ2) (hk : ∀ ρ', I ρ' → outR (g ρ') = r) : outR (dSeq (dFor own pt it f) g ρ) = r := by
  obtain ⟨ρ', e1, e2⟩ := for_nx (own := own) (pt := pt) (f := f) I hit h0 st
  exact out_seq e1 (hk ρ' e2)
theorem lc_ok {vs : List Nat} {xs : List α} {enc : α → D} {t : DT} {fe : DE} (p : α → Bool) (g : α → D) (hit : it ρ = .ok (xs.map enc)) (h : ∀ x ∈ xs, ∃ ρ1, bindPat pt (enc x) (mask vs ρ) = some ρ1 ∧ t ρ1 = .ok (p x) ∧ (p x = true → fe ρ1 = .ok (g x))) :
    dLcs vs pt it t fe ρ = .ok ((xs.filter p).map g) := by
  unfold dLcs; rw [hit]; exact lcGo_map enc p g xs h
theorem lc_ok1 {vs : List Nat} {xs : List α} {enc : α → D} {fe : DE} (g : α → D) (hit : it ρ = .ok (xs.map enc)) (h : ∀ x ∈ xs, ∃ ρ1, bindPat pt (enc x) (mask vs ρ) = some ρ1 ∧ fe ρ1 = .ok (g x)) :
    dLcs vs pt it dYes fe ρ = .ok (xs.map g) := by
  unfold dLcs; rw [hit]; exact lcGo_all enc g xs h
theorem dLc_of {vs : List Nat} {t : DT} {fe : DE} {ds : List D} (h : dLcs vs pt it t fe ρ = .ok ds) : dLc vs pt it t fe ρ = .ok (.lst ds) := by
  unfold dLc; rw [h]; rfl
end
theorem rngD0 (n : Nat) : rngD 0 n = (List.range n).map fun i => D.int ((i : Nat) : Int) := by simp [rngD]
theorem rng1_ok {n : Nat} (h : n ≤ 16777216) : rng1 [.int (n : Int)] = some ((List.range n).map fun i => D.int ((i : Nat) : Int)) := by
  simp only [rng1]
  rw [if_pos ⟨by omega, by omega⟩, ← rngD0]
  rfl
theorem rng1_it {g : DA} {ρ : Env} {n : Nat} (hg : g ρ = .ok [.int (n : Int)]) (h : n ≤ 16777216) : dRng rng1 g ρ = .ok ((List.range n).map fun i => D.int ((i : Nat) : Int)) := by
  unfold dRng; rw [hg]
  show ofO (rng1 [.int (n : Int)]) = _
  rw [rng1_ok h]; rfl
theorem setN_nx {own : List Nat} {i : Nat} {f : DA} {ρ : Env} {ds : List D} (h : f (mask own ρ) = .ok ds) : dSetN own i f ρ = .nx (ρ.set i (some (.lst ds))) := by
  unfold dSetN; rw [h]; rfl
theorem set_nx {own : List Nat} {i : Nat} {f : DE} {ρ : Env} {d : D} (h : f (mask own ρ) = .ok d) : dSet own i f ρ = .nx (ρ.set i (some d)) := by
  unfold dSet; rw [h]; rfl
theorem ret_of {f : DE} {ρ : Env} {r : R D} (h : f ρ = r) : outR (dRet f ρ) = r := by
  unfold dRet; rw [h]; cases r <;> rfl
theorem ifs_t {t : DT} {f g : DS} {ρ : Env} {o : O} (h : t ρ = .ok true) (hf : f ρ = o) : dIfS t f g ρ = o := by
  unfold dIfS; rw [h]; exact hf
theorem ifs_f {t : DT} {f g : DS} {ρ : Env} {o : O} (h : t ρ = .ok false) (hf : g ρ = o) : dIfS t f g ρ = o := by
  unfold dIfS; rw [h]; exact hf
mutual
def pl : Nat → D → Bool
  | _, .non => true
  | _, .bl _ => true
  | _, .int _ => true
  | _, .str x => PySem.PyData.strOk x
  | n + 1, .tup xs => pls n xs
  | n + 1, .lst xs => pls n xs
  | _, _ => false
def pls : Nat → List D → Bool
  | _, [] => true
  | n, x :: xs => pl n x && pls n xs
end
mutual
theorem pl_pln : ∀ (d : D) (n : Nat), pl n d = true → pln n d = true
  | .non, _, _ => by simp [pln]
  | .bl _, _, _ => by simp [pln]
  | .int _, _, _ => by simp [pln]
  | .str _, _, h => by simpa [pln, pl] using h
  | .tup xs, 0, h => by simp [pl] at h
  | .tup xs, n + 1, h => by simp only [pl] at h; simp only [pln]; exact pls_plns xs n h
  | .lst xs, 0, h => by simp [pl] at h
  | .lst xs, n + 1, h => by simp only [pl] at h; simp only [pln]; exact pls_plns xs n h
  | .dct _, n, h => by cases n <;> simp [pl] at h
  | .exc _, n, h => by cases n <;> simp [pl] at h
  | .scr _, n, h => by cases n <;> simp [pl] at h
  | .scr0, n, h => by cases n <;> simp [pl] at h
  | .fnv, n, h => by cases n <;> simp [pl] at h
  | .obj _, n, h => by cases n <;> simp [pl] at h
  | .dcl _, n, h => by cases n <;> simp [pl] at h
  | .scr1, n, h => by cases n <;> simp [pl] at h
theorem pls_plns : ∀ (ds : List D) (n : Nat), pls n ds = true → plns n ds = true
  | [], _, _ => by simp [plns]
  | d :: ds, n, h => by
    simp only [pls, Bool.and_eq_true] at h
    simp only [plns, Bool.and_eq_true]
    exact ⟨pl_pln d n h.1, pls_plns ds n h.2⟩
end
mutual
theorem deq_self : ∀ (d : D) (n : Nat), pl n d = true → deq d d = true
  | .non, _, _ => by simp [deq]
  | .bl _, _, _ => by simp [deq]
  | .int _, _, _ => by simp [deq]
  | .str _, _, h => by simp [deq]
  | .tup xs, 0, h => by simp [pl] at h
  | .tup xs, n + 1, h => by simp only [pl] at h; simp only [deq]; exact deqs_self xs n h
  | .lst xs, 0, h => by simp [pl] at h
  | .lst xs, n + 1, h => by simp only [pl] at h; simp only [deq]; exact deqs_self xs n h
  | .dct _, n, h => by cases n <;> simp [pl] at h
  | .exc _, n, h => by cases n <;> simp [pl] at h
  | .scr _, n, h => by cases n <;> simp [pl] at h
  | .scr0, n, h => by cases n <;> simp [pl] at h
  | .fnv, n, h => by cases n <;> simp [pl] at h
  | .obj _, n, h => by cases n <;> simp [pl] at h
  | .dcl _, n, h => by cases n <;> simp [pl] at h
  | .scr1, n, h => by cases n <;> simp [pl] at h
theorem deqs_self : ∀ (ds : List D) (n : Nat), pls n ds = true → deqs ds ds = true
  | [], _, _ => by simp [deqs]
  | d :: ds, n, h => by
    simp only [pls, Bool.and_eq_true] at h
    simp only [deqs, Bool.and_eq_true]
    exact ⟨deq_self d n h.1, deqs_self ds n h.2⟩
end
theorem oEq_self {d : D} (h : pl 64 d = true) : oEq d d = some (.bl true) := by
  unfold oEq; rw [pl_pln d 64 h, deq_self d 64 h]; rfl
theorem oIx_t0 (a : D) (as : List D) : oIx (.tup (a :: as)) (.int 0) = some a := by
  simp [oIx, atI, ixN]
theorem oIx_t1 (a b : D) (as : List D) : oIx (.tup (a :: b :: as)) (.int 1) = some b := by
  show atI (a :: b :: as) ((1 : Nat) : Int) = _
  rw [atI_nat' (by simp)]; rfl
theorem dPick_ok (pk : Nat → Int → Int) (k : Nat) {m : Int} (hm : 0 < m) : dPick pk [.scr0, .int (k : Int), .int m] = .ok (.int (pk k m)) := by
  simp only [dPick]
  rw [if_pos ⟨by omega, hm⟩]
  rfl
theorem at_map {α : Type} {g : α → D} {xs : List α} {i : Nat} {x : α} (h : xs[i]? = some x) : oIx (.lst (xs.map g)) (.int (i : Int)) = some (g x) := by
  have hl : i < (xs.map g).length := by
    rw [List.length_map]; exact (List.getElem?_eq_some_iff.mp h).1
  show atI (xs.map g) (i : Int) = _
  rw [atI_nat' hl, List.getElem?_map, h]; rfl
end Sm
namespace Kx
open PySem PySem.Spec L2 Sm
def be_law (pk : Nat → Int → Int) : DSe :=
  (eSeq (sP (dSet [] 1 (dCall (d__law_drawn pk) (dCons (dVar 0) (dCons (dC (.int 3)) dNil)))))
    (eSeq (eSetL [] 2 (eCons (eLamL e__law_stays [1] (eCallA el_ahead_of (eCons (eP (dVar 0)) (eCons (eP (dCall d_rule_at (dCons (dVar 0) (dCons (dC (.int 2)) dNil)))) eNil)))) eNil))
    (eSeq (eApp [2] 2 (eLamL e__law_stays [1] (eCallA el_spread_at (eCons (eP (dVar 0)) (eCons (eP (dC (.int 1))) eNil)))))
    (eSeq (eApp [2] 2 (eLamL e__law_stays [1] (eCallA el_step_means (eCons (eP (dVar 0)) eNil))))
    (eSeq (eApp [2] 2 (eLamL e__law_stays [1] (eCallA el_together (eCons (eP (dVar 0)) (eCons (eP (dTup (dCons (dC (.int 1)) dNil))) eNil)))))
    (sP (dRet (dAnd (dBin oEq (dVar 2) (dBin oMul (dLst (dCons (dC (.bl true)) dNil)) (dC (.int 4)))) (dUn oIsTup (dCall d_rule_at (dCons (dVar 1) (dCons (dC (.int 1)) dNil))))))))))))
def e_law (pk : Nat → Int → Int) : List D → PLS → RP D := defE 1 3 (be_law pk)
end Kx
namespace Sm
open PySem PySem.Spec L2
inductive Game where
  | node (w : Int) (ws : List (Int × Game))
namespace Game
def worth : Game → Int | .node w _ => w
def ways : Game → List (Int × Game) | .node _ ws => ws
theorem lt_of_mem {w : Int} {ws : List (Int × Game)} {p : Int × Game} (h : p ∈ ws) : sizeOf p.2 < sizeOf (Game.node w ws) := by
  have h1 := List.sizeOf_lt_of_mem h
  obtain ⟨a, b⟩ := p
  simp at h1 ⊢
  omega
theorem ind {P : Game → Prop} (h : ∀ w ws, (∀ p ∈ ws, P p.2) → P (.node w ws)) : ∀ g, P g
  | .node w ws => h w ws fun p hp => ind h p.2
termination_by g => sizeOf g
decreasing_by exact lt_of_mem hp
def enc : Game → D
  | .node w ws => if ws = [] then .tup [.int w] else .tup [.int w, .tup (ws.map fun p => .tup [.int p.1, p.2.enc])]
termination_by g => sizeOf g
decreasing_by exact lt_of_mem ‹_›
def Ok : Nat → Game → Prop
  | 0, _ => False
  | n + 1, .node w ws => (-20 ≤ w ∧ w ≤ 20) ∧ ws.length ≤ 3 ∧ ∀ p ∈ ws, (1 ≤ p.1 ∧ p.1 ≤ 9) ∧ Ok n p.2
theorem Ok.mono : ∀ {n m : Nat} {g : Game}, Ok n g → n ≤ m → Ok m g
  | 0, _, _, h, _ => h.elim
  | n + 1, 0, _, _, h => by omega
  | n + 1, m + 1, .node w ws, h, hm => ⟨h.1, h.2.1, fun p hp => ⟨(h.2.2 p hp).1, (h.2.2 p hp).2.mono (by omega)⟩⟩
def idxs : Nat → List (List (List Nat)) → List (List Nat)
  | _, [] => []
  | k, ps :: r => ps.map (k :: ·) ++ idxs (k + 1) r
def paths : Game → List (List Nat)
  | .node _ ws => [] :: idxs 0 (ws.map fun p => p.2.paths)
termination_by g => sizeOf g
decreasing_by exact lt_of_mem ‹_›
def part : Game → List Nat → Game
  | g, [] => g
  | g, i :: p => match g.ways[i]? with
    | some x => part x.2 p
    | none => g
def IsPath : Game → List Nat → Prop
  | _, [] => True
  | g, i :: p => match g.ways[i]? with
    | some x => IsPath x.2 p
    | none => False
def put : Game → List Nat → Game → Game
  | _, [], o => o
  | .node w ws, i :: p, o => match ws[i]? with
    | some x => .node w (ws.set i (x.1, put x.2 p o))
    | none => .node w ws
theorem mem_idxs {p : List Nat} : ∀ {l : List (List (List Nat))} {k : Nat}, p ∈ idxs k l ↔ ∃ i q, p = (k + i) :: q ∧ ∃ ps, l[i]? = some ps ∧ q ∈ ps
  | [], k => by simp [idxs]
  | ps :: r, k => by
    rw [idxs, List.mem_append, mem_idxs (l := r) (k := k + 1)]
    constructor
    · rintro (h | ⟨i, q, rfl, ps', h1, h2⟩)
      · obtain ⟨q, hq, rfl⟩ := List.mem_map.mp h
        exact ⟨0, q, rfl, ps, rfl, hq⟩
      · exact ⟨i + 1, q, by rw [show k + 1 + i = k + (i + 1) by omega], ps', h1, h2⟩
    · rintro ⟨i, q, rfl, ps', h1, h2⟩
      cases i with
      | zero =>
        cases h1
        exact .inl (List.mem_map.mpr ⟨q, h2, rfl⟩)
      | succ i => exact .inr ⟨i, q, by rw [show k + 1 + i = k + (i + 1) by omega], ps', h1, h2⟩
theorem mem_paths : ∀ (g : Game) (p : List Nat), p ∈ g.paths ↔ IsPath g p := by
  apply ind
  intro w ws ih p
  rw [paths, List.mem_cons, mem_idxs]
  cases p with
  | nil => simp [IsPath]
  | cons i q =>
    simp only [IsPath, ways]
    constructor
    · rintro (h | ⟨j, q', h, ps, h1, h2⟩)
      · cases h
      · rw [Nat.zero_add] at h
        cases h
        rw [List.getElem?_map, Option.map_eq_some_iff] at h1
        obtain ⟨x, hx, rfl⟩ := h1
        rw [hx]
        exact (ih x (List.mem_of_getElem? hx) q).mp h2
    · intro h
      cases hx : ws[i]? with
      | none => rw [hx] at h; exact h.elim
      | some x =>
        rw [hx] at h
        exact .inr ⟨i, q, by rw [Nat.zero_add], x.2.paths, by rw [List.getElem?_map, hx]; rfl, (ih x (List.mem_of_getElem? hx) q).mpr h⟩
theorem idxs_len : ∀ (l : List (List (List Nat))) (k : Nat), (idxs k l).length = (l.map List.length).sum
  | [], _ => rfl
  | ps :: r, k => by rw [idxs, List.length_append, List.length_map, idxs_len r (k + 1)]; simp
def most : Nat → Nat
  | 0 => 0
  | n + 1 => 1 + 3 * most n
theorem sum_le {l : List Nat} {b : Nat} (h : ∀ x ∈ l, x ≤ b) : l.sum ≤ l.length * b := by
  induction l with
  | nil => simp
  | cons x l ih =>
    rw [List.sum_cons, List.length_cons, Nat.succ_mul]
    have := h x (by simp)
    have := ih fun y hy => h y (by simp [hy])
    omega
theorem paths_len : ∀ {n : Nat} {g : Game}, Ok n g → g.paths.length ≤ most n
  | 0, _, h => h.elim
  | n + 1, .node w ws, h => by
    rw [paths, List.length_cons, idxs_len, List.map_map]
    have h1 := sum_le (l := ws.map (List.length ∘ fun p => p.2.paths)) (b := most n) (by
      intro x hx
      obtain ⟨p, hp, rfl⟩ := List.mem_map.mp hx
      exact paths_len (h.2.2 p hp).2)
    rw [List.length_map] at h1
    have h2 : ws.length * most n ≤ 3 * most n := Nat.mul_le_mul_right _ h.2.1
    show _ ≤ 1 + 3 * most n
    omega
theorem part_ok : ∀ {n : Nat} {g : Game} {p : List Nat}, Ok n g → IsPath g p → Ok (n - p.length) (part g p) ∧ p.length < n
  | 0, _, _, h, _ => h.elim
  | n + 1, g, [], h, _ => ⟨h, by simp⟩
  | n + 1, .node w ws, i :: p, h, hp => by
    simp only [IsPath, ways] at hp
    simp only [part, ways]
    cases hx : ws[i]? with
    | none => rw [hx] at hp; exact hp.elim
    | some x =>
      rw [hx] at hp
      have := part_ok (h.2.2 x (List.mem_of_getElem? hx)).2 hp
      rw [List.length_cons]
      exact ⟨by rw [show n + 1 - (p.length + 1) = n - p.length by omega]; exact this.1, by omega⟩
def total (g : Game) : Int := (g.ways.map (·.1)).sum
def chance : Game → List Nat → Rat
  | _, [] => 1
  | g, i :: p => match g.ways[i]? with
    | some x => Rat.divInt x.1 g.total * chance x.2 p
    | none => 0
theorem sum_pos {l : List Int} (h : ∀ x ∈ l, 1 ≤ x ∧ x ≤ 9) : (l.length : Int) ≤ l.sum ∧ l.sum ≤ 9 * l.length := by
  induction l with
  | nil => simp
  | cons x l ih =>
    have h1 := h x (by simp)
    have h2 := ih fun y hy => h y (by simp [hy])
    simp only [List.sum_cons, List.length_cons]
    omega
theorem total_bd {n : Nat} {g : Game} (h : Ok n g) : (g.ways.length : Int) ≤ g.total ∧ g.total ≤ 27 := by
  cases n with
  | zero => exact h.elim
  | succ n =>
    cases g with
    | node w ws =>
      have := sum_pos (l := ws.map (·.1)) (by
        intro x hx
        obtain ⟨p, hp, rfl⟩ := List.mem_map.mp hx
        exact (h.2.2 p hp).1)
      rw [List.length_map] at this
      have := h.2.1
      simp only [ways, total]
      omega
theorem total_at {n : Nat} {g : Game} {i : Nat} {x : Int × Game} (h : Ok n g) (hx : g.ways[i]? = some x) : 1 ≤ g.total ∧ g.total ≤ 27 ∧ 1 ≤ x.1 ∧ x.1 ≤ 9 ∧ Ok (n - 1) x.2 := by
  have hb := total_bd h
  have hi := (List.getElem?_eq_some_iff.mp hx).1
  cases n with
  | zero => exact h.elim
  | succ n =>
    cases g with
    | node w ws =>
      have hm := h.2.2 x (List.mem_of_getElem? hx)
      exact ⟨by omega, hb.2, hm.1.1, hm.1.2, hm.2⟩
theorem share_sz {a b : Int} (ha : 1 ≤ a ∧ a ≤ 9) (hb : 1 ≤ b ∧ b ≤ 27) : Sz 5 (Rat.divInt a b) :=
  divInt_sz (by omega) (by show _ < 32; omega) (by show _ < 32; omega)
theorem chance_sz : ∀ {n : Nat} {g : Game} {p : List Nat}, Ok n g → IsPath g p → Sz (1 + 5 * p.length) (chance g p)
  | _, _, [], _, _ => by simp only [chance]; exact ⟨by decide, by decide⟩
  | n, g, i :: p, h, hp => by
    simp only [IsPath] at hp
    simp only [chance]
    cases hx : g.ways[i]? with
    | none => rw [hx] at hp; exact hp.elim
    | some x =>
      rw [hx] at hp
      obtain ⟨t1, t2, a1, a2, hk⟩ := total_at h hx
      exact ((share_sz ⟨a1, a2⟩ ⟨t1, t2⟩).mul (chance_sz hk hp)).mono (by rw [List.length_cons]; omega)
end Game
end Sm
namespace Kx
open PySem PySem.Spec L2 Sm
theorem enc_end (w : Int) : (Game.node w []).enc = .tup [.int w] := by rw [Game.enc]; simp
theorem enc_go (w : Int) (x : Int × Game) (ws : List (Int × Game)) : (Game.node w (x :: ws)).enc = .tup [.int w, .tup ((x :: ws).map fun p => .tup [.int p.1, p.2.enc])] := by rw [Game.enc]; simp
def encW (ws : List (Int × Game)) : List D := ws.map fun p => .tup [.int p.1, p.2.enc]
def encP (p : List Nat) : D := .tup (p.map fun i : Nat => .int (i : Int))
theorem whole_ok (i lo hi : Int) : d_is_whole [.int i, .int lo, .int hi] = .ok (.bl (decide (lo ≤ i) && decide (i ≤ hi))) := by
  by_cases h : lo ≤ i
  · simp only [d_is_whole, b_is_whole, oIsInt, oIsBool, oLe, decide_eq_true h, defD, args, dSeq, dSet, dSetP, dSetN, lstAt, dApp, dAppP, dAsg, dPar, dDrop, dWhile, dIfS, dRet, dB, dCall, dCons, dNil, dVar, dC, dBin, dChain, asB, dTru, dNotT, dAndT, dOrT, dAnd, dOr, dNot, dIf, dUn, dTup, dLst, dItems, dYes, R.bind, R.to, O.seq, outR, ofO, noErr, mask, Sm.putIn, bindPat, bindPats, itemsOf, tru, List.foldr_cons, List.foldr_nil, List.length_cons, List.length_nil, List.map_cons, List.map_nil, List.cons_append, List.nil_append, Nat.sub_self, List.replicate_zero, List.replicate_succ, List.getElem?_cons_succ, List.getElem?_cons_zero, List.set_cons_zero, List.set_cons_succ, Nat.reduceAdd, Nat.reduceSub, ↓reduceIte, Bool.not_true, Bool.not_false, Bool.and_true, Bool.true_and, Bool.false_and, Bool.and_false, if_true, if_false, Bool.false_eq_true, oNeg, oAddI, oSubI, oAdd_ii, oLt, oLe, oGt, oGe, Option.bind_some, Option.map_some]
  · simp only [d_is_whole, b_is_whole, oIsInt, oIsBool, oLe, decide_eq_false h, defD, args, dSeq, dSet, dSetP, dSetN, lstAt, dApp, dAppP, dAsg, dPar, dDrop, dWhile, dIfS, dRet, dB, dCall, dCons, dNil, dVar, dC, dBin, dChain, asB, dTru, dNotT, dAndT, dOrT, dAnd, dOr, dNot, dIf, dUn, dTup, dLst, dItems, dYes, R.bind, R.to, O.seq, outR, ofO, noErr, mask, Sm.putIn, bindPat, bindPats, itemsOf, tru, List.foldr_cons, List.foldr_nil, List.length_cons, List.length_nil, List.map_cons, List.map_nil, List.cons_append, List.nil_append, Nat.sub_self, List.replicate_zero, List.replicate_succ, List.getElem?_cons_succ, List.getElem?_cons_zero, List.set_cons_zero, List.set_cons_succ, Nat.reduceAdd, Nat.reduceSub, ↓reduceIte, Bool.not_true, Bool.not_false, Bool.and_true, Bool.true_and, Bool.false_and, Bool.and_false, if_true, if_false, Bool.false_eq_true, oNeg, oAddI, oSubI, oAdd_ii, oLt, oLe, oGt, oGe, Option.bind_some, Option.map_some]
theorem ways_ok (g : Game) : d_ways_of [g.enc] = .ok (.tup (encW g.ways)) := by
  cases g with
  | node w ws =>
    cases ws with
    | nil =>
      rw [enc_end]
      simp only [d_ways_of, b_ways_of, oLen, oEq_int, Game.ways, encW, defD, args, dSeq, dSet, dSetP, dSetN, lstAt, dApp, dAppP, dAsg, dPar, dDrop, dWhile, dIfS, dRet, dB, dCall, dCons, dNil, dVar, dC, dBin, dChain, asB, dTru, dNotT, dAndT, dOrT, dAnd, dOr, dNot, dIf, dUn, dTup, dLst, dItems, dYes, R.bind, R.to, O.seq, outR, ofO, noErr, mask, Sm.putIn, bindPat, bindPats, itemsOf, tru, List.foldr_cons, List.foldr_nil, List.length_cons, List.length_nil, List.map_cons, List.map_nil, List.cons_append, List.nil_append, Nat.sub_self, List.replicate_zero, List.replicate_succ, List.getElem?_cons_succ, List.getElem?_cons_zero, List.set_cons_zero, List.set_cons_succ, Nat.reduceAdd, Nat.reduceSub, ↓reduceIte, Bool.not_true, Bool.not_false, Bool.and_true, Bool.true_and, Bool.false_and, Bool.and_false, if_true, if_false, Bool.false_eq_true, oNeg, oAddI, oSubI, oAdd_ii, oLt, oLe, oGt, oGe, Option.bind_some, Option.map_some]
      rfl
    | cons x ws =>
      rw [enc_go]
      simp only [d_ways_of, b_ways_of, oLen, oEq_int, Game.ways, encW, oIx_t1, defD, args, dSeq, dSet, dSetP, dSetN, lstAt, dApp, dAppP, dAsg, dPar, dDrop, dWhile, dIfS, dRet, dB, dCall, dCons, dNil, dVar, dC, dBin, dChain, asB, dTru, dNotT, dAndT, dOrT, dAnd, dOr, dNot, dIf, dUn, dTup, dLst, dItems, dYes, R.bind, R.to, O.seq, outR, ofO, noErr, mask, Sm.putIn, bindPat, bindPats, itemsOf, tru, List.foldr_cons, List.foldr_nil, List.length_cons, List.length_nil, List.map_cons, List.map_nil, List.cons_append, List.nil_append, Nat.sub_self, List.replicate_zero, List.replicate_succ, List.getElem?_cons_succ, List.getElem?_cons_zero, List.set_cons_zero, List.set_cons_succ, Nat.reduceAdd, Nat.reduceSub, ↓reduceIte, Bool.not_true, Bool.not_false, Bool.and_true, Bool.true_and, Bool.false_and, Bool.and_false, if_true, if_false, Bool.false_eq_true, oNeg, oAddI, oSubI, oAdd_ii, oLt, oLe, oGt, oGe, Option.bind_some, Option.map_some]
      rfl
theorem end_ok (g : Game) : d_is_end [g.enc] = .ok (.bl (decide (g.ways = []))) := by
  cases g with
  | node w ws =>
    cases ws with
    | nil =>
      rw [enc_end]
      simp only [d_is_end, b_is_end, oLen, oEq_int, Game.ways, defD, args, dSeq, dSet, dSetP, dSetN, lstAt, dApp, dAppP, dAsg, dPar, dDrop, dWhile, dIfS, dRet, dB, dCall, dCons, dNil, dVar, dC, dBin, dChain, asB, dTru, dNotT, dAndT, dOrT, dAnd, dOr, dNot, dIf, dUn, dTup, dLst, dItems, dYes, R.bind, R.to, O.seq, outR, ofO, noErr, mask, Sm.putIn, bindPat, bindPats, itemsOf, tru, List.foldr_cons, List.foldr_nil, List.length_cons, List.length_nil, List.map_cons, List.map_nil, List.cons_append, List.nil_append, Nat.sub_self, List.replicate_zero, List.replicate_succ, List.getElem?_cons_succ, List.getElem?_cons_zero, List.set_cons_zero, List.set_cons_succ, Nat.reduceAdd, Nat.reduceSub, ↓reduceIte, Bool.not_true, Bool.not_false, Bool.and_true, Bool.true_and, Bool.false_and, Bool.and_false, if_true, if_false, Bool.false_eq_true, oNeg, oAddI, oSubI, oAdd_ii, oLt, oLe, oGt, oGe, Option.bind_some, Option.map_some]
      rfl
    | cons x ws =>
      rw [enc_go]
      simp only [d_is_end, b_is_end, oLen, oEq_int, Game.ways, defD, args, dSeq, dSet, dSetP, dSetN, lstAt, dApp, dAppP, dAsg, dPar, dDrop, dWhile, dIfS, dRet, dB, dCall, dCons, dNil, dVar, dC, dBin, dChain, asB, dTru, dNotT, dAndT, dOrT, dAnd, dOr, dNot, dIf, dUn, dTup, dLst, dItems, dYes, R.bind, R.to, O.seq, outR, ofO, noErr, mask, Sm.putIn, bindPat, bindPats, itemsOf, tru, List.foldr_cons, List.foldr_nil, List.length_cons, List.length_nil, List.map_cons, List.map_nil, List.cons_append, List.nil_append, Nat.sub_self, List.replicate_zero, List.replicate_succ, List.getElem?_cons_succ, List.getElem?_cons_zero, List.set_cons_zero, List.set_cons_succ, Nat.reduceAdd, Nat.reduceSub, ↓reduceIte, Bool.not_true, Bool.not_false, Bool.and_true, Bool.true_and, Bool.false_and, Bool.and_false, if_true, if_false, Bool.false_eq_true, oNeg, oAddI, oSubI, oAdd_ii, oLt, oLe, oGt, oGe, Option.bind_some, Option.map_some]
      rfl
theorem ix0_ok (g : Game) : oIx g.enc (.int 0) = some (.int g.worth) := by
  cases g with
  | node w ws =>
    cases ws with
    | nil => rw [enc_end]; exact oIx_t0 _ _
    | cons x ws => rw [enc_go]; exact oIx_t0 _ _
theorem encW_at {ws : List (Int × Game)} {i : Nat} {x : Int × Game} (h : ws[i]? = some x) : oIx (.tup (encW ws)) (.int (i : Int)) = some (.tup [.int x.1, x.2.enc]) := by
  have hl : i < (encW ws).length := by
    unfold encW; rw [List.length_map]; exact (List.getElem?_eq_some_iff.mp h).1
  show atI (encW ws) (i : Int) = _
  rw [atI_nat' hl]
  unfold encW
  rw [List.getElem?_map, h]; rfl
theorem all_true {α : Type} (l : List α) : oAll [.lst (l.map fun _ => D.bl true)] = some (.bl true) := by
  have bo : boolsOf (l.map fun _ => D.bl true) = some (l.map fun _ => true) := by
    induction l with
    | nil => rfl
    | cons a l ih => simp only [List.map_cons, boolsOf, ih, Option.map_some]
  simp only [oAll, bo, Option.map_some]
  simp
theorem game_in_ok : ∀ (n : Nat) (g : Game) (deep : Nat), deep < n → g.Ok deep → d_is_game_in n [g.enc, .int (deep : Int)] = .ok (.bl true)
  | 0, _, _, h, _ => by omega
  | n + 1, .node w ws, 0, _, h => h.elim
  | n + 1, .node w ws, deep + 1, hn, h => by
    have d0 : (((deep + 1 : Nat) : Int) == 0) = false := by simp; omega
    have wh := whole_ok w (0 - 20) 20
    rw [decide_eq_true (show 0 - 20 ≤ w by have := h.1.1; omega), decide_eq_true h.1.2] at wh
    refine defD_eq rfl ?_
    unfold b_is_game_in
    cases ws with
    | nil =>
      rw [enc_end]
      simp only [oEq_int, d0, oIsTup, oIx_t0, wh, oLen, List.isEmpty, defD, args, dSeq, dSet, dSetP, dSetN, lstAt, dApp, dAppP, dAsg, dPar, dDrop, dWhile, dIfS, dRet, dB, dCall, dCons, dNil, dVar, dC, dBin, dChain, asB, dTru, dNotT, dAndT, dOrT, dAnd, dOr, dNot, dIf, dUn, dTup, dLst, dItems, dYes, R.bind, R.to, O.seq, outR, ofO, noErr, mask, Sm.putIn, bindPat, bindPats, itemsOf, tru, List.foldr_cons, List.foldr_nil, List.length_cons, List.length_nil, List.map_cons, List.map_nil, List.cons_append, List.nil_append, Nat.sub_self, List.replicate_zero, List.replicate_succ, List.getElem?_cons_succ, List.getElem?_cons_zero, List.set_cons_zero, List.set_cons_succ, Nat.reduceAdd, Nat.reduceSub, ↓reduceIte, Bool.not_true, Bool.not_false, Bool.and_true, Bool.true_and, Bool.false_and, Bool.and_false, if_true, if_false, Bool.false_eq_true, oNeg, oAddI, oSubI, oAdd_ii, oLt, oLe, oGt, oGe, Option.bind_some, Option.map_some]
      simp
    | cons x ws =>
      rw [enc_go]
      have hl : (x :: ws).length ≤ 3 := h.2.1
      have hlen : ((x :: ws).map fun p => D.tup [.int p.1, p.2.enc]).length = (x :: ws).length := List.length_map ..
      generalize hE : ((x :: ws).map fun p => D.tup [.int p.1, p.2.enc]) = E at *
      refine out_seq (ρ1 := [some (.tup [.int w, .tup E]), some (.int ((deep + 1 : Nat) : Int)), none]) ?_ ?_
      · simp only [oEq_int, d0, oIsTup, oIx_t0, wh, oLen, List.isEmpty, defD, args, dSeq, dSet, dSetP, dSetN, lstAt, dApp, dAppP, dAsg, dPar, dDrop, dWhile, dIfS, dRet, dB, dCall, dCons, dNil, dVar, dC, dBin, dChain, asB, dTru, dNotT, dAndT, dOrT, dAnd, dOr, dNot, dIf, dUn, dTup, dLst, dItems, dYes, R.bind, R.to, O.seq, outR, ofO, noErr, mask, Sm.putIn, bindPat, bindPats, itemsOf, tru, List.foldr_cons, List.foldr_nil, List.length_cons, List.length_nil, List.map_cons, List.map_nil, List.cons_append, List.nil_append, Nat.sub_self, List.replicate_zero, List.replicate_succ, List.getElem?_cons_succ, List.getElem?_cons_zero, List.set_cons_zero, List.set_cons_succ, Nat.reduceAdd, Nat.reduceSub, ↓reduceIte, Bool.not_true, Bool.not_false, Bool.and_true, Bool.true_and, Bool.false_and, Bool.and_false, if_true, if_false, Bool.false_eq_true, oNeg, oAddI, oSubI, oAdd_ii, oLt, oLe, oGt, oGe, Option.bind_some, Option.map_some]
      refine out_seq (ρ1 := [some (.tup [.int w, .tup E]), some (.int ((deep + 1 : Nat) : Int)), none]) ?_ ?_
      · simp only [oEq_int, oLen, show ((((2 : Nat) : Int)) == 1) = false by decide, defD, args, dSeq, dSet, dSetP, dSetN, lstAt, dApp, dAppP, dAsg, dPar, dDrop, dWhile, dIfS, dRet, dB, dCall, dCons, dNil, dVar, dC, dBin, dChain, asB, dTru, dNotT, dAndT, dOrT, dAnd, dOr, dNot, dIf, dUn, dTup, dLst, dItems, dYes, R.bind, R.to, O.seq, outR, ofO, noErr, mask, Sm.putIn, bindPat, bindPats, itemsOf, tru, List.foldr_cons, List.foldr_nil, List.length_cons, List.length_nil, List.map_cons, List.map_nil, List.cons_append, List.nil_append, Nat.sub_self, List.replicate_zero, List.replicate_succ, List.getElem?_cons_succ, List.getElem?_cons_zero, List.set_cons_zero, List.set_cons_succ, Nat.reduceAdd, Nat.reduceSub, ↓reduceIte, Bool.not_true, Bool.not_false, Bool.and_true, Bool.true_and, Bool.false_and, Bool.and_false, if_true, if_false, Bool.false_eq_true, oNeg, oAddI, oSubI, oAdd_ii, oLt, oLe, oGt, oGe, Option.bind_some, Option.map_some]
      refine out_seq (ρ1 := [some (.tup [.int w, .tup E]), some (.int ((deep + 1 : Nat) : Int)), none]) ?_ ?_
      · have l1 : (1 : Int) ≤ (E.length : Int) := by rw [hlen]; simp; omega
        have l3 : (E.length : Int) ≤ 3 := by omega
        simp only [oNe_int, oLen, oIx_t1, oIsTup, show ((((2 : Nat) : Int)) == 2) = true by decide, decide_eq_true l1, decide_eq_true l3, defD, args, dSeq, dSet, dSetP, dSetN, lstAt, dApp, dAppP, dAsg, dPar, dDrop, dWhile, dIfS, dRet, dB, dCall, dCons, dNil, dVar, dC, dBin, dChain, asB, dTru, dNotT, dAndT, dOrT, dAnd, dOr, dNot, dIf, dUn, dTup, dLst, dItems, dYes, R.bind, R.to, O.seq, outR, ofO, noErr, mask, Sm.putIn, bindPat, bindPats, itemsOf, tru, List.foldr_cons, List.foldr_nil, List.length_cons, List.length_nil, List.map_cons, List.map_nil, List.cons_append, List.nil_append, Nat.sub_self, List.replicate_zero, List.replicate_succ, List.getElem?_cons_succ, List.getElem?_cons_zero, List.set_cons_zero, List.set_cons_succ, Nat.reduceAdd, Nat.reduceSub, ↓reduceIte, Bool.not_true, Bool.not_false, Bool.and_true, Bool.true_and, Bool.false_and, Bool.and_false, if_true, if_false, Bool.false_eq_true, oNeg, oAddI, oSubI, oAdd_ii, oLt, oLe, oGt, oGe, Option.bind_some, Option.map_some]
      refine for_out (ds := E) (fun ρ => ∃ y, ρ = [some (.tup [.int w, .tup E]), some (.int ((deep + 1 : Nat) : Int)), y]) ?_ ⟨none, rfl⟩ ?_ ?_
      · simp only [oIx_t1, defD, args, dSeq, dSet, dSetP, dSetN, lstAt, dApp, dAppP, dAsg, dPar, dDrop, dWhile, dIfS, dRet, dB, dCall, dCons, dNil, dVar, dC, dBin, dChain, asB, dTru, dNotT, dAndT, dOrT, dAnd, dOr, dNot, dIf, dUn, dTup, dLst, dItems, dYes, R.bind, R.to, O.seq, outR, ofO, noErr, mask, Sm.putIn, bindPat, bindPats, itemsOf, tru, List.foldr_cons, List.foldr_nil, List.length_cons, List.length_nil, List.map_cons, List.map_nil, List.cons_append, List.nil_append, Nat.sub_self, List.replicate_zero, List.replicate_succ, List.getElem?_cons_succ, List.getElem?_cons_zero, List.set_cons_zero, List.set_cons_succ, Nat.reduceAdd, Nat.reduceSub, ↓reduceIte, Bool.not_true, Bool.not_false, Bool.and_true, Bool.true_and, Bool.false_and, Bool.and_false, if_true, if_false, Bool.false_eq_true, oNeg, oAddI, oSubI, oAdd_ii, oLt, oLe, oGt, oGe, Option.bind_some, Option.map_some]
      · rintro d ρ hd ⟨y, rfl⟩
        rw [← hE] at hd
        obtain ⟨p, hp, rfl⟩ := List.mem_map.mp hd
        have wk := whole_ok p.1 1 9
        rw [decide_eq_true (h.2.2 p hp).1.1, decide_eq_true (h.2.2 p hp).1.2] at wk
        refine ⟨_, _, rfl, ?_, some (.tup [.int p.1, p.2.enc]), rfl⟩
        simp only [oIsTup, oNe_int, oLen, oIx_t0, wk, show ((((2 : Nat) : Int)) == 2) = true by decide, defD, args, dSeq, dSet, dSetP, dSetN, lstAt, dApp, dAppP, dAsg, dPar, dDrop, dWhile, dIfS, dRet, dB, dCall, dCons, dNil, dVar, dC, dBin, dChain, asB, dTru, dNotT, dAndT, dOrT, dAnd, dOr, dNot, dIf, dUn, dTup, dLst, dItems, dYes, R.bind, R.to, O.seq, outR, ofO, noErr, mask, Sm.putIn, bindPat, bindPats, itemsOf, tru, List.foldr_cons, List.foldr_nil, List.length_cons, List.length_nil, List.map_cons, List.map_nil, List.cons_append, List.nil_append, Nat.sub_self, List.replicate_zero, List.replicate_succ, List.getElem?_cons_succ, List.getElem?_cons_zero, List.set_cons_zero, List.set_cons_succ, Nat.reduceAdd, Nat.reduceSub, ↓reduceIte, Bool.not_true, Bool.not_false, Bool.and_true, Bool.true_and, Bool.false_and, Bool.and_false, if_true, if_false, Bool.false_eq_true, oNeg, oAddI, oSubI, oAdd_ii, oLt, oLe, oGt, oGe, Option.bind_some, Option.map_some]
      · rintro ρ' ⟨y, rfl⟩
        have lc : dLcs [2] (.v 2) (dItems (dBin oIx (dVar 0) (dC (.int 1)))) dYes (dCall (d_is_game_in n) (dCons (dBin oIx (dVar 2) (dC (.int 1))) (dCons (dBin oSubI (dVar 1) (dC (.int 1))) dNil))) [some (.tup [.int w, .tup E]), some (.int ((deep + 1 : Nat) : Int)), y] = .ok ((x :: ws).map fun _ => D.bl true) := by
          refine lc_ok1 (enc := fun p : Int × Game => D.tup [.int p.1, p.2.enc]) _ ?_ fun p hp => ⟨_, rfl, ?_⟩
          · simp only [oIx_t1, hE, defD, args, dSeq, dSet, dSetP, dSetN, lstAt, dApp, dAppP, dAsg, dPar, dDrop, dWhile, dIfS, dRet, dB, dCall, dCons, dNil, dVar, dC, dBin, dChain, asB, dTru, dNotT, dAndT, dOrT, dAnd, dOr, dNot, dIf, dUn, dTup, dLst, dItems, dYes, R.bind, R.to, O.seq, outR, ofO, noErr, mask, Sm.putIn, bindPat, bindPats, itemsOf, tru, List.foldr_cons, List.foldr_nil, List.length_cons, List.length_nil, List.map_cons, List.map_nil, List.cons_append, List.nil_append, Nat.sub_self, List.replicate_zero, List.replicate_succ, List.getElem?_cons_succ, List.getElem?_cons_zero, List.set_cons_zero, List.set_cons_succ, Nat.reduceAdd, Nat.reduceSub, ↓reduceIte, Bool.not_true, Bool.not_false, Bool.and_true, Bool.true_and, Bool.false_and, Bool.and_false, if_true, if_false, Bool.false_eq_true, oNeg, oAddI, oSubI, oAdd_ii, oLt, oLe, oGt, oGe, Option.bind_some, Option.map_some]
          · have ih := game_in_ok n p.2 deep (by omega) (h.2.2 p hp).2
            simp only [oIx_t1, show ((deep + 1 : Nat) : Int) - 1 = (deep : Int) by omega, ih, defD, args, dSeq, dSet, dSetP, dSetN, lstAt, dApp, dAppP, dAsg, dPar, dDrop, dWhile, dIfS, dRet, dB, dCall, dCons, dNil, dVar, dC, dBin, dChain, asB, dTru, dNotT, dAndT, dOrT, dAnd, dOr, dNot, dIf, dUn, dTup, dLst, dItems, dYes, R.bind, R.to, O.seq, outR, ofO, noErr, mask, Sm.putIn, bindPat, bindPats, itemsOf, tru, List.foldr_cons, List.foldr_nil, List.length_cons, List.length_nil, List.map_cons, List.map_nil, List.cons_append, List.nil_append, Nat.sub_self, List.replicate_zero, List.replicate_succ, List.getElem?_cons_succ, List.getElem?_cons_zero, List.set_cons_zero, List.set_cons_succ, Nat.reduceAdd, Nat.reduceSub, ↓reduceIte, Bool.not_true, Bool.not_false, Bool.and_true, Bool.true_and, Bool.false_and, Bool.and_false, if_true, if_false, Bool.false_eq_true, oNeg, oAddI, oSubI, oAdd_ii, oLt, oLe, oGt, oGe, Option.bind_some, Option.map_some]
        have al := all_true (x :: ws)
        generalize ((x :: ws).map fun _ => D.bl true) = L at *
        simp only [dLc, lc, al, defD, args, dSeq, dSet, dSetP, dSetN, lstAt, dApp, dAppP, dAsg, dPar, dDrop, dWhile, dIfS, dRet, dB, dCall, dCons, dNil, dVar, dC, dBin, dChain, asB, dTru, dNotT, dAndT, dOrT, dAnd, dOr, dNot, dIf, dUn, dTup, dLst, dItems, dYes, R.bind, R.to, O.seq, outR, ofO, noErr, mask, Sm.putIn, bindPat, bindPats, itemsOf, tru, List.foldr_cons, List.foldr_nil, List.length_cons, List.length_nil, List.map_cons, List.map_nil, List.cons_append, List.nil_append, Nat.sub_self, List.replicate_zero, List.replicate_succ, List.getElem?_cons_succ, List.getElem?_cons_zero, List.set_cons_zero, List.set_cons_succ, Nat.reduceAdd, Nat.reduceSub, ↓reduceIte, Bool.not_true, Bool.not_false, Bool.and_true, Bool.true_and, Bool.false_and, Bool.and_false, if_true, if_false, Bool.false_eq_true, oNeg, oAddI, oSubI, oAdd_ii, oLt, oLe, oGt, oGe, Option.bind_some, Option.map_some]
theorem game_ok {g : Game} (h : g.Ok 4) : d_is_game [g.enc] = .ok (.bl true) := by
  have := game_in_ok 8 g 4 (by decide) h
  simp only [d_is_game, b_is_game, show d_is_game_in 8 [g.enc, .int 4] = _ from this, defD, args, dSeq, dSet, dSetP, dSetN, lstAt, dApp, dAppP, dAsg, dPar, dDrop, dWhile, dIfS, dRet, dB, dCall, dCons, dNil, dVar, dC, dBin, dChain, asB, dTru, dNotT, dAndT, dOrT, dAnd, dOr, dNot, dIf, dUn, dTup, dLst, dItems, dYes, R.bind, R.to, O.seq, outR, ofO, noErr, mask, Sm.putIn, bindPat, bindPats, itemsOf, tru, List.foldr_cons, List.foldr_nil, List.length_cons, List.length_nil, List.map_cons, List.map_nil, List.cons_append, List.nil_append, Nat.sub_self, List.replicate_zero, List.replicate_succ, List.getElem?_cons_succ, List.getElem?_cons_zero, List.set_cons_zero, List.set_cons_succ, Nat.reduceAdd, Nat.reduceSub, ↓reduceIte, Bool.not_true, Bool.not_false, Bool.and_true, Bool.true_and, Bool.false_and, Bool.and_false, if_true, if_false, Bool.false_eq_true, oNeg, oAddI, oSubI, oAdd_ii, oLt, oLe, oGt, oGe, Option.bind_some, Option.map_some]
theorem look_ok {g : Game} (h : g.Ok 4) : d_look_game [g.enc] = .ok .non := by
  simp only [d_look_game, b_look_game, game_ok h, defD, args, dSeq, dSet, dSetP, dSetN, lstAt, dApp, dAppP, dAsg, dPar, dDrop, dWhile, dIfS, dRet, dB, dCall, dCons, dNil, dVar, dC, dBin, dChain, asB, dTru, dNotT, dAndT, dOrT, dAnd, dOr, dNot, dIf, dUn, dTup, dLst, dItems, dYes, R.bind, R.to, O.seq, outR, ofO, noErr, mask, Sm.putIn, bindPat, bindPats, itemsOf, tru, List.foldr_cons, List.foldr_nil, List.length_cons, List.length_nil, List.map_cons, List.map_nil, List.cons_append, List.nil_append, Nat.sub_self, List.replicate_zero, List.replicate_succ, List.getElem?_cons_succ, List.getElem?_cons_zero, List.set_cons_zero, List.set_cons_succ, Nat.reduceAdd, Nat.reduceSub, ↓reduceIte, Bool.not_true, Bool.not_false, Bool.and_true, Bool.true_and, Bool.false_and, Bool.and_false, if_true, if_false, Bool.false_eq_true, oNeg, oAddI, oSubI, oAdd_ii, oLt, oLe, oGt, oGe, Option.bind_some, Option.map_some]
theorem part_ok1 : ∀ (p : List Nat) (g : Game) (x1 x2 : Option D), g.IsPath p → ∃ y, forGo (.v 2) (dSet [] 0 (dBin oIx (dBin oIx (dCall d_ways_of (dCons (dVar 0) dNil)) (dVar 2)) (dC (.int 1)))) (p.map fun i : Nat => D.int (i : Int)) [some g.enc, x1, x2] = .nx [some (g.part p).enc, x1, y]
  | [], g, x1, x2, _ => ⟨x2, rfl⟩
  | i :: p, g, x1, x2, h => by
    simp only [Game.IsPath] at h
    simp only [Game.part]
    cases hx : g.ways[i]? with
    | none => rw [hx] at h; exact h.elim
    | some x =>
      rw [hx] at h
      obtain ⟨y, e⟩ := part_ok1 p x.2 x1 (some (.int (i : Int))) h
      refine ⟨y, ?_⟩
      simp only [forGo, ways_ok, encW_at hx, oIx_t1, defD, args, dSeq, dSet, dSetP, dSetN, lstAt, dApp, dAppP, dAsg, dPar, dDrop, dWhile, dIfS, dRet, dB, dCall, dCons, dNil, dVar, dC, dBin, dChain, asB, dTru, dNotT, dAndT, dOrT, dAnd, dOr, dNot, dIf, dUn, dTup, dLst, dItems, dYes, R.bind, R.to, O.seq, outR, ofO, noErr, mask, Sm.putIn, bindPat, bindPats, itemsOf, tru, List.foldr_cons, List.foldr_nil, List.length_cons, List.length_nil, List.map_cons, List.map_nil, List.cons_append, List.nil_append, Nat.sub_self, List.replicate_zero, List.replicate_succ, List.getElem?_cons_succ, List.getElem?_cons_zero, List.set_cons_zero, List.set_cons_succ, Nat.reduceAdd, Nat.reduceSub, ↓reduceIte, Bool.not_true, Bool.not_false, Bool.and_true, Bool.true_and, Bool.false_and, Bool.and_false, if_true, if_false, Bool.false_eq_true, oNeg, oAddI, oSubI, oAdd_ii, oLt, oLe, oGt, oGe, Option.bind_some, Option.map_some]
      exact e
theorem part_of_ok {g : Game} {p : List Nat} (h : g.IsPath p) : d_part_of [g.enc, encP p] = .ok (g.part p).enc := by
  obtain ⟨y, e⟩ := part_ok1 p g (some (encP p)) none h
  refine defD_eq rfl ?_
  unfold b_part_of
  refine out_seq (ρ1 := [some (g.part p).enc, some (encP p), y]) ?_ (ret_of ?_)
  · unfold dFor
    simp only [encP, defD, args, dSeq, dSet, dSetP, dSetN, lstAt, dApp, dAppP, dAsg, dPar, dDrop, dWhile, dIfS, dRet, dB, dCall, dCons, dNil, dVar, dC, dBin, dChain, asB, dTru, dNotT, dAndT, dOrT, dAnd, dOr, dNot, dIf, dUn, dTup, dLst, dItems, dYes, R.bind, R.to, O.seq, outR, ofO, noErr, mask, Sm.putIn, bindPat, bindPats, itemsOf, tru, List.foldr_cons, List.foldr_nil, List.length_cons, List.length_nil, List.map_cons, List.map_nil, List.cons_append, List.nil_append, Nat.sub_self, List.replicate_zero, List.replicate_succ, List.getElem?_cons_succ, List.getElem?_cons_zero, List.set_cons_zero, List.set_cons_succ, Nat.reduceAdd, Nat.reduceSub, ↓reduceIte, Bool.not_true, Bool.not_false, Bool.and_true, Bool.true_and, Bool.false_and, Bool.and_false, if_true, if_false, Bool.false_eq_true, oNeg, oAddI, oSubI, oAdd_ii, oLt, oLe, oGt, oGe, Option.bind_some, Option.map_some]
    exact e
  · simp only [defD, args, dSeq, dSet, dSetP, dSetN, lstAt, dApp, dAppP, dAsg, dPar, dDrop, dWhile, dIfS, dRet, dB, dCall, dCons, dNil, dVar, dC, dBin, dChain, asB, dTru, dNotT, dAndT, dOrT, dAnd, dOr, dNot, dIf, dUn, dTup, dLst, dItems, dYes, R.bind, R.to, O.seq, outR, ofO, noErr, mask, Sm.putIn, bindPat, bindPats, itemsOf, tru, List.foldr_cons, List.foldr_nil, List.length_cons, List.length_nil, List.map_cons, List.map_nil, List.cons_append, List.nil_append, Nat.sub_self, List.replicate_zero, List.replicate_succ, List.getElem?_cons_succ, List.getElem?_cons_zero, List.set_cons_zero, List.set_cons_succ, Nat.reduceAdd, Nat.reduceSub, ↓reduceIte, Bool.not_true, Bool.not_false, Bool.and_true, Bool.true_and, Bool.false_and, Bool.and_false, if_true, if_false, Bool.false_eq_true, oNeg, oAddI, oSubI, oAdd_ii, oLt, oLe, oGt, oGe, Option.bind_some, Option.map_some]
theorem enum_it {g : DA} {ρ : Sm.Env} {ds : List D} (hg : g ρ = .ok [.tup ds]) : dRng enumD g ρ = .ok (enumFrom 0 ds) := by
  unfold dRng; rw [hg]; rfl
theorem enum_itL {g : DA} {ρ : Sm.Env} {ds : List D} (hg : g ρ = .ok [.lst ds]) : dRng enumD g ρ = .ok (enumFrom 0 ds) := by
  unfold dRng; rw [hg]; rfl
def pathsB (self : List D → R D) : DS := dExt [1] 1 (dLc [5] (.v 5) (dItems (dCall self (dCons (dVar 4) dNil))) dYes (dBin oAdd (dTup (dCons (dVar 2) dNil)) (dVar 5)))
theorem most_ge : ∀ n, n ≤ Game.most n
  | 0 => Nat.le_refl _
  | n + 1 => by have := most_ge n; simp only [Game.most]; omega
theorem sizeLine_big : (100000 : Nat) ≤ sizeLine := by decide
theorem paths_loop (n d : Nat) (x0 : Option D) (hn : ∀ g : Game, g.Ok d → d_paths_of n [g.enc] = .ok (.lst (g.paths.map encP))) (hm : Game.most d ≤ 1000) : ∀ (ws : List (Int × Game)) (k : Nat) (acc : List (List Nat)) (x2 x3 x4 x5 : Option D), (∀ p ∈ ws, p.2.Ok d) → acc.length + ws.length * 1000 ≤ 9000 →
    ∃ y2 y3 y4 y5, forGo (.t [(.v 2), (.t [(.v 3), (.v 4)])]) (pathsB (d_paths_of n)) (enumFrom k (encW ws)) [x0, some (.lst (acc.map encP)), x2, x3, x4, x5] = .nx [x0, some (.lst ((acc ++ Game.idxs k (ws.map fun p => p.2.paths)).map encP)), y2, y3, y4, y5]
  | [], k, acc, x2, x3, x4, x5, _, _ => ⟨x2, x3, x4, x5, by simp [encW, enumFrom, forGo, Game.idxs]⟩
  | x :: ws, k, acc, x2, x3, x4, x5, hw, hs => by
    have hx := hw x (by simp)
    have pl := Game.paths_len hx
    rw [List.length_cons] at hs
    obtain ⟨y2, y3, y4, y5, e⟩ := paths_loop n d x0 hn hm ws (k + 1) (acc ++ x.2.paths.map (k :: ·)) (some (.int (k : Int))) (some (.int x.1)) (some x.2.enc) x5 (fun p hp => hw p (by simp [hp])) (by rw [List.length_append, List.length_map]; omega)
    refine ⟨y2, y3, y4, y5, ?_⟩
    have lc : dLcs [5] (.v 5) (dItems (dCall (d_paths_of n) (dCons (dVar 4) dNil))) dYes (dBin oAdd (dTup (dCons (dVar 2) dNil)) (dVar 5)) [x0, none, some (.int (k : Int)), some (.int x.1), some x.2.enc, x5] = .ok ((x.2.paths.map (k :: ·)).map encP) := by
      have := lc_ok1 (vs := [5]) (pt := .v 5) (it := dItems (dCall (d_paths_of n) (dCons (dVar 4) dNil))) (fe := dBin oAdd (dTup (dCons (dVar 2) dNil)) (dVar 5)) (ρ := [x0, none, some (.int (k : Int)), some (.int x.1), some x.2.enc, x5]) (xs := x.2.paths) (enc := encP) (fun p => encP (k :: p)) (by simp only [hn x.2 hx, defD, args, dSeq, dSet, dSetP, dSetN, lstAt, dApp, dAppP, dAsg, dPar, dDrop, dWhile, dIfS, dRet, dB, dCall, dCons, dNil, dVar, dC, dBin, dChain, asB, dTru, dNotT, dAndT, dOrT, dAnd, dOr, dNot, dIf, dUn, dTup, dLst, dItems, dYes, R.bind, R.to, O.seq, outR, ofO, noErr, mask, Sm.putIn, bindPat, bindPats, itemsOf, tru, List.foldr_cons, List.foldr_nil, List.length_cons, List.length_nil, List.map_cons, List.map_nil, List.cons_append, List.nil_append, Nat.sub_self, List.replicate_zero, List.replicate_succ, List.getElem?_cons_succ, List.getElem?_cons_zero, List.set_cons_zero, List.set_cons_succ, Nat.reduceAdd, Nat.reduceSub, ↓reduceIte, Bool.not_true, Bool.not_false, Bool.and_true, Bool.true_and, Bool.false_and, Bool.and_false, if_true, if_false, Bool.false_eq_true, oNeg, oAddI, oSubI, oAdd_ii, oLt, oLe, oGt, oGe, Option.bind_some, Option.map_some]) fun p hp => ⟨_, rfl, by
        have hl : 1 + p.length ≤ sizeLine := by
          have := (Game.part_ok hx ((Game.mem_paths _ _).mp hp)).2
          have : d ≤ 1000 := Nat.le_trans (most_ge d) hm
          exact Nat.le_trans (by omega) sizeLine_big
        have oc : oAdd (.tup [.int (k : Int)]) (encP p) = some (encP (k :: p)) := by
          unfold encP
          simp only [oAdd, List.length_cons, List.length_nil, List.length_map]
          rw [if_pos (by omega)]
          rfl
        simp only [oc, defD, args, dSeq, dSet, dSetP, dSetN, lstAt, dApp, dAppP, dAsg, dPar, dDrop, dWhile, dIfS, dRet, dB, dCall, dCons, dNil, dVar, dC, dBin, dChain, asB, dTru, dNotT, dAndT, dOrT, dAnd, dOr, dNot, dIf, dUn, dTup, dLst, dItems, dYes, R.bind, R.to, O.seq, outR, ofO, noErr, mask, Sm.putIn, bindPat, bindPats, itemsOf, tru, List.foldr_cons, List.foldr_nil, List.length_cons, List.length_nil, List.map_cons, List.map_nil, List.cons_append, List.nil_append, Nat.sub_self, List.replicate_zero, List.replicate_succ, List.getElem?_cons_succ, List.getElem?_cons_zero, List.set_cons_zero, List.set_cons_succ, Nat.reduceAdd, Nat.reduceSub, ↓reduceIte, Bool.not_true, Bool.not_false, Bool.and_true, Bool.true_and, Bool.false_and, Bool.and_false, if_true, if_false, Bool.false_eq_true, oNeg, oAddI, oSubI, oAdd_ii, oLt, oLe, oGt, oGe, Option.bind_some, Option.map_some]⟩
      rw [this, List.map_map]; rfl
    have hz : (acc.map encP).length + ((x.2.paths.map (k :: ·)).map encP).length ≤ sizeLine := by
      rw [List.length_map, List.length_map, List.length_map]
      exact Nat.le_trans (by omega) sizeLine_big
    rw [show enumFrom k (encW (x :: ws)) = .tup [.int (k : Int), .tup [.int x.1, x.2.enc]] :: enumFrom (k + 1) (encW ws) from rfl]
    have st : pathsB (d_paths_of n) [x0, some (.lst (acc.map encP)), some (.int (k : Int)), some (.int x.1), some x.2.enc, x5] = .nx [x0, some (.lst ((acc ++ x.2.paths.map (k :: ·)).map encP)), some (.int (k : Int)), some (.int x.1), some x.2.enc, x5] := by
      rw [List.map_append]
      generalize (x.2.paths.map (k :: ·)).map encP = P at *
      simp only [pathsB, dExt, dLc, lc, if_pos hz, defD, args, dSeq, dSet, dSetP, dSetN, lstAt, dApp, dAppP, dAsg, dPar, dDrop, dWhile, dIfS, dRet, dB, dCall, dCons, dNil, dVar, dC, dBin, dChain, asB, dTru, dNotT, dAndT, dOrT, dAnd, dOr, dNot, dIf, dUn, dTup, dLst, dItems, dYes, R.bind, R.to, O.seq, outR, ofO, noErr, mask, Sm.putIn, bindPat, bindPats, itemsOf, tru, List.foldr_cons, List.foldr_nil, List.length_cons, List.length_nil, List.map_cons, List.map_nil, List.cons_append, List.nil_append, Nat.sub_self, List.replicate_zero, List.replicate_succ, List.getElem?_cons_succ, List.getElem?_cons_zero, List.set_cons_zero, List.set_cons_succ, Nat.reduceAdd, Nat.reduceSub, ↓reduceIte, Bool.not_true, Bool.not_false, Bool.and_true, Bool.true_and, Bool.false_and, Bool.and_false, if_true, if_false, Bool.false_eq_true, oNeg, oAddI, oSubI, oAdd_ii, oLt, oLe, oGt, oGe, Option.bind_some, Option.map_some]
    unfold forGo
    rw [show bindPat (.t [(.v 2), (.t [(.v 3), (.v 4)])]) (.tup [.int (k : Int), .tup [.int x.1, x.2.enc]]) [x0, some (.lst (acc.map encP)), x2, x3, x4, x5] = some [x0, some (.lst (acc.map encP)), some (.int (k : Int)), some (.int x.1), some x.2.enc, x5] from rfl]
    simp only [st, O.seq]
    rw [e]
    simp only [Game.idxs, List.map_cons, List.append_assoc]
theorem most_small {d : Nat} (h : d ≤ 5) : Game.most d ≤ 1000 := by
  have : d = 0 ∨ d = 1 ∨ d = 2 ∨ d = 3 ∨ d = 4 ∨ d = 5 := by omega
  rcases this with rfl | rfl | rfl | rfl | rfl | rfl <;> decide
theorem paths_of_ok : ∀ (n d : Nat), d ≤ n → d ≤ 6 → ∀ g : Game, g.Ok d → d_paths_of n [g.enc] = .ok (.lst (g.paths.map encP))
  | _, 0, _, _, _, h => h.elim
  | 0, d + 1, hd, _, _, _ => by omega
  | n + 1, d + 1, hd, hn, .node w ws, h => by
    have ih := paths_of_ok n d (by omega) (by omega)
    have hm : Game.most d ≤ 1000 := most_small (by omega)
    have hl := h.2.1
    obtain ⟨y2, y3, y4, y5, e⟩ := paths_loop n d (some (Game.node w ws).enc) ih hm ws 0 [[]] none none none none (fun p hp => (h.2.2 p hp).2) (by simp; omega)
    refine defD_eq rfl ?_
    unfold b_paths_of
    refine out_seq (ρ1 := [some (Game.node w ws).enc, some (.lst ([[]].map encP)), none, none, none, none]) ?_ ?_
    · simp only [encP, defD, args, dSeq, dSet, dSetP, dSetN, lstAt, dApp, dAppP, dAsg, dPar, dDrop, dWhile, dIfS, dRet, dB, dCall, dCons, dNil, dVar, dC, dBin, dChain, asB, dTru, dNotT, dAndT, dOrT, dAnd, dOr, dNot, dIf, dUn, dTup, dLst, dItems, dYes, R.bind, R.to, O.seq, outR, ofO, noErr, mask, Sm.putIn, bindPat, bindPats, itemsOf, tru, List.foldr_cons, List.foldr_nil, List.length_cons, List.length_nil, List.map_cons, List.map_nil, List.cons_append, List.nil_append, Nat.sub_self, List.replicate_zero, List.replicate_succ, List.getElem?_cons_succ, List.getElem?_cons_zero, List.set_cons_zero, List.set_cons_succ, Nat.reduceAdd, Nat.reduceSub, ↓reduceIte, Bool.not_true, Bool.not_false, Bool.and_true, Bool.true_and, Bool.false_and, Bool.and_false, if_true, if_false, Bool.false_eq_true, oNeg, oAddI, oSubI, oAdd_ii, oLt, oLe, oGt, oGe, Option.bind_some, Option.map_some]
    refine out_seq (ρ1 := [some (Game.node w ws).enc, some (.lst (([[]] ++ Game.idxs 0 (ws.map fun p : Int × Game => p.2.paths)).map encP)), y2, y3, y4, y5]) ?_ (ret_of ?_)
    · unfold dFor
      rw [enum_it (ds := encW ws) (by simp only [ways_ok, Game.ways, defD, args, dSeq, dSet, dSetP, dSetN, lstAt, dApp, dAppP, dAsg, dPar, dDrop, dWhile, dIfS, dRet, dB, dCall, dCons, dNil, dVar, dC, dBin, dChain, asB, dTru, dNotT, dAndT, dOrT, dAnd, dOr, dNot, dIf, dUn, dTup, dLst, dItems, dYes, R.bind, R.to, O.seq, outR, ofO, noErr, mask, Sm.putIn, bindPat, bindPats, itemsOf, tru, List.foldr_cons, List.foldr_nil, List.length_cons, List.length_nil, List.map_cons, List.map_nil, List.cons_append, List.nil_append, Nat.sub_self, List.replicate_zero, List.replicate_succ, List.getElem?_cons_succ, List.getElem?_cons_zero, List.set_cons_zero, List.set_cons_succ, Nat.reduceAdd, Nat.reduceSub, ↓reduceIte, Bool.not_true, Bool.not_false, Bool.and_true, Bool.true_and, Bool.false_and, Bool.and_false, if_true, if_false, Bool.false_eq_true, oNeg, oAddI, oSubI, oAdd_ii, oLt, oLe, oGt, oGe, Option.bind_some, Option.map_some])]
      exact e
    · rw [Game.paths]
      simp only [dVar, List.getElem?_cons_succ, List.getElem?_cons_zero]
      rfl
end Kx
namespace Kx
open PySem PySem.Spec L2 Sm
theorem ints_map {α : Type} (f : α → Int) (l : List α) : intsOf (l.map fun x => D.int (f x)) = some (l.map f) := by
  induction l with
  | nil => rfl
  | cons a l ih => simp only [List.map_cons, intsOf, ih, Option.map_some]
end Kx
namespace Sm
def Game.Fair : Nat → Game → Prop
  | 0, _ => True
  | n + 1, .node w ws => (ws.map fun p => p.1 * (p.2.worth - w)).sum = 0 ∧ ∀ p ∈ ws, Game.Fair n p.2
def Game.Steps : Nat → Game → Prop
  | 0, _ => True
  | n + 1, .node w ws => ∀ p ∈ ws, (-3 ≤ p.2.worth - w ∧ p.2.worth - w ≤ 3) ∧ Game.Steps n p.2
end Sm
namespace Kx
open PySem PySem.Spec L2 Sm
def prD (x : Int × Int) : D := .tup [.int x.1, .int x.2]
theorem pickD {pk : Nat → Int → Int} (ok : PkOk pk) {i m : Int} (hi : 0 ≤ i) (hm : 0 < m) : ∃ r, dPick pk [.scr0, .int i, .int m] = .ok (.int r) ∧ 0 ≤ r ∧ r < m := by
  refine ⟨pk i.toNat m, ?_, (ok _ _ hm).1, (ok _ _ hm).2⟩
  simp only [dPick]
  rw [if_pos ⟨hi, hm⟩]
theorem many_ok {p : Int} (h : 0 ≤ p ∧ p < 5) : ∃ m : Nat, m ≤ 3 ∧ oIx (.lst [.int 0, .int 1, .int 2, .int 2, .int 3]) (.int p) = some (.int (m : Int)) := by
  have : p = 0 ∨ p = 1 ∨ p = 2 ∨ p = 3 ∨ p = 4 := by omega
  rcases this with rfl | rfl | rfl | rfl | rfl
  · exact ⟨0, by omega, rfl⟩
  · exact ⟨1, by omega, rfl⟩
  · exact ⟨2, by omega, rfl⟩
  · exact ⟨2, by omega, rfl⟩
  · exact ⟨3, by omega, rfl⟩
structure Rows (m : Nat) (even : Bool) (rs : List (Int × Int)) : Prop where
  len : rs.length = m
  bd : ∀ x ∈ rs, (1 ≤ x.1 ∧ x.1 ≤ 9) ∧ (-3 ≤ x.2 ∧ x.2 ≤ 3)
  fair : even = true → (rs.map fun x => x.1 * x.2).sum = 0
theorem Rows.rev {m : Nat} {even : Bool} {rs : List (Int × Int)} (h : Rows m even rs) : Rows m even rs.reverse where
  len := by rw [List.length_reverse]; exact h.len
  bd := fun x hx => h.bd x (List.mem_reverse.mp hx)
  fair := fun e => by
    rw [List.map_reverse, List.sum_reverse]; exact h.fair e
def rowsS (pk : Nat → Int → Int) : DS := (dIfS (dTru (dVar 4)) (dSeq (dPar [7] 12 13 (dCons (dBin oAdd (dC (.int 1)) (dCall (dPick pk) (dCons (dVar 0) (dCons (dBin oAdd (dVar 5) (dC (.int 1))) (dCons (dC (.int 3)) dNil))))) (dCons (dBin oAdd (dC (.int 1)) (dCall (dPick pk) (dCons (dVar 0) (dCons (dBin oAdd (dVar 5) (dC (.int 2))) (dCons (dC (.int 3)) dNil))))) dNil)))
    (dSeq (dSetN [7] 7 (dCons (dTup (dCons (dVar 13) (dCons (dVar 12) dNil))) (dCons (dTup (dCons (dVar 12) (dCons (dBin oSubI (dC (.int 0)) (dVar 13)) dNil))) (dCons (dTup (dCons (dBin oAdd (dC (.int 1)) (dCall (dPick pk) (dCons (dVar 0) (dCons (dBin oAdd (dVar 5) (dC (.int 3))) (dCons (dC (.int 9)) dNil))))) (dCons (dC (.int 0)) dNil))) dNil))))
    (dSet [] 7 (dIf (asB (dBin oEq (dVar 6) (dC (.int 1)))) (dSl (dVar 7) (dSo (dC (.int 2))) dNo) (dSl (dVar 7) dNo (dSo (dVar 6))))))) (dFor [7] (.v 9) (dRng rng1 (dCons (dVar 6) dNil)) (dApp [7] 7 (dTup (dCons (dBin oAdd (dC (.int 1)) (dCall (dPick pk) (dCons (dVar 0) (dCons (dBin oAdd (dBin oAdd (dVar 5) (dC (.int 5))) (dVar 9)) (dCons (dC (.int 9)) dNil))))) (dCons (dBin oSubI (dCall (dPick pk) (dCons (dVar 0) (dCons (dBin oAdd (dBin oAdd (dVar 5) (dC (.int 8))) (dVar 9)) (dCons (dC (.int 7)) dNil)))) (dC (.int 3))) dNil))))))
def PickS (pk : Nat → Int → Int) (S : D) : Prop := ∀ {i m : Int}, 0 ≤ i → 0 < m → ∃ r, dPick pk [S, .int i, .int m] = .ok (.int r) ∧ 0 ≤ r ∧ r < m
theorem pickS0 {pk : Nat → Int → Int} (ok : PkOk pk) : PickS pk .scr0 := fun hi hm => pickD ok hi hm
theorem rows_okS {pk : Nat → Int → Int} {S : D} (ok : PickS pk S) (x1 x2 x3 : Option D) (even : Bool) {base : Int} (hb : 0 ≤ base) {m : Nat} (hm : 1 ≤ m ∧ m ≤ 3) :
    ∃ rs y9 y12 y13, Rows m even rs ∧ rowsS pk [some S, x1, x2, x3, some (.bl even), some (.int base), some (.int (m : Int)), some (.lst []), none, none, none, none, none, none] = .nx [some S, x1, x2, x3, some (.bl even), some (.int base), some (.int (m : Int)), some (.lst (rs.map prD)), none, y9, none, none, y12, y13] := by
  cases even with
  | true =>
    obtain ⟨a, ea, a1, a2⟩ := ok (i := base + 1) (m := 3) (by omega) (by decide)
    obtain ⟨b, eb, b1, b2⟩ := ok (i := base + 2) (m := 3) (by omega) (by decide)
    obtain ⟨c, ec, c1, c2⟩ := ok (i := base + 3) (m := 9) (by omega) (by decide)
    have : m = 1 ∨ m = 2 ∨ m = 3 := by omega
    rcases this with rfl | rfl | rfl
    · refine ⟨[(1 + c, 0)], none, some (.int (1 + a)), some (.int (1 + b)), ⟨rfl, by simp; omega, fun _ => by simp⟩, ?_⟩
      simp only [rowsS, ea, eb, ec, oEq_int, dSl, dSo, dNo, oSl, defD, args, dSeq, dSet, dSetP, dSetN, lstAt, dApp, dAppP, dAsg, dPar, dDrop, dWhile, dIfS, dRet, dB, dCall, dCons, dNil, dVar, dC, dBin, dChain, asB, dTru, dNotT, dAndT, dOrT, dAnd, dOr, dNot, dIf, dUn, dTup, dLst, dItems, dYes, R.bind, R.to, O.seq, outR, ofO, noErr, mask, Sm.putIn, bindPat, bindPats, itemsOf, tru, List.foldr_cons, List.foldr_nil, List.length_cons, List.length_nil, List.map_cons, List.map_nil, List.cons_append, List.nil_append, Nat.sub_self, List.replicate_zero, List.replicate_succ, List.getElem?_cons_succ, List.getElem?_cons_zero, List.set_cons_zero, List.set_cons_succ, Nat.reduceAdd, Nat.reduceSub, ↓reduceIte, Bool.not_true, Bool.not_false, Bool.and_true, Bool.true_and, Bool.false_and, Bool.and_false, if_true, if_false, Bool.false_eq_true, oNeg, oAddI, oSubI, oAdd_ii, oLt, oLe, oGt, oGe, Option.bind_some, Option.map_some]
      rfl
    · refine ⟨[(1 + b, 1 + a), (1 + a, 0 - (1 + b))], none, some (.int (1 + a)), some (.int (1 + b)), ⟨rfl, by simp; omega, fun _ => by simp; grind⟩, ?_⟩
      simp only [rowsS, ea, eb, ec, oEq_int, dSl, dSo, dNo, oSl, defD, args, dSeq, dSet, dSetP, dSetN, lstAt, dApp, dAppP, dAsg, dPar, dDrop, dWhile, dIfS, dRet, dB, dCall, dCons, dNil, dVar, dC, dBin, dChain, asB, dTru, dNotT, dAndT, dOrT, dAnd, dOr, dNot, dIf, dUn, dTup, dLst, dItems, dYes, R.bind, R.to, O.seq, outR, ofO, noErr, mask, Sm.putIn, bindPat, bindPats, itemsOf, tru, List.foldr_cons, List.foldr_nil, List.length_cons, List.length_nil, List.map_cons, List.map_nil, List.cons_append, List.nil_append, Nat.sub_self, List.replicate_zero, List.replicate_succ, List.getElem?_cons_succ, List.getElem?_cons_zero, List.set_cons_zero, List.set_cons_succ, Nat.reduceAdd, Nat.reduceSub, ↓reduceIte, Bool.not_true, Bool.not_false, Bool.and_true, Bool.true_and, Bool.false_and, Bool.and_false, if_true, if_false, Bool.false_eq_true, oNeg, oAddI, oSubI, oAdd_ii, oLt, oLe, oGt, oGe, Option.bind_some, Option.map_some]
      rfl
    · refine ⟨[(1 + b, 1 + a), (1 + a, 0 - (1 + b)), (1 + c, 0)], none, some (.int (1 + a)), some (.int (1 + b)), ⟨rfl, by simp; omega, fun _ => by simp; grind⟩, ?_⟩
      simp only [rowsS, ea, eb, ec, oEq_int, dSl, dSo, dNo, oSl, defD, args, dSeq, dSet, dSetP, dSetN, lstAt, dApp, dAppP, dAsg, dPar, dDrop, dWhile, dIfS, dRet, dB, dCall, dCons, dNil, dVar, dC, dBin, dChain, asB, dTru, dNotT, dAndT, dOrT, dAnd, dOr, dNot, dIf, dUn, dTup, dLst, dItems, dYes, R.bind, R.to, O.seq, outR, ofO, noErr, mask, Sm.putIn, bindPat, bindPats, itemsOf, tru, List.foldr_cons, List.foldr_nil, List.length_cons, List.length_nil, List.map_cons, List.map_nil, List.cons_append, List.nil_append, Nat.sub_self, List.replicate_zero, List.replicate_succ, List.getElem?_cons_succ, List.getElem?_cons_zero, List.set_cons_zero, List.set_cons_succ, Nat.reduceAdd, Nat.reduceSub, ↓reduceIte, Bool.not_true, Bool.not_false, Bool.and_true, Bool.true_and, Bool.false_and, Bool.and_false, if_true, if_false, Bool.false_eq_true, oNeg, oAddI, oSubI, oAdd_ii, oLt, oLe, oGt, oGe, Option.bind_some, Option.map_some]
      rfl
  | false =>
    have lp : ∀ (l : List Nat) (acc : List (Int × Int)) (x9 : Option D), acc.length + l.length ≤ 10 → (∀ x ∈ acc, (1 ≤ x.1 ∧ x.1 ≤ 9) ∧ (-3 ≤ x.2 ∧ x.2 ≤ 3)) →
        ∃ (rs : List (Int × Int)) (y9 : Option D), rs.length = acc.length + l.length ∧ (∀ x ∈ rs, (1 ≤ x.1 ∧ x.1 ≤ 9) ∧ (-3 ≤ x.2 ∧ x.2 ≤ 3)) ∧ forGo (.v 9) (dApp [7] 7 (dTup (dCons (dBin oAdd (dC (.int 1)) (dCall (dPick pk) (dCons (dVar 0) (dCons (dBin oAdd (dBin oAdd (dVar 5) (dC (.int 5))) (dVar 9)) (dCons (dC (.int 9)) dNil))))) (dCons (dBin oSubI (dCall (dPick pk) (dCons (dVar 0) (dCons (dBin oAdd (dBin oAdd (dVar 5) (dC (.int 8))) (dVar 9)) (dCons (dC (.int 7)) dNil)))) (dC (.int 3))) dNil)))) (l.map fun i => D.int ((i : Nat) : Int)) [some S, x1, x2, x3, some (.bl false), some (.int base), some (.int (m : Int)), some (.lst (acc.map prD)), none, x9, none, none, none, none]
          = .nx [some S, x1, x2, x3, some (.bl false), some (.int base), some (.int (m : Int)), some (.lst (rs.map prD)), none, y9, none, none, none, none] := by
      intro l
      induction l with
      | nil => intro acc x9 _ h; exact ⟨acc, x9, by simp, h, rfl⟩
      | cons i l ih =>
        intro acc x9 hl h
        rw [List.length_cons] at hl
        obtain ⟨a, ea, a1, a2⟩ := ok (i := base + 5 + (i : Int)) (m := 9) (by omega) (by decide)
        obtain ⟨b, eb, b1, b2⟩ := ok (i := base + 8 + (i : Int)) (m := 7) (by omega) (by decide)
        obtain ⟨rs, y9, r1, r2, r3⟩ := ih (acc ++ [(1 + a, b - 3)]) (some (.int (i : Int))) (by simp; omega) (by
          intro x hx
          rcases List.mem_append.mp hx with hx | hx
          · exact h x hx
          · simp at hx; subst hx; simp; omega)
        refine ⟨rs, y9, by rw [r1]; simp; omega, r2, ?_⟩
        have hz : (acc.map prD).length + 1 ≤ sizeLine := by rw [List.length_map]; exact Nat.le_trans (by omega) sizeLine_big
        rw [List.map_append] at r3
        simp only [List.map_cons, forGo, ea, eb, if_pos hz, defD, args, dSeq, dSet, dSetP, dSetN, lstAt, dApp, dAppP, dAsg, dPar, dDrop, dWhile, dIfS, dRet, dB, dCall, dCons, dNil, dVar, dC, dBin, dChain, asB, dTru, dNotT, dAndT, dOrT, dAnd, dOr, dNot, dIf, dUn, dTup, dLst, dItems, dYes, R.bind, R.to, O.seq, outR, ofO, noErr, mask, Sm.putIn, bindPat, bindPats, itemsOf, tru, List.foldr_cons, List.foldr_nil, List.length_cons, List.length_nil, List.map_cons, List.map_nil, List.cons_append, List.nil_append, Nat.sub_self, List.replicate_zero, List.replicate_succ, List.getElem?_cons_succ, List.getElem?_cons_zero, List.set_cons_zero, List.set_cons_succ, Nat.reduceAdd, Nat.reduceSub, ↓reduceIte, Bool.not_true, Bool.not_false, Bool.and_true, Bool.true_and, Bool.false_and, Bool.and_false, if_true, if_false, Bool.false_eq_true, oNeg, oAddI, oSubI, oAdd_ii, oLt, oLe, oGt, oGe, Option.bind_some, Option.map_some]
        exact r3
    obtain ⟨rs, y9, r1, r2, r3⟩ := lp (List.range m) [] none (by simp; omega) (by simp)
    refine ⟨rs, y9, none, none, ⟨by simpa using r1, r2, fun h => nomatch h⟩, ?_⟩
    refine ifs_f (by simp only [defD, args, dSeq, dSet, dSetP, dSetN, lstAt, dApp, dAppP, dAsg, dPar, dDrop, dWhile, dIfS, dRet, dB, dCall, dCons, dNil, dVar, dC, dBin, dChain, asB, dTru, dNotT, dAndT, dOrT, dAnd, dOr, dNot, dIf, dUn, dTup, dLst, dItems, dYes, R.bind, R.to, O.seq, outR, ofO, noErr, mask, Sm.putIn, bindPat, bindPats, itemsOf, tru, List.foldr_cons, List.foldr_nil, List.length_cons, List.length_nil, List.map_cons, List.map_nil, List.cons_append, List.nil_append, Nat.sub_self, List.replicate_zero, List.replicate_succ, List.getElem?_cons_succ, List.getElem?_cons_zero, List.set_cons_zero, List.set_cons_succ, Nat.reduceAdd, Nat.reduceSub, ↓reduceIte, Bool.not_true, Bool.not_false, Bool.and_true, Bool.true_and, Bool.false_and, Bool.and_false, if_true, if_false, Bool.false_eq_true, oNeg, oAddI, oSubI, oAdd_ii, oLt, oLe, oGt, oGe, Option.bind_some, Option.map_some]) ?_
    unfold dFor
    rw [rng1_it (n := m) (by simp only [defD, args, dSeq, dSet, dSetP, dSetN, lstAt, dApp, dAppP, dAsg, dPar, dDrop, dWhile, dIfS, dRet, dB, dCall, dCons, dNil, dVar, dC, dBin, dChain, asB, dTru, dNotT, dAndT, dOrT, dAnd, dOr, dNot, dIf, dUn, dTup, dLst, dItems, dYes, R.bind, R.to, O.seq, outR, ofO, noErr, mask, Sm.putIn, bindPat, bindPats, itemsOf, tru, List.foldr_cons, List.foldr_nil, List.length_cons, List.length_nil, List.map_cons, List.map_nil, List.cons_append, List.nil_append, Nat.sub_self, List.replicate_zero, List.replicate_succ, List.getElem?_cons_succ, List.getElem?_cons_zero, List.set_cons_zero, List.set_cons_succ, Nat.reduceAdd, Nat.reduceSub, ↓reduceIte, Bool.not_true, Bool.not_false, Bool.and_true, Bool.true_and, Bool.false_and, Bool.and_false, if_true, if_false, Bool.false_eq_true, oNeg, oAddI, oSubI, oAdd_ii, oLt, oLe, oGt, oGe, Option.bind_some, Option.map_some]) (by omega)]
    exact r3
def subsS (self : List D → R D) : DS := (dApp [8] 8 (dTup (dCons (dVar 10) (dCons (dCall self (dCons (dVar 0) (dCons (dBin oAdd (dBin oAdd (dBin oMul (dC (.int 4)) (dVar 1)) (dC (.int 1))) (dVar 9)) (dCons (dBin oAdd (dVar 2) (dVar 11)) (dCons (dBin oSubI (dVar 3) (dC (.int 1))) (dCons (dVar 4) dNil)))))) dNil))))
structure Drawn (deep : Nat) (top : Int) (even : Bool) (g : Game) : Prop where
  ok : g.Ok deep
  worth : g.worth = top
  fair : even = true → g.Fair deep
  steps : g.Steps deep
theorem subs_okS {pk : Nat → Int → Int} {S : D} {n deep : Nat} {at_ : Nat} {top : Int} {even : Bool} (x5 x6 x7 x12 x13 : Option D)
    (ih : ∀ (k : Nat) (t : Int), 2 ≤ k → (t.natAbs : Int) + 3 * ((deep : Int) - 1) ≤ 20 → ∃ g, d__law_game pk n [S, .int (k : Int), .int t, .int (deep : Int), .bl even] = .ok g.enc ∧ Drawn deep t even g) (hat : 1 ≤ at_) (ht : (top.natAbs : Int) + 3 * (deep : Int) ≤ 20) :
    ∀ (rs : List (Int × Int)) (k : Nat) (acc : List (Int × Game)) (x9 x10 x11 : Option D), (∀ x ∈ rs, (1 ≤ x.1 ∧ x.1 ≤ 9) ∧ (-3 ≤ x.2 ∧ x.2 ≤ 3)) → acc.length + rs.length ≤ 10 →
    ∃ (ws : List (Int × Game)) (y9 y10 y11 : Option D), ws.map (fun p => (p.1, p.2.worth - top)) = rs ∧ (∀ p ∈ ws, Drawn deep p.2.worth even p.2) ∧
      forGo (.t [(.v 9), (.t [(.v 10), (.v 11)])]) (subsS (d__law_game pk n)) (enumFrom k (rs.map prD)) [some S, some (.int (at_ : Int)), some (.int top), some (.int ((deep : Int) + 1)), some (.bl even), x5, x6, x7, some (.lst (encW acc)), x9, x10, x11, x12, x13]
        = .nx [some S, some (.int (at_ : Int)), some (.int top), some (.int ((deep : Int) + 1)), some (.bl even), x5, x6, x7, some (.lst (encW (acc ++ ws))), y9, y10, y11, x12, x13]
  | [], k, acc, x9, x10, x11, _, _ => ⟨[], x9, x10, x11, rfl, by simp, by simp [enumFrom, forGo]⟩
  | x :: rs, k, acc, x9, x10, x11, hb, hl => by
    rw [List.length_cons] at hl
    have hx := hb x (by simp)
    obtain ⟨g, eg, dg⟩ := ih (4 * at_ + 1 + k) (top + x.2) (by omega) (by omega)
    obtain ⟨ws, y9, y10, y11, e1, e2, e3⟩ := subs_okS x5 x6 x7 x12 x13 ih hat ht rs (k + 1) (acc ++ [(x.1, g)]) (some (.int (k : Int))) (some (.int x.1)) (some (.int x.2)) (fun y hy => hb y (by simp [hy])) (by simp; omega)
    refine ⟨(x.1, g) :: ws, y9, y10, y11, ?_, ?_, ?_⟩
    · rw [List.map_cons, e1, dg.worth]
      rw [show top + x.2 - top = x.2 by omega]
    · intro p hp
      rcases List.mem_cons.mp hp with rfl | hp
      · show Drawn deep g.worth even g
        rw [dg.worth]; exact dg
      · exact e2 p hp
    · rw [show enumFrom k ((x :: rs).map prD) = .tup [.int (k : Int), .tup [.int x.1, .int x.2]] :: enumFrom (k + 1) (rs.map prD) from rfl]
      unfold forGo
      rw [show bindPat (.t [(.v 9), (.t [(.v 10), (.v 11)])]) (.tup [.int (k : Int), .tup [.int x.1, .int x.2]]) [some S, some (.int (at_ : Int)), some (.int top), some (.int ((deep : Int) + 1)), some (.bl even), x5, x6, x7, some (.lst (encW acc)), x9, x10, x11, x12, x13]
        = some [some S, some (.int (at_ : Int)), some (.int top), some (.int ((deep : Int) + 1)), some (.bl even), x5, x6, x7, some (.lst (encW acc)), some (.int (k : Int)), some (.int x.1), some (.int x.2), x12, x13] from rfl]
      have m1 : oMul (.int 4) (.int (at_ : Int)) = some (.int (4 * (at_ : Int))) := oMul_ok (mulOk_l (by decide))
      have hz : (encW acc).length + 1 ≤ sizeLine := by unfold encW; rw [List.length_map]; exact Nat.le_trans (by omega) sizeLine_big
      rw [show ((4 * at_ + 1 + k : Nat) : Int) = 4 * (at_ : Int) + 1 + (k : Int) by omega] at eg
      have st : subsS (d__law_game pk n) [some S, some (.int (at_ : Int)), some (.int top), some (.int ((deep : Int) + 1)), some (.bl even), x5, x6, x7, some (.lst (encW acc)), some (.int (k : Int)), some (.int x.1), some (.int x.2), x12, x13]
          = .nx [some S, some (.int (at_ : Int)), some (.int top), some (.int ((deep : Int) + 1)), some (.bl even), x5, x6, x7, some (.lst (encW (acc ++ [(x.1, g)]))), some (.int (k : Int)), some (.int x.1), some (.int x.2), x12, x13] := by
        rw [show encW (acc ++ [(x.1, g)]) = encW acc ++ [.tup [.int x.1, g.enc]] by simp [encW]]
        simp only [subsS, m1, show (deep : Int) + 1 - 1 = (deep : Int) by omega, eg, if_pos hz, defD, args, dSeq, dSet, dSetP, dSetN, lstAt, dApp, dAppP, dAsg, dPar, dDrop, dWhile, dIfS, dRet, dB, dCall, dCons, dNil, dVar, dC, dBin, dChain, asB, dTru, dNotT, dAndT, dOrT, dAnd, dOr, dNot, dIf, dUn, dTup, dLst, dItems, dYes, R.bind, R.to, O.seq, outR, ofO, noErr, mask, Sm.putIn, bindPat, bindPats, itemsOf, tru, List.foldr_cons, List.foldr_nil, List.length_cons, List.length_nil, List.map_cons, List.map_nil, List.cons_append, List.nil_append, Nat.sub_self, List.replicate_zero, List.replicate_succ, List.getElem?_cons_succ, List.getElem?_cons_zero, List.set_cons_zero, List.set_cons_succ, Nat.reduceAdd, Nat.reduceSub, ↓reduceIte, Bool.not_true, Bool.not_false, Bool.and_true, Bool.true_and, Bool.false_and, Bool.and_false, if_true, if_false, Bool.false_eq_true, oNeg, oAddI, oSubI, oAdd_ii, oLt, oLe, oGt, oGe, Option.bind_some, Option.map_some]
      simp only [st, O.seq]
      rw [e3, List.append_assoc]
      rfl
theorem game_drawnS {pk : Nat → Int → Int} {S : D} (ok : PickS pk S) (even : Bool) : ∀ (deep n : Nat) (at_ : Nat) (top : Int), 1 ≤ deep → deep ≤ n → 1 ≤ at_ → (top.natAbs : Int) + 3 * ((deep : Int) - 1) ≤ 20 →
    ∃ g, d__law_game pk n [S, .int (at_ : Int), .int top, .int (deep : Int), .bl even] = .ok g.enc ∧ Drawn deep top even g ∧ (at_ = 1 → 2 ≤ deep → g.ways ≠ [])
  | 0, _, _, _, h, _, _, _ => by omega
  | deep + 1, 0, _, _, _, h, _, _ => by omega
  | deep + 1, n + 1, at_, top, _, hn, hat, ht => by
    obtain ⟨p, ep, p1, p2⟩ := ok (i := 20 * (at_ : Int)) (m := 5) (by omega) (by decide)
    obtain ⟨m0, hm0, e0⟩ := many_ok ⟨p1, p2⟩
    have m1 : oMul (.int 20) (.int (at_ : Int)) = some (.int (20 * (at_ : Int))) := oMul_ok (mulOk_l (by decide))
    obtain ⟨m, hm, hm1, st3⟩ : ∃ m : Nat, m ≤ 3 ∧ (at_ = 1 → 1 ≤ m) ∧ dIfS (asB (dBin oEq (dVar 1) (dC (.int 1)))) (dSet [] 6 (dB oMax2 (dCons (dC (.int 1)) (dCons (dVar 6) dNil)))) .nx [some S, some (.int (at_ : Int)), some (.int top), some (.int ((deep + 1 : Nat) : Int)), some (.bl even), some (.int (20 * (at_ : Int))), some (.int (m0 : Int)), none, none, none, none, none, none, none]
        = .nx [some S, some (.int (at_ : Int)), some (.int top), some (.int ((deep + 1 : Nat) : Int)), some (.bl even), some (.int (20 * (at_ : Int))), some (.int (m : Int)), none, none, none, none, none, none, none] := by
      by_cases ha : at_ = 1
      · have hb : ((at_ : Int) == 1) = true := by simp; omega
        refine ⟨max 1 m0, by omega, fun _ => by omega, ?_⟩
        have : (if (m0 : Int) > 1 then (m0 : Int) else 1) = ((max 1 m0 : Nat) : Int) := by split <;> omega
        simp only [oEq_int, hb, oMax2, this, defD, args, dSeq, dSet, dSetP, dSetN, lstAt, dApp, dAppP, dAsg, dPar, dDrop, dWhile, dIfS, dRet, dB, dCall, dCons, dNil, dVar, dC, dBin, dChain, asB, dTru, dNotT, dAndT, dOrT, dAnd, dOr, dNot, dIf, dUn, dTup, dLst, dItems, dYes, R.bind, R.to, O.seq, outR, ofO, noErr, mask, Sm.putIn, bindPat, bindPats, itemsOf, tru, List.foldr_cons, List.foldr_nil, List.length_cons, List.length_nil, List.map_cons, List.map_nil, List.cons_append, List.nil_append, Nat.sub_self, List.replicate_zero, List.replicate_succ, List.getElem?_cons_succ, List.getElem?_cons_zero, List.set_cons_zero, List.set_cons_succ, Nat.reduceAdd, Nat.reduceSub, ↓reduceIte, Bool.not_true, Bool.not_false, Bool.and_true, Bool.true_and, Bool.false_and, Bool.and_false, if_true, if_false, Bool.false_eq_true, oNeg, oAddI, oSubI, oAdd_ii, oLt, oLe, oGt, oGe, Option.bind_some, Option.map_some]
      · have hb : ((at_ : Int) == 1) = false := by simp; omega
        exact ⟨m0, hm0, fun h => absurd h ha, by simp only [oEq_int, hb, defD, args, dSeq, dSet, dSetP, dSetN, lstAt, dApp, dAppP, dAsg, dPar, dDrop, dWhile, dIfS, dRet, dB, dCall, dCons, dNil, dVar, dC, dBin, dChain, asB, dTru, dNotT, dAndT, dOrT, dAnd, dOr, dNot, dIf, dUn, dTup, dLst, dItems, dYes, R.bind, R.to, O.seq, outR, ofO, noErr, mask, Sm.putIn, bindPat, bindPats, itemsOf, tru, List.foldr_cons, List.foldr_nil, List.length_cons, List.length_nil, List.map_cons, List.map_nil, List.cons_append, List.nil_append, Nat.sub_self, List.replicate_zero, List.replicate_succ, List.getElem?_cons_succ, List.getElem?_cons_zero, List.set_cons_zero, List.set_cons_succ, Nat.reduceAdd, Nat.reduceSub, ↓reduceIte, Bool.not_true, Bool.not_false, Bool.and_true, Bool.true_and, Bool.false_and, Bool.and_false, if_true, if_false, Bool.false_eq_true, oNeg, oAddI, oSubI, oAdd_ii, oLt, oLe, oGt, oGe, Option.bind_some, Option.map_some]⟩
    have d1 : ((((deep + 1 : Nat) : Int)) == 1) = decide (deep = 0) := by
      by_cases h : deep = 0
      · subst h; rfl
      · rw [decide_eq_false h]; simp; omega
    have z1 : (((m : Nat) : Int) == 0) = decide (m = 0) := by
      by_cases h : m = 0
      · subst h; rfl
      · rw [decide_eq_false h]; simp; omega
    by_cases hend : deep = 0 ∨ m = 0
    · refine ⟨.node top [], ?_, ⟨⟨by omega, by simp, by simp⟩, rfl, fun _ => ⟨by simp, by simp⟩, fun p hp => nomatch hp⟩, fun h1 h2 => ?_⟩
      · refine defD_eq rfl ?_
        unfold b__law_game
        refine out_seq (ρ1 := [some S, some (.int (at_ : Int)), some (.int top), some (.int ((deep + 1 : Nat) : Int)), some (.bl even), some (.int (20 * (at_ : Int))), none, none, none, none, none, none, none, none]) ?_ ?_
        · simp only [m1, defD, args, dSeq, dSet, dSetP, dSetN, lstAt, dApp, dAppP, dAsg, dPar, dDrop, dWhile, dIfS, dRet, dB, dCall, dCons, dNil, dVar, dC, dBin, dChain, asB, dTru, dNotT, dAndT, dOrT, dAnd, dOr, dNot, dIf, dUn, dTup, dLst, dItems, dYes, R.bind, R.to, O.seq, outR, ofO, noErr, mask, Sm.putIn, bindPat, bindPats, itemsOf, tru, List.foldr_cons, List.foldr_nil, List.length_cons, List.length_nil, List.map_cons, List.map_nil, List.cons_append, List.nil_append, Nat.sub_self, List.replicate_zero, List.replicate_succ, List.getElem?_cons_succ, List.getElem?_cons_zero, List.set_cons_zero, List.set_cons_succ, Nat.reduceAdd, Nat.reduceSub, ↓reduceIte, Bool.not_true, Bool.not_false, Bool.and_true, Bool.true_and, Bool.false_and, Bool.and_false, if_true, if_false, Bool.false_eq_true, oNeg, oAddI, oSubI, oAdd_ii, oLt, oLe, oGt, oGe, Option.bind_some, Option.map_some]
        refine out_seq (ρ1 := [some S, some (.int (at_ : Int)), some (.int top), some (.int ((deep + 1 : Nat) : Int)), some (.bl even), some (.int (20 * (at_ : Int))), some (.int (m0 : Int)), none, none, none, none, none, none, none]) ?_ ?_
        · simp only [ep, e0, defD, args, dSeq, dSet, dSetP, dSetN, lstAt, dApp, dAppP, dAsg, dPar, dDrop, dWhile, dIfS, dRet, dB, dCall, dCons, dNil, dVar, dC, dBin, dChain, asB, dTru, dNotT, dAndT, dOrT, dAnd, dOr, dNot, dIf, dUn, dTup, dLst, dItems, dYes, R.bind, R.to, O.seq, outR, ofO, noErr, mask, Sm.putIn, bindPat, bindPats, itemsOf, tru, List.foldr_cons, List.foldr_nil, List.length_cons, List.length_nil, List.map_cons, List.map_nil, List.cons_append, List.nil_append, Nat.sub_self, List.replicate_zero, List.replicate_succ, List.getElem?_cons_succ, List.getElem?_cons_zero, List.set_cons_zero, List.set_cons_succ, Nat.reduceAdd, Nat.reduceSub, ↓reduceIte, Bool.not_true, Bool.not_false, Bool.and_true, Bool.true_and, Bool.false_and, Bool.and_false, if_true, if_false, Bool.false_eq_true, oNeg, oAddI, oSubI, oAdd_ii, oLt, oLe, oGt, oGe, Option.bind_some, Option.map_some]
        refine out_seq st3 (out_seqR ?_)
        rw [enc_end]
        by_cases h2 : deep = 0
        · rw [decide_eq_true h2] at d1
          simp only [oEq_int, d1, defD, args, dSeq, dSet, dSetP, dSetN, lstAt, dApp, dAppP, dAsg, dPar, dDrop, dWhile, dIfS, dRet, dB, dCall, dCons, dNil, dVar, dC, dBin, dChain, asB, dTru, dNotT, dAndT, dOrT, dAnd, dOr, dNot, dIf, dUn, dTup, dLst, dItems, dYes, R.bind, R.to, O.seq, outR, ofO, noErr, mask, Sm.putIn, bindPat, bindPats, itemsOf, tru, List.foldr_cons, List.foldr_nil, List.length_cons, List.length_nil, List.map_cons, List.map_nil, List.cons_append, List.nil_append, Nat.sub_self, List.replicate_zero, List.replicate_succ, List.getElem?_cons_succ, List.getElem?_cons_zero, List.set_cons_zero, List.set_cons_succ, Nat.reduceAdd, Nat.reduceSub, ↓reduceIte, Bool.not_true, Bool.not_false, Bool.and_true, Bool.true_and, Bool.false_and, Bool.and_false, if_true, if_false, Bool.false_eq_true, oNeg, oAddI, oSubI, oAdd_ii, oLt, oLe, oGt, oGe, Option.bind_some, Option.map_some]
        · have h : m = 0 := hend.resolve_left h2
          rw [decide_eq_false h2] at d1
          rw [decide_eq_true h] at z1
          simp only [oEq_int, d1, z1, defD, args, dSeq, dSet, dSetP, dSetN, lstAt, dApp, dAppP, dAsg, dPar, dDrop, dWhile, dIfS, dRet, dB, dCall, dCons, dNil, dVar, dC, dBin, dChain, asB, dTru, dNotT, dAndT, dOrT, dAnd, dOr, dNot, dIf, dUn, dTup, dLst, dItems, dYes, R.bind, R.to, O.seq, outR, ofO, noErr, mask, Sm.putIn, bindPat, bindPats, itemsOf, tru, List.foldr_cons, List.foldr_nil, List.length_cons, List.length_nil, List.map_cons, List.map_nil, List.cons_append, List.nil_append, Nat.sub_self, List.replicate_zero, List.replicate_succ, List.getElem?_cons_succ, List.getElem?_cons_zero, List.set_cons_zero, List.set_cons_succ, Nat.reduceAdd, Nat.reduceSub, ↓reduceIte, Bool.not_true, Bool.not_false, Bool.and_true, Bool.true_and, Bool.false_and, Bool.and_false, if_true, if_false, Bool.false_eq_true, oNeg, oAddI, oSubI, oAdd_ii, oLt, oLe, oGt, oGe, Option.bind_some, Option.map_some]
      · rcases hend with h | h
        · omega
        · have := hm1 h1; omega
    · have hd : deep ≠ 0 := fun h => hend (.inl h)
      have hm0' : m ≠ 0 := fun h => hend (.inr h)
      obtain ⟨rs, y9, y12, y13, hR, er⟩ := rows_okS ok (some (.int (at_ : Int))) (some (.int top)) (some (.int ((deep + 1 : Nat) : Int))) even (base := 20 * (at_ : Int)) (by omega) (m := m) (by omega)
      obtain ⟨q, eq, _, _⟩ := ok (i := 20 * (at_ : Int) + 4) (m := 2) (by omega) (by decide)
      obtain ⟨rs', hR', st7⟩ : ∃ rs', Rows m even rs' ∧ dIfS (asB (dBin oEq (dCall (dPick pk) (dCons (dVar 0) (dCons (dBin oAdd (dVar 5) (dC (.int 4))) (dCons (dC (.int 2)) dNil)))) (dC (.int 0)))) (dSet [] 7 (dUn oRevA (dVar 7))) .nx [some S, some (.int (at_ : Int)), some (.int top), some (.int ((deep + 1 : Nat) : Int)), some (.bl even), some (.int (20 * (at_ : Int))), some (.int (m : Int)), some (.lst (rs.map prD)), none, y9, none, none, y12, y13]
          = .nx [some S, some (.int (at_ : Int)), some (.int top), some (.int ((deep + 1 : Nat) : Int)), some (.bl even), some (.int (20 * (at_ : Int))), some (.int (m : Int)), some (.lst (rs'.map prD)), none, y9, none, none, y12, y13] := by
        cases hq : (q == 0) with
        | true => exact ⟨rs.reverse, hR.rev, by rw [List.map_reverse]; simp only [eq, oEq_int, hq, oRevA, defD, args, dSeq, dSet, dSetP, dSetN, lstAt, dApp, dAppP, dAsg, dPar, dDrop, dWhile, dIfS, dRet, dB, dCall, dCons, dNil, dVar, dC, dBin, dChain, asB, dTru, dNotT, dAndT, dOrT, dAnd, dOr, dNot, dIf, dUn, dTup, dLst, dItems, dYes, R.bind, R.to, O.seq, outR, ofO, noErr, mask, Sm.putIn, bindPat, bindPats, itemsOf, tru, List.foldr_cons, List.foldr_nil, List.length_cons, List.length_nil, List.map_cons, List.map_nil, List.cons_append, List.nil_append, Nat.sub_self, List.replicate_zero, List.replicate_succ, List.getElem?_cons_succ, List.getElem?_cons_zero, List.set_cons_zero, List.set_cons_succ, Nat.reduceAdd, Nat.reduceSub, ↓reduceIte, Bool.not_true, Bool.not_false, Bool.and_true, Bool.true_and, Bool.false_and, Bool.and_false, if_true, if_false, Bool.false_eq_true, oNeg, oAddI, oSubI, oAdd_ii, oLt, oLe, oGt, oGe, Option.bind_some, Option.map_some]⟩
        | false => exact ⟨rs, hR, by simp only [eq, oEq_int, hq, defD, args, dSeq, dSet, dSetP, dSetN, lstAt, dApp, dAppP, dAsg, dPar, dDrop, dWhile, dIfS, dRet, dB, dCall, dCons, dNil, dVar, dC, dBin, dChain, asB, dTru, dNotT, dAndT, dOrT, dAnd, dOr, dNot, dIf, dUn, dTup, dLst, dItems, dYes, R.bind, R.to, O.seq, outR, ofO, noErr, mask, Sm.putIn, bindPat, bindPats, itemsOf, tru, List.foldr_cons, List.foldr_nil, List.length_cons, List.length_nil, List.map_cons, List.map_nil, List.cons_append, List.nil_append, Nat.sub_self, List.replicate_zero, List.replicate_succ, List.getElem?_cons_succ, List.getElem?_cons_zero, List.set_cons_zero, List.set_cons_succ, Nat.reduceAdd, Nat.reduceSub, ↓reduceIte, Bool.not_true, Bool.not_false, Bool.and_true, Bool.true_and, Bool.false_and, Bool.and_false, if_true, if_false, Bool.false_eq_true, oNeg, oAddI, oSubI, oAdd_ii, oLt, oLe, oGt, oGe, Option.bind_some, Option.map_some]⟩
      obtain ⟨ws, z9, z10, z11, w1, w2, ew⟩ := subs_okS (pk := pk) (n := n) (deep := deep) (at_ := at_) (top := top) (even := even) (some (.int (20 * (at_ : Int)))) (some (.int (m : Int))) (some (.lst (rs'.map prD))) y12 y13
        (fun k t hk htt => by
          obtain ⟨g, a1, a2, _⟩ := game_drawnS ok even deep n k t (by omega) (by omega) (by omega) htt
          exact ⟨g, a1, a2⟩) hat (by omega) rs' 0 [] y9 none none hR'.bd (by rw [hR'.len]; simp; omega)
      have hlen : ws.length = m := by rw [← hR'.len, ← w1, List.length_map]
      have hne : ws ≠ [] := fun h => by rw [h] at hlen; simp at hlen; omega
      refine ⟨.node top ws, ?_, ⟨⟨by omega, by omega, fun p hp => ⟨?_, (w2 p hp).ok⟩⟩, rfl, fun he => ⟨?_, fun p hp => (w2 p hp).fair he⟩, fun p hp => ⟨?_, (w2 p hp).steps⟩⟩, fun _ _ => hne⟩
      · refine defD_eq rfl ?_
        unfold b__law_game
        refine out_seq (ρ1 := [some S, some (.int (at_ : Int)), some (.int top), some (.int ((deep + 1 : Nat) : Int)), some (.bl even), some (.int (20 * (at_ : Int))), none, none, none, none, none, none, none, none]) ?_ ?_
        · simp only [m1, defD, args, dSeq, dSet, dSetP, dSetN, lstAt, dApp, dAppP, dAsg, dPar, dDrop, dWhile, dIfS, dRet, dB, dCall, dCons, dNil, dVar, dC, dBin, dChain, asB, dTru, dNotT, dAndT, dOrT, dAnd, dOr, dNot, dIf, dUn, dTup, dLst, dItems, dYes, R.bind, R.to, O.seq, outR, ofO, noErr, mask, Sm.putIn, bindPat, bindPats, itemsOf, tru, List.foldr_cons, List.foldr_nil, List.length_cons, List.length_nil, List.map_cons, List.map_nil, List.cons_append, List.nil_append, Nat.sub_self, List.replicate_zero, List.replicate_succ, List.getElem?_cons_succ, List.getElem?_cons_zero, List.set_cons_zero, List.set_cons_succ, Nat.reduceAdd, Nat.reduceSub, ↓reduceIte, Bool.not_true, Bool.not_false, Bool.and_true, Bool.true_and, Bool.false_and, Bool.and_false, if_true, if_false, Bool.false_eq_true, oNeg, oAddI, oSubI, oAdd_ii, oLt, oLe, oGt, oGe, Option.bind_some, Option.map_some]
        refine out_seq (ρ1 := [some S, some (.int (at_ : Int)), some (.int top), some (.int ((deep + 1 : Nat) : Int)), some (.bl even), some (.int (20 * (at_ : Int))), some (.int (m0 : Int)), none, none, none, none, none, none, none]) ?_ ?_
        · simp only [ep, e0, defD, args, dSeq, dSet, dSetP, dSetN, lstAt, dApp, dAppP, dAsg, dPar, dDrop, dWhile, dIfS, dRet, dB, dCall, dCons, dNil, dVar, dC, dBin, dChain, asB, dTru, dNotT, dAndT, dOrT, dAnd, dOr, dNot, dIf, dUn, dTup, dLst, dItems, dYes, R.bind, R.to, O.seq, outR, ofO, noErr, mask, Sm.putIn, bindPat, bindPats, itemsOf, tru, List.foldr_cons, List.foldr_nil, List.length_cons, List.length_nil, List.map_cons, List.map_nil, List.cons_append, List.nil_append, Nat.sub_self, List.replicate_zero, List.replicate_succ, List.getElem?_cons_succ, List.getElem?_cons_zero, List.set_cons_zero, List.set_cons_succ, Nat.reduceAdd, Nat.reduceSub, ↓reduceIte, Bool.not_true, Bool.not_false, Bool.and_true, Bool.true_and, Bool.false_and, Bool.and_false, if_true, if_false, Bool.false_eq_true, oNeg, oAddI, oSubI, oAdd_ii, oLt, oLe, oGt, oGe, Option.bind_some, Option.map_some]
        refine out_seq st3 ?_
        refine out_seq (ρ1 := [some S, some (.int (at_ : Int)), some (.int top), some (.int ((deep + 1 : Nat) : Int)), some (.bl even), some (.int (20 * (at_ : Int))), some (.int (m : Int)), none, none, none, none, none, none, none]) ?_ ?_
        · simp only [oEq_int, d1, z1, decide_eq_false hd, decide_eq_false hm0', defD, args, dSeq, dSet, dSetP, dSetN, lstAt, dApp, dAppP, dAsg, dPar, dDrop, dWhile, dIfS, dRet, dB, dCall, dCons, dNil, dVar, dC, dBin, dChain, asB, dTru, dNotT, dAndT, dOrT, dAnd, dOr, dNot, dIf, dUn, dTup, dLst, dItems, dYes, R.bind, R.to, O.seq, outR, ofO, noErr, mask, Sm.putIn, bindPat, bindPats, itemsOf, tru, List.foldr_cons, List.foldr_nil, List.length_cons, List.length_nil, List.map_cons, List.map_nil, List.cons_append, List.nil_append, Nat.sub_self, List.replicate_zero, List.replicate_succ, List.getElem?_cons_succ, List.getElem?_cons_zero, List.set_cons_zero, List.set_cons_succ, Nat.reduceAdd, Nat.reduceSub, ↓reduceIte, Bool.not_true, Bool.not_false, Bool.and_true, Bool.true_and, Bool.false_and, Bool.and_false, if_true, if_false, Bool.false_eq_true, oNeg, oAddI, oSubI, oAdd_ii, oLt, oLe, oGt, oGe, Option.bind_some, Option.map_some]
        refine out_seq (ρ1 := [some S, some (.int (at_ : Int)), some (.int top), some (.int ((deep + 1 : Nat) : Int)), some (.bl even), some (.int (20 * (at_ : Int))), some (.int (m : Int)), some (.lst []), none, none, none, none, none, none]) ?_ ?_
        · simp only [defD, args, dSeq, dSet, dSetP, dSetN, lstAt, dApp, dAppP, dAsg, dPar, dDrop, dWhile, dIfS, dRet, dB, dCall, dCons, dNil, dVar, dC, dBin, dChain, asB, dTru, dNotT, dAndT, dOrT, dAnd, dOr, dNot, dIf, dUn, dTup, dLst, dItems, dYes, R.bind, R.to, O.seq, outR, ofO, noErr, mask, Sm.putIn, bindPat, bindPats, itemsOf, tru, List.foldr_cons, List.foldr_nil, List.length_cons, List.length_nil, List.map_cons, List.map_nil, List.cons_append, List.nil_append, Nat.sub_self, List.replicate_zero, List.replicate_succ, List.getElem?_cons_succ, List.getElem?_cons_zero, List.set_cons_zero, List.set_cons_succ, Nat.reduceAdd, Nat.reduceSub, ↓reduceIte, Bool.not_true, Bool.not_false, Bool.and_true, Bool.true_and, Bool.false_and, Bool.and_false, if_true, if_false, Bool.false_eq_true, oNeg, oAddI, oSubI, oAdd_ii, oLt, oLe, oGt, oGe, Option.bind_some, Option.map_some]
        refine out_seq er (out_seq st7 ?_)
        refine out_seq (ρ1 := [some S, some (.int (at_ : Int)), some (.int top), some (.int ((deep + 1 : Nat) : Int)), some (.bl even), some (.int (20 * (at_ : Int))), some (.int (m : Int)), some (.lst (rs'.map prD)), some (.lst []), y9, none, none, y12, y13]) ?_ ?_
        · simp only [defD, args, dSeq, dSet, dSetP, dSetN, lstAt, dApp, dAppP, dAsg, dPar, dDrop, dWhile, dIfS, dRet, dB, dCall, dCons, dNil, dVar, dC, dBin, dChain, asB, dTru, dNotT, dAndT, dOrT, dAnd, dOr, dNot, dIf, dUn, dTup, dLst, dItems, dYes, R.bind, R.to, O.seq, outR, ofO, noErr, mask, Sm.putIn, bindPat, bindPats, itemsOf, tru, List.foldr_cons, List.foldr_nil, List.length_cons, List.length_nil, List.map_cons, List.map_nil, List.cons_append, List.nil_append, Nat.sub_self, List.replicate_zero, List.replicate_succ, List.getElem?_cons_succ, List.getElem?_cons_zero, List.set_cons_zero, List.set_cons_succ, Nat.reduceAdd, Nat.reduceSub, ↓reduceIte, Bool.not_true, Bool.not_false, Bool.and_true, Bool.true_and, Bool.false_and, Bool.and_false, if_true, if_false, Bool.false_eq_true, oNeg, oAddI, oSubI, oAdd_ii, oLt, oLe, oGt, oGe, Option.bind_some, Option.map_some]
        refine out_seq (ρ1 := [some S, some (.int (at_ : Int)), some (.int top), some (.int ((deep : Int) + 1)), some (.bl even), some (.int (20 * (at_ : Int))), some (.int (m : Int)), some (.lst (rs'.map prD)), some (.lst (encW ([] ++ ws))), z9, z10, z11, y12, y13]) ?_ (ret_of ?_)
        · unfold dFor
          rw [enum_itL (ds := rs'.map prD) (by simp only [defD, args, dSeq, dSet, dSetP, dSetN, lstAt, dApp, dAppP, dAsg, dPar, dDrop, dWhile, dIfS, dRet, dB, dCall, dCons, dNil, dVar, dC, dBin, dChain, asB, dTru, dNotT, dAndT, dOrT, dAnd, dOr, dNot, dIf, dUn, dTup, dLst, dItems, dYes, R.bind, R.to, O.seq, outR, ofO, noErr, mask, Sm.putIn, bindPat, bindPats, itemsOf, tru, List.foldr_cons, List.foldr_nil, List.length_cons, List.length_nil, List.map_cons, List.map_nil, List.cons_append, List.nil_append, Nat.sub_self, List.replicate_zero, List.replicate_succ, List.getElem?_cons_succ, List.getElem?_cons_zero, List.set_cons_zero, List.set_cons_succ, Nat.reduceAdd, Nat.reduceSub, ↓reduceIte, Bool.not_true, Bool.not_false, Bool.and_true, Bool.true_and, Bool.false_and, Bool.and_false, if_true, if_false, Bool.false_eq_true, oNeg, oAddI, oSubI, oAdd_ii, oLt, oLe, oGt, oGe, Option.bind_some, Option.map_some])]
          exact ew
        · cases ws with
          | nil => exact absurd rfl hne
          | cons x ws =>
            rw [enc_go, List.nil_append]
            show _ = Sm.R.ok (D.tup [D.int top, D.tup (encW (x :: ws))])
            generalize encW (x :: ws) = E
            simp only [oTuple, defD, args, dSeq, dSet, dSetP, dSetN, lstAt, dApp, dAppP, dAsg, dPar, dDrop, dWhile, dIfS, dRet, dB, dCall, dCons, dNil, dVar, dC, dBin, dChain, asB, dTru, dNotT, dAndT, dOrT, dAnd, dOr, dNot, dIf, dUn, dTup, dLst, dItems, dYes, R.bind, R.to, O.seq, outR, ofO, noErr, mask, Sm.putIn, bindPat, bindPats, itemsOf, tru, List.foldr_cons, List.foldr_nil, List.length_cons, List.length_nil, List.map_cons, List.map_nil, List.cons_append, List.nil_append, Nat.sub_self, List.replicate_zero, List.replicate_succ, List.getElem?_cons_succ, List.getElem?_cons_zero, List.set_cons_zero, List.set_cons_succ, Nat.reduceAdd, Nat.reduceSub, ↓reduceIte, Bool.not_true, Bool.not_false, Bool.and_true, Bool.true_and, Bool.false_and, Bool.and_false, if_true, if_false, Bool.false_eq_true, oNeg, oAddI, oSubI, oAdd_ii, oLt, oLe, oGt, oGe, Option.bind_some, Option.map_some]
      · have : (p.1, p.2.worth - top) ∈ rs' := by rw [← w1]; exact List.mem_map.mpr ⟨p, hp, rfl⟩
        exact (hR'.bd _ this).1
      · have := hR'.fair he
        rw [← w1, List.map_map] at this
        exact this
      · have : (p.1, p.2.worth - top) ∈ rs' := by rw [← w1]; exact List.mem_map.mpr ⟨p, hp, rfl⟩
        exact (hR'.bd _ this).2
theorem game_drawn {pk : Nat → Int → Int} (ok : PkOk pk) (even : Bool) (deep n : Nat) (at_ : Nat) (top : Int) (h1 : 1 ≤ deep) (h2 : deep ≤ n) (h3 : 1 ≤ at_) (h4 : (top.natAbs : Int) + 3 * ((deep : Int) - 1) ≤ 20) :
    ∃ g, d__law_game pk n [.scr0, .int (at_ : Int), .int top, .int (deep : Int), .bl even] = .ok g.enc ∧ Drawn deep top even g ∧ (at_ = 1 → 2 ≤ deep → g.ways ≠ []) := game_drawnS (pickS0 ok) even deep n at_ top h1 h2 h3 h4
theorem drawn_ok {pk : Nat → Int → Int} (ok : PkOk pk) (deep : Nat) (hd : 1 ≤ deep ∧ deep ≤ 4) : ∃ g even top, d__law_drawn pk [.scr0, .int (deep : Int)] = .ok g.enc ∧ Drawn deep top even g ∧ (2 ≤ deep → g.ways ≠ []) ∧ even = (pk 1 2 == 0) ∧ -6 ≤ top ∧ top ≤ 6 := by
  obtain ⟨t, et, t1, t2⟩ := pickD ok (i := 0) (m := 13) (by decide) (by decide)
  have e1 := dPick_ok pk 1 (m := 2) (by decide)
  obtain ⟨g, eg, dg, hw⟩ := game_drawn ok (pk 1 2 == 0) deep 8 1 (t - 6) hd.1 (by omega) (by decide) (by omega)
  refine ⟨g, _, _, ?_, dg, hw rfl, rfl, by omega, by omega⟩
  simp only [d__law_drawn, b__law_drawn, et, show dPick pk [.scr0, .int 1, .int 2] = _ from e1, oEq_int, show d__law_game pk 8 [.scr0, .int 1, .int (t - 6), .int (deep : Int), .bl (pk 1 2 == 0)] = _ from eg, defD, args, dSeq, dSet, dSetP, dSetN, lstAt, dApp, dAppP, dAsg, dPar, dDrop, dWhile, dIfS, dRet, dB, dCall, dCons, dNil, dVar, dC, dBin, dChain, asB, dTru, dNotT, dAndT, dOrT, dAnd, dOr, dNot, dIf, dUn, dTup, dLst, dItems, dYes, R.bind, R.to, O.seq, outR, ofO, noErr, mask, Sm.putIn, bindPat, bindPats, itemsOf, tru, List.foldr_cons, List.foldr_nil, List.length_cons, List.length_nil, List.map_cons, List.map_nil, List.cons_append, List.nil_append, Nat.sub_self, List.replicate_zero, List.replicate_succ, List.getElem?_cons_succ, List.getElem?_cons_zero, List.set_cons_zero, List.set_cons_succ, Nat.reduceAdd, Nat.reduceSub, ↓reduceIte, Bool.not_true, Bool.not_false, Bool.and_true, Bool.true_and, Bool.false_and, Bool.and_false, if_true, if_false, Bool.false_eq_true, oNeg, oAddI, oSubI, oAdd_ii, oLt, oLe, oGt, oGe, Option.bind_some, Option.map_some]
end Kx
namespace Sm
open PySem PySem.Spec L2
theorem forGo_test {pt : Pat} {f : DS} (c : D → Bool) (r : D) (I : Env → Prop) : ∀ (ds : List D) (ρ : Env), I ρ → (∀ d ρ, d ∈ ds → I ρ → ∃ ρ1, bindPat pt d ρ = some ρ1 ∧ (c d = true → ∃ ρ2, f ρ1 = .nx ρ2 ∧ I ρ2) ∧ (c d = false → f ρ1 = .ret r)) →
    (ds.all c = true → ∃ ρ', forGo pt f ds ρ = .nx ρ' ∧ I ρ') ∧ (ds.all c = false → forGo pt f ds ρ = .ret r)
  | [], ρ, h, _ => ⟨fun _ => ⟨ρ, rfl, h⟩, fun h => by simp at h⟩
  | d :: ds, ρ, h, hs => by
    obtain ⟨ρ1, e1, e2, e3⟩ := hs d ρ (by simp) h
    cases hc : c d with
    | true =>
      obtain ⟨ρ2, e4, e5⟩ := e2 hc
      have ih := forGo_test c r I ds ρ2 e5 fun d ρ hd => hs d ρ (by simp [hd])
      rw [List.all_cons, hc, Bool.true_and]
      unfold forGo
      rw [e1]
      simp only [e4, O.seq]
      exact ih
    | false =>
      rw [List.all_cons, hc, Bool.false_and]
      refine ⟨fun h => (by cases h), fun _ => ?_⟩
      unfold forGo
      rw [e1]
      simp only [e3 hc, O.seq]
mutual
def okD : D → Bool
  | .non => true
  | .bl _ => true
  | .int _ => true
  | .str _ => true
  | .tup xs => okDs xs
  | .lst xs => okDs xs
  | _ => false
def okDs : List D → Bool
  | [] => true
  | x :: xs => okD x && okDs xs
end
theorem okDs_mem : ∀ {ds : List D} {d : D}, okDs ds = true → d ∈ ds → okD d = true
  | e :: ds, d, h, hd => by
    simp only [okDs, Bool.and_eq_true] at h
    rcases List.mem_cons.mp hd with rfl | hd
    · exact h.1
    · exact okDs_mem h.2 hd
theorem okDs_all : ∀ {ds : List D}, (∀ d ∈ ds, okD d = true) → okDs ds = true
  | [], _ => rfl
  | e :: ds, h => by simp only [okDs, h e (by simp), Bool.true_and]; exact okDs_all fun d hd => h d (by simp [hd])
def wh (d : D) (lo hi : Int) : Bool := match d with | .int i => decide (lo ≤ i) && decide (i ≤ hi) | _ => false
end Sm
namespace Kx
open PySem PySem.Spec L2 Sm
theorem whole_any {d : D} (h : okD d = true) (lo hi : Int) : d_is_whole [d, .int lo, .int hi] = .ok (.bl (wh d lo hi)) := by
  cases d with
  | int i => exact whole_ok i lo hi
  | dct _ => simp [okD] at h
  | exc _ => simp [okD] at h
  | scr _ => simp [okD] at h
  | scr0 => simp [okD] at h
  | fnv => simp [okD] at h
  | obj _ => simp [okD] at h
  | dcl _ => simp [okD] at h
  | scr1 => simp [okD] at h
  | _ => simp only [d_is_whole, b_is_whole, oIsInt, oIsBool, wh, defD, args, dSeq, dSet, dSetP, dSetN, lstAt, dApp, dAppP, dAsg, dPar, dDrop, dWhile, dIfS, dRet, dB, dCall, dCons, dNil, dVar, dC, dBin, dChain, asB, dTru, dNotT, dAndT, dOrT, dAnd, dOr, dNot, dIf, dUn, dTup, dLst, dItems, dYes, R.bind, R.to, O.seq, outR, ofO, noErr, mask, Sm.putIn, bindPat, bindPats, itemsOf, tru, List.foldr_cons, List.foldr_nil, List.length_cons, List.length_nil, List.map_cons, List.map_nil, List.cons_append, List.nil_append, Nat.sub_self, List.replicate_zero, List.replicate_succ, List.getElem?_cons_succ, List.getElem?_cons_zero, List.set_cons_zero, List.set_cons_succ, Nat.reduceAdd, Nat.reduceSub, ↓reduceIte, Bool.not_true, Bool.not_false, Bool.and_true, Bool.true_and, Bool.false_and, Bool.and_false, if_true, if_false, Bool.false_eq_true, oNeg, oAddI, oSubI, oAdd_ii, oLt, oLe, oGt, oGe, Option.bind_some, Option.map_some]
theorem all_bools {α : Type} (f : α → Bool) (l : List α) : oAll [.lst (l.map fun x => D.bl (f x))] = some (.bl (l.all f)) := by
  have bo : boolsOf (l.map fun x => D.bl (f x)) = some (l.map f) := by
    induction l with
    | nil => rfl
    | cons a l ih => simp only [List.map_cons, boolsOf, ih, Option.map_some]
  simp only [oAll, bo, Option.map_some]
  simp [List.all_map]
end Kx
namespace Kx
open PySem PySem.Spec L2 Sm
mutual
theorem okD_noFn : ∀ d : D, okD d = true → noFn d = true
  | .non, _ => rfl
  | .bl _, _ => rfl
  | .int _, _ => rfl
  | .str _, _ => rfl
  | .tup xs, h => by simp only [okD] at h; simp only [noFn]; exact okDs_noFn xs h
  | .lst xs, h => by simp only [okD] at h; simp only [noFn]; exact okDs_noFn xs h
  | .dct _, h => by simp [okD] at h
  | .exc _, h => by simp [okD] at h
  | .scr _, h => by simp [okD] at h
  | .scr0, h => by simp [okD] at h
  | .fnv, h => by simp [okD] at h
  | .obj _, h => by simp [okD] at h
  | .dcl _, h => by simp [okD] at h
  | .scr1, h => by simp [okD] at h
theorem okDs_noFn : ∀ ds : List D, okDs ds = true → noFns ds = true
  | [], _ => rfl
  | d :: ds, h => by
    simp only [okDs, Bool.and_eq_true] at h
    simp only [noFns, Bool.and_eq_true]
    exact ⟨okD_noFn d h.1, okDs_noFn ds h.2⟩
end
end Kx
namespace Sm
namespace Game
theorem isPath_at {g : Game} {i : Nat} {p : List Nat} (h : IsPath g (i :: p)) : ∃ x, g.ways[i]? = some x ∧ IsPath x.2 p := by
  simp only [IsPath] at h
  cases hx : g.ways[i]? with
  | none => rw [hx] at h; exact h.elim
  | some x => rw [hx] at h; exact ⟨x, rfl, h⟩
theorem isPath_cons {g : Game} {i : Nat} {p : List Nat} {x : Int × Game} (hx : g.ways[i]? = some x) : IsPath g (i :: p) ↔ IsPath x.2 p := by
  simp only [IsPath, hx]
theorem part_cons {g : Game} {i : Nat} {p : List Nat} {x : Int × Game} (hx : g.ways[i]? = some x) : part g (i :: p) = part x.2 p := by
  simp only [part, hx]
end Game
end Sm
namespace Kx
open PySem PySem.Spec L2 Sm
theorem pls_map {α : Type} {n : Nat} (f : α → D) (l : List α) (h : ∀ x ∈ l, pl n (f x) = true) : pls n (l.map f) = true := by
  induction l with
  | nil => rfl
  | cons a l ih => simp only [List.map_cons, pls, h a (by simp), Bool.true_and]; exact ih fun x hx => h x (by simp [hx])
theorem encP_pl (n : Nat) (p : List Nat) : pl (n + 1) (encP p) = true := by
  unfold encP
  simp only [pl]
  exact pls_map _ _ fun i _ => by simp [pl]
theorem cut_take {α : Type} (xs : List α) (k : Nat) : cutD xs none (some (k : Int)) = xs.take k := by
  unfold cutD
  rw [show HT.sIx xs.length xs.length (some (k : Int)) = min k xs.length from HT.sIx_nat .., show HT.sIx xs.length 0 none = 0 from rfl]
  rw [List.drop_zero, Nat.sub_zero]
  by_cases h : k ≤ xs.length
  · rw [Nat.min_eq_left h]
  · rw [Nat.min_eq_right (by omega), List.take_length, List.take_of_length_le (by omega)]
theorem sl_take (p : List Nat) (k : Nat) : oSl (encP p) none (some (k : Int)) = some (encP (p.take k)) := by
  unfold encP
  simp only [oSl]
  rw [cut_take, List.map_take]
end Kx
namespace Sm
open PySem PySem.Spec L2
mutual
def nc : Nat → Nat → D → Bool
  | _, _, .non => true
  | _, _, .bl _ => true
  | _, _, .int _ => true
  | _, _, .str x => PySem.PyData.strOk x
  | n + 1, w, .tup xs => decide (xs.length ≤ w) && ncs n w xs
  | n + 1, w, .lst xs => decide (xs.length ≤ w) && ncs n w xs
  | _, _, _ => false
def ncs : Nat → Nat → List D → Bool
  | _, _, [] => true
  | n, w, x :: xs => nc n w x && ncs n w xs
end
end Sm
namespace Kx
open PySem PySem.Spec L2 Sm
theorem pl_ints (n : Nat) : ∀ p : List Nat, pls n (p.map fun i : Nat => D.int (i : Int)) = true
  | [] => rfl
  | i :: p => by simp [pls, pl, pl_ints n p]
theorem pl_P (n : Nat) (p : List Nat) : pl (n + 1) (encP p) = true := by simp only [encP, pl]; exact pl_ints n p
theorem sl_takeT (xs : List D) (k : Nat) : oSl (.tup xs) none (some (k : Int)) = some (.tup (xs.take k)) := by
  show some (D.tup (cutD xs none (some (k : Int)))) = _
  rw [cut_take]
end Kx
namespace Sm
open PySem PySem.Spec L2
theorem out_step {f g : DS} {ρ : Env} {o : O} {r : R D} (h : f ρ = o) (h2 : outR (o.seq g) = r) : outR (dSeq f g ρ) = r := by
  unfold dSeq; rw [h]; exact h2
def over (S : List Nat) : Nat → Env → (Nat → Option D) → Env
  | _, [], _ => []
  | k, x :: xs, ys => (if S.contains k then ys k else x) :: over S (k + 1) xs ys
theorem over_self (S : List Nat) : ∀ (ρ : Env) (k : Nat) (ys : Nat → Option D), (∀ (i : Nat) x, ρ[i]? = some x → ys (k + i) = x) → over S k ρ ys = ρ
  | [], _, _, _ => rfl
  | x :: xs, k, ys, h => by
    unfold over
    have h0 := h 0 x rfl
    rw [Nat.add_zero] at h0
    rw [h0, ite_self, over_self S xs (k + 1) ys fun i y hy => by rw [show k + 1 + i = k + (i + 1) by omega]; exact h (i + 1) y (by simpa using hy)]
theorem over_id (S : List Nat) (ρ : Env) : over S 0 ρ (fun i => (ρ[i]?).getD none) = ρ := over_self S ρ 0 _ fun i x h => by simp [h]
def Stay (S : List Nat) (ρ : Env) (o : O) : Prop := ∃ ρ2, o = .nx ρ2 ∧ ∃ ys, ρ2 = over S 0 ρ ys
theorem stay {S : List Nat} {ρ : Env} {o : O} {ρ2 : Env} (h : o = .nx ρ2) (h2 : over S 0 ρ (fun i => (ρ2[i]?).getD none) = ρ2) : Stay S ρ o := ⟨ρ2, h, _, h2.symm⟩
theorem stay_nx {S : List Nat} {f g : DS} {ρ ρ0 ρ1 : Env} (h : f ρ = .nx ρ1) (h2 : Stay S ρ0 (g ρ1)) : Stay S ρ0 (dSeq f g ρ) := by
  unfold dSeq; rw [h]; exact h2
section
variable {α β : Type} {own : List Nat} {pt : Pat} {it : DI} {f g : DS} {ρ : Env} {r : R D}
theorem accP_nx {xs : List α} {enc : α → D} (S : List Nat) (i : Nat) (eb : β → D) (sp : β → α → β) (b0 : β) (hit : it (mask own ρ) = .ok (xs.map enc)) (h0 : ρ[i]? = some (some (eb b0)))
    (st : ∀ pre x suf ys, xs = pre ++ x :: suf → ∃ ρ1, bindPat pt (enc x) (over S 0 (ρ.set i (some (eb (pre.foldl sp b0)))) ys) = some ρ1 ∧ Stay S (ρ.set i (some (eb (sp (pre.foldl sp b0) x)))) (f ρ1)) : ∃ ys, dFor own pt it f ρ = .nx (over S 0 (ρ.set i (some (eb (xs.foldl sp b0)))) ys) := by
  have hs : ρ.set i (some (eb b0)) = ρ := by
    apply List.ext_getElem?
    intro j
    by_cases hj : j = i
    · subst hj; rw [List.getElem?_set_self (List.getElem?_eq_some_iff.mp h0).1, h0]
    · rw [List.getElem?_set_ne (fun e => hj e.symm)]
  have key : ∀ (suf pre : List α) (ys : Nat → Option D), xs = pre ++ suf → ∃ ys', forGo pt f (suf.map enc) (over S 0 (ρ.set i (some (eb (pre.foldl sp b0)))) ys) = .nx (over S 0 (ρ.set i (some (eb (xs.foldl sp b0)))) ys') := by
    intro suf
    induction suf with
    | nil => intro pre ys e; rw [List.append_nil] at e; subst e; exact ⟨ys, rfl⟩
    | cons x suf ih =>
      intro pre ys e
      obtain ⟨ρ1, h1, ρ2, h2, ys1, rfl⟩ := st pre x suf ys e
      obtain ⟨ys', h3⟩ := ih (pre ++ [x]) ys1 (by rw [e]; simp)
      rw [List.foldl_append, List.foldl_cons, List.foldl_nil] at h3
      refine ⟨ys', ?_⟩
      rw [List.map_cons]
      unfold forGo
      rw [h1]
      simp only [h2, O.seq]
      exact h3
  obtain ⟨ys', h⟩ := key xs [] (fun i => (ρ[i]?).getD none) rfl
  refine ⟨ys', ?_⟩
  unfold dFor
  rw [hit]
  rw [List.foldl_nil, hs, over_id] at h
  exact h
theorem accP_out {xs : List α} {enc : α → D} (S : List Nat) (i : Nat) (eb : β → D) (sp : β → α → β) (b0 : β) (hit : it (mask own ρ) = .ok (xs.map enc)) (h0 : ρ[i]? = some (some (eb b0)))
    (st : ∀ pre x suf ys, xs = pre ++ x :: suf → ∃ ρ1, bindPat pt (enc x) (over S 0 (ρ.set i (some (eb (pre.foldl sp b0)))) ys) = some ρ1 ∧ Stay S (ρ.set i (some (eb (sp (pre.foldl sp b0) x)))) (f ρ1))
    (hk : ∀ ys, outR (g (over S 0 (ρ.set i (some (eb (xs.foldl sp b0)))) ys)) = r) : outR (dSeq (dFor own pt it f) g ρ) = r := by
  obtain ⟨ys, e⟩ := accP_nx (own := own) (pt := pt) (f := f) S i eb sp b0 hit h0 st
  exact out_seq e (hk ys)
end
end Sm
namespace Kx
open PySem PySem.Spec L2 Sm
end Kx
namespace Kx
open PySem PySem.Spec L2 Sm
theorem ends_ok {g : Game} {d : Nat} (hg : g.Ok d) (hd : d ≤ 6) : d_ends_of [g.enc] = .ok (.lst ((g.paths.filter fun p => decide ((g.part p).ways = [])).map encP)) := by
  refine defD_eq rfl (ret_of (dLc_of ?_))
  refine lc_ok (xs := g.paths) (enc := encP) (fun p => decide ((g.part p).ways = [])) encP ?_ fun p hp => ⟨_, rfl, ?_, fun _ => rfl⟩
  · have := paths_of_ok 8 d (by omega) hd g hg
    simp only [this, defD, args, dSeq, dSet, dSetP, dSetN, lstAt, dApp, dAppP, dAsg, dPar, dDrop, dWhile, dIfS, dRet, dB, dCall, dCons, dNil, dVar, dC, dBin, dChain, asB, dTru, dNotT, dAndT, dOrT, dAnd, dOr, dNot, dIf, dUn, dTup, dLst, dItems, dYes, R.bind, R.to, O.seq, outR, ofO, noErr, mask, Sm.putIn, bindPat, bindPats, itemsOf, tru, List.foldr_cons, List.foldr_nil, List.length_cons, List.length_nil, List.map_cons, List.map_nil, List.cons_append, List.nil_append, Nat.sub_self, List.replicate_zero, List.replicate_succ, List.getElem?_cons_succ, List.getElem?_cons_zero, List.set_cons_zero, List.set_cons_succ, Nat.reduceAdd, Nat.reduceSub, ↓reduceIte, Bool.not_true, Bool.not_false, Bool.and_true, Bool.true_and, Bool.false_and, Bool.and_false, if_true, if_false, Bool.false_eq_true, oNeg, oAddI, oSubI, oAdd_ii, oLt, oLe, oGt, oGe, Option.bind_some, Option.map_some]
  · have hp := (Game.mem_paths g p).mp hp
    simp only [part_of_ok hp, end_ok, defD, args, dSeq, dSet, dSetP, dSetN, lstAt, dApp, dAppP, dAsg, dPar, dDrop, dWhile, dIfS, dRet, dB, dCall, dCons, dNil, dVar, dC, dBin, dChain, asB, dTru, dNotT, dAndT, dOrT, dAnd, dOr, dNot, dIf, dUn, dTup, dLst, dItems, dYes, R.bind, R.to, O.seq, outR, ofO, noErr, mask, Sm.putIn, bindPat, bindPats, itemsOf, tru, List.foldr_cons, List.foldr_nil, List.length_cons, List.length_nil, List.map_cons, List.map_nil, List.cons_append, List.nil_append, Nat.sub_self, List.replicate_zero, List.replicate_succ, List.getElem?_cons_succ, List.getElem?_cons_zero, List.set_cons_zero, List.set_cons_succ, Nat.reduceAdd, Nat.reduceSub, ↓reduceIte, Bool.not_true, Bool.not_false, Bool.and_true, Bool.true_and, Bool.false_and, Bool.and_false, if_true, if_false, Bool.false_eq_true, oNeg, oAddI, oSubI, oAdd_ii, oLt, oLe, oGt, oGe, Option.bind_some, Option.map_some]
theorem len_encP (p : List Nat) : oLen [encP p] = some (.int (p.length : Int)) := by
  unfold encP; simp only [oLen, List.length_map]
theorem pl_row (n : Nat) (ps : List (List Nat)) : pl (n + 2) (.lst (ps.map encP)) = true := by
  simp only [pl]; exact pls_map _ _ fun p _ => encP_pl n p
theorem prefix_take {p r : List Nat} : p <+: r ↔ r.take p.length = p := by
  constructor
  · rintro ⟨t, rfl⟩; simp
  · intro h; rw [← h]; exact List.take_prefix _ _
theorem deq_path : ∀ p q : List Nat, deqs (p.map fun i : Nat => D.int (i : Int)) (q.map fun i : Nat => D.int (i : Int)) = decide (p = q)
  | [], [] => rfl
  | [], _ :: _ => by simp [deqs]
  | _ :: _, [] => by simp [deqs]
  | i :: p, j :: q => by
    simp only [List.map_cons, deqs, deq_path p q, deq]
    by_cases h : i = j
    · subst h; simp
    · have : ((i : Int) == (j : Int)) = false := by simp; omega
      rw [this]; simp [h]
end Kx
namespace Kx
open PySem PySem.Spec L2 Sm
theorem shares_ok {n : Nat} {g : Game} (h : g.Ok n) : d_shares_of [g.enc] = .ok (.lst (g.ways.map fun x => encQ (Rat.divInt x.1 g.total))) := by
  have tb := Game.total_bd h
  refine defD_eq rfl ?_
  unfold b_shares_of
  have lc : dLcs [2, 3] (.t [(.v 2), (.v 3)]) (dItems (dCall d_ways_of (dCons (dVar 0) dNil))) dYes (dVar 2) [some g.enc, none, none, none] = .ok (g.ways.map fun p => D.int p.1) :=
    lc_ok1 (enc := fun p : Int × Game => D.tup [.int p.1, p.2.enc]) _ (by simp only [ways_ok, encW, defD, args, dSeq, dSet, dSetP, dSetN, lstAt, dApp, dAppP, dAsg, dPar, dDrop, dWhile, dIfS, dRet, dB, dCall, dCons, dNil, dVar, dC, dBin, dChain, asB, dTru, dNotT, dAndT, dOrT, dAnd, dOr, dNot, dIf, dUn, dTup, dLst, dItems, dYes, R.bind, R.to, O.seq, outR, ofO, noErr, mask, Sm.putIn, bindPat, bindPats, itemsOf, tru, List.foldr_cons, List.foldr_nil, List.length_cons, List.length_nil, List.map_cons, List.map_nil, List.cons_append, List.nil_append, Nat.sub_self, List.replicate_zero, List.replicate_succ, List.getElem?_cons_succ, List.getElem?_cons_zero, List.set_cons_zero, List.set_cons_succ, Nat.reduceAdd, Nat.reduceSub, ↓reduceIte, Bool.not_true, Bool.not_false, Bool.and_true, Bool.true_and, Bool.false_and, Bool.and_false, if_true, if_false, Bool.false_eq_true, oNeg, oAddI, oSubI, oAdd_ii, oLt, oLe, oGt, oGe, Option.bind_some, Option.map_some]) fun p hp => ⟨_, rfl, rfl⟩
  have im := ints_map (fun p : Int × Game => p.1) g.ways
  apply out_step (o := .nx [some g.enc, some (.int g.total), none, none])
  · generalize (g.ways.map fun p => D.int p.1) = L at *
    simp only [dLc, lc, oSum, im, Game.total, defD, args, dSeq, dSet, dSetP, dSetN, lstAt, dApp, dAppP, dAsg, dPar, dDrop, dWhile, dIfS, dRet, dB, dCall, dCons, dNil, dVar, dC, dBin, dChain, asB, dTru, dNotT, dAndT, dOrT, dAnd, dOr, dNot, dIf, dUn, dTup, dLst, dItems, dYes, R.bind, R.to, O.seq, outR, ofO, noErr, mask, Sm.putIn, bindPat, bindPats, itemsOf, tru, List.foldr_cons, List.foldr_nil, List.length_cons, List.length_nil, List.map_cons, List.map_nil, List.cons_append, List.nil_append, Nat.sub_self, List.replicate_zero, List.replicate_succ, List.getElem?_cons_succ, List.getElem?_cons_zero, List.set_cons_zero, List.set_cons_succ, Nat.reduceAdd, Nat.reduceSub, ↓reduceIte, Bool.not_true, Bool.not_false, Bool.and_true, Bool.true_and, Bool.false_and, Bool.and_false, if_true, if_false, Bool.false_eq_true, oNeg, oAddI, oSubI, oAdd_ii, oLt, oLe, oGt, oGe, Option.bind_some, Option.map_some]
  simp only [O.seq]
  refine ret_of (dLc_of ?_)
  refine lc_ok1 (enc := fun p : Int × Game => D.tup [.int p.1, p.2.enc]) _ (by simp only [ways_ok, encW, defD, args, dSeq, dSet, dSetP, dSetN, lstAt, dApp, dAppP, dAsg, dPar, dDrop, dWhile, dIfS, dRet, dB, dCall, dCons, dNil, dVar, dC, dBin, dChain, asB, dTru, dNotT, dAndT, dOrT, dAnd, dOr, dNot, dIf, dUn, dTup, dLst, dItems, dYes, R.bind, R.to, O.seq, outR, ofO, noErr, mask, Sm.putIn, bindPat, bindPats, itemsOf, tru, List.foldr_cons, List.foldr_nil, List.length_cons, List.length_nil, List.map_cons, List.map_nil, List.cons_append, List.nil_append, Nat.sub_self, List.replicate_zero, List.replicate_succ, List.getElem?_cons_succ, List.getElem?_cons_zero, List.set_cons_zero, List.set_cons_succ, Nat.reduceAdd, Nat.reduceSub, ↓reduceIte, Bool.not_true, Bool.not_false, Bool.and_true, Bool.true_and, Bool.false_and, Bool.and_false, if_true, if_false, Bool.false_eq_true, oNeg, oAddI, oSubI, oAdd_ii, oLt, oLe, oGt, oGe, Option.bind_some, Option.map_some]) fun p hp => ⟨_, rfl, ?_⟩
  have hpos : 1 ≤ g.ways.length := List.length_pos_of_mem hp
  have sh := share_ok (u := p.1) (d := g.total) (n := 6) (by omega) (by show _ < 64; omega) (by decide)
  simp only [sh, defD, args, dSeq, dSet, dSetP, dSetN, lstAt, dApp, dAppP, dAsg, dPar, dDrop, dWhile, dIfS, dRet, dB, dCall, dCons, dNil, dVar, dC, dBin, dChain, asB, dTru, dNotT, dAndT, dOrT, dAnd, dOr, dNot, dIf, dUn, dTup, dLst, dItems, dYes, R.bind, R.to, O.seq, outR, ofO, noErr, mask, Sm.putIn, bindPat, bindPats, itemsOf, tru, List.foldr_cons, List.foldr_nil, List.length_cons, List.length_nil, List.map_cons, List.map_nil, List.cons_append, List.nil_append, Nat.sub_self, List.replicate_zero, List.replicate_succ, List.getElem?_cons_succ, List.getElem?_cons_zero, List.set_cons_zero, List.set_cons_succ, Nat.reduceAdd, Nat.reduceSub, ↓reduceIte, Bool.not_true, Bool.not_false, Bool.and_true, Bool.true_and, Bool.false_and, Bool.and_false, if_true, if_false, Bool.false_eq_true, oNeg, oAddI, oSubI, oAdd_ii, oLt, oLe, oGt, oGe, Option.bind_some, Option.map_some]
theorem sz_one : Sz 1 (1 : Rat) := ⟨by decide, by decide⟩
theorem chance_loop : ∀ (p : List Nat) (n : Nat) (g : Game) (c : Rat) (m : Nat) (x1 x3 : Option D), g.Ok n → g.IsPath p → Sz m c → m + 5 * p.length ≤ 4000 →
    ∃ y, forGo (.v 3) (dSeq (dSet [] 2 (dCall d_times (dCons (dVar 2) (dCons (dBin oIx (dCall d_shares_of (dCons (dVar 0) dNil)) (dVar 3)) dNil)))) (dSet [] 0 (dBin oIx (dBin oIx (dCall d_ways_of (dCons (dVar 0) dNil)) (dVar 3)) (dC (.int 1))))) (p.map fun i : Nat => D.int (i : Int)) [some g.enc, x1, some (encQ c), x3]
      = .nx [some (g.part p).enc, x1, some (encQ (c * g.chance p)), y]
  | [], n, g, c, m, x1, x3, _, _, _, _ => ⟨x3, by simp only [List.map_nil, forGo, Game.part, Game.chance, Rat.mul_one]⟩
  | i :: p, n, g, c, m, x1, x3, hg, h, hc, hm => by
    simp only [Game.IsPath] at h
    simp only [Game.part, Game.chance]
    cases hx : g.ways[i]? with
    | none => rw [hx] at h; exact h.elim
    | some x =>
      rw [hx] at h
      obtain ⟨t1, t2, a1, a2, hk⟩ := Game.total_at hg hx
      have hs := Game.share_sz ⟨a1, a2⟩ ⟨t1, t2⟩
      rw [List.length_cons] at hm
      obtain ⟨y, e⟩ := chance_loop p (n - 1) x.2 (c * Rat.divInt x.1 g.total) (m + 5) x1 (some (.int (i : Int))) hk h (hc.mul hs) (by omega)
      refine ⟨y, ?_⟩
      have sa : oIx (.lst (g.ways.map fun x => encQ (Rat.divInt x.1 g.total))) (.int (i : Int)) = some (encQ (Rat.divInt x.1 g.total)) := at_map hx
      have tm := times_ok hc hs (by omega)
      rw [List.map_cons]
      unfold forGo
      have st : dSeq (dSet [] 2 (dCall d_times (dCons (dVar 2) (dCons (dBin oIx (dCall d_shares_of (dCons (dVar 0) dNil)) (dVar 3)) dNil)))) (dSet [] 0 (dBin oIx (dBin oIx (dCall d_ways_of (dCons (dVar 0) dNil)) (dVar 3)) (dC (.int 1)))) [some g.enc, x1, some (encQ c), some (.int (i : Int))] = .nx [some x.2.enc, x1, some (encQ (c * Rat.divInt x.1 g.total)), some (.int (i : Int))] := by
        have sh := shares_ok hg
        generalize (g.ways.map fun x => encQ (Rat.divInt x.1 g.total)) = L at *
        simp only [sh, sa, tm, ways_ok, encW_at hx, oIx_t1, defD, args, dSeq, dSet, dSetP, dSetN, lstAt, dApp, dAppP, dAsg, dPar, dDrop, dWhile, dIfS, dRet, dB, dCall, dCons, dNil, dVar, dC, dBin, dChain, asB, dTru, dNotT, dAndT, dOrT, dAnd, dOr, dNot, dIf, dUn, dTup, dLst, dItems, dYes, R.bind, R.to, O.seq, outR, ofO, noErr, mask, Sm.putIn, bindPat, bindPats, itemsOf, tru, List.foldr_cons, List.foldr_nil, List.length_cons, List.length_nil, List.map_cons, List.map_nil, List.cons_append, List.nil_append, Nat.sub_self, List.replicate_zero, List.replicate_succ, List.getElem?_cons_succ, List.getElem?_cons_zero, List.set_cons_zero, List.set_cons_succ, Nat.reduceAdd, Nat.reduceSub, ↓reduceIte, Bool.not_true, Bool.not_false, Bool.and_true, Bool.true_and, Bool.false_and, Bool.and_false, if_true, if_false, Bool.false_eq_true, oNeg, oAddI, oSubI, oAdd_ii, oLt, oLe, oGt, oGe, Option.bind_some, Option.map_some]
      rw [show bindPat (.v 3) (.int (i : Int)) [some g.enc, x1, some (encQ c), x3] = some [some g.enc, x1, some (encQ c), some (.int (i : Int))] from rfl]
      simp only [st, O.seq]
      rw [e, Rat.mul_assoc]
theorem chance_of_ok {n : Nat} {g : Game} {p : List Nat} (hg : g.Ok n) (hn : n ≤ 6) (h : g.IsPath p) : d_chance_of [g.enc, encP p] = .ok (encQ (g.chance p)) := by
  have hl := (Game.part_ok hg h).2
  obtain ⟨y, e⟩ := chance_loop p n g 1 1 (some (encP p)) none hg h sz_one (by omega)
  rw [Rat.one_mul] at e
  refine defD_eq rfl ?_
  unfold b_chance_of
  apply out_step (o := .nx [some g.enc, some (encP p), some (encQ 1), none])
  · simp only [defD, args, dSeq, dSet, dSetP, dSetN, lstAt, dApp, dAppP, dAsg, dPar, dDrop, dWhile, dIfS, dRet, dB, dCall, dCons, dNil, dVar, dC, dBin, dChain, asB, dTru, dNotT, dAndT, dOrT, dAnd, dOr, dNot, dIf, dUn, dTup, dLst, dItems, dYes, R.bind, R.to, O.seq, outR, ofO, noErr, mask, Sm.putIn, bindPat, bindPats, itemsOf, tru, List.foldr_cons, List.foldr_nil, List.length_cons, List.length_nil, List.map_cons, List.map_nil, List.cons_append, List.nil_append, Nat.sub_self, List.replicate_zero, List.replicate_succ, List.getElem?_cons_succ, List.getElem?_cons_zero, List.set_cons_zero, List.set_cons_succ, Nat.reduceAdd, Nat.reduceSub, ↓reduceIte, Bool.not_true, Bool.not_false, Bool.and_true, Bool.true_and, Bool.false_and, Bool.and_false, if_true, if_false, Bool.false_eq_true, oNeg, oAddI, oSubI, oAdd_ii, oLt, oLe, oGt, oGe, Option.bind_some, Option.map_some]
    rfl
  simp only [O.seq]
  refine out_seq (ρ1 := [some (g.part p).enc, some (encP p), some (encQ (g.chance p)), y]) ?_ (ret_of rfl)
  unfold dFor
  simp only [encP, defD, args, dSeq, dSet, dSetP, dSetN, lstAt, dApp, dAppP, dAsg, dPar, dDrop, dWhile, dIfS, dRet, dB, dCall, dCons, dNil, dVar, dC, dBin, dChain, asB, dTru, dNotT, dAndT, dOrT, dAnd, dOr, dNot, dIf, dUn, dTup, dLst, dItems, dYes, R.bind, R.to, O.seq, outR, ofO, noErr, mask, Sm.putIn, bindPat, bindPats, itemsOf, tru, List.foldr_cons, List.foldr_nil, List.length_cons, List.length_nil, List.map_cons, List.map_nil, List.cons_append, List.nil_append, Nat.sub_self, List.replicate_zero, List.replicate_succ, List.getElem?_cons_succ, List.getElem?_cons_zero, List.set_cons_zero, List.set_cons_succ, Nat.reduceAdd, Nat.reduceSub, ↓reduceIte, Bool.not_true, Bool.not_false, Bool.and_true, Bool.true_and, Bool.false_and, Bool.and_false, if_true, if_false, Bool.false_eq_true, oNeg, oAddI, oSubI, oAdd_ii, oLt, oLe, oGt, oGe, Option.bind_some, Option.map_some]
  exact e
def goP : Game → List D → Bool
  | _, [] => true
  | g, .int i :: ds => if 0 ≤ i then match g.ways[i.toNat]? with
    | some x => goP x.2 ds
    | none => false else false
  | _, _ :: _ => false
def isP (g : Game) : D → Bool
  | .tup xs => goP g xs
  | _ => false
theorem goP_path : ∀ (p : List Nat) (g : Game), g.IsPath p → goP g (p.map fun i : Nat => D.int (i : Int)) = true
  | [], _, _ => rfl
  | i :: p, g, h => by
    simp only [Game.IsPath] at h
    simp only [List.map_cons, goP, Int.toNat_natCast, show (0 : Int) ≤ (i : Int) by omega, if_true]
    cases hx : g.ways[i]? with
    | none => rw [hx] at h; exact h.elim
    | some x => rw [hx] at h; exact goP_path p x.2 h
theorem goP_of : ∀ (ds : List D) (g : Game), goP g ds = true → ∃ p : List Nat, g.IsPath p ∧ ds = p.map fun i : Nat => D.int (i : Int)
  | [], _, _ => ⟨[], trivial, rfl⟩
  | d :: ds, g, h => by
    cases d with
    | int i =>
      simp only [goP] at h
      split at h
      · rename_i hi
        cases hx : g.ways[i.toNat]? with
        | none => rw [hx] at h; cases h
        | some x =>
          rw [hx] at h
          obtain ⟨p, h1, rfl⟩ := goP_of ds x.2 h
          refine ⟨i.toNat :: p, ?_, ?_⟩
          · simp only [Game.IsPath, hx]; exact h1
          · rw [List.map_cons, Int.toNat_of_nonneg hi]
      · cases h
    | _ => simp [goP] at h
theorem isP_iff {g : Game} {d : D} : isP g d = true ↔ ∃ p, g.IsPath p ∧ d = encP p := by
  constructor
  · intro h
    cases d with
    | tup xs => obtain ⟨p, h1, rfl⟩ := goP_of xs g h; exact ⟨p, h1, rfl⟩
    | _ => cases h
  · rintro ⟨p, h, rfl⟩; exact goP_path p g h
def pathB : DS := dSeq (dIfS (dNotT (dTru (dCall d_is_whole (dCons (dVar 2) (dCons (dC (.int 0)) (dCons (dBin oSubI (dB oLen (dCons (dCall d_ways_of (dCons (dVar 0) dNil)) dNil)) (dC (.int 1))) dNil)))))) (dRet (dC (.bl false))) .nx)
    (dSet [] 0 (dBin oIx (dBin oIx (dCall d_ways_of (dCons (dVar 0) dNil)) (dVar 2)) (dC (.int 1))))
theorem is_path_loop : ∀ (ds : List D) (g : Game) (x1 x2 : Option D), (∀ d ∈ ds, okD d = true) →
    (goP g ds = true → ∃ e y, forGo (.v 2) pathB ds [some g.enc, x1, x2] = .nx [e, x1, y]) ∧ (goP g ds = false → forGo (.v 2) pathB ds [some g.enc, x1, x2] = .ret (.bl false))
  | [], g, x1, x2, _ => ⟨fun _ => ⟨_, _, rfl⟩, fun h => by cases h⟩
  | d :: ds, g, x1, x2, h => by
    have hl : (encW g.ways).length = g.ways.length := List.length_map ..
    have wh1 := whole_any (h d (by simp)) 0 (((encW g.ways).length : Int) - 1)
    have ih := fun s => is_path_loop ds s x1 (some d) fun e he => h e (by simp [he])
    have bad : wh d 0 (((encW g.ways).length : Int) - 1) = false → goP g (d :: ds) = false ∧ forGo (.v 2) pathB (d :: ds) [some g.enc, x1, x2] = .ret (.bl false) := fun hw => by
      rw [hw] at wh1
      refine ⟨?_, ?_⟩
      · cases d with
        | int i =>
          simp only [wh, Bool.and_eq_false_iff, decide_eq_false_iff_not] at hw
          simp only [goP]
          split
          · rename_i hi
            have : g.ways[i.toNat]? = none := List.getElem?_eq_none (by omega)
            rw [this]
          · rfl
        | _ => rfl
      · unfold forGo
        simp only [pathB, ways_ok, oLen, wh1, defD, args, dSeq, dSet, dSetP, dSetN, lstAt, dApp, dAppP, dAsg, dPar, dDrop, dWhile, dIfS, dRet, dB, dCall, dCons, dNil, dVar, dC, dBin, dChain, asB, dTru, dNotT, dAndT, dOrT, dAnd, dOr, dNot, dIf, dUn, dTup, dLst, dItems, dYes, R.bind, R.to, O.seq, outR, ofO, noErr, mask, Sm.putIn, bindPat, bindPats, itemsOf, tru, List.foldr_cons, List.foldr_nil, List.length_cons, List.length_nil, List.map_cons, List.map_nil, List.cons_append, List.nil_append, Nat.sub_self, List.replicate_zero, List.replicate_succ, List.getElem?_cons_succ, List.getElem?_cons_zero, List.set_cons_zero, List.set_cons_succ, Nat.reduceAdd, Nat.reduceSub, ↓reduceIte, Bool.not_true, Bool.not_false, Bool.and_true, Bool.true_and, Bool.false_and, Bool.and_false, if_true, if_false, Bool.false_eq_true, oNeg, oAddI, oSubI, oAdd_ii, oLt, oLe, oGt, oGe, Option.bind_some, Option.map_some]
    cases hw : wh d 0 (((encW g.ways).length : Int) - 1) with
    | false =>
      obtain ⟨b1, b2⟩ := bad hw
      rw [b1]
      exact ⟨fun h => (by cases h), fun _ => b2⟩
    | true =>
      rw [hw] at wh1
      unfold wh at hw
      cases d with
      | int i =>
        simp only [Bool.and_eq_true, decide_eq_true_eq] at hw
        have hi : i.toNat < g.ways.length := by omega
        have hx : g.ways[i.toNat]? = some g.ways[i.toNat] := List.getElem?_eq_getElem hi
        generalize g.ways[i.toNat] = x at *
        have ew : oIx (.tup (encW g.ways)) (.int i) = some (.tup [.int x.1, x.2.enc]) := by
          have := encW_at hx
          rwa [Int.toNat_of_nonneg hw.1] at this
        have e1 : goP g (.int i :: ds) = goP x.2 ds := by simp only [goP, hw.1, if_true, hx]
        have e2 : forGo (.v 2) pathB (.int i :: ds) [some g.enc, x1, x2] = forGo (.v 2) pathB ds [some x.2.enc, x1, some (.int i)] := by
          conv => lhs; unfold forGo
          have st : pathB [some g.enc, x1, some (.int i)] = .nx [some x.2.enc, x1, some (.int i)] := by
            simp only [pathB, ways_ok, oLen, wh1, ew, oIx_t1, defD, args, dSeq, dSet, dSetP, dSetN, lstAt, dApp, dAppP, dAsg, dPar, dDrop, dWhile, dIfS, dRet, dB, dCall, dCons, dNil, dVar, dC, dBin, dChain, asB, dTru, dNotT, dAndT, dOrT, dAnd, dOr, dNot, dIf, dUn, dTup, dLst, dItems, dYes, R.bind, R.to, O.seq, outR, ofO, noErr, mask, Sm.putIn, bindPat, bindPats, itemsOf, tru, List.foldr_cons, List.foldr_nil, List.length_cons, List.length_nil, List.map_cons, List.map_nil, List.cons_append, List.nil_append, Nat.sub_self, List.replicate_zero, List.replicate_succ, List.getElem?_cons_succ, List.getElem?_cons_zero, List.set_cons_zero, List.set_cons_succ, Nat.reduceAdd, Nat.reduceSub, ↓reduceIte, Bool.not_true, Bool.not_false, Bool.and_true, Bool.true_and, Bool.false_and, Bool.and_false, if_true, if_false, Bool.false_eq_true, oNeg, oAddI, oSubI, oAdd_ii, oLt, oLe, oGt, oGe, Option.bind_some, Option.map_some]
          rw [show bindPat (.v 2) (.int i) [some g.enc, x1, x2] = some [some g.enc, x1, some (.int i)] from rfl]
          simp only [st, O.seq]
        rw [e1, e2]
        exact ih x.2
      | _ => cases hw
theorem is_path_any {g : Game} {d : D} (h : okD d = true) : d_is_path [g.enc, d] = .ok (.bl (isP g d)) := by
  refine defD_eq rfl ?_
  unfold b_is_path
  cases d with
  | dct _ => simp [okD] at h
  | exc _ => simp [okD] at h
  | scr _ => simp [okD] at h
  | scr0 => simp [okD] at h
  | fnv => simp [okD] at h
  | obj _ => simp [okD] at h
  | dcl _ => simp [okD] at h
  | scr1 => simp [okD] at h
  | tup xs =>
    simp only [okD] at h
    apply out_seq; (focus (simp only [oIsTup, defD, args, dSeq, dSet, dSetP, dSetN, lstAt, dApp, dAppP, dAsg, dPar, dDrop, dWhile, dIfS, dRet, dB, dCall, dCons, dNil, dVar, dC, dBin, dChain, asB, dTru, dNotT, dAndT, dOrT, dAnd, dOr, dNot, dIf, dUn, dTup, dLst, dItems, dYes, R.bind, R.to, O.seq, outR, ofO, noErr, mask, Sm.putIn, bindPat, bindPats, itemsOf, tru, List.foldr_cons, List.foldr_nil, List.length_cons, List.length_nil, List.map_cons, List.map_nil, List.cons_append, List.nil_append, Nat.sub_self, List.replicate_zero, List.replicate_succ, List.getElem?_cons_succ, List.getElem?_cons_zero, List.set_cons_zero, List.set_cons_succ, Nat.reduceAdd, Nat.reduceSub, ↓reduceIte, Bool.not_true, Bool.not_false, Bool.and_true, Bool.true_and, Bool.false_and, Bool.and_false, if_true, if_false, Bool.false_eq_true, oNeg, oAddI, oSubI, oAdd_ii, oLt, oLe, oGt, oGe, Option.bind_some, Option.map_some]; try exact rfl))
    obtain ⟨l1, l2⟩ := is_path_loop xs g (some (.tup xs)) none fun d hd => okDs_mem h hd
    cases hg : goP g xs with
    | true =>
      obtain ⟨e, y, e1⟩ := l1 hg
      rw [show isP g (.tup xs) = true from hg]
      refine out_seq (ρ1 := [e, some (.tup xs), y]) ?_ (ret_of rfl)
      unfold dFor
      simp only [defD, args, dSeq, dSet, dSetP, dSetN, lstAt, dApp, dAppP, dAsg, dPar, dDrop, dWhile, dIfS, dRet, dB, dCall, dCons, dNil, dVar, dC, dBin, dChain, asB, dTru, dNotT, dAndT, dOrT, dAnd, dOr, dNot, dIf, dUn, dTup, dLst, dItems, dYes, R.bind, R.to, O.seq, outR, ofO, noErr, mask, Sm.putIn, bindPat, bindPats, itemsOf, tru, List.foldr_cons, List.foldr_nil, List.length_cons, List.length_nil, List.map_cons, List.map_nil, List.cons_append, List.nil_append, Nat.sub_self, List.replicate_zero, List.replicate_succ, List.getElem?_cons_succ, List.getElem?_cons_zero, List.set_cons_zero, List.set_cons_succ, Nat.reduceAdd, Nat.reduceSub, ↓reduceIte, Bool.not_true, Bool.not_false, Bool.and_true, Bool.true_and, Bool.false_and, Bool.and_false, if_true, if_false, Bool.false_eq_true, oNeg, oAddI, oSubI, oAdd_ii, oLt, oLe, oGt, oGe, Option.bind_some, Option.map_some]
      exact e1
    | false =>
      rw [show isP g (.tup xs) = false from hg]
      refine out_seqR ?_
      unfold dFor
      simp only [defD, args, dSeq, dSet, dSetP, dSetN, lstAt, dApp, dAppP, dAsg, dPar, dDrop, dWhile, dIfS, dRet, dB, dCall, dCons, dNil, dVar, dC, dBin, dChain, asB, dTru, dNotT, dAndT, dOrT, dAnd, dOr, dNot, dIf, dUn, dTup, dLst, dItems, dYes, R.bind, R.to, O.seq, outR, ofO, noErr, mask, Sm.putIn, bindPat, bindPats, itemsOf, tru, List.foldr_cons, List.foldr_nil, List.length_cons, List.length_nil, List.map_cons, List.map_nil, List.cons_append, List.nil_append, Nat.sub_self, List.replicate_zero, List.replicate_succ, List.getElem?_cons_succ, List.getElem?_cons_zero, List.set_cons_zero, List.set_cons_succ, Nat.reduceAdd, Nat.reduceSub, ↓reduceIte, Bool.not_true, Bool.not_false, Bool.and_true, Bool.true_and, Bool.false_and, Bool.and_false, if_true, if_false, Bool.false_eq_true, oNeg, oAddI, oSubI, oAdd_ii, oLt, oLe, oGt, oGe, Option.bind_some, Option.map_some]
      exact l2 hg
  | _ =>
    refine out_seqR ?_
    simp only [oIsTup, isP, defD, args, dSeq, dSet, dSetP, dSetN, lstAt, dApp, dAppP, dAsg, dPar, dDrop, dWhile, dIfS, dRet, dB, dCall, dCons, dNil, dVar, dC, dBin, dChain, asB, dTru, dNotT, dAndT, dOrT, dAnd, dOr, dNot, dIf, dUn, dTup, dLst, dItems, dYes, R.bind, R.to, O.seq, outR, ofO, noErr, mask, Sm.putIn, bindPat, bindPats, itemsOf, tru, List.foldr_cons, List.foldr_nil, List.length_cons, List.length_nil, List.map_cons, List.map_nil, List.cons_append, List.nil_append, Nat.sub_self, List.replicate_zero, List.replicate_succ, List.getElem?_cons_succ, List.getElem?_cons_zero, List.set_cons_zero, List.set_cons_succ, Nat.reduceAdd, Nat.reduceSub, ↓reduceIte, Bool.not_true, Bool.not_false, Bool.and_true, Bool.true_and, Bool.false_and, Bool.and_false, if_true, if_false, Bool.false_eq_true, oNeg, oAddI, oSubI, oAdd_ii, oLt, oLe, oGt, oGe, Option.bind_some, Option.map_some]
end Kx
namespace Sm
open PySem PySem.Spec L2
theorem qsum_append : ∀ a b : List Rat, qsum (a ++ b) = qsum a + qsum b
  | [], b => by simp [qsum, Rat.zero_add]
  | x :: a, b => by simp only [List.cons_append, qsum, qsum_append a b, Rat.add_assoc]
theorem qsum_nonneg : ∀ {l : List Rat}, (∀ x ∈ l, 0 ≤ x) → 0 ≤ qsum l
  | [], _ => by simp [qsum]
  | x :: l, h => by
    simp only [qsum]
    have := h x (by simp)
    have := qsum_nonneg (l := l) fun y hy => h y (by simp [hy])
    exact Rat.add_nonneg (by assumption) (by assumption)
inductive RT where
  | stop | go (rs : List RT)
namespace RT
theorem lt_of_mem {rs : List RT} {r : RT} (h : r ∈ rs) : sizeOf r < sizeOf (RT.go rs) := by
  have h1 := List.sizeOf_lt_of_mem h
  simp
  omega
def paths : RT → List (List Nat)
  | .stop => [[]]
  | .go rs => Game.idxs 0 (rs.map fun r => r.paths)
termination_by t => sizeOf t
decreasing_by exact lt_of_mem ‹_›
theorem paths_stop : paths .stop = [[]] := by rw [paths]
theorem paths_go (rs : List RT) : paths (.go rs) = Game.idxs 0 (rs.map paths) := by rw [paths]
end RT
mutual
inductive RuleOf : Game → RT → Prop
  | stop (g : Game) : RuleOf g .stop
  | go {w : Int} {ws : List (Int × Game)} {rs : List RT} : ws ≠ [] → RulesOf ws rs → RuleOf (.node w ws) (.go rs)
inductive RulesOf : List (Int × Game) → List RT → Prop
  | nil : RulesOf [] []
  | cons {x : Int × Game} {ws : List (Int × Game)} {r : RT} {rs : List RT} : RuleOf x.2 r → RulesOf ws rs → RulesOf (x :: ws) (r :: rs)
end
theorem RulesOf.length : ∀ {ws : List (Int × Game)} {rs : List RT}, RulesOf ws rs → ws.length = rs.length
  | _, _, .nil => rfl
  | _, _, .cons _ t => by rw [List.length_cons, List.length_cons, RulesOf.length t]
theorem RulesOf.get : ∀ {ws : List (Int × Game)} {rs : List RT} {i : Nat} {x : Int × Game} {r : RT}, RulesOf ws rs → ws[i]? = some x → rs[i]? = some r → RuleOf x.2 r
  | _, _, _, _, _, .nil, h, _ => by simp at h
  | _, _, 0, _, _, .cons h _, h1, h2 => by cases h1; cases h2; exact h
  | _, _, i + 1, _, _, .cons _ t, h1, h2 => RulesOf.get (i := i) t (by simpa using h1) (by simpa using h2)
namespace Game
theorem chance_c {g : Game} {i : Nat} {x : Int × Game} (p : List Nat) (h : g.ways[i]? = some x) : g.chance (i :: p) = Rat.divInt x.1 g.total * x.2.chance p := by
  simp only [chance, h]
theorem part_c {g : Game} {i : Nat} {x : Int × Game} (p : List Nat) (h : g.ways[i]? = some x) : g.part (i :: p) = x.2.part p := by
  simp only [part, h]
theorem isPath_c {g : Game} {i : Nat} {x : Int × Game} (p : List Nat) (h : g.ways[i]? = some x) : g.IsPath (i :: p) ↔ x.2.IsPath p := by
  simp only [IsPath, h]
def exR (g : Game) (t : RT) (f : List Nat → Rat) : Rat := qsum (t.paths.map fun p => g.chance p * f p)
def endT : Game → RT
  | .node _ ws => if ws = [] then .stop else .go (ws.map fun p => p.2.endT)
termination_by g => sizeOf g
decreasing_by exact lt_of_mem ‹_›
theorem endT_end (w : Int) : endT (.node w []) = .stop := by rw [endT]; simp
theorem endT_go {w : Int} {ws : List (Int × Game)} (h : ws ≠ []) : endT (.node w ws) = .go (ws.map fun p => p.2.endT) := by rw [endT, if_neg h]
theorem rules_map {F : Game → RT} : ∀ {ws : List (Int × Game)}, (∀ p ∈ ws, RuleOf p.2 (F p.2)) → RulesOf ws (ws.map fun p => F p.2)
  | [], _ => .nil
  | x :: ws, h => .cons (h x (by simp)) (rules_map fun p hp => h p (by simp [hp]))
theorem endT_rule : ∀ g : Game, RuleOf g g.endT := by
  apply ind
  intro w ws ih
  by_cases h : ws = []
  · subst h; rw [endT_end]; exact .stop _
  · rw [endT_go h]; exact .go h (rules_map ih)
theorem idxs_filter (P : List Nat → Bool) : ∀ (l : List (List (List Nat))) (k : Nat) (Q : Nat → List Nat → Bool), (∀ i p, P ((k + i) :: p) = Q i p) → (idxs k l).filter P = idxs k (l.mapIdx fun i ps => ps.filter (Q i))
  | [], _, _, _ => rfl
  | ps :: l, k, Q, h => by
    rw [idxs, List.filter_append, List.filter_map, List.mapIdx_cons, idxs]
    congr 1
    · congr 1
      apply List.filter_congr
      intro p _
      exact h 0 p
    · exact idxs_filter P l (k + 1) (fun i => Q (i + 1)) fun i p => by rw [show k + 1 + i = k + (i + 1) by omega]; exact h (i + 1) p
theorem ends_eq : ∀ g : Game, (g.paths.filter fun p => decide ((g.part p).ways = [])) = g.endT.paths := by
  apply ind
  intro w ws ih
  by_cases h : ws = []
  · subst h
    rw [endT_end, RT.paths_stop, paths]
    simp [idxs, part, ways]
  · rw [endT_go h, RT.paths_go, paths, List.filter_cons_of_neg (by simp [part, ways, h])]
    rw [idxs_filter _ _ 0 (fun i p => match ws[i]? with | some x => decide ((x.2.part p).ways = []) | none => decide (ws = [])) ?_]
    · congr 1
      apply List.ext_getElem?
      intro i
      rw [List.getElem?_mapIdx, List.getElem?_map, List.getElem?_map, List.getElem?_map]
      cases hx : ws[i]? with
      | none => rfl
      | some x =>
        simp only [Option.map_some]
        rw [ih x (List.mem_of_getElem? hx)]
    · intro i p
      rw [Nat.zero_add]
      show decide (((match ws[i]? with | some x => part x.2 p | none => Game.node w ws).ways) = []) = _
      cases hx : ws[i]? with
      | none => rfl
      | some x => rfl
end Game
end Sm
namespace Sm
namespace Game
theorem isPath_append : ∀ (p q : List Nat) (g : Game), g.IsPath p → (g.IsPath (p ++ q) ↔ (g.part p).IsPath q)
  | [], q, g, _ => Iff.rfl
  | i :: p, q, g, h => by
    simp only [IsPath] at h
    rw [List.cons_append]
    cases hx : g.ways[i]? with
    | none => rw [hx] at h; exact h.elim
    | some x =>
      rw [hx] at h
      rw [isPath_c _ hx, part_c _ hx, isPath_append p q x.2 h]
theorem part_append : ∀ (p q : List Nat) (g : Game), g.IsPath p → g.part (p ++ q) = (g.part p).part q
  | [], q, g, _ => rfl
  | i :: p, q, g, h => by
    simp only [IsPath] at h
    rw [List.cons_append]
    cases hx : g.ways[i]? with
    | none => rw [hx] at h; exact h.elim
    | some x =>
      rw [hx] at h
      rw [part_c _ hx, part_c _ hx, part_append p q x.2 h]
theorem mem_ends {g : Game} {p : List Nat} : p ∈ g.endT.paths ↔ g.IsPath p ∧ (g.part p).ways = [] := by
  rw [← ends_eq, List.mem_filter, mem_paths, decide_eq_true_eq]
end Game
end Sm
namespace Kx
open PySem PySem.Spec L2 Sm
theorem ends_ok' {g : Game} {d : Nat} (hg : g.Ok d) (hd : d ≤ 6) : d_ends_of [g.enc] = .ok (.lst (g.endT.paths.map encP)) := by
  rw [ends_ok hg hd, Game.ends_eq]
theorem in_paths (p : List Nat) (ps : List (List Nat)) : (ps.map encP).any (fun z => deq z (encP p)) = decide (p ∈ ps) := by
  induction ps with
  | nil => simp
  | cons q ps ih =>
    rw [List.map_cons, List.any_cons, ih]
    have : deq (encP q) (encP p) = decide (q = p) := by simp only [encP, deq, deq_path]
    rw [this]
    by_cases h : q = p
    · subst h; simp
    · simp [h, Ne.symm h]
end Kx
namespace Kx
open PySem PySem.Spec L2 Sm
theorem sizeLine_pos : (100000 : Nat) ≤ sizeLine := sizeLine_big
section
variable {k : Nat} {ps : PLS} {q q' : Pl} {d s x : D} {ρ : Sm.Env} {i : Nat}
end
structure PSt where
  path : List Nat
  bet : Int
  won : Int
def PSt.enc (s : PSt) : D := .tup [encP s.path, .int s.bet, .int s.won]
inductive Stp where
  | bet (n : Int) | go (i : Nat)
def Stp.word : Stp → Str
  | .bet _ => "bet" | .go _ => "go"
def Stp.num : Stp → Int
  | .bet n => n | .go i => i
def Stp.enc (s : Stp) : D := .tup [.str s.word, .int s.num]
abbrev Hs := List (Stp × PSt)
def hD (h : Hs) : List D := h.map fun x => .tup [x.1.enc, x.2.enc]
structure PP where
  now : PSt
  past : Hs
  later : Hs
def PP.enc (g : Game) (P : PP) : Pl := ⟨g.enc, P.now.enc, hD P.past, hD P.later⟩
def stepTo (g : Game) (s : PSt) : Stp → Option (PSt × Int)
  | .bet n => some (⟨s.path, n, s.won⟩, s.bet)
  | .go i => match (g.part s.path).ways[i]? with
    | some x => some (⟨s.path ++ [i], s.bet, s.won + s.bet * (x.2.worth - (g.part s.path).worth)⟩, s.bet * (x.2.worth - (g.part s.path).worth))
    | none => none
section
variable {g : Game} {k : Nat} {ps : PLS} {P : PP}
end
end Kx
namespace Sm
open PySem PySem.Spec L2
abbrev Rising (ps : List (List Nat)) : Prop := ps.Pairwise (· < ·)
theorem idxs_rising : ∀ (l : List (List (List Nat))) (k : Nat), (∀ ps ∈ l, Rising ps) → Rising (Game.idxs k l) ∧ ∀ p ∈ Game.idxs k l, ∃ i q, p = i :: q ∧ k ≤ i
  | [], k, _ => ⟨List.Pairwise.nil, by simp [Game.idxs]⟩
  | ps :: l, k, h => by
    obtain ⟨h1, h2⟩ := idxs_rising l (k + 1) fun q hq => h q (by simp [hq])
    rw [Game.idxs]
    refine ⟨List.pairwise_append.mpr ⟨?_, h1, ?_⟩, ?_⟩
    · rw [List.pairwise_map]
      exact (h ps (by simp)).imp fun hab => List.cons_lt_cons_iff.mpr (.inr ⟨rfl, hab⟩)
    · intro a ha b hb
      obtain ⟨q, _, rfl⟩ := List.mem_map.mp ha
      obtain ⟨i, q', rfl, hi⟩ := h2 b hb
      exact List.cons_lt_cons_iff.mpr (.inl (by omega))
    · intro p hp
      rcases List.mem_append.mp hp with hp | hp
      · obtain ⟨q, _, rfl⟩ := List.mem_map.mp hp
        exact ⟨k, q, rfl, Nat.le_refl _⟩
      · obtain ⟨i, q, rfl, hi⟩ := h2 p hp
        exact ⟨i, q, rfl, by omega⟩
namespace RT
theorem ind {P : RT → Prop} (h0 : P .stop) (h : ∀ rs, (∀ r ∈ rs, P r) → P (.go rs)) : ∀ t, P t
  | .stop => h0
  | .go rs => h rs fun r hr => ind h0 h r
termination_by t => sizeOf t
decreasing_by exact lt_of_mem hr
theorem rising (t : RT) : Rising t.paths := by
  induction t using ind with
  | h0 => rw [paths_stop]; exact List.pairwise_singleton _ _
  | h rs ih =>
    rw [paths_go]
    refine (idxs_rising _ 0 fun ps hp => ?_).1
    obtain ⟨r, hr, rfl⟩ := List.mem_map.mp hp
    exact ih r hr
end RT
theorem mem_idxs' {p : List Nat} {l : List (List (List Nat))} : p ∈ Game.idxs 0 l ↔ ∃ i q, p = i :: q ∧ ∃ ps, l[i]? = some ps ∧ q ∈ ps := by
  rw [Game.mem_idxs]
  simp only [Nat.zero_add]
theorem RulesOf.get2 : ∀ {ws : List (Int × Game)} {rs : List RT} {i : Nat} {r : RT}, RulesOf ws rs → rs[i]? = some r → ∃ x, ws[i]? = some x ∧ RuleOf x.2 r
  | _, _, _, _, .nil, h => by simp at h
  | _, _, 0, _, .cons h _, h2 => by cases h2; exact ⟨_, rfl, h⟩
  | _, _, i + 1, _, .cons _ t, h2 => by
    obtain ⟨x, h3, h4⟩ := RulesOf.get2 (i := i) t (by simpa using h2)
    exact ⟨x, by simpa using h3, h4⟩
theorem RulesOf.get1 : ∀ {ws : List (Int × Game)} {rs : List RT} {i : Nat} {x : Int × Game}, RulesOf ws rs → ws[i]? = some x → ∃ r, rs[i]? = some r ∧ RuleOf x.2 r
  | _, _, _, _, .nil, h => by simp at h
  | _, _, 0, _, .cons h _, h2 => by cases h2; exact ⟨_, rfl, h⟩
  | _, _, i + 1, _, .cons _ t, h2 => by
    obtain ⟨x, h3, h4⟩ := RulesOf.get1 (i := i) t (by simpa using h2)
    exact ⟨x, by simpa using h3, h4⟩
namespace Game
theorem rule_path : ∀ {t : RT} {g : Game} {p : List Nat}, RuleOf g t → p ∈ t.paths → g.IsPath p := by
  intro t
  induction t using RT.ind with
  | h0 => intro g p _ hp; rw [RT.paths_stop, List.mem_singleton] at hp; subst hp; trivial
  | h rs ih =>
    intro g p hr hp
    cases hr with
    | go hne hr =>
      rw [RT.paths_go, mem_idxs'] at hp
      obtain ⟨i, q, rfl, ps, h1, h2⟩ := hp
      rw [List.getElem?_map, Option.map_eq_some_iff] at h1
      obtain ⟨r, h3, rfl⟩ := h1
      obtain ⟨x, h4, h5⟩ := hr.get2 h3
      rw [isPath_c q h4]
      exact ih r (List.mem_of_getElem? h3) h5 h2
theorem to_end : ∀ (g : Game) (p : List Nat), g.IsPath p → ∃ e, e ∈ g.endT.paths ∧ p <+: e := by
  apply ind
  intro w ws ih p hp
  cases p with
  | nil =>
    by_cases h : ws = []
    · subst h; rw [endT_end, RT.paths_stop]; exact ⟨[], by simp, List.nil_prefix⟩
    · obtain ⟨x, ws', rfl⟩ := List.exists_cons_of_ne_nil h
      obtain ⟨e, he, _⟩ := ih x (by simp) [] trivial
      refine ⟨0 :: e, ?_, List.nil_prefix⟩
      rw [endT_go h, RT.paths_go, mem_idxs']
      exact ⟨0, e, rfl, _, rfl, he⟩
  | cons i p =>
    simp only [IsPath, ways] at hp
    cases hx : ws[i]? with
    | none => rw [hx] at hp; exact hp.elim
    | some x =>
      rw [hx] at hp
      obtain ⟨e, he, hpe⟩ := ih x (List.mem_of_getElem? hx) p hp
      have h : ws ≠ [] := by rintro rfl; simp at hx
      refine ⟨i :: e, ?_, ?_⟩
      · rw [endT_go h, RT.paths_go, mem_idxs']
        exact ⟨i, e, rfl, _, by rw [List.getElem?_map, List.getElem?_map, hx]; rfl, he⟩
      · obtain ⟨r, rfl⟩ := hpe
        exact ⟨r, rfl⟩
theorem rule_one : ∀ {t : RT} {g : Game} {e : List Nat}, RuleOf g t → e ∈ g.endT.paths → ∃ p, p ∈ t.paths ∧ p <+: e ∧ ∀ q ∈ t.paths, q <+: e → q = p := by
  intro t
  induction t using RT.ind with
  | h0 =>
    intro g e _ he
    refine ⟨[], by rw [RT.paths_stop]; simp, List.nil_prefix, fun q hq _ => ?_⟩
    rw [RT.paths_stop, List.mem_singleton] at hq
    exact hq
  | h rs ih =>
    intro g e hr he
    cases hr with
    | @go w ws _ hne hr =>
      rw [endT_go hne, RT.paths_go, mem_idxs'] at he
      obtain ⟨i, e', rfl, es, h1, h2⟩ := he
      rw [List.getElem?_map, List.getElem?_map, Option.map_map, Option.map_eq_some_iff] at h1
      obtain ⟨x, h3, rfl⟩ := h1
      obtain ⟨r, h4, h5⟩ := hr.get1 h3
      obtain ⟨p, p1, p2, p3⟩ := ih r (List.mem_of_getElem? h4) h5 h2
      refine ⟨i :: p, ?_, ?_, fun q hq hqe => ?_⟩
      · rw [RT.paths_go, mem_idxs']
        exact ⟨i, p, rfl, r.paths, by rw [List.getElem?_map, h4]; rfl, p1⟩
      · obtain ⟨z, rfl⟩ := p2; exact ⟨z, rfl⟩
      · rw [RT.paths_go, mem_idxs'] at hq
        obtain ⟨j, q', rfl, ps, h6, h7⟩ := hq
        rw [List.getElem?_map, Option.map_eq_some_iff] at h6
        obtain ⟨r', h8, rfl⟩ := h6
        obtain ⟨z, hz⟩ := hqe
        injection hz with hj hz
        subst hj
        rw [h4] at h8; cases h8
        rw [p3 q' h7 ⟨z, hz⟩]
def Cuts (g : Game) (ps : List (List Nat)) : Prop := Rising ps ∧ (∀ p ∈ ps, g.IsPath p) ∧ ∀ e ∈ g.endT.paths, ∃ p, p ∈ ps ∧ p <+: e ∧ ∀ q ∈ ps, q <+: e → q = p
def subW (k : Nat) (ps : List (List Nat)) : List (List Nat) := ps.filterMap fun p => match p with | i :: q => if i = k then some q else none | [] => none
theorem mem_subW {k : Nat} {q : List Nat} {ps : List (List Nat)} : q ∈ subW k ps ↔ (k :: q) ∈ ps := by
  unfold subW
  rw [List.mem_filterMap]
  constructor
  · rintro ⟨p, hp, h⟩
    cases p with
    | nil => simp at h
    | cons i p =>
      simp only at h
      split at h
      · rename_i e; subst e; cases h; exact hp
      · cases h
  · intro h
    exact ⟨k :: q, h, by simp⟩
theorem subW_rising {k : Nat} {ps : List (List Nat)} (h : Rising ps) : Rising (subW k ps) := by
  unfold subW
  rw [Rising, List.pairwise_filterMap]
  refine h.imp fun {a b} hab q hq q' hq' => ?_
  cases a with
  | nil => simp at hq
  | cons i a =>
    cases b with
    | nil => simp at hq'
    | cons j b =>
      simp only at hq hq'
      split at hq
      · rename_i e1
        split at hq'
        · rename_i e2
          cases hq; cases hq'
          subst e1; subst e2
          rcases List.cons_lt_cons_iff.mp hab with h | h
          · omega
          · exact h.2
        · cases hq'
      · cases hq
theorem rising_nodup {ps : List (List Nat)} (h : Rising ps) : ps.Nodup := h.imp fun {a b} hab e => by subst e; exact absurd hab (List.lt_irrefl _)
theorem rising_eq {a b : List (List Nat)} (ha : Rising a) (hb : Rising b) (h : ∀ p, p ∈ a ↔ p ∈ b) : a = b := by
  refine List.Perm.eq_of_pairwise (le := (· < ·)) (fun x y _ _ h1 h2 => absurd (List.lt_trans h1 h2) (List.lt_irrefl _)) ha hb ?_
  exact (List.perm_ext_iff_of_nodup (rising_nodup ha) (rising_nodup hb)).mpr h
theorem rule_of_cuts : ∀ (g : Game) (ps : List (List Nat)), Cuts g ps → ∃ t, RuleOf g t ∧ ps = t.paths := by
  apply ind
  intro w ws ih ps hc
  obtain ⟨hr, hp, ho⟩ := hc
  by_cases h0 : [] ∈ ps
  · refine ⟨.stop, .stop _, ?_⟩
    rw [RT.paths_stop]
    refine rising_eq hr (List.pairwise_singleton _ _) fun p => ?_
    rw [List.mem_singleton]
    constructor
    · intro h
      obtain ⟨e, he, hpe⟩ := to_end _ p (hp p h)
      obtain ⟨r, _, _, h3⟩ := ho e he
      rw [h3 p h hpe, ← h3 [] h0 List.nil_prefix]
    · rintro rfl; exact h0
  · have hne : ws ≠ [] := by
      rintro rfl
      obtain ⟨p, h1, h2, _⟩ := ho [] (by rw [endT_end, RT.paths_stop]; simp)
      rw [List.prefix_nil] at h2
      subst h2
      exact h0 h1
    have sub : ∀ i x, ws[i]? = some x → ∃ t, RuleOf x.2 t ∧ subW i ps = t.paths := by
      intro i x hx
      refine ih x (List.mem_of_getElem? hx) _ ⟨subW_rising hr, fun q hq => ?_, fun e he => ?_⟩
      · have := hp _ (mem_subW.mp hq)
        rwa [isPath_c (g := .node w ws) q hx] at this
      · obtain ⟨p, h1, h2, h3⟩ := ho (i :: e) (by
          rw [endT_go hne, RT.paths_go, mem_idxs']
          exact ⟨i, e, rfl, _, by rw [List.getElem?_map, List.getElem?_map, hx]; rfl, he⟩)
        cases p with
        | nil => exact (h0 h1).elim
        | cons j p =>
          obtain ⟨z, hz⟩ := h2
          injection hz with hj hz
          subst hj
          refine ⟨p, mem_subW.mpr h1, ⟨z, hz⟩, fun q hq hqe => ?_⟩
          obtain ⟨y, rfl⟩ := hqe
          have := h3 (j :: q) (mem_subW.mp hq) ⟨y, rfl⟩
          injection this
    -- the trees, one by one
    have key : ∀ (vs : List (Int × Game)) (k : Nat), (∀ i x, vs[i]? = some x → ws[k + i]? = some x) → ∃ rs, RulesOf vs rs ∧ ∀ (i : Nat) r, rs[i]? = some r → subW (k + i) ps = r.paths := by
      intro vs
      induction vs with
      | nil => intro k _; exact ⟨[], .nil, fun i r h => by simp at h⟩
      | cons x vs ihv =>
        intro k hk
        obtain ⟨t, h1, h2⟩ := sub k x (hk 0 x rfl)
        obtain ⟨rs, h3, h4⟩ := ihv (k + 1) fun i y hy => by rw [show k + 1 + i = k + (i + 1) by omega]; exact hk (i + 1) y (by simpa using hy)
        refine ⟨t :: rs, .cons h1 h3, fun i r h => ?_⟩
        cases i with
        | zero => cases h; exact h2
        | succ i => rw [show k + (i + 1) = k + 1 + i by omega]; exact h4 i r (by simpa using h)
    obtain ⟨rs, h1, h2⟩ := key ws 0 fun i x h => by rw [Nat.zero_add]; exact h
    refine ⟨.go rs, .go hne h1, rising_eq hr (RT.rising _) fun p => ?_⟩
    rw [RT.paths_go, mem_idxs']
    constructor
    · intro h
      cases p with
      | nil => exact (h0 h).elim
      | cons i q =>
        have := hp _ h
        simp only [IsPath, ways] at this
        cases hx : ws[i]? with
        | none => rw [hx] at this; exact this.elim
        | some x =>
          obtain ⟨r, h3, _⟩ := h1.get1 hx
          have h4 := h2 i r h3
          rw [Nat.zero_add] at h4
          exact ⟨i, q, rfl, r.paths, by rw [List.getElem?_map, h3]; rfl, by rw [← h4]; exact mem_subW.mpr h⟩
    · rintro ⟨i, q, rfl, qs, h3, h4⟩
      rw [List.getElem?_map, Option.map_eq_some_iff] at h3
      obtain ⟨r, h5, rfl⟩ := h3
      have h6 := h2 i r h5
      rw [Nat.zero_add] at h6
      rw [← h6] at h4
      exact mem_subW.mp h4
theorem nodup_le {α : Type} [BEq α] [LawfulBEq α] : ∀ (l m : List α), l.Nodup → (∀ x ∈ l, x ∈ m) → l.length ≤ m.length
  | [], _, _, _ => Nat.zero_le _
  | x :: l, m, hn, hs => by
    obtain ⟨h1, h2⟩ := List.nodup_cons.mp hn
    have hx : x ∈ m := hs x List.mem_cons_self
    have ih := nodup_le l (m.erase x) h2 fun y hy => (List.mem_erase_of_ne (show y ≠ x from fun e => h1 (by rw [← e]; exact hy))).2 (hs y (List.mem_cons_of_mem _ hy))
    have e := List.length_erase_of_mem hx
    have hp : 0 < m.length := List.length_pos_of_mem hx
    rw [List.length_cons]
    omega
theorem rule_len {n : Nat} {g : Game} {t : RT} (hg : g.Ok n) (h : RuleOf g t) : t.paths.length ≤ most n := by
  refine Nat.le_trans ?_ (paths_len hg)
  have hn := rising_nodup t.rising
  exact nodup_le _ _ hn fun p hp => (mem_paths g p).mpr (rule_path h hp)
end Game
theorem ints_lt : ∀ p q : List Nat, (p.map fun i : Nat => (i : Int)) < (q.map fun i : Nat => (i : Int)) ↔ p < q
  | [], [] => by simp
  | [], _ :: _ => by simp
  | _ :: _, [] => by simp
  | i :: p, j :: q => by
    rw [List.map_cons, List.map_cons, List.cons_lt_cons_iff, List.cons_lt_cons_iff, ints_lt p q]
    constructor
    · rintro (h | ⟨h1, h2⟩)
      · exact .inl (by omega)
      · exact .inr ⟨by omega, h2⟩
    · rintro (h | ⟨h1, h2⟩)
      · exact .inl (by omega)
      · exact .inr ⟨by omega, h2⟩
abbrev intsN (p : List Nat) : List Int := p.map fun i : Nat => (i : Int)
theorem dd_nodup : ∀ {l : List (List Int)}, l.Nodup → dd l = l
  | [], _ => rfl
  | x :: l, h => by
    obtain ⟨h1, h2⟩ := List.nodup_cons.mp h
    unfold dd
    rw [dd_nodup h2, if_neg h1]
theorem sortU_fix {ps : List (List Nat)} : sortU (ps.map intsN) = ps.map intsN ↔ Rising ps := by
  constructor
  · intro h
    have hn : (sortU (ps.map intsN)).Nodup := by rw [sortU_eq]; exact ((List.mergeSort_perm _ _).nodup_iff).mpr (nodup_dd _)
    have hs : (sortU (ps.map intsN)).Pairwise fun a b => leI a b = true := by rw [sortU_eq]; exact List.pairwise_mergeSort leI_trans leI_total _
    rw [h] at hn hs
    have := hn.and hs
    rw [List.pairwise_map] at this
    refine this.imp fun {a b} hab => ?_
    rw [← ints_lt]
    obtain ⟨h1, h2⟩ := hab
    unfold leI at h2
    rw [decide_eq_true_eq] at h2
    rcases Classical.em (intsN a < intsN b) with q | q
    · exact q
    · exact (h1 (List.le_antisymm h2 (List.not_lt.mp q))).elim
  · intro h
    have hs : (ps.map intsN).Pairwise fun a b => leI a b = true := by
      rw [List.pairwise_map]
      refine h.imp fun {a b} hab => ?_
      unfold leI
      rw [decide_eq_true_eq]
      exact List.le_of_lt ((ints_lt a b).mpr hab)
    have hn : (ps.map intsN).Nodup := by
      rw [List.Nodup, List.pairwise_map]
      refine h.imp fun {a b} hab e => ?_
      have := (ints_lt a b).mpr hab
      have e' : (a.map fun i : Nat => (i : Int)) = b.map fun i : Nat => (i : Int) := e
      rw [e'] at this
      exact absurd this (List.lt_irrefl _)
    rw [sortU_eq, dd_nodup hn]
    exact List.mergeSort_of_pairwise hs
end Sm
namespace Kx
open PySem PySem.Spec L2 Sm
abbrev encR (ps : List (List Nat)) : D := .tup (ps.map encP)
noncomputable def cdec (P : Prop) : Bool := @decide P (Classical.propDecidable P)
theorem cdec_t {P : Prop} : cdec P = true ↔ P := by
  unfold cdec
  exact @decide_eq_true_iff P (Classical.propDecidable P)
theorem cdec_f {P : Prop} : cdec P = false ↔ ¬ P := by
  unfold cdec
  exact @decide_eq_false_iff_not P (Classical.propDecidable P)
noncomputable def isR (g : Game) (d : D) : Bool := cdec (∃ t, RuleOf g t ∧ d = encR t.paths)
theorem isR_iff {g : Game} {d : D} : isR g d = true ↔ ∃ t, RuleOf g t ∧ d = encR t.paths := by
  exact cdec_t
theorem isR_not {g : Game} {d : D} (h : ¬ ∃ t, RuleOf g t ∧ d = encR t.paths) : isR g d = false := by
  exact cdec_f.mpr h
theorem encP_tI (p : List Nat) : encP p = tI (intsN p) := by unfold encP tI intsN; rw [List.map_map]; rfl
theorem mapP_tI (ps : List (List Nat)) : ps.map encP = (ps.map intsN).map tI := by
  rw [List.map_map]; exact List.map_congr_left fun p _ => encP_tI p
theorem deqs_ints : ∀ a b : List Int, deqs (a.map .int) (b.map .int) = decide (a = b)
  | [], [] => rfl
  | [], _ :: _ => by simp [deqs]
  | _ :: _, [] => by simp [deqs]
  | i :: a, j :: b => by
    simp only [List.map_cons, deqs, deqs_ints a b, deq]
    by_cases h : i = j
    · subst h; simp
    · simp [h]
theorem deqs_tIs : ∀ a b : List (List Int), deqs (a.map tI) (b.map tI) = decide (a = b)
  | [], [] => rfl
  | [], _ :: _ => by simp [deqs]
  | _ :: _, [] => by simp [deqs]
  | i :: a, j :: b => by
    simp only [List.map_cons, deqs, deqs_tIs a b, deq, deqs_ints]
    by_cases h : i = j
    · subst h; simp
    · simp [h]
theorem pl_tI (n : Nat) (k : List Int) : pl (n + 1) (tI k) = true := by
  simp only [pl]; exact pls_map _ _ fun _ _ => by simp [pl]
theorem pl_tIs (n : Nat) (ks : List (List Int)) : pls (n + 1) (ks.map tI) = true := pls_map _ _ fun k _ => pl_tI n k
theorem ne_tIs (a b : List (List Int)) : oNe (.lst (a.map tI)) (.lst (b.map tI)) = some (.bl (!decide (a = b))) := by
  unfold oNe
  rw [pl_pln _ 64 (show pl 64 (.lst (a.map tI)) = true by simp only [pl]; exact pl_tIs 62 a), pl_pln _ 64 (show pl 64 (.lst (b.map tI)) = true by simp only [pl]; exact pl_tIs 62 b)]
  simp only [deq, deqs_tIs, Bool.and_self, if_true]
theorem paths_of_all {g : Game} : ∀ {xs : List D}, (xs.all (isP g)) = true → ∃ ps : List (List Nat), xs = ps.map encP ∧ ∀ p ∈ ps, g.IsPath p
  | [], _ => ⟨[], rfl, by simp⟩
  | x :: xs, h => by
    rw [List.all_cons, Bool.and_eq_true] at h
    obtain ⟨ps, e1, e2⟩ := paths_of_all h.2
    obtain ⟨p, hp, rfl⟩ := isP_iff.mp h.1
    refine ⟨p :: ps, by rw [e1]; rfl, fun q hq => ?_⟩
    rcases List.mem_cons.mp hq with rfl | hq
    · exact hp
    · exact e2 q hq
theorem sl_takeP (p : List Nat) (k : Nat) : oSl (encP p) none (some (k : Int)) = some (encP (p.take k)) := by
  unfold encP; rw [sl_takeT, List.map_take]
theorem oEq_path (p q : List Nat) : oEq (encP p) (encP q) = some (.bl (decide (p = q))) := by
  unfold oEq
  rw [pl_pln _ 64 (pl_P 63 p), pl_pln _ 64 (pl_P 63 q)]
  simp only [encP, deq, deq_path, Bool.and_self, if_true]
theorem encP_inj {p q : List Nat} (h : encP p = encP q) : p = q := by
  unfold encP at h
  injection h with h
  have := deq_path p q
  rw [h, deq_path q q] at this
  simpa using this.symm
theorem encPs_inj : ∀ {ps qs : List (List Nat)}, ps.map encP = qs.map encP → ps = qs
  | [], [], _ => rfl
  | [], _ :: _, h => by simp at h
  | _ :: _, [], h => by simp at h
  | p :: ps, q :: qs, h => by
    rw [List.map_cons, List.map_cons] at h
    injection h with h1 h2
    rw [encP_inj h1, encPs_inj h2]
def begs (ps : List (List Nat)) (e : List Nat) : List (List Nat) := ps.filter fun p => decide (e.take p.length = p)
theorem begs_one {ps : List (List Nat)} {e : List Nat} (hn : ps.Nodup) : (begs ps e).length = 1 ↔ ∃ p, p ∈ ps ∧ p <+: e ∧ ∀ q ∈ ps, q <+: e → q = p := by
  have mem : ∀ p, p ∈ begs ps e ↔ p ∈ ps ∧ p <+: e := fun p => by
    unfold begs
    rw [List.mem_filter, decide_eq_true_eq, ← prefix_take]
  constructor
  · intro h
    obtain ⟨p, hp⟩ := List.length_eq_one_iff.mp h
    have := (mem p).mp (by rw [hp]; simp)
    refine ⟨p, this.1, this.2, fun q h1 h2 => ?_⟩
    have := (mem q).mpr ⟨h1, h2⟩
    rw [hp, List.mem_singleton] at this
    exact this
  · rintro ⟨p, h1, h2, h3⟩
    have hb : (begs ps e).Nodup := hn.filter _
    have : begs ps e = [p] := by
      refine List.perm_singleton.mp ((List.perm_ext_iff_of_nodup hb (by simp)).mpr fun q => ?_)
      rw [mem, List.mem_singleton]
      exact ⟨fun h => h3 q h.1 h.2, fun h => by subst h; exact ⟨h1, h2⟩⟩
    rw [this]; rfl
theorem rule_any {n : Nat} {g : Game} {d : D} (hg : g.Ok n) (hn : n ≤ 4) (ok : okD d = true) (hl : ∀ xs, d = .tup xs → xs.length < 64) : d_is_rule_of [g.enc, d] = .ok (.bl (isR g d)) := by
  refine defD_eq rfl ?_
  unfold b_is_rule_of
  cases d with
  | dct _ => simp [okD] at ok
  | exc _ => simp [okD] at ok
  | scr _ => simp [okD] at ok
  | scr0 => simp [okD] at ok
  | fnv => simp [okD] at ok
  | obj _ => simp [okD] at ok
  | dcl _ => simp [okD] at ok
  | scr1 => simp [okD] at ok
  | tup xs =>
    have oks : ∀ x ∈ xs, okD x = true := fun x hx => okDs_mem (by simpa only [okD] using ok) hx
    have lc1 : dLcs [3] (.v 3) (dItems (dVar 1)) dYes (dCall d_is_path (dCons (dVar 0) (dCons (dVar 3) dNil))) [some g.enc, some (.tup xs), none, none] = .ok (xs.map fun d => D.bl (isP g d)) := by
      refine lc_ok1 (enc := fun d : D => d) _ (by rw [List.map_id']; rfl) fun x hx => ⟨_, rfl, ?_⟩
      simp only [is_path_any (oks x hx), defD, args, dSeq, dSet, dSetP, dSetN, lstAt, dApp, dAppP, dAsg, dPar, dDrop, dWhile, dIfS, dRet, dB, dCall, dCons, dNil, dVar, dC, dBin, dChain, asB, dTru, dNotT, dAndT, dOrT, dAnd, dOr, dNot, dIf, dUn, dTup, dLst, dItems, dYes, R.bind, R.to, O.seq, outR, ofO, noErr, mask, Sm.putIn, bindPat, bindPats, itemsOf, tru, List.foldr_cons, List.foldr_nil, List.length_cons, List.length_nil, List.map_cons, List.map_nil, List.cons_append, List.nil_append, Nat.sub_self, List.replicate_zero, List.replicate_succ, List.getElem?_cons_succ, List.getElem?_cons_zero, List.set_cons_zero, List.set_cons_succ, Nat.reduceAdd, Nat.reduceSub, ↓reduceIte, Bool.not_true, Bool.not_false, Bool.and_true, Bool.true_and, Bool.false_and, Bool.and_false, if_true, if_false, Bool.false_eq_true, oNeg, oAddI, oSubI, oAdd_ii, oLt, oLe, oGt, oGe, Option.bind_some, Option.map_some]
    have al := all_bools (isP g) xs
    have tt : oIsTup (.tup xs) = some (.bl true) := rfl
    generalize hL : (xs.map fun d => D.bl (isP g d)) = L at *
    cases hall : xs.all (isP g) with
    | false =>
      rw [hall] at al
      rw [isR_not (by
        rintro ⟨t, ht, e⟩
        injection e with e
        rw [List.all_eq_false] at hall
        obtain ⟨x, hx, hx2⟩ := hall
        rw [e] at hx
        obtain ⟨p, hp, rfl⟩ := List.mem_map.mp hx
        exact hx2 (isP_iff.mpr ⟨p, Game.rule_path ht hp, rfl⟩))]
      refine out_seqR ?_
      simp only [tt, dLc, lc1, al, defD, args, dSeq, dSet, dSetP, dSetN, lstAt, dApp, dAppP, dAsg, dPar, dDrop, dWhile, dIfS, dRet, dB, dCall, dCons, dNil, dVar, dC, dBin, dChain, asB, dTru, dNotT, dAndT, dOrT, dAnd, dOr, dNot, dIf, dUn, dTup, dLst, dItems, dYes, R.bind, R.to, O.seq, outR, ofO, noErr, mask, Sm.putIn, bindPat, bindPats, itemsOf, tru, List.foldr_cons, List.foldr_nil, List.length_cons, List.length_nil, List.map_cons, List.map_nil, List.cons_append, List.nil_append, Nat.sub_self, List.replicate_zero, List.replicate_succ, List.getElem?_cons_succ, List.getElem?_cons_zero, List.set_cons_zero, List.set_cons_succ, Nat.reduceAdd, Nat.reduceSub, ↓reduceIte, Bool.not_true, Bool.not_false, Bool.and_true, Bool.true_and, Bool.false_and, Bool.and_false, if_true, if_false, Bool.false_eq_true, oNeg, oAddI, oSubI, oAdd_ii, oLt, oLe, oGt, oGe, Option.bind_some, Option.map_some]
    | true =>
      rw [hall] at al
      obtain ⟨ps, rfl, hps⟩ := paths_of_all hall
      have hl64 := hl _ rfl
      rw [List.length_map] at hl64
      apply out_seq; (focus (simp only [tt, dLc, lc1, al, defD, args, dSeq, dSet, dSetP, dSetN, lstAt, dApp, dAppP, dAsg, dPar, dDrop, dWhile, dIfS, dRet, dB, dCall, dCons, dNil, dVar, dC, dBin, dChain, asB, dTru, dNotT, dAndT, dOrT, dAnd, dOr, dNot, dIf, dUn, dTup, dLst, dItems, dYes, R.bind, R.to, O.seq, outR, ofO, noErr, mask, Sm.putIn, bindPat, bindPats, itemsOf, tru, List.foldr_cons, List.foldr_nil, List.length_cons, List.length_nil, List.map_cons, List.map_nil, List.cons_append, List.nil_append, Nat.sub_self, List.replicate_zero, List.replicate_succ, List.getElem?_cons_succ, List.getElem?_cons_zero, List.set_cons_zero, List.set_cons_succ, Nat.reduceAdd, Nat.reduceSub, ↓reduceIte, Bool.not_true, Bool.not_false, Bool.and_true, Bool.true_and, Bool.false_and, Bool.and_false, if_true, if_false, Bool.false_eq_true, oNeg, oAddI, oSubI, oAdd_ii, oLt, oLe, oGt, oGe, Option.bind_some, Option.map_some]; try exact rfl))
      have os : oSortSet [.tup (ps.map encP)] = some (.lst ((sortU (ps.map intsN)).map tI)) := by
        rw [mapP_tI]
        simp only [oSortSet, rowsI_map]
        rw [if_pos (by rw [List.length_map]; exact hl64)]
      have ol : oList [.tup (ps.map encP)] = some (.lst (ps.map encP)) := rfl
      have ne : oNe (.lst (ps.map encP)) (.lst ((sortU (ps.map intsN)).map tI)) = some (.bl (!decide (ps.map intsN = sortU (ps.map intsN)))) := by
        rw [mapP_tI]; exact ne_tIs _ _
      by_cases hr : Rising ps
      · have es := sortU_fix.mpr hr
        rw [es, decide_eq_true rfl] at ne
        rw [es] at os
        apply out_step (o := .nx [some g.enc, some (.tup (ps.map encP)), none, none])
        · generalize ps.map encP = P at *
          generalize (ps.map intsN).map tI = Q at *
          simp only [ol, os, ne, defD, args, dSeq, dSet, dSetP, dSetN, lstAt, dApp, dAppP, dAsg, dPar, dDrop, dWhile, dIfS, dRet, dB, dCall, dCons, dNil, dVar, dC, dBin, dChain, asB, dTru, dNotT, dAndT, dOrT, dAnd, dOr, dNot, dIf, dUn, dTup, dLst, dItems, dYes, R.bind, R.to, O.seq, outR, ofO, noErr, mask, Sm.putIn, bindPat, bindPats, itemsOf, tru, List.foldr_cons, List.foldr_nil, List.length_cons, List.length_nil, List.map_cons, List.map_nil, List.cons_append, List.nil_append, Nat.sub_self, List.replicate_zero, List.replicate_succ, List.getElem?_cons_succ, List.getElem?_cons_zero, List.set_cons_zero, List.set_cons_succ, Nat.reduceAdd, Nat.reduceSub, ↓reduceIte, Bool.not_true, Bool.not_false, Bool.and_true, Bool.true_and, Bool.false_and, Bool.and_false, if_true, if_false, Bool.false_eq_true, oNeg, oAddI, oSubI, oAdd_ii, oLt, oLe, oGt, oGe, Option.bind_some, Option.map_some]
        simp only [O.seq]
        have hnd := Game.rising_nodup hr
        -- the ends
        obtain ⟨l1, l2⟩ := forGo_test (pt := .v 2) (f := dIfS (asB (dBin oNe (dB oLen (dCons (dLc [3] (.v 3) (dItems (dVar 1)) (asB (dBin oEq (dSl (dVar 2) dNo (dSo (dB oLen (dCons (dVar 3) dNil)))) (dVar 3))) (dVar 3)) dNil)) (dC (.int 1)))) (dRet (dC (.bl false))) .nx) (fun d => cdec (∃ e, d = encP e ∧ (begs ps e).length = 1)) (.bl false) (fun ρ => ∃ z, ρ = [some g.enc, some (.tup (ps.map encP)), z, none]) (g.endT.paths.map encP) [some g.enc, some (.tup (ps.map encP)), none, none] ⟨none, rfl⟩ (by
          rintro d ρ hd ⟨z, rfl⟩
          obtain ⟨e, he, rfl⟩ := List.mem_map.mp hd
          have lc2 : dLcs [3] (.v 3) (dItems (dVar 1)) (asB (dBin oEq (dSl (dVar 2) dNo (dSo (dB oLen (dCons (dVar 3) dNil)))) (dVar 3))) (dVar 3) [some g.enc, some (.tup (ps.map encP)), some (encP e), none] = .ok ((begs ps e).map encP) := by
            refine lc_ok (xs := ps) (enc := encP) (fun p => decide (e.take p.length = p)) encP rfl fun p hp => ⟨_, rfl, ?_, fun _ => rfl⟩
            simp only [dSl, dNo, dSo, len_encP, sl_takeP, oEq_path, defD, args, dSeq, dSet, dSetP, dSetN, lstAt, dApp, dAppP, dAsg, dPar, dDrop, dWhile, dIfS, dRet, dB, dCall, dCons, dNil, dVar, dC, dBin, dChain, asB, dTru, dNotT, dAndT, dOrT, dAnd, dOr, dNot, dIf, dUn, dTup, dLst, dItems, dYes, R.bind, R.to, O.seq, outR, ofO, noErr, mask, Sm.putIn, bindPat, bindPats, itemsOf, tru, List.foldr_cons, List.foldr_nil, List.length_cons, List.length_nil, List.map_cons, List.map_nil, List.cons_append, List.nil_append, Nat.sub_self, List.replicate_zero, List.replicate_succ, List.getElem?_cons_succ, List.getElem?_cons_zero, List.set_cons_zero, List.set_cons_succ, Nat.reduceAdd, Nat.reduceSub, ↓reduceIte, Bool.not_true, Bool.not_false, Bool.and_true, Bool.true_and, Bool.false_and, Bool.and_false, if_true, if_false, Bool.false_eq_true, oNeg, oAddI, oSubI, oAdd_ii, oLt, oLe, oGt, oGe, Option.bind_some, Option.map_some]
          have lb : oLen [.lst ((begs ps e).map encP)] = some (.int ((begs ps e).length : Int)) := by simp only [oLen, List.length_map]
          have iff : (∃ e', encP e = encP e' ∧ (begs ps e').length = 1) ↔ (begs ps e).length = 1 := ⟨fun ⟨e', h1, h2⟩ => by rw [encP_inj h1]; exact h2, fun h => ⟨e, rfl, h⟩⟩
          refine ⟨_, rfl, fun h => ⟨_, ?_, some (encP e), rfl⟩, fun h => ?_⟩
          · rw [cdec_t, iff] at h
            have : (((begs ps e).length : Int) == 1) = true := by rw [h]; rfl
            generalize (begs ps e).map encP = B at *
            refine ifs_f ?_ rfl
            simp only [dLc, lc2, lb, oNe_int, this, defD, args, dSeq, dSet, dSetP, dSetN, lstAt, dApp, dAppP, dAsg, dPar, dDrop, dWhile, dIfS, dRet, dB, dCall, dCons, dNil, dVar, dC, dBin, dChain, asB, dTru, dNotT, dAndT, dOrT, dAnd, dOr, dNot, dIf, dUn, dTup, dLst, dItems, dYes, R.bind, R.to, O.seq, outR, ofO, noErr, mask, Sm.putIn, bindPat, bindPats, itemsOf, tru, List.foldr_cons, List.foldr_nil, List.length_cons, List.length_nil, List.map_cons, List.map_nil, List.cons_append, List.nil_append, Nat.sub_self, List.replicate_zero, List.replicate_succ, List.getElem?_cons_succ, List.getElem?_cons_zero, List.set_cons_zero, List.set_cons_succ, Nat.reduceAdd, Nat.reduceSub, ↓reduceIte, Bool.not_true, Bool.not_false, Bool.and_true, Bool.true_and, Bool.false_and, Bool.and_false, if_true, if_false, Bool.false_eq_true, oNeg, oAddI, oSubI, oAdd_ii, oLt, oLe, oGt, oGe, Option.bind_some, Option.map_some]
          · rw [cdec_f, iff] at h
            have : (((begs ps e).length : Int) == 1) = false := by simp; omega
            generalize (begs ps e).map encP = B at *
            refine ifs_t ?_ rfl
            simp only [dLc, lc2, lb, oNe_int, this, defD, args, dSeq, dSet, dSetP, dSetN, lstAt, dApp, dAppP, dAsg, dPar, dDrop, dWhile, dIfS, dRet, dB, dCall, dCons, dNil, dVar, dC, dBin, dChain, asB, dTru, dNotT, dAndT, dOrT, dAnd, dOr, dNot, dIf, dUn, dTup, dLst, dItems, dYes, R.bind, R.to, O.seq, outR, ofO, noErr, mask, Sm.putIn, bindPat, bindPats, itemsOf, tru, List.foldr_cons, List.foldr_nil, List.length_cons, List.length_nil, List.map_cons, List.map_nil, List.cons_append, List.nil_append, Nat.sub_self, List.replicate_zero, List.replicate_succ, List.getElem?_cons_succ, List.getElem?_cons_zero, List.set_cons_zero, List.set_cons_succ, Nat.reduceAdd, Nat.reduceSub, ↓reduceIte, Bool.not_true, Bool.not_false, Bool.and_true, Bool.true_and, Bool.false_and, Bool.and_false, if_true, if_false, Bool.false_eq_true, oNeg, oAddI, oSubI, oAdd_ii, oLt, oLe, oGt, oGe, Option.bind_some, Option.map_some])
        have ee := ends_ok' hg (by omega)
        have key : ((g.endT.paths.map encP).all fun d => cdec (∃ e, d = encP e ∧ (begs ps e).length = 1)) = isR g (.tup (ps.map encP)) := by
          rw [Bool.eq_iff_iff, isR_iff, List.all_eq_true]
          constructor
          · intro h
            obtain ⟨t, h1, h2⟩ := Game.rule_of_cuts g ps ⟨hr, hps, fun e he => by
              have := h (encP e) (List.mem_map.mpr ⟨e, he, rfl⟩)
              rw [cdec_t] at this
              obtain ⟨e', h1, h2⟩ := this
              rw [← encP_inj h1] at h2
              exact (begs_one hnd).mp h2⟩
            exact ⟨t, h1, by rw [h2]⟩
          · rintro ⟨t, h1, h2⟩ d hd
            obtain ⟨e, he, rfl⟩ := List.mem_map.mp hd
            injection h2 with h2
            have := encPs_inj h2
            subst this
            rw [cdec_t]
            exact ⟨e, rfl, (begs_one hnd).mpr (Game.rule_one h1 he)⟩
        rw [← key]
        cases hk : ((g.endT.paths.map encP).all fun d => cdec (∃ e, d = encP e ∧ (begs ps e).length = 1)) with
        | true =>
          obtain ⟨ρ', e1, z, rfl⟩ := l1 hk
          refine out_seq (ρ1 := [some g.enc, some (.tup (ps.map encP)), z, none]) ?_ (ret_of rfl)
          unfold dFor
          generalize g.endT.paths.map encP = E at *
          simp only [ee, defD, args, dSeq, dSet, dSetP, dSetN, lstAt, dApp, dAppP, dAsg, dPar, dDrop, dWhile, dIfS, dRet, dB, dCall, dCons, dNil, dVar, dC, dBin, dChain, asB, dTru, dNotT, dAndT, dOrT, dAnd, dOr, dNot, dIf, dUn, dTup, dLst, dItems, dYes, R.bind, R.to, O.seq, outR, ofO, noErr, mask, Sm.putIn, bindPat, bindPats, itemsOf, tru, List.foldr_cons, List.foldr_nil, List.length_cons, List.length_nil, List.map_cons, List.map_nil, List.cons_append, List.nil_append, Nat.sub_self, List.replicate_zero, List.replicate_succ, List.getElem?_cons_succ, List.getElem?_cons_zero, List.set_cons_zero, List.set_cons_succ, Nat.reduceAdd, Nat.reduceSub, ↓reduceIte, Bool.not_true, Bool.not_false, Bool.and_true, Bool.true_and, Bool.false_and, Bool.and_false, if_true, if_false, Bool.false_eq_true, oNeg, oAddI, oSubI, oAdd_ii, oLt, oLe, oGt, oGe, Option.bind_some, Option.map_some]
          exact e1
        | false =>
          have e1 := l2 hk
          refine out_seqR ?_
          unfold dFor
          generalize g.endT.paths.map encP = E at *
          simp only [ee, defD, args, dSeq, dSet, dSetP, dSetN, lstAt, dApp, dAppP, dAsg, dPar, dDrop, dWhile, dIfS, dRet, dB, dCall, dCons, dNil, dVar, dC, dBin, dChain, asB, dTru, dNotT, dAndT, dOrT, dAnd, dOr, dNot, dIf, dUn, dTup, dLst, dItems, dYes, R.bind, R.to, O.seq, outR, ofO, noErr, mask, Sm.putIn, bindPat, bindPats, itemsOf, tru, List.foldr_cons, List.foldr_nil, List.length_cons, List.length_nil, List.map_cons, List.map_nil, List.cons_append, List.nil_append, Nat.sub_self, List.replicate_zero, List.replicate_succ, List.getElem?_cons_succ, List.getElem?_cons_zero, List.set_cons_zero, List.set_cons_succ, Nat.reduceAdd, Nat.reduceSub, ↓reduceIte, Bool.not_true, Bool.not_false, Bool.and_true, Bool.true_and, Bool.false_and, Bool.and_false, if_true, if_false, Bool.false_eq_true, oNeg, oAddI, oSubI, oAdd_ii, oLt, oLe, oGt, oGe, Option.bind_some, Option.map_some]
          exact e1
      · rw [isR_not (by
          rintro ⟨t, ht, e⟩
          injection e with e
          exact hr (by rw [encPs_inj e]; exact t.rising))]
        have es : ¬ (ps.map intsN = sortU (ps.map intsN)) := fun h => hr (sortU_fix.mp h.symm)
        rw [decide_eq_false es] at ne
        refine out_seqR ?_
        generalize ps.map encP = P at *
        generalize (sortU (ps.map intsN)).map tI = Q at *
        simp only [ol, os, ne, defD, args, dSeq, dSet, dSetP, dSetN, lstAt, dApp, dAppP, dAsg, dPar, dDrop, dWhile, dIfS, dRet, dB, dCall, dCons, dNil, dVar, dC, dBin, dChain, asB, dTru, dNotT, dAndT, dOrT, dAnd, dOr, dNot, dIf, dUn, dTup, dLst, dItems, dYes, R.bind, R.to, O.seq, outR, ofO, noErr, mask, Sm.putIn, bindPat, bindPats, itemsOf, tru, List.foldr_cons, List.foldr_nil, List.length_cons, List.length_nil, List.map_cons, List.map_nil, List.cons_append, List.nil_append, Nat.sub_self, List.replicate_zero, List.replicate_succ, List.getElem?_cons_succ, List.getElem?_cons_zero, List.set_cons_zero, List.set_cons_succ, Nat.reduceAdd, Nat.reduceSub, ↓reduceIte, Bool.not_true, Bool.not_false, Bool.and_true, Bool.true_and, Bool.false_and, Bool.and_false, if_true, if_false, Bool.false_eq_true, oNeg, oAddI, oSubI, oAdd_ii, oLt, oLe, oGt, oGe, Option.bind_some, Option.map_some]
  | _ =>
    rw [isR_not (by rintro ⟨t, _, e⟩; cases e)]
    refine out_seqR ?_
    simp only [oIsTup, defD, args, dSeq, dSet, dSetP, dSetN, lstAt, dApp, dAppP, dAsg, dPar, dDrop, dWhile, dIfS, dRet, dB, dCall, dCons, dNil, dVar, dC, dBin, dChain, asB, dTru, dNotT, dAndT, dOrT, dAnd, dOr, dNot, dIf, dUn, dTup, dLst, dItems, dYes, R.bind, R.to, O.seq, outR, ofO, noErr, mask, Sm.putIn, bindPat, bindPats, itemsOf, tru, List.foldr_cons, List.foldr_nil, List.length_cons, List.length_nil, List.map_cons, List.map_nil, List.cons_append, List.nil_append, Nat.sub_self, List.replicate_zero, List.replicate_succ, List.getElem?_cons_succ, List.getElem?_cons_zero, List.set_cons_zero, List.set_cons_succ, Nat.reduceAdd, Nat.reduceSub, ↓reduceIte, Bool.not_true, Bool.not_false, Bool.and_true, Bool.true_and, Bool.false_and, Bool.and_false, if_true, if_false, Bool.false_eq_true, oNeg, oAddI, oSubI, oAdd_ii, oLt, oLe, oGt, oGe, Option.bind_some, Option.map_some]
end Kx
namespace Kx
open PySem PySem.Spec L2 Sm
theorem okD_P (p : List Nat) : okD (encP p) = true := by
  unfold encP; simp only [okD]
  exact okDs_all fun d hd => by obtain ⟨i, _, rfl⟩ := List.mem_map.mp hd; rfl
theorem okD_R (ps : List (List Nat)) : okD (encR ps) = true := by
  simp only [okD]
  exact okDs_all fun d hd => by obtain ⟨p, _, rfl⟩ := List.mem_map.mp hd; exact okD_P p
theorem most4 : Game.most 4 = 40 := rfl
theorem rule_few {n : Nat} {g : Game} {t : RT} (hg : g.Ok n) (hn : n ≤ 4) (ht : RuleOf g t) : t.paths.length ≤ 40 := by
  have := Game.rule_len (hg.mono hn) ht
  rw [most4] at this
  exact this
theorem isrule_any {g : Game} {d : D} (hg : g.Ok 4) (ok : okD d = true) (hl : ∀ xs, d = .tup xs → xs.length < 64) : d_is_rule [g.enc, d] = .ok (.bl (isR g d)) := by
  simp only [d_is_rule, b_is_rule, look_ok hg, rule_any hg (by decide) ok hl, defD, args, dSeq, dSet, dSetP, dSetN, lstAt, dApp, dAppP, dAsg, dPar, dDrop, dWhile, dIfS, dRet, dB, dCall, dCons, dNil, dVar, dC, dBin, dChain, asB, dTru, dNotT, dAndT, dOrT, dAnd, dOr, dNot, dIf, dUn, dTup, dLst, dItems, dYes, R.bind, R.to, O.seq, outR, ofO, noErr, mask, Sm.putIn, bindPat, bindPats, itemsOf, tru, List.foldr_cons, List.foldr_nil, List.length_cons, List.length_nil, List.map_cons, List.map_nil, List.cons_append, List.nil_append, Nat.sub_self, List.replicate_zero, List.replicate_succ, List.getElem?_cons_succ, List.getElem?_cons_zero, List.set_cons_zero, List.set_cons_succ, Nat.reduceAdd, Nat.reduceSub, ↓reduceIte, Bool.not_true, Bool.not_false, Bool.and_true, Bool.true_and, Bool.false_and, Bool.and_false, if_true, if_false, Bool.false_eq_true, oNeg, oAddI, oSubI, oAdd_ii, oLt, oLe, oGt, oGe, Option.bind_some, Option.map_some]
theorem isrule_ok {g : Game} {t : RT} (hg : g.Ok 4) (ht : RuleOf g t) : d_is_rule [g.enc, encR t.paths] = .ok (.bl true) := by
  rw [isrule_any hg (okD_R _) (fun xs h => by injection h with h; rw [← h, List.length_map]; have := rule_few hg (by decide) ht; omega), isR_iff.mpr ⟨t, ht, rfl⟩]
theorem look_rule_ok {g : Game} {t : RT} (hg : g.Ok 4) (ht : RuleOf g t) : d_look_rule [g.enc, encR t.paths] = .ok .non := by
  simp only [d_look_rule, b_look_rule, isrule_ok hg ht, defD, args, dSeq, dSet, dSetP, dSetN, lstAt, dApp, dAppP, dAsg, dPar, dDrop, dWhile, dIfS, dRet, dB, dCall, dCons, dNil, dVar, dC, dBin, dChain, asB, dTru, dNotT, dAndT, dOrT, dAnd, dOr, dNot, dIf, dUn, dTup, dLst, dItems, dYes, R.bind, R.to, O.seq, outR, ofO, noErr, mask, Sm.putIn, bindPat, bindPats, itemsOf, tru, List.foldr_cons, List.foldr_nil, List.length_cons, List.length_nil, List.map_cons, List.map_nil, List.cons_append, List.nil_append, Nat.sub_self, List.replicate_zero, List.replicate_succ, List.getElem?_cons_succ, List.getElem?_cons_zero, List.set_cons_zero, List.set_cons_succ, Nat.reduceAdd, Nat.reduceSub, ↓reduceIte, Bool.not_true, Bool.not_false, Bool.and_true, Bool.true_and, Bool.false_and, Bool.and_false, if_true, if_false, Bool.false_eq_true, oNeg, oAddI, oSubI, oAdd_ii, oLt, oLe, oGt, oGe, Option.bind_some, Option.map_some]
def wAt (g : Game) (p : List Nat) : Rat := ((g.part p).worth : Rat)
theorem worth_bd {n : Nat} {g : Game} (h : g.Ok n) : -20 ≤ g.worth ∧ g.worth ≤ 20 := by
  cases n with
  | zero => exact h.elim
  | succ n => cases g with | node w ws => exact h.1
theorem sz_worth {n : Nat} {g : Game} {p : List Nat} (h : g.Ok n) (hp : g.IsPath p) : Sz 5 (wAt g p) := by
  have := worth_bd (Game.part_ok h hp).1
  exact Sz.int (by show _ < 32; omega) (by decide)
theorem enc_int1 (i : Int) : D.tup [.int i, .int 1] = encQ (i : Rat) := (encQ_int i).symm
theorem chance_sz4 {n : Nat} {g : Game} {p : List Nat} (h : g.Ok n) (hn : n ≤ 4) (hp : g.IsPath p) : Sz 16 (g.chance p) := by
  have := (Game.part_ok h hp).2
  exact (Game.chance_sz h hp).mono (by omega)
theorem terms_sz {n : Nat} {g : Game} {p : List Nat} (h : g.Ok n) (hn : n ≤ 4) (hp : g.IsPath p) : Sz 21 (g.chance p * wAt g p) := (chance_sz4 h hn hp).mul (sz_worth h hp)
theorem mean_of_ok {g : Game} {t : RT} (hg : g.Ok 4) (ht : RuleOf g t) : d_mean_of [g.enc, encR t.paths] = .ok (encQ (g.exR t (wAt g))) := by
  refine defD_eq rfl ?_
  unfold b_mean_of
  apply out_step (o := .nx [some g.enc, some (encR t.paths), none])
  · simp only [look_rule_ok hg ht, defD, args, dSeq, dSet, dSetP, dSetN, lstAt, dApp, dAppP, dAsg, dPar, dDrop, dWhile, dIfS, dRet, dB, dCall, dCons, dNil, dVar, dC, dBin, dChain, asB, dTru, dNotT, dAndT, dOrT, dAnd, dOr, dNot, dIf, dUn, dTup, dLst, dItems, dYes, R.bind, R.to, O.seq, outR, ofO, noErr, mask, Sm.putIn, bindPat, bindPats, itemsOf, tru, List.foldr_cons, List.foldr_nil, List.length_cons, List.length_nil, List.map_cons, List.map_nil, List.cons_append, List.nil_append, Nat.sub_self, List.replicate_zero, List.replicate_succ, List.getElem?_cons_succ, List.getElem?_cons_zero, List.set_cons_zero, List.set_cons_succ, Nat.reduceAdd, Nat.reduceSub, ↓reduceIte, Bool.not_true, Bool.not_false, Bool.and_true, Bool.true_and, Bool.false_and, Bool.and_false, if_true, if_false, Bool.false_eq_true, oNeg, oAddI, oSubI, oAdd_ii, oLt, oLe, oGt, oGe, Option.bind_some, Option.map_some]
  simp only [O.seq]
  refine ret_of ?_
  have lc : dLcs [2] (.v 2) (dItems (dVar 1)) dYes (dCall d_times (dCons (dCall d_chance_of (dCons (dVar 0) (dCons (dVar 2) dNil))) (dCons (dTup (dCons (dBin oIx (dCall d_part_of (dCons (dVar 0) (dCons (dVar 2) dNil))) (dC (.int 0))) (dCons (dC (.int 1)) dNil))) dNil))) [some g.enc, some (encR t.paths), none] = .ok ((t.paths.map fun p => g.chance p * wAt g p).map encQ) := by
    rw [List.map_map]
    refine lc_ok1 (xs := t.paths) (enc := encP) _ rfl fun p hp => ⟨_, rfl, ?_⟩
    have ip := Game.rule_path ht hp
    have tm := times_ok (chance_sz4 hg (by decide) ip) (sz_worth hg ip) (by decide)
    simp only [chance_of_ok hg (by decide) ip, part_of_ok ip, ix0_ok, enc_int1, defD, args, dSeq, dSet, dSetP, dSetN, lstAt, dApp, dAppP, dAsg, dPar, dDrop, dWhile, dIfS, dRet, dB, dCall, dCons, dNil, dVar, dC, dBin, dChain, asB, dTru, dNotT, dAndT, dOrT, dAnd, dOr, dNot, dIf, dUn, dTup, dLst, dItems, dYes, R.bind, R.to, O.seq, outR, ofO, noErr, mask, Sm.putIn, bindPat, bindPats, itemsOf, tru, List.foldr_cons, List.foldr_nil, List.length_cons, List.length_nil, List.map_cons, List.map_nil, List.cons_append, List.nil_append, Nat.sub_self, List.replicate_zero, List.replicate_succ, List.getElem?_cons_succ, List.getElem?_cons_zero, List.set_cons_zero, List.set_cons_succ, Nat.reduceAdd, Nat.reduceSub, ↓reduceIte, Bool.not_true, Bool.not_false, Bool.and_true, Bool.true_and, Bool.false_and, Bool.and_false, if_true, if_false, Bool.false_eq_true, oNeg, oAddI, oSubI, oAdd_ii, oLt, oLe, oGt, oGe, Option.bind_some, Option.map_some]
    exact tm
  have ap := all_plus_ok (qs := t.paths.map fun p => g.chance p * wAt g p) (n := 21) (by
    intro q hq
    obtain ⟨p, hp, rfl⟩ := List.mem_map.mp hq
    exact terms_sz hg (by decide) (Game.rule_path ht hp)) (by rw [List.length_map]; have := rule_few hg (by decide) ht; omega)
  unfold Game.exR
  generalize (t.paths.map fun p => g.chance p * wAt g p).map encQ = L at *
  simp only [dLc, lc, ap, defD, args, dSeq, dSet, dSetP, dSetN, lstAt, dApp, dAppP, dAsg, dPar, dDrop, dWhile, dIfS, dRet, dB, dCall, dCons, dNil, dVar, dC, dBin, dChain, asB, dTru, dNotT, dAndT, dOrT, dAnd, dOr, dNot, dIf, dUn, dTup, dLst, dItems, dYes, R.bind, R.to, O.seq, outR, ofO, noErr, mask, Sm.putIn, bindPat, bindPats, itemsOf, tru, List.foldr_cons, List.foldr_nil, List.length_cons, List.length_nil, List.map_cons, List.map_nil, List.cons_append, List.nil_append, Nat.sub_self, List.replicate_zero, List.replicate_succ, List.getElem?_cons_succ, List.getElem?_cons_zero, List.set_cons_zero, List.set_cons_succ, Nat.reduceAdd, Nat.reduceSub, ↓reduceIte, Bool.not_true, Bool.not_false, Bool.and_true, Bool.true_and, Bool.false_and, Bool.and_false, if_true, if_false, Bool.false_eq_true, oNeg, oAddI, oSubI, oAdd_ii, oLt, oLe, oGt, oGe, Option.bind_some, Option.map_some]
theorem intsN_inj {p q : List Nat} (h : intsN p = intsN q) : p = q := encP_inj (by rw [encP_tI, encP_tI, h])
theorem alike_P (p q : List Nat) : PySem.W.alike (toPy (encP p)) (toPy (encP q)) = true := by
  have e : ∀ p : List Nat, toPy (encP p) = .tuple ((intsN p).map .int) := fun p => by
    rw [encP_tI]
    simp only [toPy]
    congr 1
    induction intsN p with
    | nil => rfl
    | cons a l ih => simp only [List.map_cons, toPys, ih, toPy]
  rw [e, e]
  simp only [PySem.W.alike]
  exact PySem.W.alike_ints _ _
theorem srtOk_P (ps : List (List Nat)) : srtOk (ps.map encP) = true := by
  unfold srtOk
  simp only [Bool.and_eq_true, Bool.or_eq_true]
  refine ⟨⟨?_, .inl ?_⟩, ?_⟩
  · rw [List.all_map, List.all_eq_true]
    intro p _
    simp only [Function.comp_apply]
    rw [List.all_map, List.all_eq_true]
    intro q _
    exact alike_P p q
  · rw [List.all_map, List.all_eq_true]
    intro p _
    rfl
  · exact pl_pln _ 64 (pl_row 62 _)
theorem toPy_tI (k : List Int) : toPy (tI k) = pI k := by
  show toPy (.tup (k.map .int)) = _
  simp only [toPy]
  congr 1
  induction k with
  | nil => rfl
  | cons a l ih => simp only [List.map_cons, toPys, ih, toPy]
theorem dle_P (p q : List Nat) : dle (encP p) (encP q) = leI (intsN p) (intsN q) := by
  unfold dle
  rw [encP_tI, encP_tI, toPy_tI, toPy_tI]
  exact leI_pI _ _
end Kx
namespace Sm
abbrev PL := List (List Nat)
namespace Game
end Game
namespace Game
end Game
end Sm
namespace Kx
open PySem PySem.Spec L2 Sm
end Kx
namespace Kx
open PySem PySem.Spec L2 Sm
end Kx
namespace Sm
namespace Game
def shr (g : Game) (x : Int × Game) : Rat := Rat.divInt x.1 g.total
def gain (g : Game) : Rat := qsum (g.ways.map fun x => g.shr x * ((x.2.worth - g.worth : Int) : Rat))
def wq (g : Game) (p : List Nat) : Rat := ((g.part p).worth : Rat)
inductive Gains (P : Rat → Prop) : Game → Prop
  | mk {w : Int} {ws : List (Int × Game)} : (ws ≠ [] → P (gain (.node w ws))) → (∀ p ∈ ws, Gains P p.2) → Gains P (.node w ws)
theorem Gains.at {P : Rat → Prop} : ∀ {p : List Nat} {g : Game}, Gains P g → g.IsPath p → Gains P (g.part p)
  | [], g, h, _ => h
  | i :: p, .node w ws, h, hp => by
    simp only [IsPath, ways] at hp
    cases hx : ws[i]? with
    | none => rw [hx] at hp; exact hp.elim
    | some x =>
      rw [hx] at hp
      rw [part_c (g := .node w ws) p hx]
      cases h with
      | mk _ h2 => exact (h2 x (List.mem_of_getElem? hx)).at hp
end Game
end Sm
namespace Sm
namespace Game
end Game
end Sm
namespace Kx
open PySem PySem.Spec L2 Sm
end Kx
namespace Kx
open PySem PySem.Spec L2 Sm
def isF (P : Rat → Bool) (g : Game) : Bool := (g.paths.filter fun p => !decide ((g.part p).ways = [])).all fun p => P (g.part p).gain
end Kx
namespace Sm
namespace RT
theorem mem_go {rs : List RT} {p : List Nat} : p ∈ (RT.go rs).paths ↔ ∃ i q r, p = i :: q ∧ rs[i]? = some r ∧ q ∈ r.paths := by
  rw [paths_go, mem_idxs']
  constructor
  · rintro ⟨i, q, h1, ps, h2, h3⟩
    rw [List.getElem?_map, Option.map_eq_some_iff] at h2
    obtain ⟨r, h4, rfl⟩ := h2
    exact ⟨i, q, r, h1, h4, h3⟩
  · rintro ⟨i, q, r, h1, h2, h3⟩
    exact ⟨i, q, h1, r.paths, by rw [List.getElem?_map, h2]; rfl, h3⟩
theorem mem_cons {rs : List RT} {i : Nat} {q : List Nat} {r : RT} (h : rs[i]? = some r) : i :: q ∈ (RT.go rs).paths ↔ q ∈ r.paths := by
  rw [mem_go]
  constructor
  · rintro ⟨j, q', r', h1, h2, h3⟩
    injection h1 with h1 h1'
    subst h1 h1'
    rw [h] at h2; cases h2; exact h3
  · exact fun hq => ⟨i, q, r, rfl, h, hq⟩
mutual
def join : RT → RT → RT
  | .stop, s => s
  | .go rs, .stop => .go rs
  | .go rs, .go ss => .go (joins rs ss)
def joins : List RT → List RT → List RT
  | r :: rs, s :: ss => join r s :: joins rs ss
  | _, _ => []
end
end RT
open RT
namespace Game
end Game
end Sm
namespace Kx
open PySem PySem.Spec L2 Sm
theorem leI_P {p q : List Nat} (h : p < q) : leI (intsN p) (intsN q) = true := by
  unfold leI
  rw [decide_eq_true_eq]
  exact List.le_of_lt ((ints_lt p q).mpr h)
theorem dle_anti {p q : List Nat} (h1 : dle (encP p) (encP q) = true) (h2 : dle (encP q) (encP p) = true) : p = q := by
  rw [dle_P] at h1 h2
  unfold leI at h1 h2
  rw [decide_eq_true_eq] at h1 h2
  exact intsN_inj (List.le_antisymm h1 h2)
theorem sort_same {ps qs : PL} (h : ∀ p, p ∈ ps ↔ p ∈ qs) (hn : ps.Nodup) (hq : Rising qs) : (ps.map encP).mergeSort dle = qs.map encP := by
  have e : (ps.map encP).mergeSort dle = (ps.mergeSort fun a b => dle (encP a) (encP b)).map encP := by
    rw [List.map_mergeSort (s := dle) (f := encP) (fun a _ b _ => rfl)]
  rw [e]
  congr 1
  have pm : ps.Perm qs := (List.perm_ext_iff_of_nodup hn (Game.rising_nodup hq)).mpr h
  refine List.Perm.eq_of_pairwise (le := fun a b => dle (encP a) (encP b) = true) (fun a b _ _ h1 h2 => dle_anti h1 h2) ?_ ?_ ((List.mergeSort_perm _ _).trans pm)
  · refine List.pairwise_mergeSort (fun a b c => ?_) (fun a b => ?_) _
    · rw [dle_P, dle_P, dle_P]; exact leI_trans _ _ _
    · rw [dle_P, dle_P]; exact leI_total _ _
  · exact hq.imp fun hab => by rw [dle_P]; exact leI_P hab
theorem sorted_same {ps qs : PL} (h : ∀ p, p ∈ ps ↔ p ∈ qs) (hn : ps.Nodup) (hq : Rising qs) : oSorted [.lst (ps.map encP)] = some (.lst (qs.map encP)) := by
  have hs := sort_same h hn hq
  match ps, qs, h, hn, hq, hs with
  | [], qs, _, _, _, hs =>
    show oSortA [.lst (([] : PL).map encP)] = _
    simp only [oSortA, msort_eq]
    rw [if_pos (srtOk_P []), hs]
  | [p], qs, _, _, _, hs =>
    rw [List.map_singleton, List.mergeSort_singleton] at hs
    rw [← hs]
    rfl
  | p :: q :: ps, qs, _, _, _, hs =>
    show oSortA [.lst ((p :: q :: ps).map encP)] = _
    simp only [oSortA, msort_eq]
    rw [if_pos (srtOk_P _), hs]
theorem eq_P (p q : List Nat) : oEq (encP p) (encP q) = some (.bl (decide (p = q))) := by
  unfold oEq
  rw [pl_pln _ 64 (encP_pl 63 p), pl_pln _ 64 (encP_pl 63 q)]
  simp only [encP, deq, deq_path, Bool.and_self, if_true]
theorem any_bools {α : Type} (f : α → Bool) (l : List α) : oAny [.lst (l.map fun x => D.bl (f x))] = some (.bl (l.any f)) := by
  have bo : boolsOf (l.map fun x => D.bl (f x)) = some (l.map f) := by
    induction l with
    | nil => rfl
    | cons a l ih => simp only [List.map_cons, boolsOf, ih, Option.map_some]
  simp only [oAny, bo, Option.map_some]
  congr 2
  rw [List.any_map]
  rfl
end Kx
namespace Kx
open PySem PySem.Spec L2 Sm
def stT : DT := asB (dBin oNe (dVar 4) (dLst dNil))
def stB (pk : Nat → Int → Int) : DS := (dSeq (dPop 4 (.t [(.v 5), (.v 6)]))
    (dSeq (dSet [4, 3] 1 (dBin oAdd (dVar 1) (dC (.int 1))))
    (dIfS (dOrT (asB (dBin oEq (dB oLen (dCons (dVar 6) dNil)) (dC (.int 1)))) (asB (dBin oEq (dCall (dPick pk) (dCons (dVar 0) (dCons (dVar 1) (dCons (dC (.int 3)) dNil)))) (dC (.int 0))))) (dApp [4, 3] 3 (dVar 5)) (dExt [4, 3] 4 (dLc [7, 8, 9] (.t [(.v 7), (.t [(.v 8), (.v 9)])]) (dRng enumD (dCons (dBin oIx (dVar 6) (dC (.int 1))) dNil)) dYes (dTup (dCons (dBin oAdd (dVar 5) (dTup (dCons (dVar 7) dNil))) (dCons (dVar 9) dNil))))))))
def encRow (x : List Nat × Game) : D := .tup [encP x.1, x.2.enc]
def stE (g : D) (k : Nat) (some_ : PL) (rows : List (List Nat × Game)) (x5 x6 : Option D) : Sm.Env := [some .scr0, some (.int (k : Int)), some g, some (.lst (some_.map encP)), some (.lst (rows.map encRow)), x5, x6, none, none, none]
def Sub (pk : Nat → Int → Int) (g : D) (s : Game) : Prop := ∀ (d : Nat), s.Ok d → d ≤ 4 → ∀ (road : List Nat) (rows : List (List Nat × Game)) (some_ : PL) (k : Nat) (x5 x6 : Option D), (∀ y ∈ rows, y.2.Ok 4) → road.length + d ≤ 90 → some_.length + rows.length + 3 * s.paths.length ≤ 50000 →
  ∃ (t : RT) (L : PL) (k' : Nat) (y5 y6 : Option D) (m : Nat), RuleOf s t ∧ L.Perm (t.paths.map (road ++ ·)) ∧ m ≤ s.paths.length ∧ L.length ≤ s.paths.length ∧ ∀ N, whileGo stT (stB pk) (N + m) (stE g k some_ (rows ++ [(road, s)]) x5 x6) = whileGo stT (stB pk) N (stE g k' (some_ ++ L) rows y5 y6)
end Kx
namespace Sm
namespace Game
theorem isPath_pre : ∀ (a b : List Nat) (g : Game), g.IsPath (a ++ b) → g.IsPath a
  | [], _, _, _ => trivial
  | i :: a, b, g, h => by
    obtain ⟨x, hx, hp⟩ := isPath_at h
    exact (isPath_cons hx).mpr (isPath_pre a b x.2 hp)
theorem chance_pos : ∀ {p : List Nat} {g : Game} {n : Nat}, g.Ok n → g.IsPath p → 0 < g.chance p
  | [], g, _, _, _ => by simp only [chance]; decide
  | i :: p, g, 0, h, _ => h.elim
  | i :: p, .node w ws, n + 1, h, hp => by
    simp only [IsPath, ways] at hp
    cases hx : ws[i]? with
    | none => rw [hx] at hp; exact hp.elim
    | some x =>
      rw [hx] at hp
      rw [chance_c (g := .node w ws) p hx]
      obtain ⟨t1, t2, a1, a2, hk⟩ := total_at (g := .node w ws) h hx
      refine Rat.mul_pos ?_ (chance_pos (h.2.2 x (List.mem_of_getElem? hx)).2 hp)
      refine Rat.lt_of_le_of_ne (Rat.divInt_nonneg (by omega) (by omega)) fun e => ?_
      rw [← Rat.zero_divInt (Game.node w ws).total] at e
      have := (Rat.divInt_eq_divInt_iff (by omega) (by omega)).mp e
      rw [Int.zero_mul] at this
      rcases Int.mul_eq_zero.mp this.symm with h | h <;> omega
end Game
end Sm
namespace Kx
open PySem PySem.Spec L2 Sm
end Kx
namespace Kx
open PySem PySem.Spec L2 Sm
end Kx
namespace Sm
theorem qsum_sz {n : Nat} : ∀ {qs : List Rat}, (∀ q ∈ qs, Sz n q) → Sz (1 + (n + 1) * qs.length) (qsum qs)
  | [], _ => by
    have : Sz 1 (0 : Rat) := ⟨by decide, by decide⟩
    simpa [qsum] using this
  | q :: qs, h => by
    have h1 := h q (by simp)
    have h2 := qsum_sz (qs := qs) fun x hx => h x (by simp [hx])
    rw [qsum, List.length_cons]
    exact (h1.add h2).mono (by rw [Nat.mul_add]; omega)
end Sm
namespace Kx
open PySem PySem.Spec L2 Sm
end Kx
namespace Sm
abbrev BK := List (Int × Rat)
def getB (b : BK) (k : Int) : Rat := ((b.find? fun e => e.1 == k).map (·.2)).getD 0
def putB (b : BK) (k : Int) (v : Rat) : BK := if b.any fun e => e.1 == k then b.map fun e => if e.1 == k then (e.1, v) else e else b ++ [(k, v)]
def addB (b : BK) (k : Int) (c : Rat) : BK := putB b k (getB b k + c)
def keysN (b : BK) : Prop := (b.map (·.1)).Nodup
theorem putB_len (b : BK) (k : Int) (v : Rat) : (putB b k v).length ≤ b.length + 1 := by
  unfold putB
  split
  · rw [List.length_map]; omega
  · simp
theorem putB_keys {b : BK} (h : keysN b) (k : Int) (v : Rat) : keysN (putB b k v) := by
  unfold keysN putB at *
  split
  · rw [List.map_map]
    have : ((fun x : Int × Rat => x.1) ∘ fun e : Int × Rat => if e.1 == k then (e.1, v) else e) = fun e => e.1 := by
      funext e
      simp only [Function.comp_apply]
      split <;> rfl
    rw [this]
    exact h
  · rename_i hn
    rw [List.map_append, List.nodup_append]
    refine ⟨h, by simp, ?_⟩
    intro a ha c hc e
    subst e
    simp only [List.map_cons, List.map_nil, List.mem_singleton] at hc
    subst hc
    obtain ⟨x, hx, e⟩ := List.mem_map.mp ha
    exact hn (List.any_eq_true.mpr ⟨x, hx, by simp [e]⟩)
theorem getB_none {b : BK} {k : Int} (h : (b.any fun e => e.1 == k) = false) : getB b k = 0 := by
  unfold getB
  rw [List.find?_eq_none.mpr]
  · rfl
  · intro e he
    have := List.any_eq_false.mp h e he
    exact this
theorem sum_put {f : Int → Rat} : ∀ {b : BK} {k : Int} {v : Rat}, keysN b → qsum ((putB b k v).map fun e => f e.1 * e.2) = qsum (b.map fun e => f e.1 * e.2) + f k * (v - getB b k) := by
  intro b k v hb
  unfold putB
  cases ha : b.any fun e => e.1 == k with
  | false =>
    rw [getB_none ha]
    simp only [Bool.false_eq_true, if_false]
    rw [List.map_append, qsum_append]
    simp only [List.map_cons, List.map_nil, qsum]
    grind
  | true =>
    simp only [if_true]
    induction b with
    | nil => simp at ha
    | cons e b ih =>
      unfold keysN at hb
      rw [List.map_cons, List.nodup_cons] at hb
      simp only [List.map_cons, qsum]
      by_cases he : e.1 = k
      · have hg : getB (e :: b) k = e.2 := by
          unfold getB
          rw [List.find?_cons_of_pos (by simp [he])]
          rfl
        have hm : (b.map fun e => if e.1 == k then (e.1, v) else e) = b := by
          rw [List.map_congr_left (g := id), List.map_id]
          intro x hx
          have : x.1 ≠ k := by
            rintro h2
            exact hb.1 (List.mem_map.mpr ⟨x, hx, by rw [h2, he]⟩)
          simp [this]
        rw [hg, hm]
        simp only [he, beq_self_eq_true, if_true]
        grind
      · have hk : (e.1 == k) = false := by simpa using he
        have hg : getB (e :: b) k = getB b k := by
          unfold getB
          rw [List.find?_cons_of_neg (by simp [hk])]
        rw [hg]
        simp only [hk, Bool.false_eq_true, if_false]
        have ha' : (b.any fun e => e.1 == k) = true := by simpa [hk] using ha
        rw [ih hb.2 ha']
        grind
theorem sum_add {f : Int → Rat} {b : BK} {k : Int} {c : Rat} (h : keysN b) : qsum ((addB b k c).map fun e => f e.1 * e.2) = qsum (b.map fun e => f e.1 * e.2) + f k * c := by
  unfold addB
  rw [sum_put h]
  grind
def bkOf (g : Game) (ps : List (List Nat)) : BK := ps.foldl (fun b p => addB b (g.part p).worth (g.chance p)) []
theorem bk_gen (g : Game) (f : Int → Rat) : ∀ (ps : List (List Nat)) (b : BK), keysN b → keysN (ps.foldl (fun b p => addB b (g.part p).worth (g.chance p)) b) ∧ qsum ((ps.foldl (fun b p => addB b (g.part p).worth (g.chance p)) b).map fun e => f e.1 * e.2) = qsum (b.map fun e => f e.1 * e.2) + qsum (ps.map fun p => g.chance p * f (g.part p).worth) ∧ (ps.foldl (fun b p => addB b (g.part p).worth (g.chance p)) b).length ≤ b.length + ps.length
  | [], b, h => ⟨h, by simp [qsum, Rat.add_zero], by simp⟩
  | p :: ps, b, h => by
    obtain ⟨h1, h2, h3⟩ := bk_gen g f ps (addB b (g.part p).worth (g.chance p)) (putB_keys h _ _)
    rw [List.foldl_cons]
    refine ⟨h1, ?_, ?_⟩
    · rw [h2, sum_add h, List.map_cons, qsum]
      grind
    · have := putB_len b (g.part p).worth (getB b (g.part p).worth + g.chance p)
      rw [List.length_cons]
      unfold addB at h3 ⊢
      omega
theorem bk_len (g : Game) (ps : List (List Nat)) : (bkOf g ps).length ≤ ps.length := by have := (bk_gen g (fun _ => 0) ps [] (by simp [keysN])).2.2; simpa [bkOf] using this
def szB (n : Nat) (b : BK) : Prop := ∀ e ∈ b, Sz n e.2
theorem getB_sz {n : Nat} {b : BK} (h : szB n b) (hn : 0 < n) (k : Int) : Sz n (getB b k) := by
  unfold getB
  cases hf : b.find? fun e => e.1 == k with
  | none => exact (show Sz 1 (0 : Rat) from ⟨by decide, by decide⟩).mono hn
  | some e => exact h e (List.mem_of_find?_eq_some hf)
theorem addB_sz {n m : Nat} {b : BK} (h : szB n b) (hn : 0 < n) {k : Int} {c : Rat} (hc : Sz m c) : szB (n + m + 1) (addB b k c) := by
  intro e he
  unfold addB putB at he
  have hv := (getB_sz h hn k).add hc
  split at he
  · obtain ⟨x, hx, rfl⟩ := List.mem_map.mp he
    split
    · exact hv
    · exact (h x hx).mono (by omega)
  · rcases List.mem_append.mp he with he | he
    · exact (h e he).mono (by omega)
    · rw [List.mem_singleton] at he; subst he; exact hv
end Sm
namespace Kx
open PySem PySem.Spec L2 Sm
theorem bk_sz {g : Game} (hg : g.Ok 4) : ∀ {ps : PL}, (∀ p ∈ ps, g.IsPath p) → szB (1 + 17 * ps.length) (bkOf g ps) := by
  have gen : ∀ (ps : PL) (b : BK) (n : Nat), (∀ p ∈ ps, g.IsPath p) → 0 < n → szB n b → szB (n + 17 * ps.length) (ps.foldl (fun b p => addB b (g.part p).worth (g.chance p)) b) := by
    intro ps
    induction ps with
    | nil => intro b n _ _ h; simpa using h
    | cons p ps ih =>
      intro b n hp hn h
      have := ih (addB b (g.part p).worth (g.chance p)) (n + 16 + 1) (fun q hq => hp q (by simp [hq])) (by omega) (addB_sz h hn (chance_sz4 hg (by decide) (hp p (by simp))))
      rw [List.foldl_cons, List.length_cons, show n + 17 * (ps.length + 1) = n + 16 + 1 + 17 * ps.length by omega]
      exact this
  intro ps hp
  exact gen ps [] 1 hp (by decide) (by intro e he; simp at he)
end Kx
namespace Kx
open PySem PySem.Spec L2 Sm
def encB (b : BK) : D := .dct (b.map fun e => (.int e.1, encQ e.2))
theorem allK (b : BK) : ((b.map fun e : Int × Rat => ((D.int e.1, encQ e.2) : D × D)).all fun e => kInt e.1) = true := by
  rw [List.all_map, List.all_eq_true]; intro e _; rfl
theorem get_book (b : BK) (k : Int) : ∃ o, oGetK (b.map fun e => (.int e.1, encQ e.2)) (.int k) = some o ∧ o.getD (.tup [.int 0, .int 1]) = encQ (getB b k) := by
  refine ⟨_, by simp only [oGetK]; rw [if_pos (allK b)], ?_⟩
  unfold findE getB
  rw [List.find?_map]
  have : ((fun e : D × D => isKI k e.1) ∘ fun e : Int × Rat => ((D.int e.1, encQ e.2) : D × D)) = fun e => e.1 == k := rfl
  rw [this]
  cases b.find? fun e => e.1 == k <;> rfl
theorem put_book (b : BK) (k : Int) (v : Rat) : putE (isKI k) (.int k) (encQ v) (b.map fun e => (.int e.1, encQ e.2)) = (putB b k v).map fun e => (.int e.1, encQ e.2) := by
  unfold putE putB
  rw [List.any_map]
  have : ((fun e : D × D => isKI k e.1) ∘ fun e : Int × Rat => ((D.int e.1, encQ e.2) : D × D)) = fun e => e.1 == k := rfl
  rw [this]
  split
  · rw [List.map_map, List.map_map]
    refine List.map_congr_left fun e _ => ?_
    show (if isKI k (D.int e.1) = true then (D.int e.1, encQ v) else (D.int e.1, encQ e.2)) = (D.int (if (e.1 == k) = true then (e.1, v) else e).1, encQ (if (e.1 == k) = true then (e.1, v) else e).2)
    by_cases h : (e.1 == k) = true
    · have h' : isKI k (D.int e.1) = true := h
      rw [if_pos h, if_pos h']
    · have h' : ¬ isKI k (D.int e.1) = true := h
      rw [if_neg h, if_neg h']
  · rw [List.map_append]; rfl
def srtB (b : BK) : D := .lst ((b.map fun e => D.tup [.int e.1, encQ e.2]).mergeSort dle)
theorem alike_row (a b : Int × Rat) : PySem.W.alike (toPy (D.tup [.int a.1, encQ a.2])) (toPy (D.tup [.int b.1, encQ b.2])) = true := by
  simp [toPy, toPys, encQ, PySem.W.alike, PySem.W.alikeAll]
theorem sort_book (b : BK) : oSortItems (encB b) = some (srtB b) := by
  unfold encB srtB
  simp only [oSortItems, msort_eq]
  rw [if_pos]
  · rw [List.map_map]; rfl
  · unfold kvsOk
    rw [allK b, Bool.true_and, Bool.and_eq_true]
    constructor
    · rw [List.all_map, List.all_eq_true]; intro e _; simp [encQ, pure', pures]
    · rw [List.map_map]
      unfold srtOk
      simp only [Bool.and_eq_true, Bool.or_eq_true]
      refine ⟨⟨?_, .inl ?_⟩, ?_⟩
      · rw [List.all_map, List.all_eq_true]
        intro e _
        simp only [Function.comp_apply]
        rw [List.all_map, List.all_eq_true]
        intro e' _
        exact alike_row e e'
      · rw [List.all_map, List.all_eq_true]; intro e _; rfl
      · refine pl_pln _ 64 ?_
        simp only [pl]
        exact pls_map _ _ fun e _ => by simp [pl, pls, encQ]
theorem spread_of_ok {g : Game} (hg : g.Ok 4) {ps : PL} (hp : ∀ p ∈ ps, g.IsPath p) (hl : ps.length ≤ 100) {c : List D → D} (hc : ∀ xs, itemsOf (c xs) = some xs) : d_spread_of [g.enc, c (ps.map encP)] = .ok (srtB (bkOf g ps)) := by
  refine defD_eq rfl ?_
  unfold b_spread_of
  apply out_seq; (focus (simp only [dSetD, defD, args, dSeq, dSet, dSetP, dSetN, lstAt, dApp, dAppP, dAsg, dPar, dDrop, dWhile, dIfS, dRet, dB, dCall, dCons, dNil, dVar, dC, dBin, dChain, asB, dTru, dNotT, dAndT, dOrT, dAnd, dOr, dNot, dIf, dUn, dTup, dLst, dItems, dYes, R.bind, R.to, O.seq, outR, ofO, noErr, mask, Sm.putIn, bindPat, bindPats, itemsOf, tru, List.foldr_cons, List.foldr_nil, List.length_cons, List.length_nil, List.map_cons, List.map_nil, List.cons_append, List.nil_append, Nat.sub_self, List.replicate_zero, List.replicate_succ, List.getElem?_cons_succ, List.getElem?_cons_zero, List.set_cons_zero, List.set_cons_succ, Nat.reduceAdd, Nat.reduceSub, ↓reduceIte, Bool.not_true, Bool.not_false, Bool.and_true, Bool.true_and, Bool.false_and, Bool.and_false, if_true, if_false, Bool.false_eq_true, oNeg, oAddI, oSubI, oAdd_ii, oLt, oLe, oGt, oGe, Option.bind_some, Option.map_some]; try exact rfl))
  refine accP_out (xs := ps) (enc := encP) [3, 4] 2 encB (fun b p => addB b (g.part p).worth (g.chance p)) [] ?_ rfl ?_ ?_
  · simp only [dItems, dVar, mask, List.foldr_cons, List.foldr_nil, List.set_cons_succ, List.set_cons_zero, List.getElem?_cons_succ, List.getElem?_cons_zero, R.bind, hc, ofO]
    try rfl
  · intro pre p suf ys hx
    have ip := hp p (by rw [hx]; simp)
    have hxl := congrArg List.length hx
    rw [List.length_append, List.length_cons] at hxl
    have bl := bk_len g pre
    have bz : szB (1 + 17 * pre.length) (bkOf g pre) := bk_sz hg fun q hq => hp q (by rw [hx]; simp [hq])
    refine ⟨_, rfl, ?_⟩
    rw [show (pre.foldl (fun b p => addB b (g.part p).worth (g.chance p)) []) = bkOf g pre from rfl]
    generalize bkOf g pre = b at *
    simp only [over, List.contains_cons, List.contains_nil, List.elem_cons, List.elem_nil, Nat.reduceAdd, Nat.reduceBEq, Nat.zero_add, Bool.or_false, Bool.false_or, Bool.or_true, Bool.true_or, Bool.false_eq_true, if_true, if_false, ↓reduceIte, beq_self_eq_true, List.set_cons_zero, List.set_cons_succ]
    generalize ys 4 = y4
    have ch := chance_of_ok hg (by decide) ip
    obtain ⟨o, g1, g2⟩ := get_book b (g.part p).worth
    have ps := plus_ok (getB_sz bz (by omega) (g.part p).worth) (chance_sz4 hg (by decide) ip) (by omega)
    have pb := put_book b (g.part p).worth (getB b (g.part p).worth + g.chance p)
    have pq : pure' (encQ (getB b (g.part p).worth + g.chance p)) = true := by simp [encQ, pure', pures]
    have hz : (b.map fun e => ((D.int e.1, encQ e.2) : D × D)).length < 1000 ∧ ((b.map fun e => ((D.int e.1, encQ e.2) : D × D)).all fun e => kInt e.1) = true := ⟨by rw [List.length_map]; omega, allK b⟩
    apply stay_nx; (focus (simp only [part_of_ok ip, ix0_ok, defD, args, dSeq, dSet, dSetP, dSetN, lstAt, dApp, dAppP, dAsg, dPar, dDrop, dWhile, dIfS, dRet, dB, dCall, dCons, dNil, dVar, dC, dBin, dChain, asB, dTru, dNotT, dAndT, dOrT, dAnd, dOr, dNot, dIf, dUn, dTup, dLst, dItems, dYes, R.bind, R.to, O.seq, outR, ofO, noErr, mask, Sm.putIn, bindPat, bindPats, itemsOf, tru, List.foldr_cons, List.foldr_nil, List.length_cons, List.length_nil, List.map_cons, List.map_nil, List.cons_append, List.nil_append, Nat.sub_self, List.replicate_zero, List.replicate_succ, List.getElem?_cons_succ, List.getElem?_cons_zero, List.set_cons_zero, List.set_cons_succ, Nat.reduceAdd, Nat.reduceSub, ↓reduceIte, Bool.not_true, Bool.not_false, Bool.and_true, Bool.true_and, Bool.false_and, Bool.and_false, if_true, if_false, Bool.false_eq_true, oNeg, oAddI, oSubI, oAdd_ii, oLt, oLe, oGt, oGe, Option.bind_some, Option.map_some]; try exact rfl))
    unfold addB encB
    rw [← pb]
    generalize (b.map fun e => ((D.int e.1, encQ e.2) : D × D)) = B at *
    apply stay; (focus (simp only [dPutD, dGet2, g1, g2, ch, ps, pq, hz, defD, args, dSeq, dSet, dSetP, dSetN, lstAt, dApp, dAppP, dAsg, dPar, dDrop, dWhile, dIfS, dRet, dB, dCall, dCons, dNil, dVar, dC, dBin, dChain, asB, dTru, dNotT, dAndT, dOrT, dAnd, dOr, dNot, dIf, dUn, dTup, dLst, dItems, dYes, R.bind, R.to, O.seq, outR, ofO, noErr, mask, Sm.putIn, bindPat, bindPats, itemsOf, tru, List.foldr_cons, List.foldr_nil, List.length_cons, List.length_nil, List.map_cons, List.map_nil, List.cons_append, List.nil_append, Nat.sub_self, List.replicate_zero, List.replicate_succ, List.getElem?_cons_succ, List.getElem?_cons_zero, List.set_cons_zero, List.set_cons_succ, Nat.reduceAdd, Nat.reduceSub, ↓reduceIte, Bool.not_true, Bool.not_false, Bool.and_true, Bool.true_and, Bool.false_and, Bool.and_false, if_true, if_false, Bool.false_eq_true, oNeg, oAddI, oSubI, oAdd_ii, oLt, oLe, oGt, oGe, Option.bind_some, Option.map_some]; try exact rfl)); focus rfl
  · intro ys
    simp only [over, List.contains_cons, List.contains_nil, List.elem_cons, List.elem_nil, Nat.reduceAdd, Nat.reduceBEq, Nat.zero_add, Bool.or_false, Bool.false_or, Bool.or_true, Bool.true_or, Bool.false_eq_true, if_true, if_false, ↓reduceIte, beq_self_eq_true, List.set_cons_zero, List.set_cons_succ]
    refine ret_of ?_
    have so := sort_book (bkOf g ps)
    rw [show (ps.foldl (fun b p => addB b (g.part p).worth (g.chance p)) []) = bkOf g ps from rfl]
    generalize bkOf g ps = b at *
    generalize encB b = B at *
    simp only [so, defD, args, dSeq, dSet, dSetP, dSetN, lstAt, dApp, dAppP, dAsg, dPar, dDrop, dWhile, dIfS, dRet, dB, dCall, dCons, dNil, dVar, dC, dBin, dChain, asB, dTru, dNotT, dAndT, dOrT, dAnd, dOr, dNot, dIf, dUn, dTup, dLst, dItems, dYes, R.bind, R.to, O.seq, outR, ofO, noErr, mask, Sm.putIn, bindPat, bindPats, itemsOf, tru, List.foldr_cons, List.foldr_nil, List.length_cons, List.length_nil, List.map_cons, List.map_nil, List.cons_append, List.nil_append, Nat.sub_self, List.replicate_zero, List.replicate_succ, List.getElem?_cons_succ, List.getElem?_cons_zero, List.set_cons_zero, List.set_cons_succ, Nat.reduceAdd, Nat.reduceSub, ↓reduceIte, Bool.not_true, Bool.not_false, Bool.and_true, Bool.true_and, Bool.false_and, Bool.and_false, if_true, if_false, Bool.false_eq_true, oNeg, oAddI, oSubI, oAdd_ii, oLt, oLe, oGt, oGe, Option.bind_some, Option.map_some]
end Kx
namespace Sm
namespace Game
end Game
end Sm
namespace Kx
open PySem PySem.Spec L2 Sm
end Kx
namespace Sm
def bq (q : Rat) : Nat := max q.num.natAbs.log2 q.den.log2 + 1
theorem sz_bq (q : Rat) : Sz (bq q) q := by
  unfold bq
  constructor
  · exact Nat.lt_of_lt_of_le Nat.lt_log2_self (Nat.pow_le_pow_right (by decide) (by omega))
  · exact Nat.lt_of_lt_of_le Nat.lt_log2_self (Nat.pow_le_pow_right (by decide) (by omega))
theorem bq_le {n : Nat} {q : Rat} (h : Sz n q) (hn : 0 < n) : bq q ≤ n := by
  unfold bq
  have h1 := log2_lt h.1 hn
  have h2 := log2_lt h.2 hn
  omega
theorem bq_pos (q : Rat) : 0 < bq q := by unfold bq; omega
theorem bq_add (a b : Rat) : bq (a + b) ≤ bq a + bq b + 1 := bq_le ((sz_bq a).add (sz_bq b)) (by omega)
theorem bq_mul (a b : Rat) : bq (a * b) ≤ bq a + bq b := bq_le ((sz_bq a).mul (sz_bq b)) (by have := bq_pos a; omega)
def mu (qs : List Rat) : Nat := (qs.map fun q => bq q + 1).sum
theorem mu_perm {a b : List Rat} (h : a.Perm b) : mu a = mu b := (h.map _).sum_nat
theorem mu_cons (q : Rat) (qs : List Rat) : mu (q :: qs) = bq q + 1 + mu qs := by unfold mu; rw [List.map_cons, List.sum_cons]
theorem mu_add {b : BK} {k : Int} {c : Rat} (hb : keysN b) : mu ((addB b k c).map (·.2)) ≤ mu (b.map (·.2)) + bq c + 4 := by
  unfold addB putB
  cases ha : b.any fun e => e.1 == k with
  | false =>
    rw [getB_none ha, Rat.zero_add]
    simp only [Bool.false_eq_true, if_false]
    unfold mu
    rw [List.map_append, List.map_append, List.sum_append]
    simp
    omega
  | true =>
    simp only [if_true]
    induction b with
    | nil => simp at ha
    | cons e b ih =>
      unfold keysN at hb
      rw [List.map_cons, List.nodup_cons] at hb
      by_cases he : e.1 = k
      · have hg : getB (e :: b) k = e.2 := by
          unfold getB
          rw [List.find?_cons_of_pos (by simp [he])]
          rfl
        have hm : (b.map fun x => if x.1 == k then (x.1, e.2 + c) else x) = b := by
          rw [List.map_congr_left (g := id), List.map_id]
          intro x hx
          have : x.1 ≠ k := by
            rintro h2
            exact hb.1 (List.mem_map.mpr ⟨x, hx, by rw [h2, he]⟩)
          simp [this]
        rw [hg, List.map_cons, hm]
        simp only [he, beq_self_eq_true, if_true, List.map_cons, mu_cons]
        have := bq_add e.2 c
        omega
      · have hk : (e.1 == k) = false := by simpa using he
        have hg : getB (e :: b) k = getB b k := by
          unfold getB
          rw [List.find?_cons_of_neg (by simp [hk])]
        rw [hg]
        simp only [hk, Bool.false_eq_true, if_false, List.map_cons, mu_cons]
        have ha' : (b.any fun e => e.1 == k) = true := by simpa [hk] using ha
        have := ih hb.2 ha'
        omega
theorem bk_mu {g : Game} {m : Nat} : ∀ (ps : List (List Nat)) (b : BK), keysN b → (∀ p ∈ ps, bq (g.chance p) ≤ m) → mu ((ps.foldl (fun b p => addB b (g.part p).worth (g.chance p)) b).map (·.2)) ≤ mu (b.map (·.2)) + (m + 4) * ps.length
  | [], b, _, _ => by simp
  | p :: ps, b, hb, h => by
    have h1 := bk_mu (g := g) (m := m) ps (addB b (g.part p).worth (g.chance p)) (putB_keys hb _ _) (fun q hq => h q (by simp [hq]))
    have h2 := mu_add (k := (g.part p).worth) (c := g.chance p) hb
    have h3 := h p (by simp)
    rw [List.foldl_cons, List.length_cons, Nat.mul_add, Nat.mul_one]
    omega
end Sm
namespace Kx
open PySem PySem.Spec L2 Sm
theorem seq_nx {f h : DS} {ρ ρ1 : Sm.Env} {o : O} (h1 : f ρ = .nx ρ1) (h2 : h ρ1 = o) : dSeq f h ρ = o := by
  unfold dSeq; rw [h1]; exact h2
theorem bq0 : bq 0 = 1 := by decide +kernel
theorem sum_loopV (all : D) : ∀ (qs : List Rat) (acc : Rat) (x : Option D), bq acc + mu qs < 8980 →
    ∃ y, forGo (.v 2) (dSet [] 1 (dCall d_plus (dCons (dVar 1) (dCons (dVar 2) dNil)))) (qs.map encQ) [some all, some (encQ acc), x] = .nx [some all, some (encQ (acc + qsum qs)), y]
  | [], acc, x, _ => ⟨x, by simp only [List.map_nil, forGo, qsum, Rat.add_zero]⟩
  | q :: qs, acc, x, hs => by
    rw [mu_cons] at hs
    have hb := bq_add acc q
    obtain ⟨y, e⟩ := sum_loopV all qs (acc + q) (some (encQ q)) (by omega)
    refine ⟨y, ?_⟩
    rw [show acc + qsum (q :: qs) = acc + q + qsum qs by simp only [qsum, Rat.add_assoc]]
    simp only [forGo, plus_ok (sz_bq acc) (sz_bq q) (by omega), defD, args, dSeq, dSet, dSetP, dSetN, lstAt, dApp, dAppP, dAsg, dPar, dDrop, dWhile, dIfS, dRet, dB, dCall, dCons, dNil, dVar, dC, dBin, dChain, asB, dTru, dNotT, dAndT, dOrT, dAnd, dOr, dNot, dIf, dUn, dTup, dLst, dItems, dYes, R.bind, R.to, O.seq, outR, ofO, noErr, mask, Sm.putIn, bindPat, bindPats, itemsOf, tru, List.foldr_cons, List.foldr_nil, List.length_cons, List.length_nil, List.map_cons, List.map_nil, List.cons_append, List.nil_append, Nat.sub_self, List.replicate_zero, List.replicate_succ, List.getElem?_cons_succ, List.getElem?_cons_zero, List.set_cons_zero, List.set_cons_succ, Nat.reduceAdd, Nat.reduceSub, ↓reduceIte, Bool.not_true, Bool.not_false, Bool.and_true, Bool.true_and, Bool.false_and, Bool.and_false, if_true, if_false, Bool.false_eq_true, oNeg, oAddI, oSubI, oAdd_ii, oLt, oLe, oGt, oGe, Option.bind_some, Option.map_some, dFor, dRng, dLc, dLcs]
    exact e
theorem all_plus_V {qs : List Rat} (hs : mu qs < 8970) : d_all_plus [.lst (qs.map encQ)] = .ok (encQ (qsum qs)) := by
  obtain ⟨y, e⟩ := sum_loopV (.lst (qs.map encQ)) qs 0 none (by rw [bq0]; omega)
  rw [Rat.zero_add] at e
  have e0 : (D.tup [.int 0, .int 1]) = encQ 0 := rfl
  simp only [d_all_plus, b_all_plus, e0, e, defD, args, dSeq, dSet, dSetP, dSetN, lstAt, dApp, dAppP, dAsg, dPar, dDrop, dWhile, dIfS, dRet, dB, dCall, dCons, dNil, dVar, dC, dBin, dChain, asB, dTru, dNotT, dAndT, dOrT, dAnd, dOr, dNot, dIf, dUn, dTup, dLst, dItems, dYes, R.bind, R.to, O.seq, outR, ofO, noErr, mask, Sm.putIn, bindPat, bindPats, itemsOf, tru, List.foldr_cons, List.foldr_nil, List.length_cons, List.length_nil, List.map_cons, List.map_nil, List.cons_append, List.nil_append, Nat.sub_self, List.replicate_zero, List.replicate_succ, List.getElem?_cons_succ, List.getElem?_cons_zero, List.set_cons_zero, List.set_cons_succ, Nat.reduceAdd, Nat.reduceSub, ↓reduceIte, Bool.not_true, Bool.not_false, Bool.and_true, Bool.true_and, Bool.false_and, Bool.and_false, if_true, if_false, Bool.false_eq_true, oNeg, oAddI, oSubI, oAdd_ii, oLt, oLe, oGt, oGe, Option.bind_some, Option.map_some, dFor, dRng, dLc, dLcs]
theorem book_mu {g : Game} (hg : g.Ok 4) {ps : PL} (hp : ∀ p ∈ ps, g.IsPath p) : mu ((bkOf g ps).map (·.2)) ≤ 20 * ps.length := by
  have := bk_mu (g := g) (m := 16) ps [] (by simp [keysN]) fun p h => bq_le (chance_sz4 hg (by decide) (hp p h)) (by decide)
  simpa [bkOf, mu] using this
end Kx
namespace Sm
namespace Game
end Game
end Sm
namespace Kx
open PySem PySem.Spec L2 Sm
end Kx
namespace Kx
open PySem PySem.Spec L2 Sm
def rowB (e : Int × Rat) : D := .tup [.int e.1, encQ e.2]
def sB (b : BK) : BK := b.mergeSort fun a c => dle (rowB a) (rowB c)
theorem srtB_eq (b : BK) : srtB b = .lst ((sB b).map rowB) := by
  unfold srtB sB
  rw [show (fun e : Int × Rat => D.tup [.int e.1, encQ e.2]) = rowB from rfl, List.map_mergeSort (s := dle) (f := rowB) (fun a _ c _ => rfl)]
theorem sB_perm (b : BK) : (sB b).Perm b := List.mergeSort_perm _ _
theorem pl_srt (b : BK) : pl 64 (srtB b) = true := by
  rw [srtB_eq]
  simp only [pl]
  exact pls_map _ _ fun e _ => by simp [rowB, pl, pls, encQ]
theorem spread_ok {g : Game} (hg : g.Ok 4) {t : RT} (ht : RuleOf g t) : d_spread [g.enc, encR t.paths] = .ok (srtB (bkOf g t.paths)) := by
  have h1 := look_rule_ok hg ht
  have h2 : d_spread_of [g.enc, encR t.paths] = _ := spread_of_ok hg (fun p hp => Game.rule_path ht hp) (by have := rule_few hg (by decide) ht; omega) (c := .tup) (fun _ => rfl)
  generalize encR t.paths = E at *
  simp only [d_spread, b_spread, look_ok hg, h1, h2, defD, args, dSeq, dSet, dSetP, dSetN, lstAt, dApp, dAppP, dAsg, dPar, dDrop, dWhile, dIfS, dRet, dB, dCall, dCons, dNil, dVar, dC, dBin, dChain, asB, dTru, dNotT, dAndT, dOrT, dAnd, dOr, dNot, dIf, dUn, dTup, dLst, dItems, dYes, R.bind, R.to, O.seq, outR, ofO, noErr, mask, Sm.putIn, bindPat, bindPats, itemsOf, tru, List.foldr_cons, List.foldr_nil, List.length_cons, List.length_nil, List.map_cons, List.map_nil, List.cons_append, List.nil_append, Nat.sub_self, List.replicate_zero, List.replicate_succ, List.getElem?_cons_succ, List.getElem?_cons_zero, List.set_cons_zero, List.set_cons_succ, Nat.reduceAdd, Nat.reduceSub, ↓reduceIte, Bool.not_true, Bool.not_false, Bool.and_true, Bool.true_and, Bool.false_and, Bool.and_false, if_true, if_false, Bool.false_eq_true, oNeg, oAddI, oSubI, oAdd_ii, oLt, oLe, oGt, oGe, Option.bind_some, Option.map_some]
theorem last_spread_ok {g : Game} (hg : g.Ok 4) : d_last_spread [g.enc] = .ok (srtB (bkOf g g.endT.paths)) := by
  have ht := Game.endT_rule g
  have h1 := ends_ok' hg (by decide)
  have h2 : d_spread_of [g.enc, .lst (g.endT.paths.map encP)] = _ := spread_of_ok hg (fun p hp => Game.rule_path ht hp) (by have := rule_few hg (by decide) ht; omega) (c := .lst) (fun _ => rfl)
  generalize g.endT.paths.map encP = E at *
  simp only [d_last_spread, b_last_spread, look_ok hg, h1, h2, defD, args, dSeq, dSet, dSetP, dSetN, lstAt, dApp, dAppP, dAsg, dPar, dDrop, dWhile, dIfS, dRet, dB, dCall, dCons, dNil, dVar, dC, dBin, dChain, asB, dTru, dNotT, dAndT, dOrT, dAnd, dOr, dNot, dIf, dUn, dTup, dLst, dItems, dYes, R.bind, R.to, O.seq, outR, ofO, noErr, mask, Sm.putIn, bindPat, bindPats, itemsOf, tru, List.foldr_cons, List.foldr_nil, List.length_cons, List.length_nil, List.map_cons, List.map_nil, List.cons_append, List.nil_append, Nat.sub_self, List.replicate_zero, List.replicate_succ, List.getElem?_cons_succ, List.getElem?_cons_zero, List.set_cons_zero, List.set_cons_succ, Nat.reduceAdd, Nat.reduceSub, ↓reduceIte, Bool.not_true, Bool.not_false, Bool.and_true, Bool.true_and, Bool.false_and, Bool.and_false, if_true, if_false, Bool.false_eq_true, oNeg, oAddI, oSubI, oAdd_ii, oLt, oLe, oGt, oGe, Option.bind_some, Option.map_some]
theorem bk_stop (g : Game) : srtB (bkOf g RT.stop.paths) = .lst [.tup [.int g.worth, encQ 1]] := by
  rw [RT.paths_stop]
  have : bkOf g [[]] = [(g.worth, 1)] := by
    show addB [] g.worth 1 = _
    unfold addB putB getB
    simp [Rat.zero_add]
  rw [this]
  unfold srtB
  rw [List.map_singleton, List.mergeSort_singleton]
def sqI (k : Int) : Rat := ((k * k : Int) : Rat)
section
variable {g : Game} {t : RT}
theorem book_mu2 (hg : g.Ok 4) (ht : RuleOf g t) : mu ((sB (bkOf g t.paths)).map (·.2)) ≤ 20 * t.paths.length := by
  rw [mu_perm ((sB_perm _).map _)]
  exact book_mu hg (fun p hp => Game.rule_path ht hp)
end
def mS (g : Game) (t : RT) : Rat := g.exR t fun p => g.wq p * g.wq p
def vr (g : Game) (t : RT) : Rat := mS g t - g.exR t (wAt g) * g.exR t (wAt g)
theorem mean_sz {g : Game} {t : RT} (hg : g.Ok 4) (ht : RuleOf g t) : Sz 900 (g.exR t (wAt g)) := by
  have hl := rule_few hg (by decide) ht
  have := qsum_sz (n := 21) (qs := t.paths.map fun p => g.chance p * wAt g p) (by
    intro q hq
    obtain ⟨p, hp, rfl⟩ := List.mem_map.mp hq
    exact terms_sz hg (by decide) (Game.rule_path ht hp))
  rw [List.length_map] at this
  exact this.mono (by omega)
end Kx
namespace Sm
namespace Game
end Game
end Sm
namespace Kx
open PySem PySem.Spec L2 Sm
open Classical in
noncomputable def mx (g : Game) (p : List Nat) : Int := if h : ∃ M : Int, d_most_along [g.enc, encP p] = .ok (.int M) then h.choose else 0
end Kx
namespace Sm
namespace Game
end Game
end Sm
namespace Kx
open PySem PySem.Spec L2 Sm
def sts (g : Game) (p : List Nat) (ws : List (Int × Game)) (k : Nat) : List Rat := (ws.zipIdx k).map fun x => g.chance (p ++ [x.2]) * sqI (x.1.2.worth - (g.part p).worth)
end Kx
namespace Sm
namespace Game
end Game
end Sm
namespace Kx
open PySem PySem.Spec L2 Sm
theorem enc_okD : ∀ g : Game, okD g.enc = true := by
  apply Game.ind
  intro w ws ih
  cases ws with
  | nil => rw [enc_end]; simp [okD, okDs]
  | cons x ws =>
    rw [enc_go]
    simp only [okD, okDs, Bool.true_and, Bool.and_true]
    refine okDs_all fun d hd => ?_
    obtain ⟨p, hp, rfl⟩ := List.mem_map.mp hd
    simp only [okD, okDs, Bool.true_and, Bool.and_true]
    exact ih p hp
end Kx
namespace Kx
open PySem PySem.Spec L2 Sm
section
variable {g : Game} {k : Nat} {ps : PLS} {P : PP}
end
end Kx
namespace Kx
open PySem PySem.Spec L2 Sm
def nextS (g : Game) (s : PSt) (st : Stp) : PSt := match stepTo g s st with | some x => x.1 | none => s
section
variable {g : Game} {k : Nat} {ps : PLS} {P : PP} {s : PSt}
end
end Kx
namespace Kx
open PySem PySem.Spec L2 Sm
section
variable {f g : DSe} {ρ ρ1 : Sm.Env} {ps ps1 : PLS} {r : RP D} {o : OE} {own : List Nat} {pt : Pat}
theorem oute_seq (h1 : f ρ ps = .nx ρ1 ps1) (h2 : outE (g ρ1 ps1) = r) : outE (eSeq f g ρ ps) = r := by unfold eSeq; rw [h1]; exact h2
theorem sp_nx {f : DS} (h : f ρ = .nx ρ1) : sP f ρ ps = .nx ρ1 ps := by unfold sP; rw [h]; rfl
end
structure SOk (g : Game) (s : PSt) : Prop where
  path : g.IsPath s.path
  bet : -99 ≤ s.bet ∧ s.bet ≤ 99
theorem SOk.len {g : Game} {s : PSt} (h : SOk g s) (hg : g.Ok 4) : s.path.length ≤ 1000 := by have := (Game.part_ok hg h.path).2; omega
theorem SOk.next {g : Game} {s : PSt} (h : SOk g s) (st : Stp) (hs : -99 ≤ st.num ∧ st.num ≤ 99) : SOk g (nextS g s st) := by
  cases st with
  | bet n => exact ⟨h.path, hs⟩
  | go i =>
    cases hx : (g.part s.path).ways[i]? with
    | none =>
      have : nextS g s (.go i) = s := by simp only [nextS, stepTo, hx]
      rw [this]; exact h
    | some x =>
      have : nextS g s (.go i) = ⟨s.path ++ [i], s.bet, s.won + s.bet * (x.2.worth - (g.part s.path).worth)⟩ := by simp only [nextS, stepTo, hx]
      rw [this]
      refine ⟨?_, h.bet⟩
      show g.IsPath (s.path ++ [i])
      rw [Game.isPath_append _ _ _ h.path]
      simp only [Game.IsPath, hx]
end Kx
namespace Kx
open PySem PySem.Spec L2 Sm
end Kx
namespace Kx
open PySem PySem.Spec L2 Sm
section
variable {g : Game} {k : Nat} {ps : PLS} {h : Hs} {s : PSt} {j : Nat}
end
end Kx
namespace Kx
open PySem PySem.Spec L2 Sm
def aP (g : DA) : EA := fun ρ ps => (g ρ).up ps
theorem aP_nil : eNil = aP dNil := rfl
theorem aP_cons (a : DE) (g : DA) : eCons (eP a) (aP g) = aP (dCons a g) := by
  funext ρ ps
  unfold eCons eP aP dCons
  cases a ρ with
  | ok d => cases g ρ <;> rfl
  | err c => rfl
  | bad => rfl
theorem aP_call (F : List D → R D) (g : DA) : eCallA (upF F) (aP g) = eP (dCall F g) := by
  funext ρ ps
  unfold eCallA upF aP eP dCall
  cases g ρ with
  | ok d => rfl
  | err c => rfl
  | bad => rfl
theorem el_spread_of_eq : el_spread_of = upF d_spread_of := up_def fun ρ ps => up_seq fun _ => up_seq fun _ => up_ret
theorem el_spread_eq : el_spread = upF d_spread := by
  refine up_def fun ρ ps => up_seq fun _ => up_seq fun _ => ?_
  rw [el_spread_of_eq, aP_nil, aP_cons, aP_cons, aP_call]
  exact up_ret
theorem el_spread_at_eq : el_spread_at = upF d_spread_at := by
  refine up_def fun ρ ps => up_seq fun _ => ?_
  rw [el_spread_eq, aP_nil, aP_cons, aP_cons, aP_call]
  exact up_ret
theorem el_ahead_of_eq : el_ahead_of = upF d_ahead_of := up_def fun ρ ps => up_seq fun _ => up_seq fun _ => up_ret
theorem el_step_means_eq : el_step_means = upF d_step_means := up_def fun ρ ps => up_seq fun _ => up_seq fun _ => up_seq fun _ => up_ret
theorem el_together_eq : el_together = upF d_together := up_def fun ρ ps => up_seq fun _ => up_seq fun _ => up_seq fun _ => up_seq fun _ => up_ret
theorem stays_run {lf : PLS → RP D} {es : List D} {ps : PLS} (h : lf ps = .ok (.lst es) ps) (hp : pl 64 (.lst es) = true) (hz : es.length + 1 ≤ sizeLine) : e__law_stays lf [.fnv] ps = .ok (.bl true) ps := by
  show outE (be__law_stays lf [some .fnv, none, none] ps) = _
  unfold be__law_stays
  refine oute_seq (ρ1 := [some .fnv, some (.lst es), none]) (ps1 := ps) ?_ ?_
  · unfold eSetF eCallF
    simp only [mask, List.foldr_nil, List.getElem?_cons_zero, h, RP.to, List.set_cons_succ, List.set_cons_zero]
  refine oute_seq (ρ1 := [some .fnv, some (.lst es), none]) (ps1 := ps) (sp_nx ?_) ?_
  · simp only [oIsList, defD, args, dSeq, dSet, dSetP, dSetN, lstAt, dApp, dAppP, dAsg, dPar, dDrop, dWhile, dIfS, dRet, dB, dCall, dCons, dNil, dVar, dC, dBin, dChain, asB, dTru, dNotT, dAndT, dOrT, dAnd, dOr, dNot, dIf, dUn, dTup, dLst, dItems, dYes, R.bind, R.to, O.seq, outR, ofO, noErr, mask, Sm.putIn, bindPat, bindPats, itemsOf, tru, List.foldr_cons, List.foldr_nil, List.length_cons, List.length_nil, List.map_cons, List.map_nil, List.cons_append, List.nil_append, Nat.sub_self, List.replicate_zero, List.replicate_succ, List.getElem?_cons_succ, List.getElem?_cons_zero, List.set_cons_zero, List.set_cons_succ, Nat.reduceAdd, Nat.reduceSub, ↓reduceIte, Bool.not_true, Bool.not_false, Bool.and_true, Bool.true_and, Bool.false_and, Bool.and_false, if_true, if_false, Bool.false_eq_true, oNeg, oAddI, oSubI, oAdd_ii, oLt, oLe, oGt, oGe, Option.bind_some, Option.map_some]
  refine oute_seq (ρ1 := [some .fnv, some (.lst es), some (.lst es)]) (ps1 := ps) (sp_nx ?_) ?_
  · simp only [dCpO, defD, args, dSeq, dSet, dSetP, dSetN, lstAt, dApp, dAppP, dAsg, dPar, dDrop, dWhile, dIfS, dRet, dB, dCall, dCons, dNil, dVar, dC, dBin, dChain, asB, dTru, dNotT, dAndT, dOrT, dAnd, dOr, dNot, dIf, dUn, dTup, dLst, dItems, dYes, R.bind, R.to, O.seq, outR, ofO, noErr, mask, Sm.putIn, bindPat, bindPats, itemsOf, tru, List.foldr_cons, List.foldr_nil, List.length_cons, List.length_nil, List.map_cons, List.map_nil, List.cons_append, List.nil_append, Nat.sub_self, List.replicate_zero, List.replicate_succ, List.getElem?_cons_succ, List.getElem?_cons_zero, List.set_cons_zero, List.set_cons_succ, Nat.reduceAdd, Nat.reduceSub, ↓reduceIte, Bool.not_true, Bool.not_false, Bool.and_true, Bool.true_and, Bool.false_and, Bool.and_false, if_true, if_false, Bool.false_eq_true, oNeg, oAddI, oSubI, oAdd_ii, oLt, oLe, oGt, oGe, Option.bind_some, Option.map_some]
  refine oute_seq (ρ1 := [some .fnv, some (.lst (es ++ [.str "?"])), some (.lst es)]) (ps1 := ps) (sp_nx ?_) ?_
  · simp only [hz, defD, args, dSeq, dSet, dSetP, dSetN, lstAt, dApp, dAppP, dAsg, dPar, dDrop, dWhile, dIfS, dRet, dB, dCall, dCons, dNil, dVar, dC, dBin, dChain, asB, dTru, dNotT, dAndT, dOrT, dAnd, dOr, dNot, dIf, dUn, dTup, dLst, dItems, dYes, R.bind, R.to, O.seq, outR, ofO, noErr, mask, Sm.putIn, bindPat, bindPats, itemsOf, tru, List.foldr_cons, List.foldr_nil, List.length_cons, List.length_nil, List.map_cons, List.map_nil, List.cons_append, List.nil_append, Nat.sub_self, List.replicate_zero, List.replicate_succ, List.getElem?_cons_succ, List.getElem?_cons_zero, List.set_cons_zero, List.set_cons_succ, Nat.reduceAdd, Nat.reduceSub, ↓reduceIte, Bool.not_true, Bool.not_false, Bool.and_true, Bool.true_and, Bool.false_and, Bool.and_false, if_true, if_false, Bool.false_eq_true, oNeg, oAddI, oSubI, oAdd_ii, oLt, oLe, oGt, oGe, Option.bind_some, Option.map_some]
  · have e1 : eL (eCallF 0 lf) [some .fnv, some (.lst (es ++ [.str "?"])), some (.lst es)] ps = .ok (.lst es) ps := by
      unfold eL eCallF
      simp only [List.getElem?_cons_zero, h]
    unfold eRet eBin
    rw [e1]
    simp only [oEq_self hp, eSeq, eRet, eBin, eNow, eOwn, eP, eT, eIf, eIfS, eSet, eAsg, eDrop, eApp, eMeth, eMake, makeR, eCallA, upF, eCons, eNil, eTup, eLst, easB, eAndT, eOrT, eNotT, eTru, eAnd, eB, sP, RP.bind, RP.to, R.up, O.up, OE.seq, outE, defE, oIxT, atI, defD, args, dSeq, dSet, dSetP, dSetN, lstAt, dApp, dAppP, dAsg, dPar, dDrop, dWhile, dIfS, dRet, dB, dCall, dCons, dNil, dVar, dC, dBin, dChain, asB, dTru, dNotT, dAndT, dOrT, dAnd, dOr, dNot, dIf, dUn, dTup, dLst, dItems, dYes, R.bind, R.to, O.seq, outR, ofO, noErr, mask, Sm.putIn, bindPat, bindPats, itemsOf, tru, List.foldr_cons, List.foldr_nil, List.length_cons, List.length_nil, List.map_cons, List.map_nil, List.cons_append, List.nil_append, Nat.sub_self, List.replicate_zero, List.replicate_succ, List.getElem?_cons_succ, List.getElem?_cons_zero, List.set_cons_zero, List.set_cons_succ, Nat.reduceAdd, Nat.reduceSub, ↓reduceIte, Bool.not_true, Bool.not_false, Bool.and_true, Bool.true_and, Bool.false_and, Bool.and_false, if_true, if_false, Bool.false_eq_true, oNeg, oAddI, oSubI, oAdd_ii, oLt, oLe, oGt, oGe, Option.bind_some, Option.map_some]
theorem stays_ok {js : List Nat} {fb : EE} {ρ : Sm.Env} {ps : PLS} {es : List D} (hq : okPS ps = true) (h : fb (capsD js ρ) ps = .ok (.lst es) ps) (hn : noFns es = true) (hp : pl 64 (.lst es) = true) (hz : es.length + 1 ≤ sizeLine) : eLamL e__law_stays js fb ρ ps = .ok (.bl true) ps := by
  have h1 : lamL fb (capsD js ρ) ps = .ok (.lst es) ps := by
    unfold lamL
    rw [if_pos hq, h]
    simp only [gdL, hn, hq, Bool.and_true, if_true]
  unfold eLamL
  rw [if_pos hq, stays_run h1 hp hz]
  simp only [gdE, noFn, hq, Bool.and_true, if_true]
theorem setL1 {own : List Nat} {i : Nat} {f : EE} {ρ : Sm.Env} {ps ps1 : PLS} {d : D} (h : f (mask own ρ) ps = .ok d ps1) : eSetL own i (eCons f eNil) ρ ps = .nx (ρ.set i (some (.lst [d]))) ps1 := by
  unfold eSetL eCons
  rw [h]
  rfl
theorem app1 {own : List Nat} {i : Nat} {f : EE} {ρ : Sm.Env} {ps ps1 : PLS} {d : D} {ds : List D} (h : f (mask own ρ) ps = .ok d ps1) (hl : ρ[i]? = some (some (.lst ds))) (hz : ds.length + 1 ≤ sizeLine) : eApp own i f ρ ps = .nx (ρ.set i (some (.lst (ds ++ [d])))) ps1 := by
  unfold eApp
  rw [h]
  have h1 : lstAt i ρ = true := by unfold lstAt; rw [hl]
  have h2 : Sm.putIn i ρ [d] = .nx (ρ.set i (some (.lst (ds ++ [d])))) := by
    unfold Sm.putIn
    rw [hl]
    simp only [List.length_cons, List.length_nil, Nat.zero_add, hz, if_true]
  rw [h1]
  simp only [if_true, RP.to, h2]
  rfl
end Kx
namespace Sm
namespace Game
def ahd (t : RT) (p : List Nat) : Bool := t.paths.any fun s => decide (s ≠ p) && decide (s.take p.length = p)
theorem rt_some : ∀ {g : Game} {t : RT}, RuleOf g t → ∃ s, s ∈ t.paths := by
  intro g t
  induction t using RT.ind generalizing g with
  | h0 => intro _; exact ⟨[], by rw [RT.paths_stop]; simp⟩
  | h rs ih =>
    intro h
    cases h with
    | go hne hr =>
      cases hr with
      | nil => exact (hne rfl).elim
      | cons h1 h2 =>
        obtain ⟨s, hs⟩ := ih _ (by simp) h1
        exact ⟨0 :: s, RT.mem_go.mpr ⟨0, s, _, rfl, rfl, hs⟩⟩
end Game
end Sm
namespace Kx
open PySem PySem.Spec L2 Sm
def hl (g : Game) (t : RT) : Rat := g.exR t fun p => ((p.length : Int) : Rat)
theorem qsum_nonneg : ∀ {l : List Rat}, (∀ q ∈ l, 0 ≤ q) → 0 ≤ qsum l
  | [], _ => Rat.le_refl
  | q :: l, h => by
    have h1 := h q (by simp)
    have h2 := qsum_nonneg (l := l) fun r hr => h r (by simp [hr])
    simp only [qsum]
    grind
end Kx
namespace Sm
namespace Game
def metT : Nat → (List Nat → Bool) → Game → RT
  | 0, _, _ => .stop
  | n + 1, P, .node _ ws => if P [] || ws.isEmpty then .stop else .go ((ws.zipIdx 0).map fun x => metT n (fun q => P (x.2 :: q)) x.1.2)
theorem met_rules {n : Nat} {P : List Nat → Bool} : ∀ (ws : List (Int × Game)) (k : Nat), (∀ x ∈ ws, ∀ Q, RuleOf x.2 (metT n Q x.2)) → RulesOf ws ((ws.zipIdx k).map fun x => metT n (fun q => P (x.2 :: q)) x.1.2)
  | [], _, _ => .nil
  | x :: ws, k, h => by
    rw [List.zipIdx_cons, List.map_cons]
    exact .cons (h x (by simp) _) (met_rules ws (k + 1) fun y hy => h y (by simp [hy]))
theorem met_rule : ∀ {n : Nat} {g : Game} (P : List Nat → Bool), g.Ok n → RuleOf g (metT n P g)
  | 0, _, _, h => h.elim
  | n + 1, .node w ws, P, h => by
    unfold metT
    by_cases hc : (P [] || ws.isEmpty) = true
    · rw [if_pos hc]; exact .stop _
    · rw [if_neg hc]
      refine .go (fun e => hc (by rw [e]; simp)) (met_rules ws 0 fun x hx Q => met_rule Q (h.2.2 x hx).2)
theorem mem_met : ∀ {n : Nat} {g : Game} {P : List Nat → Bool} {p : List Nat}, g.Ok n → (p ∈ (metT n P g).paths ↔ g.IsPath p ∧ (P p = true ∨ (g.part p).ways = []) ∧ ∀ k, k < p.length → P (p.take k) = false)
  | 0, _, _, _, h => h.elim
  | n + 1, .node w ws, P, p, h => by
    unfold metT
    by_cases hc : (P [] || ws.isEmpty) = true
    · rw [if_pos hc, RT.paths_stop, List.mem_singleton]
      constructor
      · rintro rfl
        refine ⟨trivial, ?_, fun k hk => by simp at hk⟩
        rw [Bool.or_eq_true] at hc
        exact hc.imp id fun z => by show ws = []; simpa using z
      · rintro ⟨h1, h2, h3⟩
        cases p with
        | nil => rfl
        | cons i q =>
          exfalso
          have p0 := h3 0 (by simp)
          rw [List.take_zero] at p0
          obtain ⟨x, hx, _⟩ := isPath_at h1
          rw [p0, Bool.false_or] at hc
          have : ws = [] := by simpa using hc
          have hx : ws[i]? = some x := hx
          rw [this] at hx
          simp at hx
    · rw [if_neg hc, RT.mem_go]
      have hP : P [] = false := by
        cases q : P [] with
        | false => rfl
        | true => exact absurd (by rw [q]; rfl) hc
      have hw : ws ≠ [] := fun e => hc (by rw [e]; simp)
      have get : ∀ i r, (((ws.zipIdx 0).map fun x => metT n (fun q => P (x.2 :: q)) x.1.2)[i]? = some r) ↔ ∃ x, ws[i]? = some x ∧ r = metT n (fun q => P (i :: q)) x.2 := by
        intro i r
        rw [List.getElem?_map, List.getElem?_zipIdx]
        cases q : ws[i]? with
        | none => simp
        | some x =>
          simp only [Option.map_some, Option.some.injEq, Nat.zero_add]
          constructor
          · intro e; exact ⟨x, rfl, e.symm⟩
          · rintro ⟨y, e1, e2⟩; rw [e2, ← e1]
      constructor
      · rintro ⟨i, q, r, rfl, hr, hq⟩
        obtain ⟨x, hx, rfl⟩ := (get i r).mp hr
        have hx' : (Game.node w ws).ways[i]? = some x := hx
        obtain ⟨h1, h2, h3⟩ := (mem_met (h.2.2 x (List.mem_of_getElem? hx)).2).mp hq
        refine ⟨(isPath_cons hx').mpr h1, ?_, fun k hk => ?_⟩
        · rw [part_cons hx']; exact h2
        · cases k with
          | zero => rw [List.take_zero]; exact hP
          | succ k => rw [List.take_succ_cons]; exact h3 k (by simpa using hk)
      · rintro ⟨h1, h2, h3⟩
        cases p with
        | nil =>
          exfalso
          rcases h2 with z | z
          · rw [hP] at z; cases z
          · exact hw z
        | cons i q =>
          obtain ⟨x, hx, hq⟩ := isPath_at h1
          have hx' : ws[i]? = some x := hx
          rw [part_cons hx] at h2
          refine ⟨i, q, _, rfl, (get i _).mpr ⟨x, hx', rfl⟩, (mem_met (h.2.2 x (List.mem_of_getElem? hx')).2).mpr ⟨hq, h2, fun k hk => ?_⟩⟩
          have := h3 (k + 1) (by simpa using hk)
          rwa [List.take_succ_cons] at this
def fstM (P : List Nat → Bool) (e : List Nat) : List Nat := ((((List.range (e.length + 1)).filter fun k => P (e.take k)).map fun k => e.take k) ++ [e]).headD []
theorem fst_spec (P : List Nat → Bool) (e : List Nat) : ∃ k, k ≤ e.length ∧ fstM P e = e.take k ∧ (P (e.take k) = true ∨ k = e.length) ∧ ∀ j, j < k → P (e.take j) = false := by
  unfold fstM
  have hh : ((List.range (e.length + 1)).filter fun k => P (e.take k)).head? = (List.range (e.length + 1)).find? fun k => P (e.take k) := List.head?_filter ..
  cases q : (List.range (e.length + 1)).filter fun k => P (e.take k) with
  | nil =>
    refine ⟨e.length, Nat.le_refl _, by simp, .inr rfl, fun j hj => ?_⟩
    have := List.filter_eq_nil_iff.mp q j (List.mem_range.mpr (by omega))
    simpa using this
  | cons k l =>
    rw [q] at hh
    have hf := hh.symm
    rw [List.head?_cons, List.find?_range_eq_some] at hf
    obtain ⟨h1, h2, h3⟩ := hf
    refine ⟨k, by have := List.mem_range.mp h2; omega, by simp, .inl h1, fun j hj => ?_⟩
    have := h3 j hj
    simpa using this
theorem fst_met {n : Nat} {g : Game} {P : List Nat → Bool} {p : List Nat} (hg : g.Ok n) : (∃ e, e ∈ g.endT.paths ∧ fstM P e = p) ↔ p ∈ (metT n P g).paths := by
  rw [mem_met hg]
  constructor
  · rintro ⟨e, he, rfl⟩
    obtain ⟨k, hk, e1, e2, e3⟩ := fst_spec P e
    obtain ⟨ie, we⟩ := mem_ends.mp he
    rw [e1]
    refine ⟨isPath_pre (e.take k) (e.drop k) g (by rw [List.take_append_drop]; exact ie), ?_, fun j hj => ?_⟩
    · rcases e2 with z | z
      · exact .inl z
      · right; rw [z, List.take_length]; exact we
    · rw [List.length_take] at hj
      rw [List.take_take, Nat.min_eq_left (by omega)]
      exact e3 j (by omega)
  · rintro ⟨h1, h2, h3⟩
    obtain ⟨q, hq⟩ := rt_some (endT_rule (g.part p))
    obtain ⟨iq, wq'⟩ := mem_ends.mp hq
    have ie : g.IsPath (p ++ q) := (isPath_append p q g h1).mpr iq
    refine ⟨p ++ q, mem_ends.mpr ⟨ie, by rw [part_append p q g h1]; exact wq'⟩, ?_⟩
    obtain ⟨k, hk, e1, e2, e3⟩ := fst_spec P (p ++ q)
    rw [e1]
    have pre : ∀ j, j ≤ p.length → (p ++ q).take j = p.take j := fun j hj => by rw [List.take_append_of_le_length hj]
    rcases Nat.lt_trichotomy k p.length with z | z | z
    · exfalso
      rw [pre k (by omega)] at e2
      rcases e2 with y | y
      · rw [h3 k z] at y; cases y
      · rw [List.length_append] at y; omega
    · rw [z, pre _ (Nat.le_refl _), List.take_length]
    · exfalso
      have := e3 p.length z
      rw [pre _ (Nat.le_refl _), List.take_length] at this
      rcases h2 with y | y
      · rw [this] at y; cases y
      · cases q with
        | nil => rw [List.append_nil] at hk; omega
        | cons i q =>
          obtain ⟨x, hx, _⟩ := isPath_at iq
          rw [y] at hx
          simp at hx
def stepM (P : List Nat → Bool) (acc : List (List Nat)) (e : List Nat) : List (List Nat) := if fstM P e ∈ acc then acc else acc ++ [fstM P e]
theorem step_mem (P : List Nat → Bool) : ∀ (l acc : List (List Nat)), acc.Nodup → (l.foldl (stepM P) acc).Nodup ∧ (l.foldl (stepM P) acc).length ≤ acc.length + l.length ∧ ∀ p, p ∈ l.foldl (stepM P) acc ↔ p ∈ acc ∨ ∃ e, e ∈ l ∧ fstM P e = p
  | [], acc, h => ⟨h, by simp, fun p => by simp⟩
  | e :: l, acc, h => by
    rw [List.foldl_cons]
    have hn : (stepM P acc e).Nodup := by
      unfold stepM
      split
      · exact h
      · rename_i hm
        rw [List.nodup_append]
        exact ⟨h, by simp, fun a ha b hb => by rw [List.mem_singleton] at hb; subst hb; exact fun z => hm (z ▸ ha)⟩
    have hlen : (stepM P acc e).length ≤ acc.length + 1 := by
      unfold stepM; split <;> simp
    obtain ⟨h1, h2, h3⟩ := step_mem P l _ hn
    refine ⟨h1, by rw [List.length_cons]; omega, fun p => ?_⟩
    rw [h3 p]
    have hs : p ∈ stepM P acc e ↔ p ∈ acc ∨ fstM P e = p := by
      unfold stepM
      split
      · rename_i hm
        exact ⟨fun z => .inl z, fun z => z.elim id fun y => y ▸ hm⟩
      · rw [List.mem_append, List.mem_singleton]
        exact ⟨fun z => z.imp id Eq.symm, fun z => z.imp id Eq.symm⟩
    rw [hs]
    constructor
    · rintro ((z | z) | ⟨y, hy, z⟩)
      · exact .inl z
      · exact .inr ⟨e, by simp, z⟩
      · exact .inr ⟨y, by simp [hy], z⟩
    · rintro (z | ⟨y, hy, z⟩)
      · exact .inl (.inl z)
      · rcases List.mem_cons.mp hy with w | w
        · exact .inl (.inr (w ▸ z))
        · exact .inr ⟨y, w, z⟩
end Game
end Sm
namespace Kx
open PySem PySem.Spec L2 Sm
theorem not_in_L {p : List Nat} {ps : PL} : oNotIn (encP p) (.lst (ps.map encP)) = some (.bl (!decide (p ∈ ps))) := by
  simp only [oNotIn]
  rw [pl_pln _ 64 (pl_P 63 p), pl_pln _ 64 (pl_row 62 ps)]
  simp only [Bool.and_self, if_true]
  rw [in_paths]
theorem for_step {pt : Pat} {f : DS} {d : D} {ds : List D} {ρ ρ1 ρ2 : Sm.Env} {r : O} (h1 : bindPat pt d ρ = some ρ1) (h2 : f ρ1 = .nx ρ2) (h3 : forGo pt f ds ρ2 = r) : forGo pt f (d :: ds) ρ = r := by
  unfold forGo
  rw [h1]
  simp only [h2, O.seq]
  exact h3
theorem bin_den {o : D → D → Option D} {f h : DE} {ρ : Sm.Env} {a b r : D} (hf : f ρ = .ok a) (hh : h ρ = .ok b) (ho : o a b = some r) : dBin o f h ρ = .ok r := by
  unfold dBin
  rw [hf, hh]
  show ofO (o a b) = _
  rw [ho]; rfl
def Tells (lf : List D → R D) (g : Game) (P : List Nat → Bool) : Prop := ∀ p, g.IsPath p → lf [encP p] = .ok (.bl (P p))
def metB (lf : List D → R D) : DS := (dSeq (dSet [2] 4 (dBin oAdd (dLc [5] (.v 5) (dRng rng1 (dCons (dBin oAdd (dB oLen (dCons (dVar 3) dNil)) (dC (.int 1))) dNil)) (dTru (dCallF 1 lf (dCons (dSl (dVar 3) dNo (dSo (dVar 5))) dNil))) (dSl (dVar 3) dNo (dSo (dVar 5)))) (dLst (dCons (dVar 3) dNil))))
    (dIfS (asB (dBin oNotIn (dBin oIx (dVar 4) (dC (.int 0))) (dVar 2))) (dApp [2] 2 (dBin oIx (dVar 4) (dC (.int 0)))) .nx))
theorem met_lc {lf : List D → R D} {g : Game} {P : List Nat → Bool} (hlf : Tells lf g P) {e : List Nat} (he : g.IsPath e) (hl : e.length < 1000) (x0 x4 : Option D) :
    dLcs [5] (.v 5) (dRng rng1 (dCons (dBin oAdd (dB oLen (dCons (dVar 3) dNil)) (dC (.int 1))) dNil)) (dTru (dCallF 1 lf (dCons (dSl (dVar 3) dNo (dSo (dVar 5))) dNil))) (dSl (dVar 3) dNo (dSo (dVar 5))) [x0, some .fnv, none, some (encP e), x4, none] = .ok (((List.range (e.length + 1)).filter fun k => P (e.take k)).map fun k => encP (e.take k)) := by
  have hr : dRng rng1 (dCons (dBin oAdd (dB oLen (dCons (dVar 3) dNil)) (dC (.int 1))) dNil) [x0, some .fnv, none, some (encP e), x4, none] = .ok ((List.range (e.length + 1)).map fun i => D.int ((i : Nat) : Int)) := by
    refine rng1_it ?_ (Nat.le_trans (Nat.succ_le_succ (Nat.le_of_lt hl)) (by decide))
    have e1 : (e.length : Int) + 1 = ((e.length + 1 : Nat) : Int) := by omega
    simp only [len_encP, e1, defD, args, dSeq, dSet, dSetP, dSetN, lstAt, dApp, dAppP, dAsg, dPar, dDrop, dWhile, dIfS, dRet, dB, dCall, dCons, dNil, dVar, dC, dBin, dChain, asB, dTru, dNotT, dAndT, dOrT, dAnd, dOr, dNot, dIf, dUn, dTup, dLst, dItems, dYes, R.bind, R.to, O.seq, outR, ofO, noErr, mask, Sm.putIn, bindPat, bindPats, itemsOf, tru, List.foldr_cons, List.foldr_nil, List.length_cons, List.length_nil, List.map_cons, List.map_nil, List.cons_append, List.nil_append, Nat.sub_self, List.replicate_zero, List.replicate_succ, List.getElem?_cons_succ, List.getElem?_cons_zero, List.set_cons_zero, List.set_cons_succ, Nat.reduceAdd, Nat.reduceSub, ↓reduceIte, Bool.not_true, Bool.not_false, Bool.and_true, Bool.true_and, Bool.false_and, Bool.and_false, if_true, if_false, Bool.false_eq_true, oNeg, oAddI, oSubI, oAdd_ii, oLt, oLe, oGt, oGe, Option.bind_some, Option.map_some]
  have hsl : ∀ (k : Nat), dSl (dVar 3) dNo (dSo (dVar 5)) [x0, some .fnv, none, some (encP e), x4, some (.int (k : Int))] = .ok (encP (e.take k)) := fun k => by
    simp only [dSl, dSo, dNo, sl_take, defD, args, dSeq, dSet, dSetP, dSetN, lstAt, dApp, dAppP, dAsg, dPar, dDrop, dWhile, dIfS, dRet, dB, dCall, dCons, dNil, dVar, dC, dBin, dChain, asB, dTru, dNotT, dAndT, dOrT, dAnd, dOr, dNot, dIf, dUn, dTup, dLst, dItems, dYes, R.bind, R.to, O.seq, outR, ofO, noErr, mask, Sm.putIn, bindPat, bindPats, itemsOf, tru, List.foldr_cons, List.foldr_nil, List.length_cons, List.length_nil, List.map_cons, List.map_nil, List.cons_append, List.nil_append, Nat.sub_self, List.replicate_zero, List.replicate_succ, List.getElem?_cons_succ, List.getElem?_cons_zero, List.set_cons_zero, List.set_cons_succ, Nat.reduceAdd, Nat.reduceSub, ↓reduceIte, Bool.not_true, Bool.not_false, Bool.and_true, Bool.true_and, Bool.false_and, Bool.and_false, if_true, if_false, Bool.false_eq_true, oNeg, oAddI, oSubI, oAdd_ii, oLt, oLe, oGt, oGe, Option.bind_some, Option.map_some]
  refine lc_ok (fun k => P (e.take k)) _ hr fun k hk => ⟨[x0, some .fnv, none, some (encP e), x4, some (.int (k : Int))], rfl, ?_, fun _ => hsl k⟩
  have ip : g.IsPath (e.take k) := Game.isPath_pre (e.take k) (e.drop k) g (by rw [List.take_append_drop]; exact he)
  have hc : dCallF 1 lf (dCons (dSl (dVar 3) dNo (dSo (dVar 5))) dNil) [x0, some .fnv, none, some (encP e), x4, some (.int (k : Int))] = .ok (.bl (P (e.take k))) := by
    show R.bind (dCons (dSl (dVar 3) dNo (dSo (dVar 5))) dNil [x0, some .fnv, none, some (encP e), x4, some (.int (k : Int))]) lf = _
    unfold dCons dNil
    rw [hsl k]
    exact hlf _ ip
  unfold dTru
  rw [hc]
  rfl
theorem met_step {lf : List D → R D} {g : Game} {P : List Nat → Bool} (hlf : Tells lf g P) {e : List Nat} (he : g.IsPath e) (hl : e.length < 1000) (x0 x4 : Option D) (acc : PL) (ha : acc.length ≤ 1000) :
    ∃ y4, metB lf [x0, some .fnv, some (.lst (acc.map encP)), some (encP e), x4, none] = .nx [x0, some .fnv, some (.lst ((Game.stepM P acc e).map encP)), some (encP e), y4, none] := by
  have lc := met_lc hlf he hl x0 x4
  have hz : (acc.map encP).length + 1 ≤ sizeLine := by rw [List.length_map]; exact Nat.le_trans (show _ ≤ 100000 by omega) sizeLine_big
  have fl := List.length_filter_le (fun k => P (e.take k)) (List.range (e.length + 1))
  rw [List.length_range] at fl
  have oa : oAdd (.lst (((List.range (e.length + 1)).filter fun k => P (e.take k)).map fun k => encP (e.take k))) (.lst [encP e]) = some (.lst ((((((List.range (e.length + 1)).filter fun k => P (e.take k)).map fun k => e.take k) ++ [e])).map encP)) := by
    simp only [oAdd, List.length_map, List.length_cons, List.length_nil]
    rw [if_pos (Nat.le_trans (show _ ≤ 100000 by omega) sizeLine_big), List.map_append, List.map_map]
    rfl
  obtain ⟨w, hw⟩ : ∃ w, (((((List.range (e.length + 1)).filter fun k => P (e.take k)).map fun k => e.take k) ++ [e])) = w := ⟨_, rfl⟩
  have hne : w ≠ [] := by rw [← hw]; simp
  have hf : Game.fstM P e = w.headD [] := by unfold Game.fstM; rw [hw]
  rw [hw] at oa
  have ix : oIx (.lst (w.map encP)) (.int 0) = some (encP (Game.fstM P e)) := by
    rw [hf]
    cases w with
    | nil => exact (hne rfl).elim
    | cons a w => simp only [List.map_cons, List.headD_cons]; exact (show atI (encP a :: w.map encP) ((0 : Nat) : Int) = _ by rw [atI_nat' (by simp)]; rfl)
  have ni := not_in_L (p := Game.fstM P e) (ps := acc)
  refine ⟨some (.lst (w.map encP)), ?_⟩
  unfold metB
  refine seq_nx (ρ1 := [x0, some .fnv, some (.lst (acc.map encP)), some (encP e), some (.lst (w.map encP)), none]) ?_ ?_
  · refine set_nx (d := .lst (w.map encP)) ?_
    have l1 : dLc [5] (.v 5) (dRng rng1 (dCons (dBin oAdd (dB oLen (dCons (dVar 3) dNil)) (dC (.int 1))) dNil)) (dTru (dCallF 1 lf (dCons (dSl (dVar 3) dNo (dSo (dVar 5))) dNil))) (dSl (dVar 3) dNo (dSo (dVar 5))) [x0, some .fnv, none, some (encP e), x4, none] = _ := dLc_of lc
    exact bin_den l1 rfl oa
  · unfold Game.stepM
    by_cases hm : Game.fstM P e ∈ acc
    · rw [decide_eq_true hm] at ni
      rw [if_pos hm]
      generalize acc.map encP = L at *
      generalize w.map encP = W at *
      simp only [ix, ni, defD, args, dSeq, dSet, dSetP, dSetN, lstAt, dApp, dAppP, dAsg, dPar, dDrop, dWhile, dIfS, dRet, dB, dCall, dCons, dNil, dVar, dC, dBin, dChain, asB, dTru, dNotT, dAndT, dOrT, dAnd, dOr, dNot, dIf, dUn, dTup, dLst, dItems, dYes, R.bind, R.to, O.seq, outR, ofO, noErr, mask, Sm.putIn, bindPat, bindPats, itemsOf, tru, List.foldr_cons, List.foldr_nil, List.length_cons, List.length_nil, List.map_cons, List.map_nil, List.cons_append, List.nil_append, Nat.sub_self, List.replicate_zero, List.replicate_succ, List.getElem?_cons_succ, List.getElem?_cons_zero, List.set_cons_zero, List.set_cons_succ, Nat.reduceAdd, Nat.reduceSub, ↓reduceIte, Bool.not_true, Bool.not_false, Bool.and_true, Bool.true_and, Bool.false_and, Bool.and_false, if_true, if_false, Bool.false_eq_true, oNeg, oAddI, oSubI, oAdd_ii, oLt, oLe, oGt, oGe, Option.bind_some, Option.map_some]
    · rw [decide_eq_false hm] at ni
      rw [if_neg hm, List.map_append, List.map_cons, List.map_nil]
      generalize acc.map encP = L at *
      generalize w.map encP = W at *
      simp only [ix, ni, hz, defD, args, dSeq, dSet, dSetP, dSetN, lstAt, dApp, dAppP, dAsg, dPar, dDrop, dWhile, dIfS, dRet, dB, dCall, dCons, dNil, dVar, dC, dBin, dChain, asB, dTru, dNotT, dAndT, dOrT, dAnd, dOr, dNot, dIf, dUn, dTup, dLst, dItems, dYes, R.bind, R.to, O.seq, outR, ofO, noErr, mask, Sm.putIn, bindPat, bindPats, itemsOf, tru, List.foldr_cons, List.foldr_nil, List.length_cons, List.length_nil, List.map_cons, List.map_nil, List.cons_append, List.nil_append, Nat.sub_self, List.replicate_zero, List.replicate_succ, List.getElem?_cons_succ, List.getElem?_cons_zero, List.set_cons_zero, List.set_cons_succ, Nat.reduceAdd, Nat.reduceSub, ↓reduceIte, Bool.not_true, Bool.not_false, Bool.and_true, Bool.true_and, Bool.false_and, Bool.and_false, if_true, if_false, Bool.false_eq_true, oNeg, oAddI, oSubI, oAdd_ii, oLt, oLe, oGt, oGe, Option.bind_some, Option.map_some]
theorem met_loop {lf : List D → R D} {g : Game} {P : List Nat → Bool} (hlf : Tells lf g P) (x0 : Option D) : ∀ (l acc : PL) (x3 x4 : Option D), (∀ e ∈ l, g.IsPath e ∧ e.length < 1000) → acc.length + l.length ≤ 1000 →
    ∃ y3 y4, forGo (.v 3) (metB lf) (l.map encP) [x0, some .fnv, some (.lst (acc.map encP)), x3, x4, none] = .nx [x0, some .fnv, some (.lst ((l.foldl (Game.stepM P) acc).map encP)), y3, y4, none]
  | [], acc, x3, x4, _, _ => ⟨x3, x4, rfl⟩
  | e :: l, acc, x3, x4, h, hl => by
    rw [List.length_cons] at hl
    obtain ⟨he, hel⟩ := h e (by simp)
    obtain ⟨y4, e1⟩ := met_step hlf he hel x0 x4 acc (by omega)
    have hs : (Game.stepM P acc e).length ≤ acc.length + 1 := by unfold Game.stepM; split <;> simp
    obtain ⟨z3, z4, e2⟩ := met_loop hlf x0 l (Game.stepM P acc e) (some (encP e)) y4 (fun q hq => h q (by simp [hq])) (by omega)
    refine ⟨z3, z4, ?_⟩
    rw [List.map_cons, List.foldl_cons]
    exact for_step rfl e1 e2
theorem first_met_ok {lf : List D → R D} {g : Game} {P : List Nat → Bool} (hg : g.Ok 4) (hlf : Tells lf g P) : d_first_met lf [g.enc, .fnv] = .ok (encR (Game.metT 4 P g).paths) := by
  have ht := Game.endT_rule g
  have eo := ends_ok' hg (by decide)
  have hf := rule_few hg (by decide) ht
  have ip : ∀ e ∈ g.endT.paths, g.IsPath e ∧ e.length < 1000 := fun e he => by
    have := Game.rule_path ht he
    have := (Game.part_ok hg this).2
    exact ⟨Game.rule_path ht he, by omega⟩
  obtain ⟨y3, y4, lo⟩ := met_loop hlf (some g.enc) g.endT.paths [] none none ip (by simp; omega)
  obtain ⟨hn, _, hm⟩ := Game.step_mem P g.endT.paths [] (by simp)
  have so := sorted_same (ps := g.endT.paths.foldl (Game.stepM P) []) (qs := (Game.metT 4 P g).paths) (fun p => by
    rw [hm p, ← Game.fst_met hg]
    simp) hn (RT.rising _)
  have ot : oTuple [.lst ((Game.metT 4 P g).paths.map encP)] = some (encR (Game.metT 4 P g).paths) := rfl
  generalize (g.endT.paths.foldl (Game.stepM P) []).map encP = M at *
  generalize (Game.metT 4 P g).paths.map encP = LM at *
  generalize encR (Game.metT 4 P g).paths = RM at *
  refine defD_eq rfl ?_
  unfold b_first_met
  apply out_seq; (focus (simp only [defD, args, dSeq, dSet, dSetP, dSetN, lstAt, dApp, dAppP, dAsg, dPar, dDrop, dWhile, dIfS, dRet, dB, dCall, dCons, dNil, dVar, dC, dBin, dChain, asB, dTru, dNotT, dAndT, dOrT, dAnd, dOr, dNot, dIf, dUn, dTup, dLst, dItems, dYes, R.bind, R.to, O.seq, outR, ofO, noErr, mask, Sm.putIn, bindPat, bindPats, itemsOf, tru, List.foldr_cons, List.foldr_nil, List.length_cons, List.length_nil, List.map_cons, List.map_nil, List.cons_append, List.nil_append, Nat.sub_self, List.replicate_zero, List.replicate_succ, List.getElem?_cons_succ, List.getElem?_cons_zero, List.set_cons_zero, List.set_cons_succ, Nat.reduceAdd, Nat.reduceSub, ↓reduceIte, Bool.not_true, Bool.not_false, Bool.and_true, Bool.true_and, Bool.false_and, Bool.and_false, if_true, if_false, Bool.false_eq_true, oNeg, oAddI, oSubI, oAdd_ii, oLt, oLe, oGt, oGe, Option.bind_some, Option.map_some]; try exact rfl))
  refine out_seq (ρ1 := [some g.enc, some .fnv, some (.lst M), y3, y4, none]) ?_ (ret_of ?_)
  · show dFor [2] (.v 3) (dItems (dCall d_ends_of (dCons (dVar 0) dNil))) (metB lf) _ = _
    unfold dFor
    have it : dItems (dCall d_ends_of (dCons (dVar 0) dNil)) (mask [2] [some g.enc, some .fnv, some (.lst []), none, none, none]) = .ok (g.endT.paths.map encP) := by
      generalize g.endT.paths.map encP = LE at *
      simp only [eo, defD, args, dSeq, dSet, dSetP, dSetN, lstAt, dApp, dAppP, dAsg, dPar, dDrop, dWhile, dIfS, dRet, dB, dCall, dCons, dNil, dVar, dC, dBin, dChain, asB, dTru, dNotT, dAndT, dOrT, dAnd, dOr, dNot, dIf, dUn, dTup, dLst, dItems, dYes, R.bind, R.to, O.seq, outR, ofO, noErr, mask, Sm.putIn, bindPat, bindPats, itemsOf, tru, List.foldr_cons, List.foldr_nil, List.length_cons, List.length_nil, List.map_cons, List.map_nil, List.cons_append, List.nil_append, Nat.sub_self, List.replicate_zero, List.replicate_succ, List.getElem?_cons_succ, List.getElem?_cons_zero, List.set_cons_zero, List.set_cons_succ, Nat.reduceAdd, Nat.reduceSub, ↓reduceIte, Bool.not_true, Bool.not_false, Bool.and_true, Bool.true_and, Bool.false_and, Bool.and_false, if_true, if_false, Bool.false_eq_true, oNeg, oAddI, oSubI, oAdd_ii, oLt, oLe, oGt, oGe, Option.bind_some, Option.map_some]
    rw [it]
    exact lo
  · simp only [so, ot, defD, args, dSeq, dSet, dSetP, dSetN, lstAt, dApp, dAppP, dAsg, dPar, dDrop, dWhile, dIfS, dRet, dB, dCall, dCons, dNil, dVar, dC, dBin, dChain, asB, dTru, dNotT, dAndT, dOrT, dAnd, dOr, dNot, dIf, dUn, dTup, dLst, dItems, dYes, R.bind, R.to, O.seq, outR, ofO, noErr, mask, Sm.putIn, bindPat, bindPats, itemsOf, tru, List.foldr_cons, List.foldr_nil, List.length_cons, List.length_nil, List.map_cons, List.map_nil, List.cons_append, List.nil_append, Nat.sub_self, List.replicate_zero, List.replicate_succ, List.getElem?_cons_succ, List.getElem?_cons_zero, List.set_cons_zero, List.set_cons_succ, Nat.reduceAdd, Nat.reduceSub, ↓reduceIte, Bool.not_true, Bool.not_false, Bool.and_true, Bool.true_and, Bool.false_and, Bool.and_false, if_true, if_false, Bool.false_eq_true, oNeg, oAddI, oSubI, oAdd_ii, oLt, oLe, oGt, oGe, Option.bind_some, Option.map_some]
theorem okD_encR (ps : PL) : noFn (encR ps) = true := okD_noFn _ (okD_R ps)
theorem lam_met {g : Game} {P : List Nat → Bool} (hg : g.Ok 4) {js : List Nat} {fb : DE} {ρ : Sm.Env} (h0 : ρ[0]? = some (some g.enc)) (hfb : ∀ p, g.IsPath p → fb (some (encP p) :: capsD js ρ) = .ok (.bl (P p))) : dLam d_first_met js fb (dCons (dVar 0) dNil) ρ = .ok (encR (Game.metT 4 P g).paths) := by
  have hl : Tells (lamD fb (capsD js ρ)) g P := fun p hp => by
    unfold lamD
    rw [if_pos (by simp only [noFns, okD_noFn _ (okD_P p)]; rfl)]
    show gdR (fb (some (encP p) :: capsD js ρ)) = _
    rw [hfb p hp]; rfl
  have fm := first_met_ok hg hl
  unfold dLam
  have h1 : dCons (dVar 0) dNil ρ = .ok [g.enc] := by
    unfold dCons dVar dNil
    rw [h0]; rfl
  rw [h1]
  show (if noFns [g.enc] = true then gdR (d_first_met (lamD fb (capsD js ρ)) [g.enc, .fnv]) else .bad) = _
  rw [if_pos (by simp only [noFns, okD_noFn _ (enc_okD g)]; rfl), fm]
  simp only [gdR, okD_encR, if_true]
def atT (m : Int) (g : Game) : RT := Game.metT 4 (fun p => decide ((p.length : Int) = m)) g
theorem rule_at_ok {g : Game} (hg : g.Ok 4) (m : Int) : d_rule_at [g.enc, .int m] = .ok (encR (atT m g).paths) := by
  refine defD_eq rfl ?_
  unfold b_rule_at
  apply out_seq; (focus (simp only [look_ok hg, defD, args, dSeq, dSet, dSetP, dSetN, lstAt, dApp, dAppP, dAsg, dPar, dDrop, dWhile, dIfS, dRet, dB, dCall, dCons, dNil, dVar, dC, dBin, dChain, asB, dTru, dNotT, dAndT, dOrT, dAnd, dOr, dNot, dIf, dUn, dTup, dLst, dItems, dYes, R.bind, R.to, O.seq, outR, ofO, noErr, mask, Sm.putIn, bindPat, bindPats, itemsOf, tru, List.foldr_cons, List.foldr_nil, List.length_cons, List.length_nil, List.map_cons, List.map_nil, List.cons_append, List.nil_append, Nat.sub_self, List.replicate_zero, List.replicate_succ, List.getElem?_cons_succ, List.getElem?_cons_zero, List.set_cons_zero, List.set_cons_succ, Nat.reduceAdd, Nat.reduceSub, ↓reduceIte, Bool.not_true, Bool.not_false, Bool.and_true, Bool.true_and, Bool.false_and, Bool.and_false, if_true, if_false, Bool.false_eq_true, oNeg, oAddI, oSubI, oAdd_ii, oLt, oLe, oGt, oGe, Option.bind_some, Option.map_some]; try exact rfl))
  refine ret_of (lam_met hg rfl fun p hp => ?_)
  have e : (((p.length : Int) == m) : Bool) = decide ((p.length : Int) = m) := by rw [Bool.eq_iff_iff]; simp
  show dBin oEq (dB oLen (dCons (dVar 0) dNil)) (dVar 1) [some (encP p), some (.int m)] = _
  simp only [len_encP, oEq_int, e, defD, args, dSeq, dSet, dSetP, dSetN, lstAt, dApp, dAppP, dAsg, dPar, dDrop, dWhile, dIfS, dRet, dB, dCall, dCons, dNil, dVar, dC, dBin, dChain, asB, dTru, dNotT, dAndT, dOrT, dAnd, dOr, dNot, dIf, dUn, dTup, dLst, dItems, dYes, R.bind, R.to, O.seq, outR, ofO, noErr, mask, Sm.putIn, bindPat, bindPats, itemsOf, tru, List.foldr_cons, List.foldr_nil, List.length_cons, List.length_nil, List.map_cons, List.map_nil, List.cons_append, List.nil_append, Nat.sub_self, List.replicate_zero, List.replicate_succ, List.getElem?_cons_succ, List.getElem?_cons_zero, List.set_cons_zero, List.set_cons_succ, Nat.reduceAdd, Nat.reduceSub, ↓reduceIte, Bool.not_true, Bool.not_false, Bool.and_true, Bool.true_and, Bool.false_and, Bool.and_false, if_true, if_false, Bool.false_eq_true, oNeg, oAddI, oSubI, oAdd_ii, oLt, oLe, oGt, oGe, Option.bind_some, Option.map_some]
theorem at_rule {g : Game} (hg : g.Ok 4) (m : Int) : RuleOf g (atT m g) := Game.met_rule _ hg
end Kx
namespace Sm
namespace Game
theorem idxs_le3 {b : Nat} : ∀ (l : List (List (List Nat))) (k : Nat), (∀ ps ∈ l, ps.length ≤ b) → (idxs k l).length ≤ l.length * b
  | [], _, _ => by simp [idxs]
  | ps :: l, k, h => by
    have h1 := h ps (by simp)
    have h2 := idxs_le3 l (k + 1) fun q hq => h q (by simp [hq])
    rw [idxs, List.length_append, List.length_map, List.length_cons, Nat.add_mul]
    omega
theorem rule_leaves : ∀ {n : Nat} {g : Game} {t : RT}, g.Ok (n + 1) → RuleOf g t → t.paths.length ≤ 3 ^ n
  | n, _, _, _, .stop _ => by rw [RT.paths_stop]; exact Nat.one_le_pow _ _ (by decide)
  | 0, .node w ws, .go rs, h, .go hne hr => by
    cases ws with
    | nil => exact (hne rfl).elim
    | cons x ws => exact ((h.2.2 x (by simp)).2).elim
  | n + 1, .node w ws, .go rs, h, .go hne hr => by
    rw [RT.paths_go]
    have hl := RulesOf.length hr
    have h3 : ws.length ≤ 3 := h.2.1
    have := idxs_le3 (b := 3 ^ n) (rs.map RT.paths) 0 fun ps hps => by
      obtain ⟨r, hr', rfl⟩ := List.mem_map.mp hps
      obtain ⟨i, hi⟩ := List.mem_iff_getElem?.mp hr'
      obtain ⟨x, hx, hxr⟩ := RulesOf.get2 hr hi
      exact rule_leaves (h.2.2 x (List.mem_of_getElem? hx)).2 hxr
    rw [List.length_map] at this
    refine Nat.le_trans this ?_
    rw [Nat.pow_succ, Nat.mul_comm (3 ^ n)]
    exact Nat.mul_le_mul_right _ (by omega)
end Game
end Sm
namespace Kx
open PySem PySem.Spec L2 Sm
theorem ne_P (p q : List Nat) : oNe (encP p) (encP q) = some (.bl (!decide (p = q))) := by
  unfold oNe
  have := eq_P p q
  unfold oEq at this
  rw [pl_pln _ 64 (pl_P 63 p), pl_pln _ 64 (pl_P 63 q)] at this ⊢
  simp only [Bool.and_self, if_true, Option.some.injEq, D.bl.injEq] at this
  simp only [Bool.and_self, if_true, this]
theorem ahead_of_ok {g : Game} {t : RT} (hg : g.Ok 4) (ht : RuleOf g t) : d_ahead_of [g.enc, encR t.paths] = .ok (.lst ((g.paths.filter (Game.ahd t)).map encP)) := by
  have h1 := look_rule_ok hg ht
  have po := paths_of_ok 8 4 (by decide) (by decide) g hg
  have lc1 : ∀ p (x3 : Option D), dLcs [3] (.v 3) (dItems (dVar 1)) dYes (dAnd (dBin oEq (dSl (dVar 3) dNo (dSo (dB oLen (dCons (dVar 2) dNil)))) (dVar 2)) (dBin oNe (dVar 3) (dVar 2))) [some g.enc, some (encR t.paths), some (encP p), x3] = .ok (t.paths.map fun s => D.bl (decide (s ≠ p) && decide (s.take p.length = p))) := by
    intro p x3
    refine lc_ok1 (xs := t.paths) (enc := encP) _ rfl fun s hs => ⟨_, rfl, ?_⟩
    have h2 := len_encP p
    have h3 := sl_take s p.length
    have h4 := eq_P (s.take p.length) p
    have h5 := ne_P s p
    generalize encR t.paths = E at *
    cases q : decide (s.take p.length = p) with
    | true =>
      rw [q] at h4
      simp only [h2, h3, h4, h5, dSl, dSo, dNo, defD, args, dSeq, dSet, dSetP, dSetN, lstAt, dApp, dAppP, dAsg, dPar, dDrop, dWhile, dIfS, dRet, dB, dCall, dCons, dNil, dVar, dC, dBin, dChain, asB, dTru, dNotT, dAndT, dOrT, dAnd, dOr, dNot, dIf, dUn, dTup, dLst, dItems, dYes, R.bind, R.to, O.seq, outR, ofO, noErr, mask, Sm.putIn, bindPat, bindPats, itemsOf, tru, List.foldr_cons, List.foldr_nil, List.length_cons, List.length_nil, List.map_cons, List.map_nil, List.cons_append, List.nil_append, Nat.sub_self, List.replicate_zero, List.replicate_succ, List.getElem?_cons_succ, List.getElem?_cons_zero, List.set_cons_zero, List.set_cons_succ, Nat.reduceAdd, Nat.reduceSub, ↓reduceIte, Bool.not_true, Bool.not_false, Bool.and_true, Bool.true_and, Bool.false_and, Bool.and_false, if_true, if_false, Bool.false_eq_true, oNeg, oAddI, oSubI, oAdd_ii, oLt, oLe, oGt, oGe, Option.bind_some, Option.map_some]
      try simp
    | false =>
      rw [q] at h4
      simp only [h2, h3, h4, h5, dSl, dSo, dNo, defD, args, dSeq, dSet, dSetP, dSetN, lstAt, dApp, dAppP, dAsg, dPar, dDrop, dWhile, dIfS, dRet, dB, dCall, dCons, dNil, dVar, dC, dBin, dChain, asB, dTru, dNotT, dAndT, dOrT, dAnd, dOr, dNot, dIf, dUn, dTup, dLst, dItems, dYes, R.bind, R.to, O.seq, outR, ofO, noErr, mask, Sm.putIn, bindPat, bindPats, itemsOf, tru, List.foldr_cons, List.foldr_nil, List.length_cons, List.length_nil, List.map_cons, List.map_nil, List.cons_append, List.nil_append, Nat.sub_self, List.replicate_zero, List.replicate_succ, List.getElem?_cons_succ, List.getElem?_cons_zero, List.set_cons_zero, List.set_cons_succ, Nat.reduceAdd, Nat.reduceSub, ↓reduceIte, Bool.not_true, Bool.not_false, Bool.and_true, Bool.true_and, Bool.false_and, Bool.and_false, if_true, if_false, Bool.false_eq_true, oNeg, oAddI, oSubI, oAdd_ii, oLt, oLe, oGt, oGe, Option.bind_some, Option.map_some, Bool.and_false]
  have lc : dLcs [2] (.v 2) (dItems (dCall (d_paths_of 8) (dCons (dVar 0) dNil))) (dTru (dB oAny (dCons (dLc [3] (.v 3) (dItems (dVar 1)) dYes (dAnd (dBin oEq (dSl (dVar 3) dNo (dSo (dB oLen (dCons (dVar 2) dNil)))) (dVar 2)) (dBin oNe (dVar 3) (dVar 2)))) dNil))) (dVar 2) [some g.enc, some (encR t.paths), none, none] = .ok ((g.paths.filter (Game.ahd t)).map encP) := by
    refine lc_ok (xs := g.paths) (enc := encP) (Game.ahd t) encP ?_ fun p hp => ⟨[some g.enc, some (encR t.paths), some (encP p), none], rfl, ?_, fun _ => rfl⟩
    · generalize encR t.paths = E at *
      generalize g.paths.map encP = L at *
      simp only [po, defD, args, dSeq, dSet, dSetP, dSetN, lstAt, dApp, dAppP, dAsg, dPar, dDrop, dWhile, dIfS, dRet, dB, dCall, dCons, dNil, dVar, dC, dBin, dChain, asB, dTru, dNotT, dAndT, dOrT, dAnd, dOr, dNot, dIf, dUn, dTup, dLst, dItems, dYes, R.bind, R.to, O.seq, outR, ofO, noErr, mask, Sm.putIn, bindPat, bindPats, itemsOf, tru, List.foldr_cons, List.foldr_nil, List.length_cons, List.length_nil, List.map_cons, List.map_nil, List.cons_append, List.nil_append, Nat.sub_self, List.replicate_zero, List.replicate_succ, List.getElem?_cons_succ, List.getElem?_cons_zero, List.set_cons_zero, List.set_cons_succ, Nat.reduceAdd, Nat.reduceSub, ↓reduceIte, Bool.not_true, Bool.not_false, Bool.and_true, Bool.true_and, Bool.false_and, Bool.and_false, if_true, if_false, Bool.false_eq_true, oNeg, oAddI, oSubI, oAdd_ii, oLt, oLe, oGt, oGe, Option.bind_some, Option.map_some]
    · have l := lc1 p none
      have ab := any_bools (fun s => decide (s ≠ p) && decide (s.take p.length = p)) t.paths
      have ea : (t.paths.any fun s => decide (s ≠ p) && decide (s.take p.length = p)) = Game.ahd t p := rfl
      rw [ea] at ab
      generalize (t.paths.map fun s => D.bl (decide (s ≠ p) && decide (s.take p.length = p))) = L at *
      generalize encR t.paths = E at *
      simp only [dLc, l, ab, defD, args, dSeq, dSet, dSetP, dSetN, lstAt, dApp, dAppP, dAsg, dPar, dDrop, dWhile, dIfS, dRet, dB, dCall, dCons, dNil, dVar, dC, dBin, dChain, asB, dTru, dNotT, dAndT, dOrT, dAnd, dOr, dNot, dIf, dUn, dTup, dLst, dItems, dYes, R.bind, R.to, O.seq, outR, ofO, noErr, mask, Sm.putIn, bindPat, bindPats, itemsOf, tru, List.foldr_cons, List.foldr_nil, List.length_cons, List.length_nil, List.map_cons, List.map_nil, List.cons_append, List.nil_append, Nat.sub_self, List.replicate_zero, List.replicate_succ, List.getElem?_cons_succ, List.getElem?_cons_zero, List.set_cons_zero, List.set_cons_succ, Nat.reduceAdd, Nat.reduceSub, ↓reduceIte, Bool.not_true, Bool.not_false, Bool.and_true, Bool.true_and, Bool.false_and, Bool.and_false, if_true, if_false, Bool.false_eq_true, oNeg, oAddI, oSubI, oAdd_ii, oLt, oLe, oGt, oGe, Option.bind_some, Option.map_some]
  generalize (g.paths.filter (Game.ahd t)).map encP = L at *
  generalize encR t.paths = E at *
  refine defD_eq rfl ?_
  unfold b_ahead_of
  apply out_seq; (focus (simp only [look_ok hg, defD, args, dSeq, dSet, dSetP, dSetN, lstAt, dApp, dAppP, dAsg, dPar, dDrop, dWhile, dIfS, dRet, dB, dCall, dCons, dNil, dVar, dC, dBin, dChain, asB, dTru, dNotT, dAndT, dOrT, dAnd, dOr, dNot, dIf, dUn, dTup, dLst, dItems, dYes, R.bind, R.to, O.seq, outR, ofO, noErr, mask, Sm.putIn, bindPat, bindPats, itemsOf, tru, List.foldr_cons, List.foldr_nil, List.length_cons, List.length_nil, List.map_cons, List.map_nil, List.cons_append, List.nil_append, Nat.sub_self, List.replicate_zero, List.replicate_succ, List.getElem?_cons_succ, List.getElem?_cons_zero, List.set_cons_zero, List.set_cons_succ, Nat.reduceAdd, Nat.reduceSub, ↓reduceIte, Bool.not_true, Bool.not_false, Bool.and_true, Bool.true_and, Bool.false_and, Bool.and_false, if_true, if_false, Bool.false_eq_true, oNeg, oAddI, oSubI, oAdd_ii, oLt, oLe, oGt, oGe, Option.bind_some, Option.map_some]; try exact rfl))
  apply out_seq; (focus (simp only [h1, defD, args, dSeq, dSet, dSetP, dSetN, lstAt, dApp, dAppP, dAsg, dPar, dDrop, dWhile, dIfS, dRet, dB, dCall, dCons, dNil, dVar, dC, dBin, dChain, asB, dTru, dNotT, dAndT, dOrT, dAnd, dOr, dNot, dIf, dUn, dTup, dLst, dItems, dYes, R.bind, R.to, O.seq, outR, ofO, noErr, mask, Sm.putIn, bindPat, bindPats, itemsOf, tru, List.foldr_cons, List.foldr_nil, List.length_cons, List.length_nil, List.map_cons, List.map_nil, List.cons_append, List.nil_append, Nat.sub_self, List.replicate_zero, List.replicate_succ, List.getElem?_cons_succ, List.getElem?_cons_zero, List.set_cons_zero, List.set_cons_succ, Nat.reduceAdd, Nat.reduceSub, ↓reduceIte, Bool.not_true, Bool.not_false, Bool.and_true, Bool.true_and, Bool.false_and, Bool.and_false, if_true, if_false, Bool.false_eq_true, oNeg, oAddI, oSubI, oAdd_ii, oLt, oLe, oGt, oGe, Option.bind_some, Option.map_some]; try exact rfl))
  refine ret_of ?_
  exact dLc_of lc
end Kx
namespace Kx
open PySem PySem.Spec L2 Sm
end Kx
namespace Sm
namespace Game
theorem take_path {g : Game} {p : List Nat} (h : g.IsPath p) (k : Nat) : g.IsPath (p.take k) := isPath_pre (p.take k) (p.drop k) g (by rw [List.take_append_drop]; exact h)
end Game
end Sm
namespace Kx
open PySem PySem.Spec L2 Sm
theorem mem_at {g : Game} (hg : g.Ok 4) (m : Nat) {p : List Nat} : p ∈ (atT (m : Int) g).paths ↔ g.IsPath p ∧ p.length ≤ m ∧ (p.length = m ∨ (g.part p).ways = []) := by
  unfold atT
  rw [Game.mem_met hg]
  constructor
  · rintro ⟨h1, h2, h3⟩
    refine ⟨h1, ?_, h2.imp (fun z => by rw [decide_eq_true_eq] at z; omega) id⟩
    rcases Nat.lt_or_ge m p.length with z | z
    · have := h3 m z
      rw [List.length_take, Nat.min_eq_left (by omega)] at this
      simp at this
    · exact z
  · rintro ⟨h1, h2, h3⟩
    refine ⟨h1, h3.imp (fun z => by rw [decide_eq_true_eq]; omega) id, fun k hk => ?_⟩
    rw [List.length_take, Nat.min_eq_left (by omega)]
    exact decide_eq_false (by omega)
end Kx
namespace Kx
open PySem PySem.Spec L2 Sm
def addAll (b : BK) (l : List (Int × Rat)) : BK := l.foldl (fun b e => addB b e.1 e.2) b
theorem addAll_cons (b : BK) (e : Int × Rat) (l : List (Int × Rat)) : addAll b (e :: l) = addAll (addB b e.1 e.2) l := rfl
theorem addAll_app (b : BK) (l m : List (Int × Rat)) : addAll b (l ++ m) = addAll (addAll b l) m := List.foldl_append
theorem getB_cons (e : Int × Rat) (b : BK) (j : Int) : getB (e :: b) j = if e.1 = j then e.2 else getB b j := by
  unfold getB
  by_cases h : e.1 = j
  · rw [List.find?_cons_of_pos (by simp [h]), if_pos h]; rfl
  · rw [List.find?_cons_of_neg (by simp [h]), if_neg h]
theorem getB_nil (j : Int) : getB [] j = 0 := rfl
theorem keysN_all : ∀ (l : List (Int × Rat)) {b : BK}, keysN b → keysN (addAll b l)
  | [], _, h => h
  | e :: l, _, h => keysN_all l (putB_keys h _ _)
theorem keysN_nil : keysN [] := by simp [keysN]
theorem len_all : ∀ (l : List (Int × Rat)) (b : BK), (addAll b l).length ≤ b.length + l.length
  | [], b => Nat.le_refl _
  | e :: l, b => by
    have h1 := len_all l (addB b e.1 e.2)
    have h2 := putB_len b e.1 (getB b e.1 + e.2)
    rw [addAll_cons, List.length_cons]
    unfold addB at h1 ⊢
    omega
theorem mu_all : ∀ (l : List (Int × Rat)) {b : BK}, keysN b → mu ((addAll b l).map (·.2)) ≤ mu (b.map (·.2)) + (l.map fun e => bq e.2 + 4).sum
  | [], b, _ => Nat.le_refl _
  | e :: l, b, h => by
    have h1 := mu_all l (b := addB b e.1 e.2) (putB_keys h _ _)
    have h2 := mu_add (k := e.1) (c := e.2) h
    rw [addAll_cons, List.map_cons, List.sum_cons]
    omega
theorem bq_getB {b : BK} (k : Int) : bq (getB b k) ≤ mu (b.map (·.2)) + 1 := by
  induction b with
  | nil => rw [getB_nil, bq0]; omega
  | cons e b ih =>
    rw [getB_cons, List.map_cons, mu_cons]
    split
    · omega
    · omega
def rowsT (b c : BK) : List (Int × Rat) := b.flatMap fun e => c.map fun f => (e.1 + f.1, e.2 * f.2)
def tgB (b c : BK) : BK := addAll [] (rowsT b c)
theorem tg_fold (c : BK) : ∀ (b m : BK), b.foldl (fun m e => addAll m (c.map fun f => (e.1 + f.1, e.2 * f.2))) m = addAll m (rowsT b c)
  | [], m => rfl
  | e :: b, m => by
    rw [List.foldl_cons, tg_fold c b]
    unfold rowsT
    rw [List.flatMap_cons, addAll_app]
theorem rowsT_mu1 (e : Int × Rat) : ∀ c : BK, ((c.map fun f => (e.1 + f.1, e.2 * f.2)).map fun r : Int × Rat => bq r.2 + 4).sum ≤ mu (c.map (·.2)) + (bq e.2 + 4) * c.length
  | [] => Nat.le_refl _
  | f :: c => by
    have h1 := rowsT_mu1 e c
    have h2 := bq_mul e.2 f.2
    rw [List.map_cons, List.map_cons, List.sum_cons, List.map_cons, mu_cons, List.length_cons, Nat.mul_succ]
    show bq (e.2 * f.2) + 4 + _ ≤ _
    omega
theorem rowsT_mu (c : BK) : ∀ b : BK, ((rowsT b c).map fun r => bq r.2 + 4).sum ≤ mu (c.map (·.2)) * b.length + (mu (b.map (·.2)) + 4 * b.length) * c.length
  | [] => by simp [rowsT, mu]
  | e :: b => by
    have h1 := rowsT_mu c b
    have h2 := rowsT_mu1 e c
    unfold rowsT at *
    rw [List.flatMap_cons, List.map_append, List.sum_append, List.length_cons, List.map_cons, mu_cons]
    have e1 : mu (c.map (·.2)) * (b.length + 1) = mu (c.map (·.2)) * b.length + mu (c.map (·.2)) := Nat.mul_succ _ _
    have e2 : (bq e.2 + 1 + mu (b.map (·.2)) + 4 * (b.length + 1)) * c.length = (mu (b.map (·.2)) + 4 * b.length) * c.length + (bq e.2 + 4) * c.length + c.length := by
      rw [← Nat.add_mul, show bq e.2 + 1 + mu (b.map (·.2)) + 4 * (b.length + 1) = (mu (b.map (·.2)) + 4 * b.length + (bq e.2 + 4)) + 1 by omega, Nat.add_mul, Nat.one_mul]
    omega
theorem rowsT_len (c : BK) : ∀ b : BK, (rowsT b c).length = b.length * c.length
  | [] => by simp [rowsT]
  | e :: b => by
    have h1 := rowsT_len c b
    unfold rowsT at *
    rw [List.flatMap_cons, List.length_append, List.length_map, h1, List.length_cons, Nat.succ_mul]
    omega
def tgB1 : DS := dPutD [2] 2 (dBin oAdd (dVar 3) (dVar 5)) (dCall d_all_plus (dCons (dLst (dCons (dGet2 (dVar 2) (dBin oAdd (dVar 3) (dVar 5)) (dTup (dCons (dC (.int 0)) (dCons (dC (.int 1)) dNil)))) (dCons (dCall d_times (dCons (dVar 4) (dCons (dVar 6) dNil))) dNil))) dNil))
theorem tg_put {m : BK} (hm : keysN m) (hl : m.length < 1000) (hu : mu (m.map (·.2)) < 8000) {e f : Int × Rat} (he : bq e.2 + bq f.2 < 900) (x0 x1 : Option D) : tgB1 [x0, x1, some (encB m), some (.int e.1), some (encQ e.2), some (.int f.1), some (encQ f.2)] = .nx [x0, x1, some (encB (addB m (e.1 + f.1) (e.2 * f.2))), some (.int e.1), some (encQ e.2), some (.int f.1), some (encQ f.2)] := by
  obtain ⟨o, g1, g2⟩ := get_book m (e.1 + f.1)
  have tm := times_ok (sz_bq e.2) (sz_bq f.2) (by omega)
  have b1 := bq_getB (b := m) (e.1 + f.1)
  have b2 := bq_mul e.2 f.2
  have ap := all_plus_V (qs := [getB m (e.1 + f.1), e.2 * f.2]) (by rw [mu_cons, mu_cons]; simp [mu]; omega)
  rw [show qsum [getB m (e.1 + f.1), e.2 * f.2] = getB m (e.1 + f.1) + e.2 * f.2 by simp only [qsum]; rw [Rat.add_zero]] at ap
  simp only [List.map_cons, List.map_nil] at ap
  have pb := put_book m (e.1 + f.1) (getB m (e.1 + f.1) + e.2 * f.2)
  have pq : pure' (encQ (getB m (e.1 + f.1) + e.2 * f.2)) = true := by simp [encQ, pure', pures]
  have hz : (m.map fun e => ((D.int e.1, encQ e.2) : D × D)).length < 1000 ∧ ((m.map fun e => ((D.int e.1, encQ e.2) : D × D)).all fun e => kInt e.1) = true := ⟨by rw [List.length_map]; omega, allK m⟩
  unfold tgB1
  unfold addB encB
  rw [← pb]
  generalize (m.map fun e => ((D.int e.1, encQ e.2) : D × D)) = B at *
  simp only [dPutD, dGet2, g1, g2, tm, ap, pq, hz, and_self, defD, args, dSeq, dSet, dSetP, dSetN, lstAt, dApp, dAppP, dAsg, dPar, dDrop, dWhile, dIfS, dRet, dB, dCall, dCons, dNil, dVar, dC, dBin, dChain, asB, dTru, dNotT, dAndT, dOrT, dAnd, dOr, dNot, dIf, dUn, dTup, dLst, dItems, dYes, R.bind, R.to, O.seq, outR, ofO, noErr, mask, Sm.putIn, bindPat, bindPats, itemsOf, tru, List.foldr_cons, List.foldr_nil, List.length_cons, List.length_nil, List.map_cons, List.map_nil, List.cons_append, List.nil_append, Nat.sub_self, List.replicate_zero, List.replicate_succ, List.getElem?_cons_succ, List.getElem?_cons_zero, List.set_cons_zero, List.set_cons_succ, Nat.reduceAdd, Nat.reduceSub, ↓reduceIte, Bool.not_true, Bool.not_false, Bool.and_true, Bool.true_and, Bool.false_and, Bool.and_false, if_true, if_false, Bool.false_eq_true, oNeg, oAddI, oSubI, oAdd_ii, oLt, oLe, oGt, oGe, Option.bind_some, Option.map_some]
theorem dspread_of {g : Game} (hg : g.Ok 4) : d_last_spread [g.enc] = .ok (.lst ((sB (bkOf g g.endT.paths)).map rowB)) := by
  rw [last_spread_ok hg, srtB_eq]
theorem together_gen {g h : Game} (hg : g.Ok 4) (hh : h.Ok 4) {B C : BK} (hB : d_last_spread [g.enc] = .ok (.lst (B.map rowB))) (hC : d_last_spread [h.enc] = .ok (.lst (C.map rowB)))
    (hl : B.length * C.length < 900) (hu : mu (C.map (·.2)) * B.length + (mu (B.map (·.2)) + 4 * B.length) * C.length < 8000) (hs : mu (B.map (·.2)) + mu (C.map (·.2)) < 900) : d_together [g.enc, h.enc] = .ok (srtB (tgB B C)) := by
  refine defD_eq rfl ?_
  unfold b_together
  apply out_seq; (focus (simp only [look_ok hg, defD, args, dSeq, dSet, dSetP, dSetN, lstAt, dApp, dAppP, dAsg, dPar, dDrop, dWhile, dIfS, dRet, dB, dCall, dCons, dNil, dVar, dC, dBin, dChain, asB, dTru, dNotT, dAndT, dOrT, dAnd, dOr, dNot, dIf, dUn, dTup, dLst, dItems, dYes, R.bind, R.to, O.seq, outR, ofO, noErr, mask, Sm.putIn, bindPat, bindPats, itemsOf, tru, List.foldr_cons, List.foldr_nil, List.length_cons, List.length_nil, List.map_cons, List.map_nil, List.cons_append, List.nil_append, Nat.sub_self, List.replicate_zero, List.replicate_succ, List.getElem?_cons_succ, List.getElem?_cons_zero, List.set_cons_zero, List.set_cons_succ, Nat.reduceAdd, Nat.reduceSub, ↓reduceIte, Bool.not_true, Bool.not_false, Bool.and_true, Bool.true_and, Bool.false_and, Bool.and_false, if_true, if_false, Bool.false_eq_true, oNeg, oAddI, oSubI, oAdd_ii, oLt, oLe, oGt, oGe, Option.bind_some, Option.map_some]; try exact rfl))
  apply out_seq; (focus (simp only [look_ok hh, defD, args, dSeq, dSet, dSetP, dSetN, lstAt, dApp, dAppP, dAsg, dPar, dDrop, dWhile, dIfS, dRet, dB, dCall, dCons, dNil, dVar, dC, dBin, dChain, asB, dTru, dNotT, dAndT, dOrT, dAnd, dOr, dNot, dIf, dUn, dTup, dLst, dItems, dYes, R.bind, R.to, O.seq, outR, ofO, noErr, mask, Sm.putIn, bindPat, bindPats, itemsOf, tru, List.foldr_cons, List.foldr_nil, List.length_cons, List.length_nil, List.map_cons, List.map_nil, List.cons_append, List.nil_append, Nat.sub_self, List.replicate_zero, List.replicate_succ, List.getElem?_cons_succ, List.getElem?_cons_zero, List.set_cons_zero, List.set_cons_succ, Nat.reduceAdd, Nat.reduceSub, ↓reduceIte, Bool.not_true, Bool.not_false, Bool.and_true, Bool.true_and, Bool.false_and, Bool.and_false, if_true, if_false, Bool.false_eq_true, oNeg, oAddI, oSubI, oAdd_ii, oLt, oLe, oGt, oGe, Option.bind_some, Option.map_some]; try exact rfl))
  apply out_seq; (focus (simp only [dSetD, defD, args, dSeq, dSet, dSetP, dSetN, lstAt, dApp, dAppP, dAsg, dPar, dDrop, dWhile, dIfS, dRet, dB, dCall, dCons, dNil, dVar, dC, dBin, dChain, asB, dTru, dNotT, dAndT, dOrT, dAnd, dOr, dNot, dIf, dUn, dTup, dLst, dItems, dYes, R.bind, R.to, O.seq, outR, ofO, noErr, mask, Sm.putIn, bindPat, bindPats, itemsOf, tru, List.foldr_cons, List.foldr_nil, List.length_cons, List.length_nil, List.map_cons, List.map_nil, List.cons_append, List.nil_append, Nat.sub_self, List.replicate_zero, List.replicate_succ, List.getElem?_cons_succ, List.getElem?_cons_zero, List.set_cons_zero, List.set_cons_succ, Nat.reduceAdd, Nat.reduceSub, ↓reduceIte, Bool.not_true, Bool.not_false, Bool.and_true, Bool.true_and, Bool.false_and, Bool.and_false, if_true, if_false, Bool.false_eq_true, oNeg, oAddI, oSubI, oAdd_ii, oLt, oLe, oGt, oGe, Option.bind_some, Option.map_some]; try exact rfl))
  have muin : ∀ {L : BK} {e : Int × Rat}, e ∈ L → bq e.2 + 1 ≤ mu (L.map (·.2)) := fun {L e} he => by
    induction L with
    | nil => cases he
    | cons a L ih =>
      rw [List.map_cons, mu_cons]
      rcases List.mem_cons.mp he with rfl | he
      · omega
      · have := ih he; omega
  have all : ∀ {pre : BK} {x : Int × Rat} {suf : BK} {pre2 suf2 : BK} {y : Int × Rat}, B = pre ++ x :: suf → C = pre2 ++ y :: suf2 → (addAll (addAll [] (rowsT pre C)) (pre2.map fun f => (x.1 + f.1, x.2 * f.2))).length < 1000 ∧ mu ((addAll (addAll [] (rowsT pre C)) (pre2.map fun f => (x.1 + f.1, x.2 * f.2))).map (·.2)) < 8000 := by
    intro pre x suf pre2 suf2 y e1 e2
    rw [← addAll_app]
    have l1 := len_all (rowsT pre C ++ pre2.map fun f => (x.1 + f.1, x.2 * f.2)) []
    have l2 := mu_all (rowsT pre C ++ pre2.map fun f => (x.1 + f.1, x.2 * f.2)) keysN_nil
    have full : rowsT B C = rowsT pre C ++ (pre2.map fun f => (x.1 + f.1, x.2 * f.2)) ++ ((y :: suf2).map (fun f => (x.1 + f.1, x.2 * f.2)) ++ rowsT suf C) := by
      have : rowsT B C = rowsT pre C ++ ((C.map fun f => (x.1 + f.1, x.2 * f.2)) ++ rowsT suf C) := by
        rw [e1]; unfold rowsT; rw [List.flatMap_append, List.flatMap_cons]
      rw [this]
      have e3 : (C.map fun f => (x.1 + f.1, x.2 * f.2)) = (pre2.map fun f => (x.1 + f.1, x.2 * f.2)) ++ (y :: suf2).map (fun f => (x.1 + f.1, x.2 * f.2)) := by rw [← List.map_append, ← e2]
      rw [e3]
      simp only [List.append_assoc]
    have f1 := congrArg List.length full
    rw [rowsT_len, List.length_append] at f1
    have f2 := congrArg (fun l : List (Int × Rat) => (l.map fun r => bq r.2 + 4).sum) full
    rw [List.map_append, List.sum_append] at f2
    have f3 := rowsT_mu C B
    have m0 : mu (([] : BK).map (·.2)) = 0 := rfl
    rw [m0] at l2
    rw [List.length_nil] at l1
    constructor
    · omega
    · omega
  refine accP_out (xs := B) (enc := rowB) [3, 4, 5, 6] 2 encB (fun m e => addAll m (C.map fun f => (e.1 + f.1, e.2 * f.2))) [] ?_ rfl ?_ ?_
  · generalize B.map rowB = BB at *
    simp only [hB, defD, args, dSeq, dSet, dSetP, dSetN, lstAt, dApp, dAppP, dAsg, dPar, dDrop, dWhile, dIfS, dRet, dB, dCall, dCons, dNil, dVar, dC, dBin, dChain, asB, dTru, dNotT, dAndT, dOrT, dAnd, dOr, dNot, dIf, dUn, dTup, dLst, dItems, dYes, R.bind, R.to, O.seq, outR, ofO, noErr, mask, Sm.putIn, bindPat, bindPats, itemsOf, tru, List.foldr_cons, List.foldr_nil, List.length_cons, List.length_nil, List.map_cons, List.map_nil, List.cons_append, List.nil_append, Nat.sub_self, List.replicate_zero, List.replicate_succ, List.getElem?_cons_succ, List.getElem?_cons_zero, List.set_cons_zero, List.set_cons_succ, Nat.reduceAdd, Nat.reduceSub, ↓reduceIte, Bool.not_true, Bool.not_false, Bool.and_true, Bool.true_and, Bool.false_and, Bool.and_false, if_true, if_false, Bool.false_eq_true, oNeg, oAddI, oSubI, oAdd_ii, oLt, oLe, oGt, oGe, Option.bind_some, Option.map_some]
  · intro pre x suf ys hx
    refine ⟨_, rfl, ?_⟩
    rw [tg_fold]
    simp only [over, List.contains_cons, List.contains_nil, List.elem_cons, List.elem_nil, Nat.reduceAdd, Nat.reduceBEq, Nat.zero_add, Bool.or_false, Bool.false_or, Bool.or_true, Bool.true_or, Bool.false_eq_true, if_true, if_false, ↓reduceIte, beq_self_eq_true, List.set_cons_zero, List.set_cons_succ]
    generalize ys 5 = y5
    generalize ys 6 = y6
    obtain ⟨zs, hz⟩ := accP_nx (own := [2]) (pt := .t [.v 5, .v 6]) (it := dItems (dCall d_last_spread (dCons (dVar 1) dNil))) (f := tgB1) (ρ := [some g.enc, some h.enc, some (encB (addAll [] (rowsT pre C))), some (.int x.1), some (encQ x.2), y5, y6]) (xs := C) (enc := rowB) [5, 6] 2 encB (fun m f => addB m (x.1 + f.1) (x.2 * f.2)) (addAll [] (rowsT pre C)) (by
      generalize C.map rowB = CC at *
      simp only [hC, defD, args, dSeq, dSet, dSetP, dSetN, lstAt, dApp, dAppP, dAsg, dPar, dDrop, dWhile, dIfS, dRet, dB, dCall, dCons, dNil, dVar, dC, dBin, dChain, asB, dTru, dNotT, dAndT, dOrT, dAnd, dOr, dNot, dIf, dUn, dTup, dLst, dItems, dYes, R.bind, R.to, O.seq, outR, ofO, noErr, mask, Sm.putIn, bindPat, bindPats, itemsOf, tru, List.foldr_cons, List.foldr_nil, List.length_cons, List.length_nil, List.map_cons, List.map_nil, List.cons_append, List.nil_append, Nat.sub_self, List.replicate_zero, List.replicate_succ, List.getElem?_cons_succ, List.getElem?_cons_zero, List.set_cons_zero, List.set_cons_succ, Nat.reduceAdd, Nat.reduceSub, ↓reduceIte, Bool.not_true, Bool.not_false, Bool.and_true, Bool.true_and, Bool.false_and, Bool.and_false, if_true, if_false, Bool.false_eq_true, oNeg, oAddI, oSubI, oAdd_ii, oLt, oLe, oGt, oGe, Option.bind_some, Option.map_some]) rfl (by
      intro pre2 y suf2 ys2 hy
      refine ⟨_, rfl, ?_⟩
      have ef : pre2.foldl (fun m f => addB m (x.1 + f.1) (x.2 * f.2)) (addAll [] (rowsT pre C)) = addAll (addAll [] (rowsT pre C)) (pre2.map fun f => (x.1 + f.1, x.2 * f.2)) := by
        unfold addAll; rw [List.foldl_map]
      rw [ef]
      obtain ⟨a1, a2⟩ := all hx hy
      have kn : keysN (addAll (addAll [] (rowsT pre C)) (pre2.map fun f => (x.1 + f.1, x.2 * f.2))) := keysN_all _ (keysN_all _ keysN_nil)
      generalize addAll (addAll [] (rowsT pre C)) (pre2.map fun f => (x.1 + f.1, x.2 * f.2)) = M at *
      have bx := muin (L := B) (e := x) (by rw [hx]; simp)
      have by' := muin (L := C) (e := y) (by rw [hy]; simp)
      have tp := tg_put kn a1 a2 (e := x) (f := y) (by omega) (some g.enc) (some h.enc)
      simp only [over, List.contains_cons, List.contains_nil, List.elem_cons, List.elem_nil, Nat.reduceAdd, Nat.reduceBEq, Nat.zero_add, Bool.or_false, Bool.false_or, Bool.or_true, Bool.true_or, Bool.false_eq_true, if_true, if_false, ↓reduceIte, beq_self_eq_true, List.set_cons_zero, List.set_cons_succ]
      refine stay tp ?_
      rfl)
    refine ⟨_, hz, fun i => if i = 5 then zs 5 else if i = 6 then zs 6 else if i = 3 then some (.int x.1) else if i = 4 then some (encQ x.2) else none, ?_⟩
    have ef : C.foldl (fun m f => addB m (x.1 + f.1) (x.2 * f.2)) (addAll [] (rowsT pre C)) = addAll (addAll [] (rowsT pre C)) (C.map fun f => (x.1 + f.1, x.2 * f.2)) := by
      unfold addAll; rw [List.foldl_map]
    rw [ef]
    rfl
  · intro ys
    rw [tg_fold]
    simp only [over, List.contains_cons, List.contains_nil, List.elem_cons, List.elem_nil, Nat.reduceAdd, Nat.reduceBEq, Nat.zero_add, Bool.or_false, Bool.false_or, Bool.or_true, Bool.true_or, Bool.false_eq_true, if_true, if_false, ↓reduceIte, beq_self_eq_true, List.set_cons_zero, List.set_cons_succ]
    refine ret_of ?_
    have so := sort_book (tgB B C)
    rw [show addAll [] (rowsT B C) = tgB B C from rfl]
    generalize tgB B C = b at *
    generalize encB b = B at *
    simp only [so, defD, args, dSeq, dSet, dSetP, dSetN, lstAt, dApp, dAppP, dAsg, dPar, dDrop, dWhile, dIfS, dRet, dB, dCall, dCons, dNil, dVar, dC, dBin, dChain, asB, dTru, dNotT, dAndT, dOrT, dAnd, dOr, dNot, dIf, dUn, dTup, dLst, dItems, dYes, R.bind, R.to, O.seq, outR, ofO, noErr, mask, Sm.putIn, bindPat, bindPats, itemsOf, tru, List.foldr_cons, List.foldr_nil, List.length_cons, List.length_nil, List.map_cons, List.map_nil, List.cons_append, List.nil_append, Nat.sub_self, List.replicate_zero, List.replicate_succ, List.getElem?_cons_succ, List.getElem?_cons_zero, List.set_cons_zero, List.set_cons_succ, Nat.reduceAdd, Nat.reduceSub, ↓reduceIte, Bool.not_true, Bool.not_false, Bool.and_true, Bool.true_and, Bool.false_and, Bool.and_false, if_true, if_false, Bool.false_eq_true, oNeg, oAddI, oSubI, oAdd_ii, oLt, oLe, oGt, oGe, Option.bind_some, Option.map_some]
end Kx
namespace Sm
namespace Game
end Game
end Sm
namespace Kx
open PySem PySem.Spec L2 Sm
end Kx
namespace Kx
open PySem PySem.Spec L2 Sm
end Kx
namespace Sm
namespace Game
end Game
end Sm
namespace Kx
open PySem PySem.Spec L2 Sm
end Kx
namespace Sm
namespace Game
end Game
end Sm
namespace Kx
open PySem PySem.Spec L2 Sm
end Kx
namespace Kx
open PySem PySem.Spec L2 Sm
def mA (g : Game) (m : Nat) : Rat := g.exR (atT (m : Int) g) (wAt g)
theorem spread_at_ok {g : Game} (hg : g.Ok 4) (m : Nat) : d_spread_at [g.enc, .int (m : Int)] = .ok (srtB (bkOf g (atT (m : Int) g).paths)) := by
  have h1 := rule_at_ok hg (m : Int)
  have h2 := spread_ok hg (at_rule hg (m : Int))
  generalize encR (atT (m : Int) g).paths = E at *
  simp only [d_spread_at, b_spread_at, look_ok hg, h1, h2, defD, args, dSeq, dSet, dSetP, dSetN, lstAt, dApp, dAppP, dAsg, dPar, dDrop, dWhile, dIfS, dRet, dB, dCall, dCons, dNil, dVar, dC, dBin, dChain, asB, dTru, dNotT, dAndT, dOrT, dAnd, dOr, dNot, dIf, dUn, dTup, dLst, dItems, dYes, R.bind, R.to, O.seq, outR, ofO, noErr, mask, Sm.putIn, bindPat, bindPats, itemsOf, tru, List.foldr_cons, List.foldr_nil, List.length_cons, List.length_nil, List.map_cons, List.map_nil, List.cons_append, List.nil_append, Nat.sub_self, List.replicate_zero, List.replicate_succ, List.getElem?_cons_succ, List.getElem?_cons_zero, List.set_cons_zero, List.set_cons_succ, Nat.reduceAdd, Nat.reduceSub, ↓reduceIte, Bool.not_true, Bool.not_false, Bool.and_true, Bool.true_and, Bool.false_and, Bool.and_false, if_true, if_false, Bool.false_eq_true, oNeg, oAddI, oSubI, oAdd_ii, oLt, oLe, oGt, oGe, Option.bind_some, Option.map_some]
theorem mean_at_ok {g : Game} (hg : g.Ok 4) (m : Nat) : d_mean_at [g.enc, .int (m : Int)] = .ok (encQ (mA g m)) := by
  have h1 := rule_at_ok hg (m : Int)
  have h2 : d_mean_of [g.enc, encR (atT (m : Int) g).paths] = .ok (encQ (mA g m)) := mean_of_ok hg (at_rule hg (m : Int))
  generalize encR (atT (m : Int) g).paths = E at *
  simp only [d_mean_at, b_mean_at, look_ok hg, h1, h2, defD, args, dSeq, dSet, dSetP, dSetN, lstAt, dApp, dAppP, dAsg, dPar, dDrop, dWhile, dIfS, dRet, dB, dCall, dCons, dNil, dVar, dC, dBin, dChain, asB, dTru, dNotT, dAndT, dOrT, dAnd, dOr, dNot, dIf, dUn, dTup, dLst, dItems, dYes, R.bind, R.to, O.seq, outR, ofO, noErr, mask, Sm.putIn, bindPat, bindPats, itemsOf, tru, List.foldr_cons, List.foldr_nil, List.length_cons, List.length_nil, List.map_cons, List.map_nil, List.cons_append, List.nil_append, Nat.sub_self, List.replicate_zero, List.replicate_succ, List.getElem?_cons_succ, List.getElem?_cons_zero, List.set_cons_zero, List.set_cons_succ, Nat.reduceAdd, Nat.reduceSub, ↓reduceIte, Bool.not_true, Bool.not_false, Bool.and_true, Bool.true_and, Bool.false_and, Bool.and_false, if_true, if_false, Bool.false_eq_true, oNeg, oAddI, oSubI, oAdd_ii, oLt, oLe, oGt, oGe, Option.bind_some, Option.map_some]
def goM (g : Game) (m : Nat) : PL := (atT (m : Int) g).paths.filter fun p => decide (p.length = m) && !decide ((g.part p).ways = [])
def sgQ (g : Game) (m : Nat) : Rat := qsum ((goM g m).map g.chance)
theorem still_going_ok {g : Game} (hg : g.Ok 4) (m : Nat) : d_still_going [g.enc, .int (m : Int)] = .ok (encQ (sgQ g m)) := by
  have h1 := rule_at_ok hg (m : Int)
  have hr := at_rule hg (m : Int)
  have hp : ∀ p ∈ (atT (m : Int) g).paths, g.IsPath p := fun p hp => Game.rule_path hr hp
  have hf := rule_few hg (by decide) hr
  refine defD_eq rfl ?_
  unfold b_still_going
  apply out_seq; (focus (simp only [look_ok hg, defD, args, dSeq, dSet, dSetP, dSetN, lstAt, dApp, dAppP, dAsg, dPar, dDrop, dWhile, dIfS, dRet, dB, dCall, dCons, dNil, dVar, dC, dBin, dChain, asB, dTru, dNotT, dAndT, dOrT, dAnd, dOr, dNot, dIf, dUn, dTup, dLst, dItems, dYes, R.bind, R.to, O.seq, outR, ofO, noErr, mask, Sm.putIn, bindPat, bindPats, itemsOf, tru, List.foldr_cons, List.foldr_nil, List.length_cons, List.length_nil, List.map_cons, List.map_nil, List.cons_append, List.nil_append, Nat.sub_self, List.replicate_zero, List.replicate_succ, List.getElem?_cons_succ, List.getElem?_cons_zero, List.set_cons_zero, List.set_cons_succ, Nat.reduceAdd, Nat.reduceSub, ↓reduceIte, Bool.not_true, Bool.not_false, Bool.and_true, Bool.true_and, Bool.false_and, Bool.and_false, if_true, if_false, Bool.false_eq_true, oNeg, oAddI, oSubI, oAdd_ii, oLt, oLe, oGt, oGe, Option.bind_some, Option.map_some]; try exact rfl))
  refine out_seq (ρ1 := [some g.enc, some (.int (m : Int)), some (.lst ((goM g m).map encP)), none]) (setN_nx ?_) ?_
  · refine lc_ok (xs := (atT (m : Int) g).paths) (enc := encP) (fun p => decide (p.length = m) && !decide ((g.part p).ways = [])) encP ?_ fun p h => ⟨[some g.enc, some (.int (m : Int)), none, some (encP p)], rfl, ?_, fun _ => rfl⟩
    · have h1' : d_rule_at [g.enc, .int (m : Int)] = .ok (.tup ((atT (m : Int) g).paths.map encP)) := h1
      generalize (atT (m : Int) g).paths.map encP = L at *
      simp only [h1', defD, args, dSeq, dSet, dSetP, dSetN, lstAt, dApp, dAppP, dAsg, dPar, dDrop, dWhile, dIfS, dRet, dB, dCall, dCons, dNil, dVar, dC, dBin, dChain, asB, dTru, dNotT, dAndT, dOrT, dAnd, dOr, dNot, dIf, dUn, dTup, dLst, dItems, dYes, R.bind, R.to, O.seq, outR, ofO, noErr, mask, Sm.putIn, bindPat, bindPats, itemsOf, tru, List.foldr_cons, List.foldr_nil, List.length_cons, List.length_nil, List.map_cons, List.map_nil, List.cons_append, List.nil_append, Nat.sub_self, List.replicate_zero, List.replicate_succ, List.getElem?_cons_succ, List.getElem?_cons_zero, List.set_cons_zero, List.set_cons_succ, Nat.reduceAdd, Nat.reduceSub, ↓reduceIte, Bool.not_true, Bool.not_false, Bool.and_true, Bool.true_and, Bool.false_and, Bool.and_false, if_true, if_false, Bool.false_eq_true, oNeg, oAddI, oSubI, oAdd_ii, oLt, oLe, oGt, oGe, Option.bind_some, Option.map_some]
    · have po := part_of_ok (hp p h)
      have eo := end_ok (g.part p)
      have ei : (((p.length : Int) == (m : Int)) : Bool) = decide (p.length = m) := by
        by_cases e : p.length = m
        · simp [e]
        · have : ¬ ((p.length : Int) = (m : Int)) := by omega
          simp [e, this]
      by_cases e : p.length = m
      · simp only [len_encP, oEq_int, ei, po, eo, decide_eq_true e, defD, args, dSeq, dSet, dSetP, dSetN, lstAt, dApp, dAppP, dAsg, dPar, dDrop, dWhile, dIfS, dRet, dB, dCall, dCons, dNil, dVar, dC, dBin, dChain, asB, dTru, dNotT, dAndT, dOrT, dAnd, dOr, dNot, dIf, dUn, dTup, dLst, dItems, dYes, R.bind, R.to, O.seq, outR, ofO, noErr, mask, Sm.putIn, bindPat, bindPats, itemsOf, tru, List.foldr_cons, List.foldr_nil, List.length_cons, List.length_nil, List.map_cons, List.map_nil, List.cons_append, List.nil_append, Nat.sub_self, List.replicate_zero, List.replicate_succ, List.getElem?_cons_succ, List.getElem?_cons_zero, List.set_cons_zero, List.set_cons_succ, Nat.reduceAdd, Nat.reduceSub, ↓reduceIte, Bool.not_true, Bool.not_false, Bool.and_true, Bool.true_and, Bool.false_and, Bool.and_false, if_true, if_false, Bool.false_eq_true, oNeg, oAddI, oSubI, oAdd_ii, oLt, oLe, oGt, oGe, Option.bind_some, Option.map_some]
      · simp only [len_encP, oEq_int, ei, decide_eq_false e, defD, args, dSeq, dSet, dSetP, dSetN, lstAt, dApp, dAppP, dAsg, dPar, dDrop, dWhile, dIfS, dRet, dB, dCall, dCons, dNil, dVar, dC, dBin, dChain, asB, dTru, dNotT, dAndT, dOrT, dAnd, dOr, dNot, dIf, dUn, dTup, dLst, dItems, dYes, R.bind, R.to, O.seq, outR, ofO, noErr, mask, Sm.putIn, bindPat, bindPats, itemsOf, tru, List.foldr_cons, List.foldr_nil, List.length_cons, List.length_nil, List.map_cons, List.map_nil, List.cons_append, List.nil_append, Nat.sub_self, List.replicate_zero, List.replicate_succ, List.getElem?_cons_succ, List.getElem?_cons_zero, List.set_cons_zero, List.set_cons_succ, Nat.reduceAdd, Nat.reduceSub, ↓reduceIte, Bool.not_true, Bool.not_false, Bool.and_true, Bool.true_and, Bool.false_and, Bool.and_false, if_true, if_false, Bool.false_eq_true, oNeg, oAddI, oSubI, oAdd_ii, oLt, oLe, oGt, oGe, Option.bind_some, Option.map_some]
  · refine ret_of ?_
    have lc : dLcs [3] (.v 3) (dItems (dVar 2)) dYes (dCall d_chance_of (dCons (dVar 0) (dCons (dVar 3) dNil))) [some g.enc, some (.int (m : Int)), some (.lst ((goM g m).map encP)), none] = .ok ((goM g m).map fun p => encQ (g.chance p)) := by
      refine lc_ok1 (xs := goM g m) (enc := encP) _ rfl fun p h => ⟨[some g.enc, some (.int (m : Int)), some (.lst ((goM g m).map encP)), some (encP p)], rfl, ?_⟩
      have ch := chance_of_ok hg (by decide) (hp p (List.mem_filter.mp h).1)
      generalize (goM g m).map encP = L at *
      simp only [ch, defD, args, dSeq, dSet, dSetP, dSetN, lstAt, dApp, dAppP, dAsg, dPar, dDrop, dWhile, dIfS, dRet, dB, dCall, dCons, dNil, dVar, dC, dBin, dChain, asB, dTru, dNotT, dAndT, dOrT, dAnd, dOr, dNot, dIf, dUn, dTup, dLst, dItems, dYes, R.bind, R.to, O.seq, outR, ofO, noErr, mask, Sm.putIn, bindPat, bindPats, itemsOf, tru, List.foldr_cons, List.foldr_nil, List.length_cons, List.length_nil, List.map_cons, List.map_nil, List.cons_append, List.nil_append, Nat.sub_self, List.replicate_zero, List.replicate_succ, List.getElem?_cons_succ, List.getElem?_cons_zero, List.set_cons_zero, List.set_cons_succ, Nat.reduceAdd, Nat.reduceSub, ↓reduceIte, Bool.not_true, Bool.not_false, Bool.and_true, Bool.true_and, Bool.false_and, Bool.and_false, if_true, if_false, Bool.false_eq_true, oNeg, oAddI, oSubI, oAdd_ii, oLt, oLe, oGt, oGe, Option.bind_some, Option.map_some]
    have ap := all_plus_ok (qs := (goM g m).map g.chance) (n := 16) (fun q hq => by
      obtain ⟨p, h, rfl⟩ := List.mem_map.mp hq
      exact chance_sz4 hg (by decide) (hp p (List.mem_filter.mp h).1)) (by
      rw [List.length_map]
      have : (goM g m).length ≤ (atT (m : Int) g).paths.length := List.length_filter_le _ _
      omega)
    rw [List.map_map] at ap
    have lc' := dLc_of lc
    generalize (goM g m).map encP = L at *
    rw [show (encQ ∘ g.chance) = fun p => encQ (g.chance p) from rfl] at ap
    generalize (goM g m).map (fun p => encQ (g.chance p)) = CH at *
    simp only [lc', ap, sgQ, defD, args, dSeq, dSet, dSetP, dSetN, lstAt, dApp, dAppP, dAsg, dPar, dDrop, dWhile, dIfS, dRet, dB, dCall, dCons, dNil, dVar, dC, dBin, dChain, asB, dTru, dNotT, dAndT, dOrT, dAnd, dOr, dNot, dIf, dUn, dTup, dLst, dItems, dYes, R.bind, R.to, O.seq, outR, ofO, noErr, mask, Sm.putIn, bindPat, bindPats, itemsOf, tru, List.foldr_cons, List.foldr_nil, List.length_cons, List.length_nil, List.map_cons, List.map_nil, List.cons_append, List.nil_append, Nat.sub_self, List.replicate_zero, List.replicate_succ, List.getElem?_cons_succ, List.getElem?_cons_zero, List.set_cons_zero, List.set_cons_succ, Nat.reduceAdd, Nat.reduceSub, ↓reduceIte, Bool.not_true, Bool.not_false, Bool.and_true, Bool.true_and, Bool.false_and, Bool.and_false, if_true, if_false, Bool.false_eq_true, oNeg, oAddI, oSubI, oAdd_ii, oLt, oLe, oGt, oGe, Option.bind_some, Option.map_some]
def maxL (l : List Nat) : Nat := l.foldr max 0
theorem le_maxL : ∀ {l : List Nat} {x : Nat}, x ∈ l → x ≤ maxL l
  | a :: l, x, h => by
    show x ≤ max a (maxL l)
    rcases List.mem_cons.mp h with rfl | h
    · omega
    · have := le_maxL h; omega
theorem maxL_mem : ∀ {l : List Nat}, l ≠ [] → maxL l ∈ l
  | [a], _ => by simp [maxL]
  | a :: b :: l, _ => by
    have ih := maxL_mem (l := b :: l) (by simp)
    show max a (maxL (b :: l)) ∈ _
    by_cases h : a ≤ maxL (b :: l)
    · rw [Nat.max_eq_right h]; exact List.mem_cons_of_mem _ ih
    · rw [Nat.max_eq_left (by omega)]; exact List.mem_cons_self
def dpt (g : Game) : Nat := maxL (g.paths.map List.length)
theorem dpt_path (g : Game) : ∃ p, g.IsPath p ∧ p.length = dpt g := by
  have h : dpt g ∈ g.paths.map List.length := maxL_mem (by
    intro e
    have : [] ∈ g.paths := (Game.mem_paths g []).mpr trivial
    rw [List.map_eq_nil_iff] at e
    rw [e] at this
    cases this)
  obtain ⟨p, hp, e⟩ := List.mem_map.mp h
  exact ⟨p, (Game.mem_paths g p).mp hp, e⟩
theorem le_dpt {g : Game} {p : List Nat} (h : g.IsPath p) : p.length ≤ dpt g := le_maxL (List.mem_map.mpr ⟨p, (Game.mem_paths g p).mpr h, rfl⟩)
theorem dpt_lt {g : Game} {n : Nat} (hg : g.Ok n) : dpt g < n := by
  obtain ⟨p, h, e⟩ := dpt_path g
  rw [← e]; exact (Game.part_ok hg h).2
theorem goM_iff {g : Game} (hg : g.Ok 4) (m : Nat) : goM g m ≠ [] ↔ m < dpt g := by
  constructor
  · intro h
    obtain ⟨p, hp⟩ := List.exists_mem_of_ne_nil _ h
    obtain ⟨h1, h2⟩ := List.mem_filter.mp hp
    simp only [Bool.and_eq_true, decide_eq_true_eq, Bool.not_eq_true', decide_eq_false_iff_not] at h2
    have ip := Game.rule_path (at_rule hg _) h1
    obtain ⟨x, hx⟩ := List.exists_mem_of_ne_nil _ h2.2
    obtain ⟨i, hi⟩ := List.getElem?_of_mem hx
    have ip2 : g.IsPath (p ++ [i]) := (Game.isPath_append p [i] g ip).mpr (by simp only [Game.IsPath, hi])
    have := le_dpt ip2
    simp at this
    omega
  · intro h
    obtain ⟨p, hp, e⟩ := dpt_path g
    have hl : m < p.length := by omega
    have t1 := Game.take_path hp m
    have t2 := Game.take_path hp (m + 1)
    rw [List.take_succ_eq_append_getElem hl, Game.isPath_append _ _ _ t1] at t2
    have nw : (g.part (p.take m)).ways ≠ [] := fun z => by
      simp only [Game.IsPath, z] at t2
      simp at t2
    have lm : (p.take m).length = m := by rw [List.length_take]; omega
    refine List.ne_nil_of_mem (a := p.take m) (List.mem_filter.mpr ⟨(mem_at hg m).mpr ⟨t1, by omega, .inl lm⟩, ?_⟩)
    simp [lm, nw]
theorem qsum_pos : ∀ {l : List Rat}, l ≠ [] → (∀ x ∈ l, 0 < x) → 0 < qsum l
  | a :: l, _, h => by
    have h1 := h a (by simp)
    have h2 : 0 ≤ qsum l := qsum_nonneg fun x hx => Rat.le_of_lt (h x (by simp [hx]))
    rw [qsum]
    grind
theorem sg_iff {g : Game} (hg : g.Ok 4) (m : Nat) : sgQ g m ≠ 0 ↔ m < dpt g := by
  rw [← goM_iff hg]
  unfold sgQ
  constructor
  · intro h e
    rw [e] at h
    exact h rfl
  · intro h
    have : 0 < qsum ((goM g m).map g.chance) := qsum_pos (by simpa using h) fun x hx => by
      obtain ⟨p, hp, rfl⟩ := List.mem_map.mp hx
      exact Game.chance_pos hg (Game.rule_path (at_rule hg _) (List.mem_filter.mp hp).1)
    intro z
    rw [z] at this
    exact absurd this (by decide)
def smL (g : Game) (n : Nat) : List D := (List.range n).map fun i => encQ (mA g (i + 1) - mA g i)
def smT : DT := asB (dBin oNe (dCall d_still_going (dCons (dVar 0) (dCons (dB oLen (dCons (dVar 1) dNil)) dNil))) (dTup (dCons (dC (.int 0)) (dCons (dC (.int 1)) dNil))))
def smB : DS := dAppP 1 (dCall d_less (dCons (dCall d_mean_at (dCons (dVar 0) (dCons (dBin oAdd (dB oLen (dCons (dVar 1) dNil)) (dC (.int 1))) dNil))) (dCons (dCall d_mean_at (dCons (dVar 0) (dCons (dB oLen (dCons (dVar 1) dNil)) dNil))) dNil)))
theorem sm_test {g : Game} (hg : g.Ok 4) (k : Nat) : smT [some g.enc, some (.lst (smL g k))] = .ok (decide (k < dpt g)) := by
  have l : oLen [.lst (smL g k)] = some (.int (k : Int)) := by simp [oLen, smL]
  have sg := still_going_ok hg k
  have n0 : oNe (encQ (sgQ g k)) (.tup [.int 0, .int 1]) = some (.bl (!decide (sgQ g k = 0))) := oNe_q _ 0
  have e : (!decide (sgQ g k = 0)) = decide (k < dpt g) := by
    by_cases h : k < dpt g
    · have := (sg_iff hg k).mpr h
      simp [h, this]
    · have : sgQ g k = 0 := Classical.byContradiction fun z => h ((sg_iff hg k).mp z)
      simp [h, this]
  rw [e] at n0
  generalize smL g k = L at *
  unfold smT
  simp only [l, sg, n0, defD, args, dSeq, dSet, dSetP, dSetN, lstAt, dApp, dAppP, dAsg, dPar, dDrop, dWhile, dIfS, dRet, dB, dCall, dCons, dNil, dVar, dC, dBin, dChain, asB, dTru, dNotT, dAndT, dOrT, dAnd, dOr, dNot, dIf, dUn, dTup, dLst, dItems, dYes, R.bind, R.to, O.seq, outR, ofO, noErr, mask, Sm.putIn, bindPat, bindPats, itemsOf, tru, List.foldr_cons, List.foldr_nil, List.length_cons, List.length_nil, List.map_cons, List.map_nil, List.cons_append, List.nil_append, Nat.sub_self, List.replicate_zero, List.replicate_succ, List.getElem?_cons_succ, List.getElem?_cons_zero, List.set_cons_zero, List.set_cons_succ, Nat.reduceAdd, Nat.reduceSub, ↓reduceIte, Bool.not_true, Bool.not_false, Bool.and_true, Bool.true_and, Bool.false_and, Bool.and_false, if_true, if_false, Bool.false_eq_true, oNeg, oAddI, oSubI, oAdd_ii, oLt, oLe, oGt, oGe, Option.bind_some, Option.map_some]
theorem sm_step {g : Game} (hg : g.Ok 4) {k : Nat} (hk : k < 100) : smB [some g.enc, some (.lst (smL g k))] = .nx [some g.enc, some (.lst (smL g (k + 1)))] := by
  have l : oLen [.lst (smL g k)] = some (.int (k : Int)) := by simp [oLen, smL]
  have hz : (smL g k).length + 1 ≤ sizeLine := by
    have := sizeLine_big
    simp [smL]; omega
  have m1 := mean_at_ok hg k
  have m2 := mean_at_ok hg (k + 1)
  rw [show ((k + 1 : Nat) : Int) = (k : Int) + 1 by omega] at m2
  have s1 : Sz 900 (mA g k) := mean_sz hg (at_rule hg _)
  have s2 : Sz 900 (mA g (k + 1)) := mean_sz hg (at_rule hg _)
  have ls := less_ok s2 s1 (by decide)
  have pq : pure' (encQ (mA g (k + 1) - mA g k)) = true := by simp [encQ, pure', pures]
  have e : smL g (k + 1) = smL g k ++ [encQ (mA g (k + 1) - mA g k)] := by unfold smL; rw [List.range_succ, List.map_append]; rfl
  rw [e]
  unfold smB
  generalize smL g k = L at *
  simp only [l, m1, m2, ls, pq, hz, defD, args, dSeq, dSet, dSetP, dSetN, lstAt, dApp, dAppP, dAsg, dPar, dDrop, dWhile, dIfS, dRet, dB, dCall, dCons, dNil, dVar, dC, dBin, dChain, asB, dTru, dNotT, dAndT, dOrT, dAnd, dOr, dNot, dIf, dUn, dTup, dLst, dItems, dYes, R.bind, R.to, O.seq, outR, ofO, noErr, mask, Sm.putIn, bindPat, bindPats, itemsOf, tru, List.foldr_cons, List.foldr_nil, List.length_cons, List.length_nil, List.map_cons, List.map_nil, List.cons_append, List.nil_append, Nat.sub_self, List.replicate_zero, List.replicate_succ, List.getElem?_cons_succ, List.getElem?_cons_zero, List.set_cons_zero, List.set_cons_succ, Nat.reduceAdd, Nat.reduceSub, ↓reduceIte, Bool.not_true, Bool.not_false, Bool.and_true, Bool.true_and, Bool.false_and, Bool.and_false, if_true, if_false, Bool.false_eq_true, oNeg, oAddI, oSubI, oAdd_ii, oLt, oLe, oGt, oGe, Option.bind_some, Option.map_some]
theorem sm_while {g : Game} (hg : g.Ok 4) : ∀ (n k : Nat), k ≤ dpt g → dpt g < k + n → whileGo smT smB n [some g.enc, some (.lst (smL g k))] = .nx [some g.enc, some (.lst (smL g (dpt g)))]
  | 0, k, h1, h2 => by omega
  | n + 1, k, h1, h2 => by
    have hd := dpt_lt hg
    unfold whileGo
    rw [sm_test hg k]
    by_cases h : k < dpt g
    · rw [decide_eq_true h]
      show (smB _).seq _ = _
      rw [sm_step hg (by omega)]
      exact sm_while hg n (k + 1) h (by omega)
    · rw [decide_eq_false h]
      have : k = dpt g := by omega
      rw [this]; rfl
theorem step_means_ok {g : Game} (hg : g.Ok 4) : d_step_means [g.enc] = .ok (.lst (smL g (dpt g))) := by
  refine defD_eq rfl ?_
  unfold b_step_means
  apply out_seq; (focus (simp only [look_ok hg, defD, args, dSeq, dSet, dSetP, dSetN, lstAt, dApp, dAppP, dAsg, dPar, dDrop, dWhile, dIfS, dRet, dB, dCall, dCons, dNil, dVar, dC, dBin, dChain, asB, dTru, dNotT, dAndT, dOrT, dAnd, dOr, dNot, dIf, dUn, dTup, dLst, dItems, dYes, R.bind, R.to, O.seq, outR, ofO, noErr, mask, Sm.putIn, bindPat, bindPats, itemsOf, tru, List.foldr_cons, List.foldr_nil, List.length_cons, List.length_nil, List.map_cons, List.map_nil, List.cons_append, List.nil_append, Nat.sub_self, List.replicate_zero, List.replicate_succ, List.getElem?_cons_succ, List.getElem?_cons_zero, List.set_cons_zero, List.set_cons_succ, Nat.reduceAdd, Nat.reduceSub, ↓reduceIte, Bool.not_true, Bool.not_false, Bool.and_true, Bool.true_and, Bool.false_and, Bool.and_false, if_true, if_false, Bool.false_eq_true, oNeg, oAddI, oSubI, oAdd_ii, oLt, oLe, oGt, oGe, Option.bind_some, Option.map_some]; try exact rfl))
  apply out_seq; (focus (simp only [defD, args, dSeq, dSet, dSetP, dSetN, lstAt, dApp, dAppP, dAsg, dPar, dDrop, dWhile, dIfS, dRet, dB, dCall, dCons, dNil, dVar, dC, dBin, dChain, asB, dTru, dNotT, dAndT, dOrT, dAnd, dOr, dNot, dIf, dUn, dTup, dLst, dItems, dYes, R.bind, R.to, O.seq, outR, ofO, noErr, mask, Sm.putIn, bindPat, bindPats, itemsOf, tru, List.foldr_cons, List.foldr_nil, List.length_cons, List.length_nil, List.map_cons, List.map_nil, List.cons_append, List.nil_append, Nat.sub_self, List.replicate_zero, List.replicate_succ, List.getElem?_cons_succ, List.getElem?_cons_zero, List.set_cons_zero, List.set_cons_succ, Nat.reduceAdd, Nat.reduceSub, ↓reduceIte, Bool.not_true, Bool.not_false, Bool.and_true, Bool.true_and, Bool.false_and, Bool.and_false, if_true, if_false, Bool.false_eq_true, oNeg, oAddI, oSubI, oAdd_ii, oLt, oLe, oGt, oGe, Option.bind_some, Option.map_some]; try exact rfl))
  have hd := dpt_lt hg
  refine out_seq (ρ1 := [some g.enc, some (.lst (smL g (dpt g)))]) (sm_while hg 8 0 (Nat.zero_le _) (by omega)) rfl
end Kx
namespace Kx
open PySem PySem.Spec L2 Sm
theorem rows_noFn : ∀ b : BK, noFns (b.map rowB) = true
  | [] => rfl
  | e :: b => by
    rw [List.map_cons]
    simp only [noFns, rows_noFn b, Bool.and_true]
    rfl
theorem stays_srt {js : List Nat} {fb : EE} {ρ : Sm.Env} {ps : PLS} {b : BK} (hq : okPS ps = true) (h : fb (capsD js ρ) ps = .ok (srtB b) ps) (hz : b.length ≤ 50000) : eLamL e__law_stays js fb ρ ps = .ok (.bl true) ps := by
  have hp := pl_srt b
  rw [srtB_eq] at h hp
  refine stays_ok hq h (rows_noFn _) hp ?_
  rw [List.length_map, (sB_perm b).length_eq]
  have := sizeLine_pos
  omega
theorem ints_noFn : ∀ l : List Nat, noFns (l.map fun i : Nat => D.int (i : Int)) = true
  | [] => rfl
  | e :: b => by
    rw [List.map_cons]
    simp only [noFns, ints_noFn b, Bool.and_true]
    rfl
theorem paths_noFn : ∀ l : PL, noFns (l.map encP) = true
  | [] => rfl
  | e :: b => by
    rw [List.map_cons]
    simp only [noFns, paths_noFn b, Bool.and_true]
    exact ints_noFn e
theorem qs_noFn (f : Nat → Rat) : ∀ l : List Nat, noFns (l.map fun i => encQ (f i)) = true
  | [] => rfl
  | e :: b => by
    rw [List.map_cons]
    simp only [noFns, qs_noFn f b, Bool.and_true]
    rfl
theorem law_true (pk : Nat → Int → Int) (ok : PkOk pk) : ∃ qs, e_law pk [.scr0] [] = .ok (.bl true) qs := by
  obtain ⟨g, even, top, hd, hD, _⟩ := drawn_ok ok 3 (by decide)
  have hg3 := hD.ok
  have hg := hg3.mono (show 3 ≤ 4 by decide)
  have hd3 : d__law_drawn pk [.scr0, .int 3] = .ok g.enc := hd
  have hq : okPS [] = true := rfl
  have hpn : g.paths.length ≤ 1000 := Nat.le_trans (Game.paths_len hg) (by decide)
  refine ⟨[], ?_⟩
  show outE (be_law pk [some .scr0, none, none] []) = _
  unfold be_law
  refine oute_seq (ρ1 := [some .scr0, some g.enc, none]) (ps1 := []) (sp_nx ?_) ?_
  · simp only [hd3, defD, args, dSeq, dSet, dSetP, dSetN, lstAt, dApp, dAppP, dAsg, dPar, dDrop, dWhile, dIfS, dRet, dB, dCall, dCons, dNil, dVar, dC, dBin, dChain, asB, dTru, dNotT, dAndT, dOrT, dAnd, dOr, dNot, dIf, dUn, dTup, dLst, dItems, dYes, R.bind, R.to, O.seq, outR, ofO, noErr, mask, Sm.putIn, bindPat, bindPats, itemsOf, tru, List.foldr_cons, List.foldr_nil, List.length_cons, List.length_nil, List.map_cons, List.map_nil, List.cons_append, List.nil_append, Nat.sub_self, List.replicate_zero, List.replicate_succ, List.getElem?_cons_succ, List.getElem?_cons_zero, List.set_cons_zero, List.set_cons_succ, Nat.reduceAdd, Nat.reduceSub, ↓reduceIte, Bool.not_true, Bool.not_false, Bool.and_true, Bool.true_and, Bool.false_and, Bool.and_false, if_true, if_false, Bool.false_eq_true, oNeg, oAddI, oSubI, oAdd_ii, oLt, oLe, oGt, oGe, Option.bind_some, Option.map_some]
  refine oute_seq (ρ1 := [some .scr0, some g.enc, some (.lst [.bl true])]) (ps1 := []) (setL1 (own := []) ?_) ?_
  · refine stays_ok (es := (g.paths.filter (Game.ahd (atT 2 g))).map encP) hq ?_ (paths_noFn _) (pl_row 62 _) ?_
    · rw [el_ahead_of_eq, aP_nil, aP_cons, aP_cons, aP_call]
      have r1 : d_rule_at [g.enc, .int 2] = .ok (encR (atT 2 g).paths) := rule_at_ok hg 2
      have r2 := ahead_of_ok hg (at_rule hg 2)
      show (dCall d_ahead_of (dCons (dVar 0) (dCons (dCall d_rule_at (dCons (dVar 0) (dCons (dC (.int 2)) dNil))) dNil)) [some g.enc]).up [] = _
      generalize (g.paths.filter (Game.ahd (atT 2 g))).map encP = L at *
      generalize encR (atT 2 g).paths = E at *
      simp only [r1, r2, R.up, defD, args, dSeq, dSet, dSetP, dSetN, lstAt, dApp, dAppP, dAsg, dPar, dDrop, dWhile, dIfS, dRet, dB, dCall, dCons, dNil, dVar, dC, dBin, dChain, asB, dTru, dNotT, dAndT, dOrT, dAnd, dOr, dNot, dIf, dUn, dTup, dLst, dItems, dYes, R.bind, R.to, O.seq, outR, ofO, noErr, mask, Sm.putIn, bindPat, bindPats, itemsOf, tru, List.foldr_cons, List.foldr_nil, List.length_cons, List.length_nil, List.map_cons, List.map_nil, List.cons_append, List.nil_append, Nat.sub_self, List.replicate_zero, List.replicate_succ, List.getElem?_cons_succ, List.getElem?_cons_zero, List.set_cons_zero, List.set_cons_succ, Nat.reduceAdd, Nat.reduceSub, ↓reduceIte, Bool.not_true, Bool.not_false, Bool.and_true, Bool.true_and, Bool.false_and, Bool.and_false, if_true, if_false, Bool.false_eq_true, oNeg, oAddI, oSubI, oAdd_ii, oLt, oLe, oGt, oGe, Option.bind_some, Option.map_some]
    · rw [List.length_map]
      have := List.length_filter_le (Game.ahd (atT 2 g)) g.paths
      have := sizeLine_pos
      omega
  refine oute_seq (ρ1 := [some .scr0, some g.enc, some (.lst [.bl true, .bl true])]) (ps1 := []) (app1 (own := [2]) (ds := [.bl true]) ?_ rfl (Nat.le_trans (by decide) sizeLine_pos)) ?_
  · refine stays_srt (b := bkOf g (atT ((1 : Nat) : Int) g).paths) hq ?_ (Nat.le_trans (bk_len _ _) (Nat.le_trans (rule_few hg (by decide) (at_rule hg _)) (by decide)))
    rw [el_spread_at_eq, aP_nil, aP_cons, aP_cons, aP_call]
    show (d_spread_at [g.enc, .int ((1 : Nat) : Int)]).up [] = _
    rw [spread_at_ok hg 1]; rfl
  refine oute_seq (ρ1 := [some .scr0, some g.enc, some (.lst [.bl true, .bl true, .bl true])]) (ps1 := []) (app1 (own := [2]) (ds := [.bl true, .bl true]) ?_ rfl (Nat.le_trans (by decide) sizeLine_pos)) ?_
  · refine stays_ok (es := smL g (dpt g)) hq ?_ (qs_noFn (fun i => mA g (i + 1) - mA g i) _) ?_ ?_
    · rw [el_step_means_eq, aP_nil, aP_cons, aP_call]
      show (d_step_means [g.enc]).up [] = _
      rw [step_means_ok hg]; rfl
    · simp only [pl]
      exact pls_map _ _ fun i _ => by simp [pl, pls, encQ]
    · have := sizeLine_pos
      have := dpt_lt hg
      simp [smL]
      omega
  refine oute_seq (ρ1 := [some .scr0, some g.enc, some (.lst [.bl true, .bl true, .bl true, .bl true])]) (ps1 := []) (app1 (own := [2]) (ds := [.bl true, .bl true, .bl true]) ?_ rfl (Nat.le_trans (by decide) sizeLine_pos)) ?_
  · have ht := Game.endT_rule g
    have l9 : g.endT.paths.length ≤ 9 := Game.rule_leaves hg3 ht
    have lB : (sB (bkOf g g.endT.paths)).length ≤ 9 := by rw [(sB_perm _).length_eq]; exact Nat.le_trans (bk_len _ _) l9
    have mB := book_mu2 hg ht
    have h1 : (Game.node 1 []).Ok 4 := by simp [Game.Ok]
    have s1 : d_last_spread [(Game.node 1 []).enc] = .ok (.lst ([((1 : Int), (1 : Rat))].map rowB)) := by
      rw [last_spread_ok h1, Game.endT_end, bk_stop]; rfl
    have tg := together_gen (B := sB (bkOf g g.endT.paths)) (C := [(1, 1)]) hg h1 (dspread_of hg) s1 (by simp; omega) (by
      have : mu ((([((1 : Int), (1 : Rat))] : BK)).map (·.2)) = 2 := by decide
      rw [this]; simp; omega) (by
      have : mu ((([((1 : Int), (1 : Rat))] : BK)).map (·.2)) = 2 := by decide
      rw [this]; omega)
    refine stays_srt (b := tgB (sB (bkOf g g.endT.paths)) [(1, 1)]) hq ?_ ?_
    · rw [el_together_eq, aP_nil, aP_cons, aP_cons, aP_call]
      rw [enc_end] at tg
      show (d_together [g.enc, .tup [.int 1]]).up [] = _
      rw [tg]; rfl
    · have := len_all (rowsT (sB (bkOf g g.endT.paths)) [(1, 1)]) []
      rw [rowsT_len] at this
      simp at this
      unfold tgB
      omega
  · have m4 : oMul (.lst [.bl true]) (.int 4) = some (.lst [.bl true, .bl true, .bl true, .bl true]) := rfl
    have q1 : oEq (.lst [.bl true, .bl true, .bl true, .bl true]) (.lst [.bl true, .bl true, .bl true, .bl true]) = some (.bl true) := rfl
    have r1 : d_rule_at [g.enc, .int 1] = .ok (.tup ((atT 1 g).paths.map encP)) := rule_at_ok hg 1
    generalize (atT 1 g).paths.map encP = L at *
    have it : oIsTup (.tup L) = some (.bl true) := rfl
    simp only [m4, q1, r1, it, eSeq, eRet, eBin, eNow, eOwn, eP, eT, eIf, eIfS, eSet, eAsg, eDrop, eApp, eMeth, eMake, makeR, eCallA, upF, eCons, eNil, eTup, eLst, easB, eAndT, eOrT, eNotT, eTru, eAnd, eB, sP, RP.bind, RP.to, R.up, O.up, OE.seq, outE, defE, oIxT, atI, defD, args, dSeq, dSet, dSetP, dSetN, lstAt, dApp, dAppP, dAsg, dPar, dDrop, dWhile, dIfS, dRet, dB, dCall, dCons, dNil, dVar, dC, dBin, dChain, asB, dTru, dNotT, dAndT, dOrT, dAnd, dOr, dNot, dIf, dUn, dTup, dLst, dItems, dYes, R.bind, R.to, O.seq, outR, ofO, noErr, mask, Sm.putIn, bindPat, bindPats, itemsOf, tru, List.foldr_cons, List.foldr_nil, List.length_cons, List.length_nil, List.map_cons, List.map_nil, List.cons_append, List.nil_append, Nat.sub_self, List.replicate_zero, List.replicate_succ, List.getElem?_cons_succ, List.getElem?_cons_zero, List.set_cons_zero, List.set_cons_succ, Nat.reduceAdd, Nat.reduceSub, ↓reduceIte, Bool.not_true, Bool.not_false, Bool.and_true, Bool.true_and, Bool.false_and, Bool.and_false, if_true, if_false, Bool.false_eq_true, oNeg, oAddI, oSubI, oAdd_ii, oLt, oLe, oGt, oGe, Option.bind_some, Option.map_some]
end Kx
namespace Kx
open PySem PySem.Spec L2 Sm
def topS (i : Nat) : Stmt := PySem.Challenge.pw_fairstops_k88_whole_told_lists_too.main.body.getD i (.Pass ⟨0, 0, 0, 0⟩)
abbrev N_divisor : List Str := ["one", "other"]
theorem sc_divisor : FnScope N_divisor ["one", "other"] (defScope (topS 1)) := ⟨rfl, rfl, rfl, by decide +kernel, rfl, by decide +kernel, by decide +kernel⟩
abbrev N_share : List Str := ["up", "down", "by"]
theorem sc_share : FnScope N_share ["up", "down"] (defScope (topS 2)) := ⟨rfl, rfl, rfl, by decide +kernel, rfl, by decide +kernel, by decide +kernel⟩
abbrev N_plus : List Str := ["one", "other"]
theorem sc_plus : FnScope N_plus ["one", "other"] (defScope (topS 3)) := ⟨rfl, rfl, rfl, by decide +kernel, rfl, by decide +kernel, by decide +kernel⟩
abbrev N_less : List Str := ["one", "other"]
theorem sc_less : FnScope N_less ["one", "other"] (defScope (topS 4)) := ⟨rfl, rfl, rfl, by decide +kernel, rfl, by decide +kernel, by decide +kernel⟩
abbrev N_times : List Str := ["one", "other"]
theorem sc_times : FnScope N_times ["one", "other"] (defScope (topS 5)) := ⟨rfl, rfl, rfl, by decide +kernel, rfl, by decide +kernel, by decide +kernel⟩
abbrev N_all_plus : List Str := ["some", "made", "one"]
theorem sc_all_plus : FnScope N_all_plus ["some"] (defScope (topS 6)) := ⟨rfl, rfl, rfl, by decide +kernel, rfl, by decide +kernel, by decide +kernel⟩
abbrev N_is_whole : List Str := ["thing", "low", "high"]
theorem sc_is_whole : FnScope N_is_whole ["thing", "low", "high"] (defScope (topS 16)) := ⟨rfl, rfl, rfl, by decide +kernel, rfl, by decide +kernel, by decide +kernel⟩
abbrev N_is_game_in : List Str := ["thing", "deep", "way"]
theorem sc_is_game_in : FnScope N_is_game_in ["thing", "deep"] (defScope (topS 17)) := ⟨rfl, rfl, rfl, by decide +kernel, rfl, by decide +kernel, by decide +kernel⟩
abbrev N_is_game : List Str := ["thing"]
theorem sc_is_game : FnScope N_is_game ["thing"] (defScope (topS 18)) := ⟨rfl, rfl, rfl, by decide +kernel, rfl, by decide +kernel, by decide +kernel⟩
abbrev N_look_game : List Str := ["game"]
theorem sc_look_game : FnScope N_look_game ["game"] (defScope (topS 19)) := ⟨rfl, rfl, rfl, by decide +kernel, rfl, by decide +kernel, by decide +kernel⟩
abbrev N_is_end : List Str := ["game"]
theorem sc_is_end : FnScope N_is_end ["game"] (defScope (topS 20)) := ⟨rfl, rfl, rfl, by decide +kernel, rfl, by decide +kernel, by decide +kernel⟩
abbrev N_ways_of : List Str := ["game"]
theorem sc_ways_of : FnScope N_ways_of ["game"] (defScope (topS 21)) := ⟨rfl, rfl, rfl, by decide +kernel, rfl, by decide +kernel, by decide +kernel⟩
abbrev N_paths_of : List Str := ["game", "made", "number", "weight", "later", "path"]
theorem sc_paths_of : FnScope N_paths_of ["game"] (defScope (topS 22)) := ⟨rfl, rfl, rfl, by decide +kernel, rfl, by decide +kernel, by decide +kernel⟩
abbrev N_part_of : List Str := ["game", "path", "number"]
theorem sc_part_of : FnScope N_part_of ["game", "path"] (defScope (topS 23)) := ⟨rfl, rfl, rfl, by decide +kernel, rfl, by decide +kernel, by decide +kernel⟩
abbrev N_is_path : List Str := ["game", "thing", "number"]
theorem sc_is_path : FnScope N_is_path ["game", "thing"] (defScope (topS 24)) := ⟨rfl, rfl, rfl, by decide +kernel, rfl, by decide +kernel, by decide +kernel⟩
abbrev N_ends_of : List Str := ["game", "path"]
theorem sc_ends_of : FnScope N_ends_of ["game"] (defScope (topS 25)) := ⟨rfl, rfl, rfl, by decide +kernel, rfl, by decide +kernel, by decide +kernel⟩
abbrev N_shares_of : List Str := ["game", "total", "weight", "later"]
theorem sc_shares_of : FnScope N_shares_of ["game"] (defScope (topS 26)) := ⟨rfl, rfl, rfl, by decide +kernel, rfl, by decide +kernel, by decide +kernel⟩
abbrev N_chance_of : List Str := ["game", "path", "made", "number"]
theorem sc_chance_of : FnScope N_chance_of ["game", "path"] (defScope (topS 27)) := ⟨rfl, rfl, rfl, by decide +kernel, rfl, by decide +kernel, by decide +kernel⟩
abbrev N_is_rule_of : List Str := ["game", "thing", "end", "path"]
theorem sc_is_rule_of : FnScope N_is_rule_of ["game", "thing"] (defScope (topS 29)) := ⟨rfl, rfl, rfl, by decide +kernel, rfl, by decide +kernel, by decide +kernel⟩
abbrev N_is_rule : List Str := ["game", "thing"]
theorem sc_is_rule : FnScope N_is_rule ["game", "thing"] (defScope (topS 30)) := ⟨rfl, rfl, rfl, by decide +kernel, rfl, by decide +kernel, by decide +kernel⟩
abbrev N_look_rule : List Str := ["game", "rule"]
theorem sc_look_rule : FnScope N_look_rule ["game", "rule"] (defScope (topS 31)) := ⟨rfl, rfl, rfl, by decide +kernel, rfl, by decide +kernel, by decide +kernel⟩
abbrev N_mean_of : List Str := ["game", "rule", "path"]
theorem sc_mean_of : FnScope N_mean_of ["game", "rule"] (defScope (topS 32)) := ⟨rfl, rfl, rfl, by decide +kernel, rfl, by decide +kernel, by decide +kernel⟩
abbrev N_first_met : List Str := ["game", "is_met", "made", "end", "some", "at"]
theorem sc_first_met : FnScope N_first_met ["game", "is_met"] (defScope (topS 34)) := ⟨rfl, rfl, rfl, by decide +kernel, rfl, by decide +kernel, by decide +kernel⟩
abbrev N_rule_at : List Str := ["game", "many"]
theorem sc_rule_at : FnScope N_rule_at ["game", "many"] (defScope (topS 35)) := ⟨rfl, rfl, rfl, by decide +kernel, rfl, by decide +kernel, by decide +kernel⟩
abbrev N_ahead_of : List Str := ["game", "rule", "path", "one"]
theorem sc_ahead_of : FnScope N_ahead_of ["game", "rule"] (defScope (topS 36)) := ⟨rfl, rfl, rfl, by decide +kernel, rfl, by decide +kernel, by decide +kernel⟩
abbrev N_spread_of : List Str := ["game", "some", "made", "path", "here"]
theorem sc_spread_of : FnScope N_spread_of ["game", "some"] (defScope (topS 38)) := ⟨rfl, rfl, rfl, by decide +kernel, rfl, by decide +kernel, by decide +kernel⟩
abbrev N_spread : List Str := ["game", "rule"]
theorem sc_spread : FnScope N_spread ["game", "rule"] (defScope (topS 39)) := ⟨rfl, rfl, rfl, by decide +kernel, rfl, by decide +kernel, by decide +kernel⟩
abbrev N_last_spread : List Str := ["game"]
theorem sc_last_spread : FnScope N_last_spread ["game"] (defScope (topS 40)) := ⟨rfl, rfl, rfl, by decide +kernel, rfl, by decide +kernel, by decide +kernel⟩
abbrev N_spread_at : List Str := ["game", "many"]
theorem sc_spread_at : FnScope N_spread_at ["game", "many"] (defScope (topS 42)) := ⟨rfl, rfl, rfl, by decide +kernel, rfl, by decide +kernel, by decide +kernel⟩
abbrev N_mean_at : List Str := ["game", "many"]
theorem sc_mean_at : FnScope N_mean_at ["game", "many"] (defScope (topS 43)) := ⟨rfl, rfl, rfl, by decide +kernel, rfl, by decide +kernel, by decide +kernel⟩
abbrev N_still_going : List Str := ["game", "many", "some", "path"]
theorem sc_still_going : FnScope N_still_going ["game", "many"] (defScope (topS 44)) := ⟨rfl, rfl, rfl, by decide +kernel, rfl, by decide +kernel, by decide +kernel⟩
abbrev N_step_means : List Str := ["game", "made"]
theorem sc_step_means : FnScope N_step_means ["game"] (defScope (topS 45)) := ⟨rfl, rfl, rfl, by decide +kernel, rfl, by decide +kernel, by decide +kernel⟩
abbrev N_together : List Str := ["game", "other", "made", "mine", "one", "yours", "another"]
theorem sc_together : FnScope N_together ["game", "other"] (defScope (topS 46)) := ⟨rfl, rfl, rfl, by decide +kernel, rfl, by decide +kernel, by decide +kernel⟩
abbrev N__law_cell : List Str := ["script", "k"]
theorem sc__law_cell : FnScope N__law_cell ["script", "k"] (defScope (topS 48)) := ⟨rfl, rfl, rfl, by decide +kernel, rfl, by decide +kernel, by decide +kernel⟩
abbrev N__law_pick : List Str := ["script", "k", "many", "drawn"]
theorem sc__law_pick : FnScope N__law_pick ["script", "k", "many"] (defScope (topS 49)) := ⟨rfl, rfl, rfl, by decide +kernel, rfl, by decide +kernel, by decide +kernel⟩
abbrev N__law_game : List Str := ["script", "at", "top", "deep", "is_even", "base", "many", "rows", "some", "k", "weight", "step", "a", "b"]
theorem sc__law_game : FnScope N__law_game ["script", "at", "top", "deep", "is_even"] (defScope (topS 50)) := ⟨rfl, rfl, rfl, by decide +kernel, rfl, by decide +kernel, by decide +kernel⟩
abbrev N__law_drawn : List Str := ["script", "deep"]
theorem sc__law_drawn : FnScope N__law_drawn ["script", "deep"] (defScope (topS 51)) := ⟨rfl, rfl, rfl, by decide +kernel, rfl, by decide +kernel, by decide +kernel⟩
abbrev N__law_stays : List Str := ["deed", "told", "kept"]
theorem sc__law_stays : FnScope N__law_stays ["deed"] (defScope (topS 52)) := ⟨rfl, rfl, rfl, by decide +kernel, rfl, by decide +kernel, by decide +kernel⟩
abbrev N_law : List Str := ["script", "game", "good"]
theorem sc_law : FnScope N_law ["script"] (defScope (topS 53)) := ⟨rfl, rfl, rfl, by decide +kernel, rfl, by decide +kernel, by decide +kernel⟩
structure Top (K : PySem.W.Frag) (mg : Str → Option Value) (cc : Nat → Addr) (tc : Nat → Addr) : Prop where
  x_NoGame : XC K mg "NoGame" (cc 1)
  x_NoRule : XC K mg "NoRule" (cc 3)
  m_abs : mg "abs" = none
  m_isinstance : mg "isinstance" = none
  m_int : mg "int" = none
  m_bool : mg "bool" = none
  m_tuple : mg "tuple" = none
  m_len : mg "len" = none
  m_all : mg "all" = none
  m_enumerate : mg "enumerate" = none
  m_sum : mg "sum" = none
  m_list : mg "list" = none
  m_sorted : mg "sorted" = none
  m_set : mg "set" = none
  m_range : mg "range" = none
  m_any : mg "any" = none
  m_max : mg "max" = none
  c_GREATEST : ∃ t, mg "GREATEST" = some (.int 20 t)
  c_MOST_WAYS : ∃ t, mg "MOST_WAYS" = some (.int 3 t)
  c_HEAVIEST : ∃ t, mg "HEAVIEST" = some (.int 9 t)
  c_DEEPEST : ∃ t, mg "DEEPEST" = some (.int 4 t)
  f_divisor : ∃ f fd, Fun K "divisor" "divisor" (topS 1) f fd ∧ mg "divisor" = some (.ref f) ∧ Binds K fd ["one", "other"] []
  f_share : ∃ f fd, Fun K "share" "share" (topS 2) f fd ∧ mg "share" = some (.ref f) ∧ Binds K fd ["up", "down"] []
  f_plus : ∃ f fd, Fun K "plus" "plus" (topS 3) f fd ∧ mg "plus" = some (.ref f) ∧ Binds K fd ["one", "other"] []
  f_less : ∃ f fd, Fun K "less" "less" (topS 4) f fd ∧ mg "less" = some (.ref f) ∧ Binds K fd ["one", "other"] []
  f_times : ∃ f fd, Fun K "times" "times" (topS 5) f fd ∧ mg "times" = some (.ref f) ∧ Binds K fd ["one", "other"] []
  f_all_plus : ∃ f fd, Fun K "all_plus" "all_plus" (topS 6) f fd ∧ mg "all_plus" = some (.ref f) ∧ Binds K fd ["some"] []
  f_is_whole : ∃ f fd, Fun K "is_whole" "is_whole" (topS 16) f fd ∧ mg "is_whole" = some (.ref f) ∧ Binds K fd ["thing", "low", "high"] []
  f_is_game_in : ∃ f fd, Fun K "is_game_in" "is_game_in" (topS 17) f fd ∧ mg "is_game_in" = some (.ref f) ∧ Binds K fd ["thing", "deep"] []
  f_is_game : ∃ f fd, Fun K "is_game" "is_game" (topS 18) f fd ∧ mg "is_game" = some (.ref f) ∧ Binds K fd ["thing"] []
  f_look_game : ∃ f fd, Fun K "look_game" "look_game" (topS 19) f fd ∧ mg "look_game" = some (.ref f) ∧ Binds K fd ["game"] []
  f_is_end : ∃ f fd, Fun K "is_end" "is_end" (topS 20) f fd ∧ mg "is_end" = some (.ref f) ∧ Binds K fd ["game"] []
  f_ways_of : ∃ f fd, Fun K "ways_of" "ways_of" (topS 21) f fd ∧ mg "ways_of" = some (.ref f) ∧ Binds K fd ["game"] []
  f_paths_of : ∃ f fd, Fun K "paths_of" "paths_of" (topS 22) f fd ∧ mg "paths_of" = some (.ref f) ∧ Binds K fd ["game"] []
  f_part_of : ∃ f fd, Fun K "part_of" "part_of" (topS 23) f fd ∧ mg "part_of" = some (.ref f) ∧ Binds K fd ["game", "path"] []
  f_is_path : ∃ f fd, Fun K "is_path" "is_path" (topS 24) f fd ∧ mg "is_path" = some (.ref f) ∧ Binds K fd ["game", "thing"] []
  f_ends_of : ∃ f fd, Fun K "ends_of" "ends_of" (topS 25) f fd ∧ mg "ends_of" = some (.ref f) ∧ Binds K fd ["game"] []
  f_shares_of : ∃ f fd, Fun K "shares_of" "shares_of" (topS 26) f fd ∧ mg "shares_of" = some (.ref f) ∧ Binds K fd ["game"] []
  f_chance_of : ∃ f fd, Fun K "chance_of" "chance_of" (topS 27) f fd ∧ mg "chance_of" = some (.ref f) ∧ Binds K fd ["game", "path"] []
  f_is_rule_of : ∃ f fd, Fun K "is_rule_of" "is_rule_of" (topS 29) f fd ∧ mg "is_rule_of" = some (.ref f) ∧ Binds K fd ["game", "thing"] []
  f_is_rule : ∃ f fd, Fun K "is_rule" "is_rule" (topS 30) f fd ∧ mg "is_rule" = some (.ref f) ∧ Binds K fd ["game", "thing"] []
  f_look_rule : ∃ f fd, Fun K "look_rule" "look_rule" (topS 31) f fd ∧ mg "look_rule" = some (.ref f) ∧ Binds K fd ["game", "rule"] []
  f_mean_of : ∃ f fd, Fun K "mean_of" "mean_of" (topS 32) f fd ∧ mg "mean_of" = some (.ref f) ∧ Binds K fd ["game", "rule"] []
  f_first_met : ∃ f fd, Fun K "first_met" "first_met" (topS 34) f fd ∧ mg "first_met" = some (.ref f) ∧ Binds K fd ["game", "is_met"] []
  f_rule_at : ∃ f fd, FunC K "rule_at" (topS 35) f fd (tc 0) ∧ mg "rule_at" = some (.ref f) ∧ Binds K fd ["game", "many"] []
  f_ahead_of : ∃ f fd, Fun K "ahead_of" "ahead_of" (topS 36) f fd ∧ mg "ahead_of" = some (.ref f) ∧ Binds K fd ["game", "rule"] []
  f_spread_of : ∃ f fd, Fun K "spread_of" "spread_of" (topS 38) f fd ∧ mg "spread_of" = some (.ref f) ∧ Binds K fd ["game", "some"] []
  f_spread : ∃ f fd, Fun K "spread" "spread" (topS 39) f fd ∧ mg "spread" = some (.ref f) ∧ Binds K fd ["game", "rule"] []
  f_last_spread : ∃ f fd, Fun K "last_spread" "last_spread" (topS 40) f fd ∧ mg "last_spread" = some (.ref f) ∧ Binds K fd ["game"] []
  f_spread_at : ∃ f fd, Fun K "spread_at" "spread_at" (topS 42) f fd ∧ mg "spread_at" = some (.ref f) ∧ Binds K fd ["game", "many"] []
  f_mean_at : ∃ f fd, Fun K "mean_at" "mean_at" (topS 43) f fd ∧ mg "mean_at" = some (.ref f) ∧ Binds K fd ["game", "many"] []
  f_still_going : ∃ f fd, Fun K "still_going" "still_going" (topS 44) f fd ∧ mg "still_going" = some (.ref f) ∧ Binds K fd ["game", "many"] []
  f_step_means : ∃ f fd, Fun K "step_means" "step_means" (topS 45) f fd ∧ mg "step_means" = some (.ref f) ∧ Binds K fd ["game"] []
  f_together : ∃ f fd, Fun K "together" "together" (topS 46) f fd ∧ mg "together" = some (.ref f) ∧ Binds K fd ["game", "other"] []
  f__law_cell : ∃ f fd, Fun K "_law_cell" "_law_cell" (topS 48) f fd ∧ mg "_law_cell" = some (.ref f) ∧ Binds K fd ["script", "k"] []
  f__law_pick : ∃ f fd, Fun K "_law_pick" "_law_pick" (topS 49) f fd ∧ mg "_law_pick" = some (.ref f) ∧ Binds K fd ["script", "k", "many"] []
  f__law_game : ∃ f fd, Fun K "_law_game" "_law_game" (topS 50) f fd ∧ mg "_law_game" = some (.ref f) ∧ Binds K fd ["script", "at", "top", "deep", "is_even"] []
  f__law_drawn : ∃ f fd, Fun K "_law_drawn" "_law_drawn" (topS 51) f fd ∧ mg "_law_drawn" = some (.ref f) ∧ Binds K fd ["script", "deep"] []
  f__law_stays : ∃ f fd, Fun K "_law_stays" "_law_stays" (topS 52) f fd ∧ mg "_law_stays" = some (.ref f) ∧ Binds K fd ["deed"] []
  f_law : ∃ f fd, FunC K "law" (topS 53) f fd (tc 1) ∧ mg "law" = some (.ref f) ∧ Binds K fd ["script"] []
section
variable {P : Program} {w : World} {K : PySem.W.Frag} {mg : Str → Option Value} {base : Heap} {cl : Glb} {pk : Nat → Int → Int} {tc : Nat → Addr} {C : Addr}
theorem s_divisor (T : Top K mg cl.c tc)  : Fn P w K mg base cl 1 "divisor" 2 d_divisor := by
  obtain ⟨f, fd, F, hm, hb⟩ := T.f_divisor
  exact fn_mk (k := 0) (own := []) F sc_divisor hm hb rfl rfl fun cdv A outer s H E gd hr =>
      (ss_cons (ss_while (own := []) (fuelI 1) gd (st_cmp (os_ne hr.units) (se_var 1) se_int) (ss_one (ss_par (own := []) (i := 0) (j := 1) gd (sa_cons (se_var 1) (sa_cons (se_op os_mod (se_var 0) (se_var 1)) sa_nil)))))
      (ss_one (ss_ret (own := []) (se_callB cs_abs (by decide +kernel) (sa_cons (se_var 0) sa_nil) T.m_abs))))
theorem s_share (T : Top K mg cl.c tc) (g_divisor : Fn P w K mg base cl 1 "divisor" 2 d_divisor) : Fn P w K mg base cl 2 "share" 2 d_share := by
  obtain ⟨f, fd, F, hm, hb⟩ := T.f_share
  exact fn_mk (k := 1) (own := []) F sc_share hm hb rfl rfl fun cdv A outer s H E gd hr =>
      (ss_cons (ss_set (own := []) (i := 2) gd (se_call g_divisor (hr.mono (by decide)) gd.tk (sa_cons (se_var 0) (sa_cons (se_var 1) sa_nil))))
      (ss_cons (ss_if (own := []) (own1 := []) (st_cmp os_lt (se_var 1) se_int) (ss_one (ss_set (own := []) (i := 2) gd (se_op os_sub se_int (se_var 2)))) ss_nil)
      (ss_one (ss_ret (own := []) (se_tup (sa_cons (se_op os_div (se_var 0) (se_var 2)) (sa_cons (se_op os_div (se_var 1) (se_var 2)) sa_nil)))))))
theorem s_plus (T : Top K mg cl.c tc) (g_share : Fn P w K mg base cl 2 "share" 2 d_share) : Fn P w K mg base cl 3 "plus" 2 d_plus := by
  obtain ⟨f, fd, F, hm, hb⟩ := T.f_plus
  exact fn_mk (k := 2) (own := []) F sc_plus hm hb rfl rfl fun cdv A outer s H E gd hr =>
      (ss_one (ss_ret (own := []) (se_call g_share (hr.mono (by decide)) gd.tk (sa_cons (se_op os_plus (se_op os_times (se_ixD (u65 hr) (se_var 0) se_int) (se_ixD (u65 hr) (se_var 1) se_int)) (se_op os_times (se_ixD (u65 hr) (se_var 1) se_int) (se_ixD (u65 hr) (se_var 0) se_int))) (sa_cons (se_op os_times (se_ixD (u65 hr) (se_var 0) se_int) (se_ixD (u65 hr) (se_var 1) se_int)) sa_nil)))))
theorem s_less (T : Top K mg cl.c tc) (g_share : Fn P w K mg base cl 2 "share" 2 d_share) : Fn P w K mg base cl 3 "less" 2 d_less := by
  obtain ⟨f, fd, F, hm, hb⟩ := T.f_less
  exact fn_mk (k := 2) (own := []) F sc_less hm hb rfl rfl fun cdv A outer s H E gd hr =>
      (ss_one (ss_ret (own := []) (se_call g_share (hr.mono (by decide)) gd.tk (sa_cons (se_op os_sub (se_op os_times (se_ixD (u65 hr) (se_var 0) se_int) (se_ixD (u65 hr) (se_var 1) se_int)) (se_op os_times (se_ixD (u65 hr) (se_var 1) se_int) (se_ixD (u65 hr) (se_var 0) se_int))) (sa_cons (se_op os_times (se_ixD (u65 hr) (se_var 0) se_int) (se_ixD (u65 hr) (se_var 1) se_int)) sa_nil)))))
theorem s_times (T : Top K mg cl.c tc) (g_share : Fn P w K mg base cl 2 "share" 2 d_share) : Fn P w K mg base cl 3 "times" 2 d_times := by
  obtain ⟨f, fd, F, hm, hb⟩ := T.f_times
  exact fn_mk (k := 2) (own := []) F sc_times hm hb rfl rfl fun cdv A outer s H E gd hr =>
      (ss_one (ss_ret (own := []) (se_call g_share (hr.mono (by decide)) gd.tk (sa_cons (se_op os_times (se_ixD (u65 hr) (se_var 0) se_int) (se_ixD (u65 hr) (se_var 1) se_int)) (sa_cons (se_op os_times (se_ixD (u65 hr) (se_var 0) se_int) (se_ixD (u65 hr) (se_var 1) se_int)) sa_nil)))))
theorem s_all_plus (T : Top K mg cl.c tc) (g_plus : Fn P w K mg base cl 3 "plus" 2 d_plus) : Fn P w K mg base cl 4 "all_plus" 1 d_all_plus := by
  obtain ⟨f, fd, F, hm, hb⟩ := T.f_all_plus
  exact fn_mk (k := 3) (own := []) F sc_all_plus hm hb rfl rfl fun cdv A outer s H E gd hr =>
      (ss_cons (ss_set (own := []) (i := 1) gd (se_tup (sa_cons se_int (sa_cons se_int sa_nil))))
      (ss_cons (ss_for (own := []) gd (si_seq (se_var 0)) (sg_name 2 gd.nd) (ss_one (ss_set (own := []) (i := 1) gd (se_call g_plus (hr.mono (by decide)) gd.tk (sa_cons (se_var 1) (sa_cons (se_var 2) sa_nil))))))
      (ss_one (ss_ret (own := []) (se_var 1)))))
theorem s_is_whole (T : Top K mg cl.c tc)  : Fn P w K mg base cl 1 "is_whole" 3 d_is_whole := by
  obtain ⟨f, fd, F, hm, hb⟩ := T.f_is_whole
  exact fn_mk (k := 0) (own := []) F sc_is_whole hm hb rfl rfl fun cdv A outer s H E gd hr =>
      (ss_one (ss_ret (own := []) (se_and (se_isiT kit_int (by decide +kernel) (se_var 0) T.m_isinstance T.m_int) (se_and (se_not (se_isiT kit_bool (by decide +kernel) (se_var 0) T.m_isinstance T.m_bool)) (se_one (se_chain os_le os_le (se_var 1) (se_var 0) (se_var 2)))))))
theorem s_is_game_in (T : Top K mg cl.c tc) (g_is_whole : Fn P w K mg base cl 1 "is_whole" 3 d_is_whole) : ∀ n : Nat, Fn P w K mg base cl (2 + n) "is_game_in" 2 (d_is_game_in n) := by
  intro n
  induction n with
  | zero =>
    skip
    obtain ⟨f, fd, F, hm, hb⟩ := T.f_is_game_in
    exact Fn.none F hm hb rfl
  | succ n ih =>
    have G_is_game_in := ih
    skip
    · obtain ⟨f, fd, F, hm, hb⟩ := T.f_is_game_in
      obtain ⟨t_GREATEST, c_GREATEST⟩ := T.c_GREATEST
      obtain ⟨t_GREATEST, c_GREATEST⟩ := T.c_GREATEST
      obtain ⟨t_MOST_WAYS, c_MOST_WAYS⟩ := T.c_MOST_WAYS
      obtain ⟨t_HEAVIEST, c_HEAVIEST⟩ := T.c_HEAVIEST
      exact fn_mk (k := 2 + n) (own := []) F sc_is_game_in hm hb rfl rfl fun cdv A outer s H E gd hr =>
        (ss_cons (ss_if (own := []) (own1 := []) (SW.st (sw_or (st_cmp (os_eq hr.units) (se_var 1) se_int) (sw_or (st_not (st_truth (se_isiT kit_tup (by decide +kernel) (se_var 0) T.m_isinstance T.m_tuple))) (sw_or (st_not (st_truth (se_var 0))) (sw_one (st_not (st_truth (se_call g_is_whole (hr.mono (by omega)) gd.tk (sa_cons (se_ixD (u65 hr) (se_var 0) se_int) (sa_cons (se_op os_sub se_int (se_globI rfl c_GREATEST)) (sa_cons (se_globI rfl c_GREATEST) sa_nil))))))))))) (ss_one (ss_ret (own := []) se_bl)) ss_nil)
      (ss_cons (ss_if (own := []) (own1 := []) (st_cmp (os_eq hr.units) (se_callB cs_len (by decide +kernel) (sa_cons (se_var 0) sa_nil) T.m_len) se_int) (ss_one (ss_ret (own := []) se_bl)) ss_nil)
      (ss_cons (ss_if (own := []) (own1 := []) (SW.st (sw_or (st_cmp (os_ne hr.units) (se_callB cs_len (by decide +kernel) (sa_cons (se_var 0) sa_nil) T.m_len) se_int) (sw_or (st_not (st_truth (se_isiT kit_tup (by decide +kernel) (se_ixD (u65 hr) (se_var 0) se_int) T.m_isinstance T.m_tuple))) (sw_one (st_not (st_chain os_le os_le se_int (se_callB cs_len (by decide +kernel) (sa_cons (se_ixD (u65 hr) (se_var 0) se_int) sa_nil) T.m_len) (se_globI rfl c_MOST_WAYS))))))) (ss_one (ss_ret (own := []) se_bl)) ss_nil)
      (ss_cons (ss_for (own := []) gd (si_seq (se_ixD (u65 hr) (se_var 0) se_int)) (sg_name 2 gd.nd) (ss_one (ss_if (own := []) (own1 := []) (SW.st (sw_or (st_not (st_truth (se_isiT kit_tup (by decide +kernel) (se_var 2) T.m_isinstance T.m_tuple))) (sw_or (st_cmp (os_ne hr.units) (se_callB cs_len (by decide +kernel) (sa_cons (se_var 2) sa_nil) T.m_len) se_int) (sw_one (st_not (st_truth (se_call g_is_whole (hr.mono (by omega)) gd.tk (sa_cons (se_ixD (u65 hr) (se_var 2) se_int) (sa_cons se_int (sa_cons (se_globI rfl c_HEAVIEST) sa_nil)))))))))) (ss_one (ss_ret (own := []) se_bl)) ss_nil)))
      (ss_one (ss_ret (own := []) (se_callB (cs_all gd.calm) (by decide +kernel) (sa_cons (se_lc gd.calm gd.nd (si_seq (se_ixD (u65 hr) (se_var 0) se_int)) (blkOk_by (own := [("way", 2)]) (N := N_is_game_in) (sc := defScope (topS 17)) (by decide +kernel)) (fun _ _ _ _ _ => (sg_name 2 gd.nd)) (fun _ _ _ _ _ => sts_nil) (fun _ _ _ _ _ => (se_call G_is_game_in (hr.mono (by omega)) takes0 (sa_cons (se_ixD (u65 hr) (se_var 2) se_int) (sa_cons (se_op os_sub (se_var 1) se_int) sa_nil))))) sa_nil) T.m_all)))))))
theorem s_is_game (T : Top K mg cl.c tc) (g_is_game_in : Fn P w K mg base cl 10 "is_game_in" 2 (d_is_game_in 8)) : Fn P w K mg base cl 11 "is_game" 1 d_is_game := by
  obtain ⟨f, fd, F, hm, hb⟩ := T.f_is_game
  obtain ⟨t_DEEPEST, c_DEEPEST⟩ := T.c_DEEPEST
  exact fn_mk (k := 10) (own := []) F sc_is_game hm hb rfl rfl fun cdv A outer s H E gd hr =>
      (ss_one (ss_ret (own := []) (se_call g_is_game_in (hr.mono (by decide)) gd.tk (sa_cons (se_var 0) (sa_cons (se_globI rfl c_DEEPEST) sa_nil)))))
theorem s_look_game (T : Top K mg cl.c tc) (g_is_game : Fn P w K mg base cl 11 "is_game" 1 d_is_game) : Fn P w K mg base cl 12 "look_game" 1 d_look_game := by
  obtain ⟨f, fd, F, hm, hb⟩ := T.f_look_game
  exact fn_mk (k := 11) (own := []) F sc_look_game hm hb rfl rfl fun cdv A outer s H E gd hr =>
      (ss_one (ss_if (own := []) (own1 := []) (st_not (st_truth (se_call g_is_game (hr.mono (by decide)) gd.tk (sa_cons (se_var 0) sa_nil)))) (ss_one (ss_raise (own := []) (c := 1) gd T.x_NoGame)) ss_nil))
theorem s_is_end (T : Top K mg cl.c tc)  : Fn P w K mg base cl 1 "is_end" 1 d_is_end := by
  obtain ⟨f, fd, F, hm, hb⟩ := T.f_is_end
  exact fn_mk (k := 0) (own := []) F sc_is_end hm hb rfl rfl fun cdv A outer s H E gd hr =>
      (ss_one (ss_ret (own := []) (se_cmp (os_eq hr.units) (se_callB cs_len (by decide +kernel) (sa_cons (se_var 0) sa_nil) T.m_len) se_int)))
theorem s_ways_of (T : Top K mg cl.c tc)  : Fn P w K mg base cl 1 "ways_of" 1 d_ways_of := by
  obtain ⟨f, fd, F, hm, hb⟩ := T.f_ways_of
  exact fn_mk (k := 0) (own := []) F sc_ways_of hm hb rfl rfl fun cdv A outer s H E gd hr =>
      (ss_one (ss_ret (own := []) (se_if (st_cmp (os_eq hr.units) (se_callB cs_len (by decide +kernel) (sa_cons (se_var 0) sa_nil) T.m_len) se_int) (se_ixD (u65 hr) (se_var 0) se_int) (se_tup sa_nil))))
theorem s_paths_of (T : Top K mg cl.c tc) (g_ways_of : Fn P w K mg base cl 1 "ways_of" 1 d_ways_of) : ∀ n : Nat, Fn P w K mg base cl (2 + n) "paths_of" 1 (d_paths_of n) := by
  intro n
  induction n with
  | zero =>
    skip
    obtain ⟨f, fd, F, hm, hb⟩ := T.f_paths_of
    exact Fn.none F hm hb rfl
  | succ n ih =>
    have G_paths_of := ih
    skip
    · obtain ⟨f, fd, F, hm, hb⟩ := T.f_paths_of
      exact fn_mk (k := 2 + n) (own := []) F sc_paths_of hm hb rfl rfl fun cdv A outer s H E gd hr =>
        (ss_cons (ss_setN (own := []) (i := 1) gd (sn_lst (sa_cons (se_tup sa_nil) sa_nil)))
      (ss_cons (ss_for (own := [1]) gd (si_enum (sa_cons (se_call g_ways_of (hr.mono (by omega)) gd.tk (sa_cons (se_var 0) sa_nil)) sa_nil) T.m_enumerate) (sg_tup gd.calm (sgs_cons (sg_name 2 gd.nd) (sgs_cons (sg_tup gd.calm (sgs_cons (sg_name 3 gd.nd) (sgs_cons (sg_name 4 gd.nd) sgs_nil))) sgs_nil))) (ss_one (ss_ext (own := [1]) (i := 1) (se_lc gd.calm gd.nd (si_seq (se_call G_paths_of (hr.mono (by omega)) gd.tk (sa_cons (se_var 4) sa_nil))) (blkOk_by (own := [("path", 5)]) (N := N_paths_of) (sc := defScope (topS 22)) (by decide +kernel)) (fun _ _ _ _ _ => (sg_name 5 gd.nd)) (fun _ _ _ _ _ => sts_nil) (fun _ _ _ _ _ => (se_op os_plus (se_tup (sa_cons (se_var 2) sa_nil)) (se_var 5)))))))
      (ss_one (ss_ret (own := [1]) (se_var 1)))))
theorem s_part_of (T : Top K mg cl.c tc) (g_ways_of : Fn P w K mg base cl 1 "ways_of" 1 d_ways_of) : Fn P w K mg base cl 2 "part_of" 2 d_part_of := by
  obtain ⟨f, fd, F, hm, hb⟩ := T.f_part_of
  exact fn_mk (k := 1) (own := []) F sc_part_of hm hb rfl rfl fun cdv A outer s H E gd hr =>
      (ss_cons (ss_for (own := []) gd (si_seq (se_var 1)) (sg_name 2 gd.nd) (ss_one (ss_set (own := []) (i := 0) gd (se_ixD (u65 hr) (se_ixD (u65 hr) (se_call g_ways_of (hr.mono (by decide)) gd.tk (sa_cons (se_var 0) sa_nil)) (se_var 2)) se_int))))
      (ss_one (ss_ret (own := []) (se_var 0))))
theorem s_is_path (T : Top K mg cl.c tc) (g_ways_of : Fn P w K mg base cl 1 "ways_of" 1 d_ways_of) (g_is_whole : Fn P w K mg base cl 1 "is_whole" 3 d_is_whole) : Fn P w K mg base cl 2 "is_path" 2 d_is_path := by
  obtain ⟨f, fd, F, hm, hb⟩ := T.f_is_path
  exact fn_mk (k := 1) (own := []) F sc_is_path hm hb rfl rfl fun cdv A outer s H E gd hr =>
      (ss_cons (ss_if (own := []) (own1 := []) (st_not (st_truth (se_isiT kit_tup (by decide +kernel) (se_var 1) T.m_isinstance T.m_tuple))) (ss_one (ss_ret (own := []) se_bl)) ss_nil)
      (ss_cons (ss_for (own := []) gd (si_seq (se_var 1)) (sg_name 2 gd.nd) (ss_cons (ss_if (own := []) (own1 := []) (st_not (st_truth (se_call g_is_whole (hr.mono (by decide)) gd.tk (sa_cons (se_var 2) (sa_cons se_int (sa_cons (se_op os_sub (se_callB cs_len (by decide +kernel) (sa_cons (se_call g_ways_of (hr.mono (by decide)) gd.tk (sa_cons (se_var 0) sa_nil)) sa_nil) T.m_len) se_int) sa_nil)))))) (ss_one (ss_ret (own := []) se_bl)) ss_nil)
      (ss_one (ss_set (own := []) (i := 0) gd (se_ixD (u65 hr) (se_ixD (u65 hr) (se_call g_ways_of (hr.mono (by decide)) gd.tk (sa_cons (se_var 0) sa_nil)) (se_var 2)) se_int)))))
      (ss_one (ss_ret (own := []) se_bl))))
theorem s_ends_of (T : Top K mg cl.c tc) (g_paths_of : Fn P w K mg base cl 10 "paths_of" 1 (d_paths_of 8)) (g_part_of : Fn P w K mg base cl 2 "part_of" 2 d_part_of) (g_is_end : Fn P w K mg base cl 1 "is_end" 1 d_is_end) : Fn P w K mg base cl 11 "ends_of" 1 d_ends_of := by
  obtain ⟨f, fd, F, hm, hb⟩ := T.f_ends_of
  exact fn_mk (k := 10) (own := []) F sc_ends_of hm hb rfl rfl fun cdv A outer s H E gd hr =>
      (ss_one (ss_ret (own := []) (se_lc gd.calm gd.nd (si_seq (se_call g_paths_of (hr.mono (by decide)) gd.tk (sa_cons (se_var 0) sa_nil))) (blkOk_by (own := [("path", 1)]) (N := N_ends_of) (sc := defScope (topS 25)) (by decide +kernel)) (fun _ _ _ _ _ => (sg_name 1 gd.nd)) (fun _ _ _ _ _ => (sts_one (st_truth (se_call g_is_end (hr.mono (by decide)) takes0 (sa_cons (se_call g_part_of (hr.mono (by decide)) takes0 (sa_cons (se_var 0) (sa_cons (se_var 1) sa_nil))) sa_nil))))) (fun _ _ _ _ _ => (se_var 1)))))
theorem s_shares_of (T : Top K mg cl.c tc) (g_ways_of : Fn P w K mg base cl 1 "ways_of" 1 d_ways_of) (g_share : Fn P w K mg base cl 2 "share" 2 d_share) : Fn P w K mg base cl 3 "shares_of" 1 d_shares_of := by
  obtain ⟨f, fd, F, hm, hb⟩ := T.f_shares_of
  exact fn_mk (k := 2) (own := []) F sc_shares_of hm hb rfl rfl fun cdv A outer s H E gd hr =>
      (ss_cons (ss_set (own := []) (i := 1) gd (se_callB (cs_sum gd.calm) (by decide +kernel) (sa_cons (se_lc gd.calm gd.nd (si_seq (se_call g_ways_of (hr.mono (by decide)) gd.tk (sa_cons (se_var 0) sa_nil))) (blkOk_by (own := [("weight", 2), ("later", 3)]) (N := N_shares_of) (sc := defScope (topS 26)) (by decide +kernel)) (fun _ _ _ _ _ => (sg_tup gd.calm (sgs_cons (sg_name 2 gd.nd) (sgs_cons (sg_name 3 gd.nd) sgs_nil)))) (fun _ _ _ _ _ => sts_nil) (fun _ _ _ _ _ => (se_var 2))) sa_nil) T.m_sum))
      (ss_one (ss_ret (own := []) (se_lc gd.calm gd.nd (si_seq (se_call g_ways_of (hr.mono (by decide)) gd.tk (sa_cons (se_var 0) sa_nil))) (blkOk_by (own := [("weight", 2), ("later", 3)]) (N := N_shares_of) (sc := defScope (topS 26)) (by decide +kernel)) (fun _ _ _ _ _ => (sg_tup gd.calm (sgs_cons (sg_name 2 gd.nd) (sgs_cons (sg_name 3 gd.nd) sgs_nil)))) (fun _ _ _ _ _ => sts_nil) (fun _ _ _ _ _ => (se_call g_share (hr.mono (by decide)) takes0 (sa_cons (se_var 2) (sa_cons (se_var 1) sa_nil))))))))
theorem s_chance_of (T : Top K mg cl.c tc) (g_shares_of : Fn P w K mg base cl 3 "shares_of" 1 d_shares_of) (g_times : Fn P w K mg base cl 3 "times" 2 d_times) (g_ways_of : Fn P w K mg base cl 1 "ways_of" 1 d_ways_of) : Fn P w K mg base cl 4 "chance_of" 2 d_chance_of := by
  obtain ⟨f, fd, F, hm, hb⟩ := T.f_chance_of
  exact fn_mk (k := 3) (own := []) F sc_chance_of hm hb rfl rfl fun cdv A outer s H E gd hr =>
      (ss_cons (ss_set (own := []) (i := 2) gd (se_tup (sa_cons se_int (sa_cons se_int sa_nil))))
      (ss_cons (ss_for (own := []) gd (si_seq (se_var 1)) (sg_name 3 gd.nd) (ss_cons (ss_set (own := []) (i := 2) gd (se_call g_times (hr.mono (by decide)) gd.tk (sa_cons (se_var 2) (sa_cons (se_ixD (u65 hr) (se_call g_shares_of (hr.mono (by decide)) gd.tk (sa_cons (se_var 0) sa_nil)) (se_var 3)) sa_nil))))
      (ss_one (ss_set (own := []) (i := 0) gd (se_ixD (u65 hr) (se_ixD (u65 hr) (se_call g_ways_of (hr.mono (by decide)) gd.tk (sa_cons (se_var 0) sa_nil)) (se_var 3)) se_int)))))
      (ss_one (ss_ret (own := []) (se_var 2)))))
theorem s_is_rule_of (T : Top K mg cl.c tc) (g_is_path : Fn P w K mg base cl 2 "is_path" 2 d_is_path) (g_ends_of : Fn P w K mg base cl 11 "ends_of" 1 d_ends_of) : Fn P w K mg base cl 12 "is_rule_of" 2 d_is_rule_of := by
  obtain ⟨f, fd, F, hm, hb⟩ := T.f_is_rule_of
  exact fn_mk (k := 11) (own := []) F sc_is_rule_of hm hb rfl rfl fun cdv A outer s H E gd hr =>
      (ss_cons (ss_if (own := []) (own1 := []) (SW.st (sw_or (st_not (st_truth (se_isiT kit_tup (by decide +kernel) (se_var 1) T.m_isinstance T.m_tuple))) (sw_one (st_not (st_truth (se_callB (cs_all gd.calm) (by decide +kernel) (sa_cons (se_lc gd.calm gd.nd (si_seq (se_var 1)) (blkOk_by (own := [("path", 3)]) (N := N_is_rule_of) (sc := defScope (topS 29)) (by decide +kernel)) (fun _ _ _ _ _ => (sg_name 3 gd.nd)) (fun _ _ _ _ _ => sts_nil) (fun _ _ _ _ _ => (se_call g_is_path (hr.mono (by decide)) takes0 (sa_cons (se_var 0) (sa_cons (se_var 3) sa_nil))))) sa_nil) T.m_all)))))) (ss_one (ss_ret (own := []) se_bl)) ss_nil)
      (ss_cons (ss_if (own := []) (own1 := []) (st_cmp (os_ne hr.units) (se_callTy cs_list (by decide +kernel) (sa_cons (se_var 1) sa_nil) T.m_list) (se_sortset gd.calm (u100 hr) (sa_cons (se_var 1) sa_nil) T.m_sorted T.m_set)) (ss_one (ss_ret (own := []) se_bl)) ss_nil)
      (ss_cons (ss_for (own := []) gd (si_seq (se_call g_ends_of (hr.mono (by decide)) gd.tk (sa_cons (se_var 0) sa_nil))) (sg_name 2 gd.nd) (ss_one (ss_if (own := []) (own1 := []) (st_cmp (os_ne hr.units) (se_callB cs_len (by decide +kernel) (sa_cons (se_lc gd.calm gd.nd (si_seq (se_var 1)) (blkOk_by (own := [("path", 3)]) (N := N_is_rule_of) (sc := defScope (topS 29)) (by decide +kernel)) (fun _ _ _ _ _ => (sg_name 3 gd.nd)) (fun _ _ _ _ _ => (sts_one (st_cmp (os_eq hr.units) (se_slice (se_var 2) so_none (so_some (se_callB cs_len (by decide +kernel) (sa_cons (se_var 3) sa_nil) T.m_len))) (se_var 3)))) (fun _ _ _ _ _ => (se_var 3))) sa_nil) T.m_len) se_int) (ss_one (ss_ret (own := []) se_bl)) ss_nil)))
      (ss_one (ss_ret (own := []) se_bl)))))
theorem s_is_rule (T : Top K mg cl.c tc) (g_look_game : Fn P w K mg base cl 12 "look_game" 1 d_look_game) (g_is_rule_of : Fn P w K mg base cl 12 "is_rule_of" 2 d_is_rule_of) : Fn P w K mg base cl 13 "is_rule" 2 d_is_rule := by
  obtain ⟨f, fd, F, hm, hb⟩ := T.f_is_rule
  exact fn_mk (k := 12) (own := []) F sc_is_rule hm hb rfl rfl fun cdv A outer s H E gd hr =>
      (ss_cons (ss_expr (own := []) (se_call g_look_game (hr.mono (by decide)) gd.tk (sa_cons (se_var 0) sa_nil)))
      (ss_one (ss_ret (own := []) (se_call g_is_rule_of (hr.mono (by decide)) gd.tk (sa_cons (se_var 0) (sa_cons (se_var 1) sa_nil))))))
theorem s_look_rule (T : Top K mg cl.c tc) (g_is_rule : Fn P w K mg base cl 13 "is_rule" 2 d_is_rule) : Fn P w K mg base cl 14 "look_rule" 2 d_look_rule := by
  obtain ⟨f, fd, F, hm, hb⟩ := T.f_look_rule
  exact fn_mk (k := 13) (own := []) F sc_look_rule hm hb rfl rfl fun cdv A outer s H E gd hr =>
      (ss_one (ss_if (own := []) (own1 := []) (st_not (st_truth (se_call g_is_rule (hr.mono (by decide)) gd.tk (sa_cons (se_var 0) (sa_cons (se_var 1) sa_nil))))) (ss_one (ss_raise (own := []) (c := 3) gd T.x_NoRule)) ss_nil))
theorem s_mean_of (T : Top K mg cl.c tc) (g_look_rule : Fn P w K mg base cl 14 "look_rule" 2 d_look_rule) (g_part_of : Fn P w K mg base cl 2 "part_of" 2 d_part_of) (g_chance_of : Fn P w K mg base cl 4 "chance_of" 2 d_chance_of) (g_times : Fn P w K mg base cl 3 "times" 2 d_times) (g_all_plus : Fn P w K mg base cl 4 "all_plus" 1 d_all_plus) : Fn P w K mg base cl 15 "mean_of" 2 d_mean_of := by
  obtain ⟨f, fd, F, hm, hb⟩ := T.f_mean_of
  exact fn_mk (k := 14) (own := []) F sc_mean_of hm hb rfl rfl fun cdv A outer s H E gd hr =>
      (ss_cons (ss_expr (own := []) (se_call g_look_rule (hr.mono (by decide)) gd.tk (sa_cons (se_var 0) (sa_cons (se_var 1) sa_nil))))
      (ss_one (ss_ret (own := []) (se_call g_all_plus (hr.mono (by decide)) gd.tk (sa_cons (se_lc gd.calm gd.nd (si_seq (se_var 1)) (blkOk_by (own := [("path", 2)]) (N := N_mean_of) (sc := defScope (topS 32)) (by decide +kernel)) (fun _ _ _ _ _ => (sg_name 2 gd.nd)) (fun _ _ _ _ _ => sts_nil) (fun _ _ _ _ _ => (se_call g_times (hr.mono (by decide)) takes0 (sa_cons (se_call g_chance_of (hr.mono (by decide)) takes0 (sa_cons (se_var 0) (sa_cons (se_var 2) sa_nil))) (sa_cons (se_tup (sa_cons (se_ixD (u65 hr) (se_call g_part_of (hr.mono (by decide)) takes0 (sa_cons (se_var 0) (sa_cons (se_var 2) sa_nil))) se_int) (sa_cons se_int sa_nil))) sa_nil))))) sa_nil)))))
theorem s_first_met {lf : List D → R D} (T : Top K mg cl.c tc) (V : FnV P w K mg base cl 1 1 lf) (g_ends_of : Fn P w K mg base cl 11 "ends_of" 1 d_ends_of) : Fn P w K mg base cl 12 "first_met" 2 (d_first_met lf) := by
  obtain ⟨f, fd, F, hm, hb⟩ := T.f_first_met
  exact fn_mk (k := 11) (own := []) F sc_first_met hm hb rfl rfl fun cdv A outer s H E gd hr =>
      (ss_cons (ss_setN (own := []) (i := 2) gd (sn_lst sa_nil))
      (ss_cons (ss_for (own := [2]) gd (si_seq (se_call g_ends_of (hr.mono (by decide)) gd.tk (sa_cons (se_var 0) sa_nil))) (sg_name 3 gd.nd) (ss_cons (ss_set (own := [2]) (i := 4) gd (se_op os_plus (se_lc gd.calm gd.nd (si_range1 (sa_cons (se_op os_plus (se_callB cs_len (by decide +kernel) (sa_cons (se_var 3) sa_nil) T.m_len) se_int) sa_nil) T.m_range) (blkOk_by (own := [("at", 5)]) (N := N_first_met) (sc := defScope (topS 34)) (by decide +kernel)) (fun _ _ _ _ _ => (sg_name 5 gd.nd)) (fun _ _ _ _ _ => (sts_one (st_truth (se_callF 1 V (hr.mono (by decide)) takes0 (sa_cons (se_slice (se_var 3) so_none (so_some (se_var 5))) sa_nil))))) (fun _ _ _ _ _ => (se_slice (se_var 3) so_none (so_some (se_var 5))))) (se_lst (sa_cons (se_var 3) sa_nil))))
      (ss_one (ss_if (own := [2]) (own1 := [2]) (st_cmp (os_notin (u65 hr)) (se_ixD (u65 hr) (se_var 4) se_int) (se_var 2)) (ss_one (ss_app (own := [2]) (i := 2) (se_ixD (u65 hr) (se_var 4) se_int))) ss_nil))))
      (ss_one (ss_ret (own := [2]) (se_callTy cs_tuple (by decide +kernel) (sa_cons (se_callB (cs_sorted (u100 hr)) (by decide +kernel) (sa_cons (se_var 2) sa_nil) T.m_sorted) sa_nil) T.m_tuple)))))
theorem w_first_met {lf : List D → R D} (T : Top K mg cl.c tc) (V : FnV P w K mg base cl 1 1 lf) : Fn P w K mg base cl 12 "first_met" 2 (d_first_met lf) := by
  have g_is_end : Fn P w K mg base cl 1 "is_end" 1 d_is_end := s_is_end T 
  have g_ways_of : Fn P w K mg base cl 1 "ways_of" 1 d_ways_of := s_ways_of T 
  have g_paths_of : Fn P w K mg base cl 10 "paths_of" 1 (d_paths_of 8) := s_paths_of T g_ways_of 8
  have g_part_of : Fn P w K mg base cl 2 "part_of" 2 d_part_of := s_part_of T g_ways_of
  have g_ends_of : Fn P w K mg base cl 11 "ends_of" 1 d_ends_of := s_ends_of T g_paths_of g_part_of g_is_end
  exact s_first_met T V g_ends_of
theorem s_rule_at (T : Top K mg cl.c tc) (tb_rule_at : TabAt base mg cl "rule_at" (tc 0)) (g_look_game : Fn P w K mg base cl 12 "look_game" 1 d_look_game) : Fn P w K mg base cl 13 "rule_at" 2 d_rule_at := by
  obtain ⟨f, fd, F, hm, hb⟩ := T.f_rule_at
  obtain ⟨fA_first_met, fd_first_met, F_first_met, hm_first_met, hb_first_met⟩ := T.f_first_met
  exact fn_mkC (k := 12) (own := []) F tb_rule_at sc_rule_at hm hb rfl rfl fun A outer s H E gd mk hr =>
      (ss_cons (ss_expr (own := []) (se_call g_look_game (hr.mono (by decide)) gd.tk (sa_cons (se_var 0) sa_nil)))
      (ss_one (ss_ret (own := []) (se_lamC (kb := 0) ["path"] ["many"] [1] hm_first_met F_first_met.kp (fun cl' Fb hc hn hT ho V => w_first_met (hc.symm ▸ T) V) (hr.mono (by decide)) gd.tk (sl_cons (se_var 0) (sl_lam mk rfl (lam_free (ps := ["path"]) (fr := ["many"]) (show lamB (defScope (topS 35)) _ _ _ = true from by decide +kernel)))) (fun f c' A outer s H E gd hr => (se_cmp (os_eq hr.units) (se_callB cs_len (by decide +kernel) (sa_cons (se_var 0) sa_nil) T.m_len) (se_var 1))) (show lamB (defScope (topS 35)) _ _ _ = true from by decide +kernel) rfl (fun _ _ _ _ _ us hl => match us, hl with | [_], _ => rfl)))))
theorem s_ahead_of (T : Top K mg cl.c tc) (g_look_game : Fn P w K mg base cl 12 "look_game" 1 d_look_game) (g_look_rule : Fn P w K mg base cl 14 "look_rule" 2 d_look_rule) (g_paths_of : Fn P w K mg base cl 10 "paths_of" 1 (d_paths_of 8)) : Fn P w K mg base cl 15 "ahead_of" 2 d_ahead_of := by
  obtain ⟨f, fd, F, hm, hb⟩ := T.f_ahead_of
  exact fn_mk (k := 14) (own := []) F sc_ahead_of hm hb rfl rfl fun cdv A outer s H E gd hr =>
      (ss_cons (ss_expr (own := []) (se_call g_look_game (hr.mono (by decide)) gd.tk (sa_cons (se_var 0) sa_nil)))
      (ss_cons (ss_expr (own := []) (se_call g_look_rule (hr.mono (by decide)) gd.tk (sa_cons (se_var 0) (sa_cons (se_var 1) sa_nil))))
      (ss_one (ss_ret (own := []) (se_lc gd.calm gd.nd (si_seq (se_call g_paths_of (hr.mono (by decide)) gd.tk (sa_cons (se_var 0) sa_nil))) (blkOk_by (own := [("path", 2)]) (N := N_ahead_of) (sc := defScope (topS 36)) (by decide +kernel)) (fun _ _ _ _ _ => (sg_name 2 gd.nd)) (fun _ _ _ _ _ => (sts_one (st_truth (se_callB (cs_any (by exact gd.calm)) (by decide +kernel) (sa_cons (se_lc (by exact gd.calm) (by exact gd.nd) (si_seq (se_var 1)) (blkOk_by (own := [("one", 3)]) (by rfl)) (fun _ _ _ _ _ => (sg_name 3 (by exact gd.nd))) (fun _ _ _ _ _ => sts_nil) (fun _ _ _ _ _ => (se_and (se_cmp (os_eq hr.units) (se_slice (se_var 3) so_none (so_some (se_callB cs_len (by decide +kernel) (sa_cons (se_var 2) sa_nil) T.m_len))) (se_var 2)) (se_one (se_cmp (os_ne hr.units) (se_var 3) (se_var 2)))))) sa_nil) T.m_any)))) (fun _ _ _ _ _ => (se_var 2)))))))
theorem sl_ahead_of (T : Top K mg cl.c tc) (g_look_game : ∀ F, Fn P w K mg base (cl.at F) 12 "look_game" 1 d_look_game) (g_look_rule : ∀ F, Fn P w K mg base (cl.at F) 14 "look_rule" 2 d_look_rule) (g_paths_of : ∀ F, Fn P w K mg base (cl.at F) 10 "paths_of" 1 (d_paths_of 8)) : FnAl P w K mg base cl C 15 "ahead_of" 2 el_ahead_of := by
  obtain ⟨f, fd, F, hm, hb⟩ := T.f_ahead_of
  exact fnAl_mk (k := 14) F sc_ahead_of hm hb rfl rfl fun cdv A outer s H E gd hr =>
      (sel_cons (es_pure (own := []) (own1 := []) fun F => (ss_expr (own := []) (se_call (g_look_game F) (hr.mono (by decide)) gd.tk (sa_cons (se_var 0) sa_nil)))) (nr_pure (nr_drop _))
      (sel_cons (es_pure (own := []) (own1 := []) fun F => (ss_expr (own := []) (se_call (g_look_rule F) (hr.mono (by decide)) gd.tk (sa_cons (se_var 0) (sa_cons (se_var 1) sa_nil))))) (nr_pure (nr_drop _))
      (sel_ret (own := []) (ne_new fun F => sn_lc gd.calm gd.nd (si_seq (se_call (g_paths_of F) (hr.mono (by decide)) gd.tk (sa_cons (se_var 0) sa_nil))) (blkOk_by (own := [("path", 2)]) (N := N_ahead_of) (sc := defScope (topS 36)) (by decide +kernel)) (fun _ _ _ _ _ => (sg_name 2 gd.nd)) (fun _ _ _ _ _ => (sts_one (st_truth (se_callB (cs_any (by exact gd.calm)) (by decide +kernel) (sa_cons (se_lc (by exact gd.calm) (by exact gd.nd) (si_seq (se_var 1)) (blkOk_by (own := [("one", 3)]) (by rfl)) (fun _ _ _ _ _ => (sg_name 3 (by exact gd.nd))) (fun _ _ _ _ _ => sts_nil) (fun _ _ _ _ _ => (se_and (se_cmp (os_eq hr.units) (se_slice (se_var 3) so_none (so_some (se_callB cs_len (by decide +kernel) (sa_cons (se_var 2) sa_nil) T.m_len))) (se_var 2)) (se_one (se_cmp (os_ne hr.units) (se_var 3) (se_var 2)))))) sa_nil) T.m_any)))) (fun _ _ _ _ _ => (se_var 2))))))
theorem s_spread_of (T : Top K mg cl.c tc) (g_part_of : Fn P w K mg base cl 2 "part_of" 2 d_part_of) (g_chance_of : Fn P w K mg base cl 4 "chance_of" 2 d_chance_of) (g_plus : Fn P w K mg base cl 3 "plus" 2 d_plus) : Fn P w K mg base cl 5 "spread_of" 2 d_spread_of := by
  obtain ⟨f, fd, F, hm, hb⟩ := T.f_spread_of
  exact fn_mk (k := 4) (own := []) F sc_spread_of hm hb rfl rfl fun cdv A outer s H E gd hr =>
      (ss_cons (ss_setD (own := []) (i := 2) gd)
      (ss_cons (ss_for (own := [2]) gd (si_seq (se_var 1)) (sg_name 3 gd.nd) (ss_cons (ss_set (own := [2]) (i := 4) gd (se_ixD (u65 hr) (se_call g_part_of (hr.mono (by decide)) gd.tk (sa_cons (se_var 0) (sa_cons (se_var 3) sa_nil))) se_int))
      (ss_one (ss_putD (own := [2]) (i := 2) (u65 hr) (se_var 4) (se_call g_plus (hr.mono (by decide)) gd.tk (sa_cons (se_get2 (u65 hr) (se_var 2) (se_var 4) (se_tup (sa_cons se_int (sa_cons se_int sa_nil)))) (sa_cons (se_call g_chance_of (hr.mono (by decide)) gd.tk (sa_cons (se_var 0) (sa_cons (se_var 3) sa_nil))) sa_nil)))))))
      (ss_one (ss_ret (own := [2]) (se_sortItems gd.calm (u100 hr) (se_var 2) T.m_sorted)))))
theorem sl_spread_of (T : Top K mg cl.c tc) (g_part_of : ∀ F, Fn P w K mg base (cl.at F) 2 "part_of" 2 d_part_of) (g_chance_of : ∀ F, Fn P w K mg base (cl.at F) 4 "chance_of" 2 d_chance_of) (g_plus : ∀ F, Fn P w K mg base (cl.at F) 3 "plus" 2 d_plus) : FnAl P w K mg base cl C 5 "spread_of" 2 el_spread_of := by
  obtain ⟨f, fd, F, hm, hb⟩ := T.f_spread_of
  exact fnAl_mk (k := 4) F sc_spread_of hm hb rfl rfl fun cdv A outer s H E gd hr =>
      (sel_cons (es_pure (own := []) (own1 := [2]) fun F => (ss_setD (own := []) (i := 2) gd)) (nr_pure (nr_setD _))
      (sel_cons (es_pure (own := [2]) (own1 := [2]) fun F => (ss_for (own := [2]) gd (si_seq (se_var 1)) (sg_name 3 gd.nd) (ss_cons (ss_set (own := [2]) (i := 4) gd (se_ixD (u65 hr) (se_call (g_part_of F) (hr.mono (by decide)) gd.tk (sa_cons (se_var 0) (sa_cons (se_var 3) sa_nil))) se_int))
      (ss_one (ss_putD (own := [2]) (i := 2) (u65 hr) (se_var 4) (se_call (g_plus F) (hr.mono (by decide)) gd.tk (sa_cons (se_get2 (u65 hr) (se_var 2) (se_var 4) (se_tup (sa_cons se_int (sa_cons se_int sa_nil)))) (sa_cons (se_call (g_chance_of F) (hr.mono (by decide)) gd.tk (sa_cons (se_var 0) (sa_cons (se_var 3) sa_nil))) sa_nil)))))))) (nr_pure (nr_for (nr_seq (nr_set _ _ _) (nr_putD _ _ _ _))))
      (sel_ret (own := [2]) (ne_of fun F => sn_sortItems gd.calm (u100 hr) (se_var 2) T.m_sorted))))
theorem s_spread (T : Top K mg cl.c tc) (g_look_game : Fn P w K mg base cl 12 "look_game" 1 d_look_game) (g_look_rule : Fn P w K mg base cl 14 "look_rule" 2 d_look_rule) (g_spread_of : Fn P w K mg base cl 5 "spread_of" 2 d_spread_of) : Fn P w K mg base cl 15 "spread" 2 d_spread := by
  obtain ⟨f, fd, F, hm, hb⟩ := T.f_spread
  exact fn_mk (k := 14) (own := []) F sc_spread hm hb rfl rfl fun cdv A outer s H E gd hr =>
      (ss_cons (ss_expr (own := []) (se_call g_look_game (hr.mono (by decide)) gd.tk (sa_cons (se_var 0) sa_nil)))
      (ss_cons (ss_expr (own := []) (se_call g_look_rule (hr.mono (by decide)) gd.tk (sa_cons (se_var 0) (sa_cons (se_var 1) sa_nil))))
      (ss_one (ss_ret (own := []) (se_call g_spread_of (hr.mono (by decide)) gd.tk (sa_cons (se_var 0) (sa_cons (se_var 1) sa_nil)))))))
theorem sl_spread (T : Top K mg cl.c tc) (g_look_game : ∀ F, Fn P w K mg base (cl.at F) 12 "look_game" 1 d_look_game) (g_look_rule : ∀ F, Fn P w K mg base (cl.at F) 14 "look_rule" 2 d_look_rule) (gl_spread_of : FnAl P w K mg base cl C 5 "spread_of" 2 el_spread_of) : FnAl P w K mg base cl C 15 "spread" 2 el_spread := by
  obtain ⟨f, fd, F, hm, hb⟩ := T.f_spread
  exact fnAl_mk (k := 14) F sc_spread hm hb rfl rfl fun cdv A outer s H E gd hr =>
      (sel_cons (es_pure (own := []) (own1 := []) fun F => (ss_expr (own := []) (se_call (g_look_game F) (hr.mono (by decide)) gd.tk (sa_cons (se_var 0) sa_nil)))) (nr_pure (nr_drop _))
      (sel_cons (es_pure (own := []) (own1 := []) fun F => (ss_expr (own := []) (se_call (g_look_rule F) (hr.mono (by decide)) gd.tk (sa_cons (se_var 0) (sa_cons (se_var 1) sa_nil))))) (nr_pure (nr_drop _))
      (sel_ret (own := []) (ne_callA gl_spread_of (hr.mono (by decide)) gd.tk (ae_cons (ee_pure fun F => (se_var 0)) (ae_cons (ee_pure fun F => (se_var 1)) ae_nil))))))
theorem s_last_spread (T : Top K mg cl.c tc) (g_look_game : Fn P w K mg base cl 12 "look_game" 1 d_look_game) (g_ends_of : Fn P w K mg base cl 11 "ends_of" 1 d_ends_of) (g_spread_of : Fn P w K mg base cl 5 "spread_of" 2 d_spread_of) : Fn P w K mg base cl 13 "last_spread" 1 d_last_spread := by
  obtain ⟨f, fd, F, hm, hb⟩ := T.f_last_spread
  exact fn_mk (k := 12) (own := []) F sc_last_spread hm hb rfl rfl fun cdv A outer s H E gd hr =>
      (ss_cons (ss_expr (own := []) (se_call g_look_game (hr.mono (by decide)) gd.tk (sa_cons (se_var 0) sa_nil)))
      (ss_one (ss_ret (own := []) (se_call g_spread_of (hr.mono (by decide)) gd.tk (sa_cons (se_var 0) (sa_cons (se_call g_ends_of (hr.mono (by decide)) gd.tk (sa_cons (se_var 0) sa_nil)) sa_nil))))))
theorem s_spread_at (T : Top K mg cl.c tc) (g_look_game : Fn P w K mg base cl 12 "look_game" 1 d_look_game) (g_rule_at : Fn P w K mg base cl 13 "rule_at" 2 d_rule_at) (g_spread : Fn P w K mg base cl 15 "spread" 2 d_spread) : Fn P w K mg base cl 16 "spread_at" 2 d_spread_at := by
  obtain ⟨f, fd, F, hm, hb⟩ := T.f_spread_at
  exact fn_mk (k := 15) (own := []) F sc_spread_at hm hb rfl rfl fun cdv A outer s H E gd hr =>
      (ss_cons (ss_expr (own := []) (se_call g_look_game (hr.mono (by decide)) gd.tk (sa_cons (se_var 0) sa_nil)))
      (ss_one (ss_ret (own := []) (se_call g_spread (hr.mono (by decide)) gd.tk (sa_cons (se_var 0) (sa_cons (se_call g_rule_at (hr.mono (by decide)) gd.tk (sa_cons (se_var 0) (sa_cons (se_var 1) sa_nil))) sa_nil))))))
theorem sl_spread_at (T : Top K mg cl.c tc) (g_look_game : ∀ F, Fn P w K mg base (cl.at F) 12 "look_game" 1 d_look_game) (gl_spread : FnAl P w K mg base cl C 15 "spread" 2 el_spread) (g_rule_at : ∀ F, Fn P w K mg base (cl.at F) 13 "rule_at" 2 d_rule_at) : FnAl P w K mg base cl C 16 "spread_at" 2 el_spread_at := by
  obtain ⟨f, fd, F, hm, hb⟩ := T.f_spread_at
  exact fnAl_mk (k := 15) F sc_spread_at hm hb rfl rfl fun cdv A outer s H E gd hr =>
      (sel_cons (es_pure (own := []) (own1 := []) fun F => (ss_expr (own := []) (se_call (g_look_game F) (hr.mono (by decide)) gd.tk (sa_cons (se_var 0) sa_nil)))) (nr_pure (nr_drop _))
      (sel_ret (own := []) (ne_callA gl_spread (hr.mono (by decide)) gd.tk (ae_cons (ee_pure fun F => (se_var 0)) (ae_cons (ee_pure fun F => (se_call (g_rule_at F) (hr.mono (by decide)) gd.tk (sa_cons (se_var 0) (sa_cons (se_var 1) sa_nil)))) ae_nil)))))
theorem s_mean_at (T : Top K mg cl.c tc) (g_look_game : Fn P w K mg base cl 12 "look_game" 1 d_look_game) (g_rule_at : Fn P w K mg base cl 13 "rule_at" 2 d_rule_at) (g_mean_of : Fn P w K mg base cl 15 "mean_of" 2 d_mean_of) : Fn P w K mg base cl 16 "mean_at" 2 d_mean_at := by
  obtain ⟨f, fd, F, hm, hb⟩ := T.f_mean_at
  exact fn_mk (k := 15) (own := []) F sc_mean_at hm hb rfl rfl fun cdv A outer s H E gd hr =>
      (ss_cons (ss_expr (own := []) (se_call g_look_game (hr.mono (by decide)) gd.tk (sa_cons (se_var 0) sa_nil)))
      (ss_one (ss_ret (own := []) (se_call g_mean_of (hr.mono (by decide)) gd.tk (sa_cons (se_var 0) (sa_cons (se_call g_rule_at (hr.mono (by decide)) gd.tk (sa_cons (se_var 0) (sa_cons (se_var 1) sa_nil))) sa_nil))))))
theorem s_still_going (T : Top K mg cl.c tc) (g_look_game : Fn P w K mg base cl 12 "look_game" 1 d_look_game) (g_rule_at : Fn P w K mg base cl 13 "rule_at" 2 d_rule_at) (g_part_of : Fn P w K mg base cl 2 "part_of" 2 d_part_of) (g_is_end : Fn P w K mg base cl 1 "is_end" 1 d_is_end) (g_chance_of : Fn P w K mg base cl 4 "chance_of" 2 d_chance_of) (g_all_plus : Fn P w K mg base cl 4 "all_plus" 1 d_all_plus) : Fn P w K mg base cl 14 "still_going" 2 d_still_going := by
  obtain ⟨f, fd, F, hm, hb⟩ := T.f_still_going
  exact fn_mk (k := 13) (own := []) F sc_still_going hm hb rfl rfl fun cdv A outer s H E gd hr =>
      (ss_cons (ss_expr (own := []) (se_call g_look_game (hr.mono (by decide)) gd.tk (sa_cons (se_var 0) sa_nil)))
      (ss_cons (ss_setLc (ow := []) (i := 2) gd (si_seq (se_call g_rule_at (hr.mono (by decide)) gd.tk (sa_cons (se_var 0) (sa_cons (se_var 1) sa_nil)))) (blkOk_by (own := [("path", 3)]) (N := N_still_going) (sc := defScope (topS 44)) (by decide +kernel)) (fun _ _ _ _ _ => (sg_name 3 gd.nd)) (fun _ _ _ _ _ => (sts_one (SW.st (sw_and (st_cmp (os_eq hr.units) (se_callB cs_len (by decide +kernel) (sa_cons (se_var 3) sa_nil) T.m_len) (se_var 1)) (sw_one (st_not (st_truth (se_call g_is_end (hr.mono (by decide)) takes0 (sa_cons (se_call g_part_of (hr.mono (by decide)) takes0 (sa_cons (se_var 0) (sa_cons (se_var 3) sa_nil))) sa_nil))))))))) (fun _ _ _ _ _ => (se_var 3)))
      (ss_one (ss_ret (own := [2]) (se_call g_all_plus (hr.mono (by decide)) gd.tk (sa_cons (se_lc gd.calm gd.nd (si_seq (se_var 2)) (blkOk_by (own := [("path", 3)]) (N := N_still_going) (sc := defScope (topS 44)) (by decide +kernel)) (fun _ _ _ _ _ => (sg_name 3 gd.nd)) (fun _ _ _ _ _ => sts_nil) (fun _ _ _ _ _ => (se_call g_chance_of (hr.mono (by decide)) takes0 (sa_cons (se_var 0) (sa_cons (se_var 3) sa_nil))))) sa_nil))))))
theorem s_step_means (T : Top K mg cl.c tc) (g_look_game : Fn P w K mg base cl 12 "look_game" 1 d_look_game) (g_mean_at : Fn P w K mg base cl 16 "mean_at" 2 d_mean_at) (g_less : Fn P w K mg base cl 3 "less" 2 d_less) (g_still_going : Fn P w K mg base cl 14 "still_going" 2 d_still_going) : Fn P w K mg base cl 17 "step_means" 1 d_step_means := by
  obtain ⟨f, fd, F, hm, hb⟩ := T.f_step_means
  exact fn_mk (k := 16) (own := []) F sc_step_means hm hb rfl rfl fun cdv A outer s H E gd hr =>
      (ss_cons (ss_expr (own := []) (se_call g_look_game (hr.mono (by decide)) gd.tk (sa_cons (se_var 0) sa_nil)))
      (ss_cons (ss_setN (own := []) (i := 1) gd (sn_lst sa_nil))
      (ss_cons (ss_while (own := [1]) (fun _ => 8) gd (st_cmp (os_ne hr.units) (se_call g_still_going (hr.mono (by decide)) gd.tk (sa_cons (se_var 0) (sa_cons (se_callB cs_len (by decide +kernel) (sa_cons (se_var 1) sa_nil) T.m_len) sa_nil))) (se_tup (sa_cons se_int (sa_cons se_int sa_nil)))) (ss_one (ss_appP (own := [1]) (i := 1) (se_call g_less (hr.mono (by decide)) gd.tk (sa_cons (se_call g_mean_at (hr.mono (by decide)) gd.tk (sa_cons (se_var 0) (sa_cons (se_op os_plus (se_callB cs_len (by decide +kernel) (sa_cons (se_var 1) sa_nil) T.m_len) se_int) sa_nil))) (sa_cons (se_call g_mean_at (hr.mono (by decide)) gd.tk (sa_cons (se_var 0) (sa_cons (se_callB cs_len (by decide +kernel) (sa_cons (se_var 1) sa_nil) T.m_len) sa_nil))) sa_nil))))))
      (ss_one (ss_ret (own := [1]) (se_var 1))))))
theorem sl_step_means (T : Top K mg cl.c tc) (g_look_game : ∀ F, Fn P w K mg base (cl.at F) 12 "look_game" 1 d_look_game) (g_mean_at : ∀ F, Fn P w K mg base (cl.at F) 16 "mean_at" 2 d_mean_at) (g_less : ∀ F, Fn P w K mg base (cl.at F) 3 "less" 2 d_less) (g_still_going : ∀ F, Fn P w K mg base (cl.at F) 14 "still_going" 2 d_still_going) : FnAl P w K mg base cl C 17 "step_means" 1 el_step_means := by
  obtain ⟨f, fd, F, hm, hb⟩ := T.f_step_means
  exact fnAl_mk (k := 16) F sc_step_means hm hb rfl rfl fun cdv A outer s H E gd hr =>
      (sel_cons (es_pure (own := []) (own1 := []) fun F => (ss_expr (own := []) (se_call (g_look_game F) (hr.mono (by decide)) gd.tk (sa_cons (se_var 0) sa_nil)))) (nr_pure (nr_drop _))
      (sel_cons (es_pure (own := []) (own1 := [1]) fun F => (ss_setN (own := []) (i := 1) gd (sn_lst sa_nil))) (nr_pure (nr_setN _ _ _))
      (sel_cons (es_pure (own := [1]) (own1 := [1]) fun F => (ss_while (own := [1]) (fun _ => 8) gd (st_cmp (os_ne hr.units) (se_call (g_still_going F) (hr.mono (by decide)) gd.tk (sa_cons (se_var 0) (sa_cons (se_callB cs_len (by decide +kernel) (sa_cons (se_var 1) sa_nil) T.m_len) sa_nil))) (se_tup (sa_cons se_int (sa_cons se_int sa_nil)))) (ss_one (ss_appP (own := [1]) (i := 1) (se_call (g_less F) (hr.mono (by decide)) gd.tk (sa_cons (se_call (g_mean_at F) (hr.mono (by decide)) gd.tk (sa_cons (se_var 0) (sa_cons (se_op os_plus (se_callB cs_len (by decide +kernel) (sa_cons (se_var 1) sa_nil) T.m_len) se_int) sa_nil))) (sa_cons (se_call (g_mean_at F) (hr.mono (by decide)) gd.tk (sa_cons (se_var 0) (sa_cons (se_callB cs_len (by decide +kernel) (sa_cons (se_var 1) sa_nil) T.m_len) sa_nil))) sa_nil))))))) (nr_pure (nr_while (nr_appP _ _)))
      (sel_retO (own := [1]) 1))))
theorem s_together (T : Top K mg cl.c tc) (g_look_game : Fn P w K mg base cl 12 "look_game" 1 d_look_game) (g_times : Fn P w K mg base cl 3 "times" 2 d_times) (g_all_plus : Fn P w K mg base cl 4 "all_plus" 1 d_all_plus) (g_last_spread : Fn P w K mg base cl 13 "last_spread" 1 d_last_spread) : Fn P w K mg base cl 14 "together" 2 d_together := by
  obtain ⟨f, fd, F, hm, hb⟩ := T.f_together
  exact fn_mk (k := 13) (own := []) F sc_together hm hb rfl rfl fun cdv A outer s H E gd hr =>
      (ss_cons (ss_expr (own := []) (se_call g_look_game (hr.mono (by decide)) gd.tk (sa_cons (se_var 0) sa_nil)))
      (ss_cons (ss_expr (own := []) (se_call g_look_game (hr.mono (by decide)) gd.tk (sa_cons (se_var 1) sa_nil)))
      (ss_cons (ss_setD (own := []) (i := 2) gd)
      (ss_cons (ss_for (own := [2]) gd (si_seq (se_call g_last_spread (hr.mono (by decide)) gd.tk (sa_cons (se_var 0) sa_nil))) (sg_tup gd.calm (sgs_cons (sg_name 3 gd.nd) (sgs_cons (sg_name 4 gd.nd) sgs_nil))) (ss_one (ss_for (own := [2]) gd (si_seq (se_call g_last_spread (hr.mono (by decide)) gd.tk (sa_cons (se_var 1) sa_nil))) (sg_tup gd.calm (sgs_cons (sg_name 5 gd.nd) (sgs_cons (sg_name 6 gd.nd) sgs_nil))) (ss_one (ss_putD (own := [2]) (i := 2) (u65 hr) (se_op os_plus (se_var 3) (se_var 5)) (se_call g_all_plus (hr.mono (by decide)) gd.tk (sa_cons (se_lst (sa_cons (se_get2 (u65 hr) (se_var 2) (se_op os_plus (se_var 3) (se_var 5)) (se_tup (sa_cons se_int (sa_cons se_int sa_nil)))) (sa_cons (se_call g_times (hr.mono (by decide)) gd.tk (sa_cons (se_var 4) (sa_cons (se_var 6) sa_nil))) sa_nil))) sa_nil)))))))
      (ss_one (ss_ret (own := [2]) (se_sortItems gd.calm (u100 hr) (se_var 2) T.m_sorted)))))))
theorem sl_together (T : Top K mg cl.c tc) (g_look_game : ∀ F, Fn P w K mg base (cl.at F) 12 "look_game" 1 d_look_game) (g_times : ∀ F, Fn P w K mg base (cl.at F) 3 "times" 2 d_times) (g_all_plus : ∀ F, Fn P w K mg base (cl.at F) 4 "all_plus" 1 d_all_plus) (g_last_spread : ∀ F, Fn P w K mg base (cl.at F) 13 "last_spread" 1 d_last_spread) : FnAl P w K mg base cl C 14 "together" 2 el_together := by
  obtain ⟨f, fd, F, hm, hb⟩ := T.f_together
  exact fnAl_mk (k := 13) F sc_together hm hb rfl rfl fun cdv A outer s H E gd hr =>
      (sel_cons (es_pure (own := []) (own1 := []) fun F => (ss_expr (own := []) (se_call (g_look_game F) (hr.mono (by decide)) gd.tk (sa_cons (se_var 0) sa_nil)))) (nr_pure (nr_drop _))
      (sel_cons (es_pure (own := []) (own1 := []) fun F => (ss_expr (own := []) (se_call (g_look_game F) (hr.mono (by decide)) gd.tk (sa_cons (se_var 1) sa_nil)))) (nr_pure (nr_drop _))
      (sel_cons (es_pure (own := []) (own1 := [2]) fun F => (ss_setD (own := []) (i := 2) gd)) (nr_pure (nr_setD _))
      (sel_cons (es_pure (own := [2]) (own1 := [2]) fun F => (ss_for (own := [2]) gd (si_seq (se_call (g_last_spread F) (hr.mono (by decide)) gd.tk (sa_cons (se_var 0) sa_nil))) (sg_tup gd.calm (sgs_cons (sg_name 3 gd.nd) (sgs_cons (sg_name 4 gd.nd) sgs_nil))) (ss_one (ss_for (own := [2]) gd (si_seq (se_call (g_last_spread F) (hr.mono (by decide)) gd.tk (sa_cons (se_var 1) sa_nil))) (sg_tup gd.calm (sgs_cons (sg_name 5 gd.nd) (sgs_cons (sg_name 6 gd.nd) sgs_nil))) (ss_one (ss_putD (own := [2]) (i := 2) (u65 hr) (se_op os_plus (se_var 3) (se_var 5)) (se_call (g_all_plus F) (hr.mono (by decide)) gd.tk (sa_cons (se_lst (sa_cons (se_get2 (u65 hr) (se_var 2) (se_op os_plus (se_var 3) (se_var 5)) (se_tup (sa_cons se_int (sa_cons se_int sa_nil)))) (sa_cons (se_call (g_times F) (hr.mono (by decide)) gd.tk (sa_cons (se_var 4) (sa_cons (se_var 6) sa_nil))) sa_nil))) sa_nil)))))))) (nr_pure (nr_for (nr_for (nr_putD _ _ _ _))))
      (sel_ret (own := [2]) (ne_of fun F => sn_sortItems gd.calm (u100 hr) (se_var 2) T.m_sorted))))))
theorem s__law_cell (T : Top K mg cl.c tc)  : Fn P w K mg base cl 1 "_law_cell" 2 d__law_cell := by
  obtain ⟨f, fd, F, hm, hb⟩ := T.f__law_cell
  exact fn_mk (k := 0) (own := []) F sc__law_cell hm hb rfl rfl fun cdv A outer s H E gd hr =>
      (ss_cons (ss_if (own := []) (own1 := []) (st_cmp os_lt (se_var 1) (se_callB cs_len (by decide +kernel) (sa_cons (se_var 0) sa_nil) T.m_len)) (ss_one (ss_ret (own := []) (se_ixD (u65 hr) (se_var 0) (se_var 1)))) ss_nil)
      (ss_cons (ss_if (own := []) (own1 := []) (st_cmp (os_eq hr.units) (se_var 0) (se_lst sa_nil)) (ss_one (ss_ret (own := []) se_int)) ss_nil)
      (ss_one (ss_ret (own := []) (se_op os_plus (se_op os_times (se_ixD (u65 hr) (se_var 0) (se_op os_mod (se_var 1) (se_callB cs_len (by decide +kernel) (sa_cons (se_var 0) sa_nil) T.m_len))) se_int) (se_var 1))))))
theorem s__law_pick (T : Top K mg cl.c tc) (g__law_cell : Fn P w K mg base cl 1 "_law_cell" 2 d__law_cell) : Fn P w K mg base cl 2 "_law_pick" 3 d__law_pick := by
  obtain ⟨f, fd, F, hm, hb⟩ := T.f__law_pick
  exact fn_mk (k := 1) (own := []) F sc__law_pick hm hb rfl rfl fun cdv A outer s H E gd hr =>
      (ss_cons (ss_set (own := []) (i := 3) gd (se_op os_mod (se_op os_times (se_op os_plus (se_call g__law_cell (hr.mono (by decide)) gd.tk (sa_cons (se_var 0) (sa_cons (se_var 1) sa_nil))) (se_op os_times se_int (se_op os_plus (se_var 1) se_int))) se_int) se_int))
      (ss_one (ss_ret (own := []) (se_op os_mod (se_op os_mod (se_op os_plus (se_op os_times (se_var 3) (se_var 3)) (se_op os_div (se_var 3) se_int)) se_int) (se_var 2)))))
theorem s__law_game (T : Top K mg cl.c tc) (g__law_pick : Fn P w K mg base cl 2 "_law_pick" 3 (dPick pk)) : ∀ n : Nat, Fn P w K mg base cl (3 + n) "_law_game" 5 (d__law_game pk n) := by
  intro n
  induction n with
  | zero =>
    skip
    obtain ⟨f, fd, F, hm, hb⟩ := T.f__law_game
    exact Fn.none F hm hb rfl
  | succ n ih =>
    have G__law_game := ih
    skip
    · obtain ⟨f, fd, F, hm, hb⟩ := T.f__law_game
      exact fn_mk (k := 3 + n) (own := []) F sc__law_game hm hb rfl rfl fun cdv A outer s H E gd hr =>
        (ss_cons (ss_set (own := []) (i := 5) gd (se_op os_times se_int (se_var 1)))
      (ss_cons (ss_set (own := []) (i := 6) gd (se_ixD (u65 hr) (se_lst (sa_cons se_int (sa_cons se_int (sa_cons se_int (sa_cons se_int (sa_cons se_int sa_nil)))))) (se_call g__law_pick (hr.mono (by omega)) gd.tk (sa_cons (se_var 0) (sa_cons (se_var 5) (sa_cons se_int sa_nil))))))
      (ss_cons (ss_if (own := []) (own1 := []) (st_cmp (os_eq hr.units) (se_var 1) se_int) (ss_one (ss_set (own := []) (i := 6) gd (se_callB (cs_max2 gd.calm) (by decide +kernel) (sa_cons se_int (sa_cons (se_var 6) sa_nil)) T.m_max))) ss_nil)
      (ss_cons (ss_if (own := []) (own1 := []) (SW.st (sw_or (st_cmp (os_eq hr.units) (se_var 3) se_int) (sw_one (st_cmp (os_eq hr.units) (se_var 6) se_int)))) (ss_one (ss_ret (own := []) (se_tup (sa_cons (se_var 2) sa_nil)))) ss_nil)
      (ss_cons (ss_setN (own := []) (i := 7) gd (sn_lst sa_nil))
      (ss_cons (ss_if (own := [7]) (own1 := []) (st_truth (se_var 4)) (ss_cons (ss_par (own := [7]) (i := 12) (j := 13) gd (sa_cons (se_op os_plus se_int (se_call g__law_pick (hr.mono (by omega)) gd.tk (sa_cons (se_var 0) (sa_cons (se_op os_plus (se_var 5) se_int) (sa_cons se_int sa_nil))))) (sa_cons (se_op os_plus se_int (se_call g__law_pick (hr.mono (by omega)) gd.tk (sa_cons (se_var 0) (sa_cons (se_op os_plus (se_var 5) se_int) (sa_cons se_int sa_nil))))) sa_nil)))
      (ss_cons (ss_setN (own := [7]) (i := 7) gd (sn_lst (sa_cons (se_tup (sa_cons (se_var 13) (sa_cons (se_var 12) sa_nil))) (sa_cons (se_tup (sa_cons (se_var 12) (sa_cons (se_op os_sub se_int (se_var 13)) sa_nil))) (sa_cons (se_tup (sa_cons (se_op os_plus se_int (se_call g__law_pick (hr.mono (by omega)) gd.tk (sa_cons (se_var 0) (sa_cons (se_op os_plus (se_var 5) se_int) (sa_cons se_int sa_nil))))) (sa_cons se_int sa_nil))) sa_nil)))))
      (ss_one (SS.pre (own := [7]) (ss_set (own := []) (i := 7) gd (se_if (st_cmp (os_eq hr.units) (se_var 6) se_int) (se_slice (se_var 7) (so_some se_int) so_none) (se_slice (se_var 7) so_none (so_some (se_var 6))))))))) (SSs.post (own2 := []) (ss_one (ss_for (own := [7]) gd (si_range1 (sa_cons (se_var 6) sa_nil) T.m_range) (sg_name 9 gd.nd) (ss_one (ss_app (own := [7]) (i := 7) (se_tup (sa_cons (se_op os_plus se_int (se_call g__law_pick (hr.mono (by omega)) gd.tk (sa_cons (se_var 0) (sa_cons (se_op os_plus (se_op os_plus (se_var 5) se_int) (se_var 9)) (sa_cons se_int sa_nil))))) (sa_cons (se_op os_sub (se_call g__law_pick (hr.mono (by omega)) gd.tk (sa_cons (se_var 0) (sa_cons (se_op os_plus (se_op os_plus (se_var 5) se_int) (se_var 9)) (sa_cons se_int sa_nil)))) se_int) sa_nil)))))))))
      (ss_cons (ss_if (own := []) (own1 := []) (st_cmp (os_eq hr.units) (se_call g__law_pick (hr.mono (by omega)) gd.tk (sa_cons (se_var 0) (sa_cons (se_op os_plus (se_var 5) se_int) (sa_cons se_int sa_nil)))) se_int) (ss_one (ss_set (own := []) (i := 7) gd (se_revA (se_var 7)))) ss_nil)
      (ss_cons (ss_setN (own := []) (i := 8) gd (sn_lst sa_nil))
      (ss_cons (ss_for (own := [8]) gd (si_enum (sa_cons (se_var 7) sa_nil) T.m_enumerate) (sg_tup gd.calm (sgs_cons (sg_name 9 gd.nd) (sgs_cons (sg_tup gd.calm (sgs_cons (sg_name 10 gd.nd) (sgs_cons (sg_name 11 gd.nd) sgs_nil))) sgs_nil))) (ss_one (ss_app (own := [8]) (i := 8) (se_tup (sa_cons (se_var 10) (sa_cons (se_call G__law_game (hr.mono (by omega)) gd.tk (sa_cons (se_var 0) (sa_cons (se_op os_plus (se_op os_plus (se_op os_times se_int (se_var 1)) se_int) (se_var 9)) (sa_cons (se_op os_plus (se_var 2) (se_var 11)) (sa_cons (se_op os_sub (se_var 3) se_int) (sa_cons (se_var 4) sa_nil)))))) sa_nil))))))
      (ss_one (ss_ret (own := [8]) (se_tup (sa_cons (se_var 2) (sa_cons (se_callTy cs_tuple (by decide +kernel) (sa_cons (se_var 8) sa_nil) T.m_tuple) sa_nil))))))))))))))
theorem s__law_drawn (T : Top K mg cl.c tc) (g__law_pick : Fn P w K mg base cl 2 "_law_pick" 3 (dPick pk)) (g__law_game : Fn P w K mg base cl 11 "_law_game" 5 (d__law_game pk 8)) : Fn P w K mg base cl 12 "_law_drawn" 2 (d__law_drawn pk) := by
  obtain ⟨f, fd, F, hm, hb⟩ := T.f__law_drawn
  exact fn_mk (k := 11) (own := []) F sc__law_drawn hm hb rfl rfl fun cdv A outer s H E gd hr =>
      (ss_one (ss_ret (own := []) (se_call g__law_game (hr.mono (by decide)) gd.tk (sa_cons (se_var 0) (sa_cons se_int (sa_cons (se_op os_sub (se_call g__law_pick (hr.mono (by decide)) gd.tk (sa_cons (se_var 0) (sa_cons se_int (sa_cons se_int sa_nil)))) se_int) (sa_cons (se_var 1) (sa_cons (se_cmp (os_eq hr.units) (se_call g__law_pick (hr.mono (by decide)) gd.tk (sa_cons (se_var 0) (sa_cons se_int (sa_cons se_int sa_nil)))) se_int) sa_nil))))))))
theorem s__law_stays {lf : PLS → RP D} (T : Top K mg cl.c tc) (V : FnVl P w K mg base cl C 18 lf)  : FnA P w K mg base cl C 19 "_law_stays" 1 (e__law_stays lf) := by
  obtain ⟨f, fd, F, hm, hb⟩ := T.f__law_stays
  exact fnA_mk (k := 18) (own := []) F sc__law_stays hm hb rfl rfl fun cdv A outer s H E gd hr =>
      (es_cons (es_setF (own := []) (i := 1) gd (ne_callF0 0 V (hr.mono (by decide)) gd.tk))
      (es_cons (es_pure (own := [1]) (own1 := [1]) fun F => (ss_if (own := [1]) (own1 := [1]) (st_not (st_truth (se_isiT kit_list (by decide +kernel) (se_var 1) T.m_isinstance T.m_list))) (ss_one (ss_ret (own := [1]) se_bl)) ss_nil))
      (es_cons (es_pure (own := [1]) (own1 := [1]) fun F => (ss_cpO (own := [1]) (i := 2) (j := 1) gd T.m_list))
      (es_cons (es_pure (own := [1]) (own1 := [1]) fun F => (ss_app (own := [1]) (i := 1) se_str))
      (es_one (es_ret (own := [1]) (ee_cmp (fun F => (os_eq hr.units)) (SNe.eeL (ne_callF0 0 V (hr.mono (by decide)) gd.tk)) (ee_pure fun F => (se_var 2)))))))))
theorem w__law_stays {lf : PLS → RP D} (T : Top K mg cl.c tc) (V : FnVl P w K mg base cl C 18 lf) : FnA P w K mg base cl C 19 "_law_stays" 1 (e__law_stays lf) := by

  exact s__law_stays T V 
set_option maxHeartbeats 0 in
theorem s_law (T : Top K mg cl.c tc) (g__law_pick : ∀ F, Fn P w K mg base (cl.at F) 2 "_law_pick" 3 (dPick pk)) (tb_rule_at : TabAt base mg cl "rule_at" (tc 0)) (tb_law : TabAt base mg cl "law" (tc 1)) {f : Addr} {fd : FuncData} (F : FunC K "law" (topS 53) f fd (tc 1)) : FnOk P w K mg base (L2.CX P w) 20 f fd ["script"] (spE K cl C 1 (e_law pk)) := by
  have g_divisor : ∀ F, Fn P w K mg base (cl.at F) 1 "divisor" 2 d_divisor := fun F => s_divisor (cl := cl.at F) T 
  have g_share : ∀ F, Fn P w K mg base (cl.at F) 2 "share" 2 d_share := fun F => s_share (cl := cl.at F) T (g_divisor F)
  have g_plus : ∀ F, Fn P w K mg base (cl.at F) 3 "plus" 2 d_plus := fun F => s_plus (cl := cl.at F) T (g_share F)
  have g_less : ∀ F, Fn P w K mg base (cl.at F) 3 "less" 2 d_less := fun F => s_less (cl := cl.at F) T (g_share F)
  have g_times : ∀ F, Fn P w K mg base (cl.at F) 3 "times" 2 d_times := fun F => s_times (cl := cl.at F) T (g_share F)
  have g_all_plus : ∀ F, Fn P w K mg base (cl.at F) 4 "all_plus" 1 d_all_plus := fun F => s_all_plus (cl := cl.at F) T (g_plus F)
  have g_is_whole : ∀ F, Fn P w K mg base (cl.at F) 1 "is_whole" 3 d_is_whole := fun F => s_is_whole (cl := cl.at F) T 
  have g_is_game_in : ∀ F, Fn P w K mg base (cl.at F) 10 "is_game_in" 2 (d_is_game_in 8) := fun F => s_is_game_in (cl := cl.at F) T (g_is_whole F) 8
  have g_is_game : ∀ F, Fn P w K mg base (cl.at F) 11 "is_game" 1 d_is_game := fun F => s_is_game (cl := cl.at F) T (g_is_game_in F)
  have g_look_game : ∀ F, Fn P w K mg base (cl.at F) 12 "look_game" 1 d_look_game := fun F => s_look_game (cl := cl.at F) T (g_is_game F)
  have g_is_end : ∀ F, Fn P w K mg base (cl.at F) 1 "is_end" 1 d_is_end := fun F => s_is_end (cl := cl.at F) T 
  have g_ways_of : ∀ F, Fn P w K mg base (cl.at F) 1 "ways_of" 1 d_ways_of := fun F => s_ways_of (cl := cl.at F) T 
  have g_paths_of : ∀ F, Fn P w K mg base (cl.at F) 10 "paths_of" 1 (d_paths_of 8) := fun F => s_paths_of (cl := cl.at F) T (g_ways_of F) 8
  have g_part_of : ∀ F, Fn P w K mg base (cl.at F) 2 "part_of" 2 d_part_of := fun F => s_part_of (cl := cl.at F) T (g_ways_of F)
  have g_is_path : ∀ F, Fn P w K mg base (cl.at F) 2 "is_path" 2 d_is_path := fun F => s_is_path (cl := cl.at F) T (g_ways_of F) (g_is_whole F)
  have g_ends_of : ∀ F, Fn P w K mg base (cl.at F) 11 "ends_of" 1 d_ends_of := fun F => s_ends_of (cl := cl.at F) T (g_paths_of F) (g_part_of F) (g_is_end F)
  have g_shares_of : ∀ F, Fn P w K mg base (cl.at F) 3 "shares_of" 1 d_shares_of := fun F => s_shares_of (cl := cl.at F) T (g_ways_of F) (g_share F)
  have g_chance_of : ∀ F, Fn P w K mg base (cl.at F) 4 "chance_of" 2 d_chance_of := fun F => s_chance_of (cl := cl.at F) T (g_shares_of F) (g_times F) (g_ways_of F)
  have g_is_rule_of : ∀ F, Fn P w K mg base (cl.at F) 12 "is_rule_of" 2 d_is_rule_of := fun F => s_is_rule_of (cl := cl.at F) T (g_is_path F) (g_ends_of F)
  have g_is_rule : ∀ F, Fn P w K mg base (cl.at F) 13 "is_rule" 2 d_is_rule := fun F => s_is_rule (cl := cl.at F) T (g_look_game F) (g_is_rule_of F)
  have g_look_rule : ∀ F, Fn P w K mg base (cl.at F) 14 "look_rule" 2 d_look_rule := fun F => s_look_rule (cl := cl.at F) T (g_is_rule F)
  have g_mean_of : ∀ F, Fn P w K mg base (cl.at F) 15 "mean_of" 2 d_mean_of := fun F => s_mean_of (cl := cl.at F) T (g_look_rule F) (g_part_of F) (g_chance_of F) (g_times F) (g_all_plus F)
  have g_rule_at : ∀ F, Fn P w K mg base (cl.at F) 13 "rule_at" 2 d_rule_at := fun F => s_rule_at (cl := cl.at F) T ⟨tb_rule_at.ex⟩ (g_look_game F)
  have g_ahead_of : ∀ F, Fn P w K mg base (cl.at F) 15 "ahead_of" 2 d_ahead_of := fun F => s_ahead_of (cl := cl.at F) T (g_look_game F) (g_look_rule F) (g_paths_of F)
  have gl_ahead_of : FnAl P w K mg base cl C 15 "ahead_of" 2 el_ahead_of := sl_ahead_of T g_look_game g_look_rule g_paths_of
  have g_spread_of : ∀ F, Fn P w K mg base (cl.at F) 5 "spread_of" 2 d_spread_of := fun F => s_spread_of (cl := cl.at F) T (g_part_of F) (g_chance_of F) (g_plus F)
  have gl_spread_of : FnAl P w K mg base cl C 5 "spread_of" 2 el_spread_of := sl_spread_of T g_part_of g_chance_of g_plus
  have g_spread : ∀ F, Fn P w K mg base (cl.at F) 15 "spread" 2 d_spread := fun F => s_spread (cl := cl.at F) T (g_look_game F) (g_look_rule F) (g_spread_of F)
  have gl_spread : FnAl P w K mg base cl C 15 "spread" 2 el_spread := sl_spread T g_look_game g_look_rule gl_spread_of
  have g_last_spread : ∀ F, Fn P w K mg base (cl.at F) 13 "last_spread" 1 d_last_spread := fun F => s_last_spread (cl := cl.at F) T (g_look_game F) (g_ends_of F) (g_spread_of F)
  have g_spread_at : ∀ F, Fn P w K mg base (cl.at F) 16 "spread_at" 2 d_spread_at := fun F => s_spread_at (cl := cl.at F) T (g_look_game F) (g_rule_at F) (g_spread F)
  have gl_spread_at : FnAl P w K mg base cl C 16 "spread_at" 2 el_spread_at := sl_spread_at T g_look_game gl_spread g_rule_at
  have g_mean_at : ∀ F, Fn P w K mg base (cl.at F) 16 "mean_at" 2 d_mean_at := fun F => s_mean_at (cl := cl.at F) T (g_look_game F) (g_rule_at F) (g_mean_of F)
  have g_still_going : ∀ F, Fn P w K mg base (cl.at F) 14 "still_going" 2 d_still_going := fun F => s_still_going (cl := cl.at F) T (g_look_game F) (g_rule_at F) (g_part_of F) (g_is_end F) (g_chance_of F) (g_all_plus F)
  have g_step_means : ∀ F, Fn P w K mg base (cl.at F) 17 "step_means" 1 d_step_means := fun F => s_step_means (cl := cl.at F) T (g_look_game F) (g_mean_at F) (g_less F) (g_still_going F)
  have gl_step_means : FnAl P w K mg base cl C 17 "step_means" 1 el_step_means := sl_step_means T g_look_game g_mean_at g_less g_still_going
  have g_together : ∀ F, Fn P w K mg base (cl.at F) 14 "together" 2 d_together := fun F => s_together (cl := cl.at F) T (g_look_game F) (g_times F) (g_all_plus F) (g_last_spread F)
  have gl_together : FnAl P w K mg base cl C 14 "together" 2 el_together := sl_together T g_look_game g_times g_all_plus g_last_spread
  have g__law_game : ∀ F, Fn P w K mg base (cl.at F) 11 "_law_game" 5 (d__law_game pk 8) := fun F => s__law_game (cl := cl.at F) T (g__law_pick F) 8
  have g__law_drawn : ∀ F, Fn P w K mg base (cl.at F) 12 "_law_drawn" 2 (d__law_drawn pk) := fun F => s__law_drawn (cl := cl.at F) T (g__law_pick F) (g__law_game F)
  obtain ⟨fA__law_stays, fd__law_stays, F__law_stays, hm__law_stays, hb__law_stays⟩ := T.f__law_stays
  exact fnE_okC (k := 19) (own := []) F tb_law sc_law rfl rfl fun A outer s H E gd mk hr =>
      (es_cons (es_pure (own := []) (own1 := []) fun F => (ss_set (own := []) (i := 1) gd (se_call (g__law_drawn F) (hr.mono (by decide)) gd.tk (sa_cons (se_var 0) (sa_cons se_int sa_nil)))))
      (es_cons (es_setL (own := []) (i := 2) gd (ae_cons (ee_lamL (kb := 17) ["game"] [1] mk hm__law_stays F__law_stays.kp (fun cl' Fb hc hn hT V => w__law_stays (hc.symm ▸ T) V) (hr.mono (by decide)) gd.tk (fun f c' A outer s H E gd hr => (ne_callA gl_ahead_of (hr.mono (by decide)) gd.tk (ae_cons (ee_pure fun F => (se_var 0)) (ae_cons (ee_pure fun F => (se_call (g_rule_at F) (hr.mono (by decide)) gd.tk (sa_cons (se_var 0) (sa_cons se_int sa_nil)))) ae_nil)))) (show lamB (defScope (topS 53)) _ _ _ = true from by decide +kernel)) ae_nil))
      (es_cons (es_app (own := [2]) (i := 2) (ee_lamL (kb := 17) ["game"] [1] mk hm__law_stays F__law_stays.kp (fun cl' Fb hc hn hT V => w__law_stays (hc.symm ▸ T) V) (hr.mono (by decide)) gd.tk (fun f c' A outer s H E gd hr => (ne_callA gl_spread_at (hr.mono (by decide)) gd.tk (ae_cons (ee_pure fun F => (se_var 0)) (ae_cons (ee_pure fun F => se_int) ae_nil)))) (show lamB (defScope (topS 53)) _ _ _ = true from by decide +kernel)))
      (es_cons (es_app (own := [2]) (i := 2) (ee_lamL (kb := 17) ["game"] [1] mk hm__law_stays F__law_stays.kp (fun cl' Fb hc hn hT V => w__law_stays (hc.symm ▸ T) V) (hr.mono (by decide)) gd.tk (fun f c' A outer s H E gd hr => (ne_callA gl_step_means (hr.mono (by decide)) gd.tk (ae_cons (ee_pure fun F => (se_var 0)) ae_nil))) (show lamB (defScope (topS 53)) _ _ _ = true from by decide +kernel)))
      (es_cons (es_app (own := [2]) (i := 2) (ee_lamL (kb := 17) ["game"] [1] mk hm__law_stays F__law_stays.kp (fun cl' Fb hc hn hT V => w__law_stays (hc.symm ▸ T) V) (hr.mono (by decide)) gd.tk (fun f c' A outer s H E gd hr => (ne_callA gl_together (hr.mono (by decide)) gd.tk (ae_cons (ee_pure fun F => (se_var 0)) (ae_cons (ee_pure fun F => (se_tup (sa_cons se_int sa_nil))) ae_nil)))) (show lamB (defScope (topS 53)) _ _ _ = true from by decide +kernel)))
      (es_one (es_pure (own := [2]) fun F => (ss_ret (own := [2]) (se_and (se_cmp (os_eq hr.units) (se_var 2) (se_op os_times (se_lst (sa_cons se_bl sa_nil)) se_int)) (se_one (se_isiT kit_tup (by decide +kernel) (se_call (g_rule_at F) (hr.mono (by decide)) gd.tk (sa_cons (se_var 1) (sa_cons se_int sa_nil))) T.m_isinstance T.m_tuple)))))))))))
end
end Kx
namespace Kx
open PySem PySem.Spec L2 Sm
set_option maxHeartbeats 0 in
theorem all_mk {l : PySem.W.OpenLaw} {w : World} {K : PySem.W.Frag} {h : Heap} {mg : Str → Option Value} {fa : Addr} {q : Program} (X : K.In h) (G : h.Ns mainGlobals mg) (hfa : mg "law" = some (.ref fa)) (tabs : AllTabs q mg h)
    {f1 : Addr} {od1 an1 : Option Addr} {sl1 : Array (Option Value)} {oc1 kV1 dc1 pm1 ct1 : Value} {cd1 : Value}
    {f2 : Addr} {od2 an2 : Option Addr} {sl2 : Array (Option Value)} {oc2 kV2 dc2 pm2 ct2 : Value} {cd2 : Value}
    {f3 : Addr} {od3 an3 : Option Addr} {sl3 : Array (Option Value)} {oc3 kV3 dc3 pm3 ct3 : Value} {cd3 : Value}
    {f4 : Addr} {od4 an4 : Option Addr} {sl4 : Array (Option Value)} {oc4 kV4 dc4 pm4 ct4 : Value} {cd4 : Value}
    {f5 : Addr} {od5 an5 : Option Addr} {sl5 : Array (Option Value)} {oc5 kV5 dc5 pm5 ct5 : Value} {cd5 : Value}
    {f6 : Addr} {od6 an6 : Option Addr} {sl6 : Array (Option Value)} {oc6 kV6 dc6 pm6 ct6 : Value} {cd6 : Value}
    {f7 : Addr} {od7 an7 : Option Addr} {sl7 : Array (Option Value)} {oc7 kV7 dc7 pm7 ct7 : Value} {cd7 : Value}
    {f8 : Addr} {od8 an8 : Option Addr} {sl8 : Array (Option Value)} {oc8 kV8 dc8 pm8 ct8 : Value} {cd8 : Value}
    {f9 : Addr} {od9 an9 : Option Addr} {sl9 : Array (Option Value)} {oc9 kV9 dc9 pm9 ct9 : Value} {cd9 : Value}
    {f10 : Addr} {od10 an10 : Option Addr} {sl10 : Array (Option Value)} {oc10 kV10 dc10 pm10 ct10 : Value} {cd10 : Value}
    {f11 : Addr} {od11 an11 : Option Addr} {sl11 : Array (Option Value)} {oc11 kV11 dc11 pm11 ct11 : Value} {cd11 : Value}
    {f12 : Addr} {od12 an12 : Option Addr} {sl12 : Array (Option Value)} {oc12 kV12 dc12 pm12 ct12 : Value} {cd12 : Value}
    {f13 : Addr} {od13 an13 : Option Addr} {sl13 : Array (Option Value)} {oc13 kV13 dc13 pm13 ct13 : Value} {cd13 : Value}
    {f14 : Addr} {od14 an14 : Option Addr} {sl14 : Array (Option Value)} {oc14 kV14 dc14 pm14 ct14 : Value} {cd14 : Value}
    {f15 : Addr} {od15 an15 : Option Addr} {sl15 : Array (Option Value)} {oc15 kV15 dc15 pm15 ct15 : Value} {cd15 : Value}
    {f16 : Addr} {od16 an16 : Option Addr} {sl16 : Array (Option Value)} {oc16 kV16 dc16 pm16 ct16 : Value} {cd16 : Value}
    {f17 : Addr} {od17 an17 : Option Addr} {sl17 : Array (Option Value)} {oc17 kV17 dc17 pm17 ct17 : Value} {cd17 : Value}
    {f18 : Addr} {od18 an18 : Option Addr} {sl18 : Array (Option Value)} {oc18 kV18 dc18 pm18 ct18 : Value} {cd18 : Value}
    {f19 : Addr} {od19 an19 : Option Addr} {sl19 : Array (Option Value)} {oc19 kV19 dc19 pm19 ct19 : Value} {cd19 : Value}
    {f20 : Addr} {od20 an20 : Option Addr} {sl20 : Array (Option Value)} {oc20 kV20 dc20 pm20 ct20 : Value} {cd20 : Value}
    {f21 : Addr} {od21 an21 : Option Addr} {sl21 : Array (Option Value)} {oc21 kV21 dc21 pm21 ct21 : Value} {cd21 : Value}
    {f22 : Addr} {od22 an22 : Option Addr} {sl22 : Array (Option Value)} {oc22 kV22 dc22 pm22 ct22 : Value} {cd22 : Value}
    {f23 : Addr} {od23 an23 : Option Addr} {sl23 : Array (Option Value)} {oc23 kV23 dc23 pm23 ct23 : Value} {cd23 : Value}
    {f24 : Addr} {od24 an24 : Option Addr} {sl24 : Array (Option Value)} {oc24 kV24 dc24 pm24 ct24 : Value} {cd24 : Addr}
    {PT0 : Addr} {ue0 : Value} {ud0 : Option Addr} {uv0 : Array Value} {us0 : Array (Option Value)}
    {f25 : Addr} {od25 an25 : Option Addr} {sl25 : Array (Option Value)} {oc25 kV25 dc25 pm25 ct25 : Value} {cd25 : Value}
    {f26 : Addr} {od26 an26 : Option Addr} {sl26 : Array (Option Value)} {oc26 kV26 dc26 pm26 ct26 : Value} {cd26 : Value}
    {f27 : Addr} {od27 an27 : Option Addr} {sl27 : Array (Option Value)} {oc27 kV27 dc27 pm27 ct27 : Value} {cd27 : Value}
    {f28 : Addr} {od28 an28 : Option Addr} {sl28 : Array (Option Value)} {oc28 kV28 dc28 pm28 ct28 : Value} {cd28 : Value}
    {f29 : Addr} {od29 an29 : Option Addr} {sl29 : Array (Option Value)} {oc29 kV29 dc29 pm29 ct29 : Value} {cd29 : Value}
    {f30 : Addr} {od30 an30 : Option Addr} {sl30 : Array (Option Value)} {oc30 kV30 dc30 pm30 ct30 : Value} {cd30 : Value}
    {f31 : Addr} {od31 an31 : Option Addr} {sl31 : Array (Option Value)} {oc31 kV31 dc31 pm31 ct31 : Value} {cd31 : Value}
    {f32 : Addr} {od32 an32 : Option Addr} {sl32 : Array (Option Value)} {oc32 kV32 dc32 pm32 ct32 : Value} {cd32 : Value}
    {f33 : Addr} {od33 an33 : Option Addr} {sl33 : Array (Option Value)} {oc33 kV33 dc33 pm33 ct33 : Value} {cd33 : Value}
    {f34 : Addr} {od34 an34 : Option Addr} {sl34 : Array (Option Value)} {oc34 kV34 dc34 pm34 ct34 : Value} {cd34 : Value}
    {f35 : Addr} {od35 an35 : Option Addr} {sl35 : Array (Option Value)} {oc35 kV35 dc35 pm35 ct35 : Value} {cd35 : Value}
    {f36 : Addr} {od36 an36 : Option Addr} {sl36 : Array (Option Value)} {oc36 kV36 dc36 pm36 ct36 : Value} {cd36 : Value}
    {f37 : Addr} {od37 an37 : Option Addr} {sl37 : Array (Option Value)} {oc37 kV37 dc37 pm37 ct37 : Value} {cd37 : Value}
    {f38 : Addr} {od38 an38 : Option Addr} {sl38 : Array (Option Value)} {oc38 kV38 dc38 pm38 ct38 : Value} {cd38 : Value}
    {f39 : Addr} {od39 an39 : Option Addr} {sl39 : Array (Option Value)} {oc39 kV39 dc39 pm39 ct39 : Value} {cd39 : Addr}
    {PT1 : Addr} {ue1 : Value} {ud1 : Option Addr} {uv1 : Array Value} {us1 : Array (Option Value)}
    {t0 : Tok}
    {t1 : Tok}
    {t2 : Tok}
    {t3 : Tok}
    {C0 : Addr}
    {C1 : Addr}
    (a1 : PySem.W.nsIn K mainGlobals "divisor" = some (some (.ref f1))) (l1 : K.lookup f1 = some ⟨oc1, od1, .func (PySem.W.fnOf "divisor" "divisor" (defArgs (topS 1)) (defBody (topS 1)) (defScope (topS 1)) .none kV1 dc1 pm1 an1 cd1 ct1), sl1⟩) (e1 : PySem.W.codeIn K cd1 "divisor" = true) (k1 : PySem.W.keepIn K (.ref f1) = true)
    (a2 : PySem.W.nsIn K mainGlobals "share" = some (some (.ref f2))) (l2 : K.lookup f2 = some ⟨oc2, od2, .func (PySem.W.fnOf "share" "share" (defArgs (topS 2)) (defBody (topS 2)) (defScope (topS 2)) .none kV2 dc2 pm2 an2 cd2 ct2), sl2⟩) (e2 : PySem.W.codeIn K cd2 "share" = true) (k2 : PySem.W.keepIn K (.ref f2) = true)
    (a3 : PySem.W.nsIn K mainGlobals "plus" = some (some (.ref f3))) (l3 : K.lookup f3 = some ⟨oc3, od3, .func (PySem.W.fnOf "plus" "plus" (defArgs (topS 3)) (defBody (topS 3)) (defScope (topS 3)) .none kV3 dc3 pm3 an3 cd3 ct3), sl3⟩) (e3 : PySem.W.codeIn K cd3 "plus" = true) (k3 : PySem.W.keepIn K (.ref f3) = true)
    (a4 : PySem.W.nsIn K mainGlobals "less" = some (some (.ref f4))) (l4 : K.lookup f4 = some ⟨oc4, od4, .func (PySem.W.fnOf "less" "less" (defArgs (topS 4)) (defBody (topS 4)) (defScope (topS 4)) .none kV4 dc4 pm4 an4 cd4 ct4), sl4⟩) (e4 : PySem.W.codeIn K cd4 "less" = true) (k4 : PySem.W.keepIn K (.ref f4) = true)
    (a5 : PySem.W.nsIn K mainGlobals "times" = some (some (.ref f5))) (l5 : K.lookup f5 = some ⟨oc5, od5, .func (PySem.W.fnOf "times" "times" (defArgs (topS 5)) (defBody (topS 5)) (defScope (topS 5)) .none kV5 dc5 pm5 an5 cd5 ct5), sl5⟩) (e5 : PySem.W.codeIn K cd5 "times" = true) (k5 : PySem.W.keepIn K (.ref f5) = true)
    (a6 : PySem.W.nsIn K mainGlobals "all_plus" = some (some (.ref f6))) (l6 : K.lookup f6 = some ⟨oc6, od6, .func (PySem.W.fnOf "all_plus" "all_plus" (defArgs (topS 6)) (defBody (topS 6)) (defScope (topS 6)) .none kV6 dc6 pm6 an6 cd6 ct6), sl6⟩) (e6 : PySem.W.codeIn K cd6 "all_plus" = true) (k6 : PySem.W.keepIn K (.ref f6) = true)
    (a7 : PySem.W.nsIn K mainGlobals "is_whole" = some (some (.ref f7))) (l7 : K.lookup f7 = some ⟨oc7, od7, .func (PySem.W.fnOf "is_whole" "is_whole" (defArgs (topS 16)) (defBody (topS 16)) (defScope (topS 16)) .none kV7 dc7 pm7 an7 cd7 ct7), sl7⟩) (e7 : PySem.W.codeIn K cd7 "is_whole" = true) (k7 : PySem.W.keepIn K (.ref f7) = true)
    (a8 : PySem.W.nsIn K mainGlobals "is_game_in" = some (some (.ref f8))) (l8 : K.lookup f8 = some ⟨oc8, od8, .func (PySem.W.fnOf "is_game_in" "is_game_in" (defArgs (topS 17)) (defBody (topS 17)) (defScope (topS 17)) .none kV8 dc8 pm8 an8 cd8 ct8), sl8⟩) (e8 : PySem.W.codeIn K cd8 "is_game_in" = true) (k8 : PySem.W.keepIn K (.ref f8) = true)
    (a9 : PySem.W.nsIn K mainGlobals "is_game" = some (some (.ref f9))) (l9 : K.lookup f9 = some ⟨oc9, od9, .func (PySem.W.fnOf "is_game" "is_game" (defArgs (topS 18)) (defBody (topS 18)) (defScope (topS 18)) .none kV9 dc9 pm9 an9 cd9 ct9), sl9⟩) (e9 : PySem.W.codeIn K cd9 "is_game" = true) (k9 : PySem.W.keepIn K (.ref f9) = true)
    (a10 : PySem.W.nsIn K mainGlobals "look_game" = some (some (.ref f10))) (l10 : K.lookup f10 = some ⟨oc10, od10, .func (PySem.W.fnOf "look_game" "look_game" (defArgs (topS 19)) (defBody (topS 19)) (defScope (topS 19)) .none kV10 dc10 pm10 an10 cd10 ct10), sl10⟩) (e10 : PySem.W.codeIn K cd10 "look_game" = true) (k10 : PySem.W.keepIn K (.ref f10) = true)
    (a11 : PySem.W.nsIn K mainGlobals "is_end" = some (some (.ref f11))) (l11 : K.lookup f11 = some ⟨oc11, od11, .func (PySem.W.fnOf "is_end" "is_end" (defArgs (topS 20)) (defBody (topS 20)) (defScope (topS 20)) .none kV11 dc11 pm11 an11 cd11 ct11), sl11⟩) (e11 : PySem.W.codeIn K cd11 "is_end" = true) (k11 : PySem.W.keepIn K (.ref f11) = true)
    (a12 : PySem.W.nsIn K mainGlobals "ways_of" = some (some (.ref f12))) (l12 : K.lookup f12 = some ⟨oc12, od12, .func (PySem.W.fnOf "ways_of" "ways_of" (defArgs (topS 21)) (defBody (topS 21)) (defScope (topS 21)) .none kV12 dc12 pm12 an12 cd12 ct12), sl12⟩) (e12 : PySem.W.codeIn K cd12 "ways_of" = true) (k12 : PySem.W.keepIn K (.ref f12) = true)
    (a13 : PySem.W.nsIn K mainGlobals "paths_of" = some (some (.ref f13))) (l13 : K.lookup f13 = some ⟨oc13, od13, .func (PySem.W.fnOf "paths_of" "paths_of" (defArgs (topS 22)) (defBody (topS 22)) (defScope (topS 22)) .none kV13 dc13 pm13 an13 cd13 ct13), sl13⟩) (e13 : PySem.W.codeIn K cd13 "paths_of" = true) (k13 : PySem.W.keepIn K (.ref f13) = true)
    (a14 : PySem.W.nsIn K mainGlobals "part_of" = some (some (.ref f14))) (l14 : K.lookup f14 = some ⟨oc14, od14, .func (PySem.W.fnOf "part_of" "part_of" (defArgs (topS 23)) (defBody (topS 23)) (defScope (topS 23)) .none kV14 dc14 pm14 an14 cd14 ct14), sl14⟩) (e14 : PySem.W.codeIn K cd14 "part_of" = true) (k14 : PySem.W.keepIn K (.ref f14) = true)
    (a15 : PySem.W.nsIn K mainGlobals "is_path" = some (some (.ref f15))) (l15 : K.lookup f15 = some ⟨oc15, od15, .func (PySem.W.fnOf "is_path" "is_path" (defArgs (topS 24)) (defBody (topS 24)) (defScope (topS 24)) .none kV15 dc15 pm15 an15 cd15 ct15), sl15⟩) (e15 : PySem.W.codeIn K cd15 "is_path" = true) (k15 : PySem.W.keepIn K (.ref f15) = true)
    (a16 : PySem.W.nsIn K mainGlobals "ends_of" = some (some (.ref f16))) (l16 : K.lookup f16 = some ⟨oc16, od16, .func (PySem.W.fnOf "ends_of" "ends_of" (defArgs (topS 25)) (defBody (topS 25)) (defScope (topS 25)) .none kV16 dc16 pm16 an16 cd16 ct16), sl16⟩) (e16 : PySem.W.codeIn K cd16 "ends_of" = true) (k16 : PySem.W.keepIn K (.ref f16) = true)
    (a17 : PySem.W.nsIn K mainGlobals "shares_of" = some (some (.ref f17))) (l17 : K.lookup f17 = some ⟨oc17, od17, .func (PySem.W.fnOf "shares_of" "shares_of" (defArgs (topS 26)) (defBody (topS 26)) (defScope (topS 26)) .none kV17 dc17 pm17 an17 cd17 ct17), sl17⟩) (e17 : PySem.W.codeIn K cd17 "shares_of" = true) (k17 : PySem.W.keepIn K (.ref f17) = true)
    (a18 : PySem.W.nsIn K mainGlobals "chance_of" = some (some (.ref f18))) (l18 : K.lookup f18 = some ⟨oc18, od18, .func (PySem.W.fnOf "chance_of" "chance_of" (defArgs (topS 27)) (defBody (topS 27)) (defScope (topS 27)) .none kV18 dc18 pm18 an18 cd18 ct18), sl18⟩) (e18 : PySem.W.codeIn K cd18 "chance_of" = true) (k18 : PySem.W.keepIn K (.ref f18) = true)
    (a19 : PySem.W.nsIn K mainGlobals "is_rule_of" = some (some (.ref f19))) (l19 : K.lookup f19 = some ⟨oc19, od19, .func (PySem.W.fnOf "is_rule_of" "is_rule_of" (defArgs (topS 29)) (defBody (topS 29)) (defScope (topS 29)) .none kV19 dc19 pm19 an19 cd19 ct19), sl19⟩) (e19 : PySem.W.codeIn K cd19 "is_rule_of" = true) (k19 : PySem.W.keepIn K (.ref f19) = true)
    (a20 : PySem.W.nsIn K mainGlobals "is_rule" = some (some (.ref f20))) (l20 : K.lookup f20 = some ⟨oc20, od20, .func (PySem.W.fnOf "is_rule" "is_rule" (defArgs (topS 30)) (defBody (topS 30)) (defScope (topS 30)) .none kV20 dc20 pm20 an20 cd20 ct20), sl20⟩) (e20 : PySem.W.codeIn K cd20 "is_rule" = true) (k20 : PySem.W.keepIn K (.ref f20) = true)
    (a21 : PySem.W.nsIn K mainGlobals "look_rule" = some (some (.ref f21))) (l21 : K.lookup f21 = some ⟨oc21, od21, .func (PySem.W.fnOf "look_rule" "look_rule" (defArgs (topS 31)) (defBody (topS 31)) (defScope (topS 31)) .none kV21 dc21 pm21 an21 cd21 ct21), sl21⟩) (e21 : PySem.W.codeIn K cd21 "look_rule" = true) (k21 : PySem.W.keepIn K (.ref f21) = true)
    (a22 : PySem.W.nsIn K mainGlobals "mean_of" = some (some (.ref f22))) (l22 : K.lookup f22 = some ⟨oc22, od22, .func (PySem.W.fnOf "mean_of" "mean_of" (defArgs (topS 32)) (defBody (topS 32)) (defScope (topS 32)) .none kV22 dc22 pm22 an22 cd22 ct22), sl22⟩) (e22 : PySem.W.codeIn K cd22 "mean_of" = true) (k22 : PySem.W.keepIn K (.ref f22) = true)
    (a23 : PySem.W.nsIn K mainGlobals "first_met" = some (some (.ref f23))) (l23 : K.lookup f23 = some ⟨oc23, od23, .func (PySem.W.fnOf "first_met" "first_met" (defArgs (topS 34)) (defBody (topS 34)) (defScope (topS 34)) .none kV23 dc23 pm23 an23 cd23 ct23), sl23⟩) (e23 : PySem.W.codeIn K cd23 "first_met" = true) (k23 : PySem.W.keepIn K (.ref f23) = true)
    (a24 : PySem.W.nsIn K mainGlobals "rule_at" = some (some (.ref f24))) (l24 : K.lookup f24 = some ⟨oc24, od24, .func (PySem.W.fnOf "rule_at" "rule_at" (defArgs (topS 35)) (defBody (topS 35)) (defScope (topS 35)) .none kV24 dc24 pm24 an24 (.ref cd24) ct24), sl24⟩) (e24 : PySem.W.codeIn K (.ref cd24) "rule_at" = true) (k24 : PySem.W.keepIn K (.ref f24) = true)
    (u0 : K.lookup cd24 = some ⟨ue0, ud0, .fields uv0, us0⟩) (v0 : uv0[11]? = some (.ref PT0)) (n0 : K.lookup PT0 = none) (r0 : ((PyProof.Rows.recsOf q).any fun e => e.name == "rule_at") = true)
    (a25 : PySem.W.nsIn K mainGlobals "ahead_of" = some (some (.ref f25))) (l25 : K.lookup f25 = some ⟨oc25, od25, .func (PySem.W.fnOf "ahead_of" "ahead_of" (defArgs (topS 36)) (defBody (topS 36)) (defScope (topS 36)) .none kV25 dc25 pm25 an25 cd25 ct25), sl25⟩) (e25 : PySem.W.codeIn K cd25 "ahead_of" = true) (k25 : PySem.W.keepIn K (.ref f25) = true)
    (a26 : PySem.W.nsIn K mainGlobals "spread_of" = some (some (.ref f26))) (l26 : K.lookup f26 = some ⟨oc26, od26, .func (PySem.W.fnOf "spread_of" "spread_of" (defArgs (topS 38)) (defBody (topS 38)) (defScope (topS 38)) .none kV26 dc26 pm26 an26 cd26 ct26), sl26⟩) (e26 : PySem.W.codeIn K cd26 "spread_of" = true) (k26 : PySem.W.keepIn K (.ref f26) = true)
    (a27 : PySem.W.nsIn K mainGlobals "spread" = some (some (.ref f27))) (l27 : K.lookup f27 = some ⟨oc27, od27, .func (PySem.W.fnOf "spread" "spread" (defArgs (topS 39)) (defBody (topS 39)) (defScope (topS 39)) .none kV27 dc27 pm27 an27 cd27 ct27), sl27⟩) (e27 : PySem.W.codeIn K cd27 "spread" = true) (k27 : PySem.W.keepIn K (.ref f27) = true)
    (a28 : PySem.W.nsIn K mainGlobals "last_spread" = some (some (.ref f28))) (l28 : K.lookup f28 = some ⟨oc28, od28, .func (PySem.W.fnOf "last_spread" "last_spread" (defArgs (topS 40)) (defBody (topS 40)) (defScope (topS 40)) .none kV28 dc28 pm28 an28 cd28 ct28), sl28⟩) (e28 : PySem.W.codeIn K cd28 "last_spread" = true) (k28 : PySem.W.keepIn K (.ref f28) = true)
    (a29 : PySem.W.nsIn K mainGlobals "spread_at" = some (some (.ref f29))) (l29 : K.lookup f29 = some ⟨oc29, od29, .func (PySem.W.fnOf "spread_at" "spread_at" (defArgs (topS 42)) (defBody (topS 42)) (defScope (topS 42)) .none kV29 dc29 pm29 an29 cd29 ct29), sl29⟩) (e29 : PySem.W.codeIn K cd29 "spread_at" = true) (k29 : PySem.W.keepIn K (.ref f29) = true)
    (a30 : PySem.W.nsIn K mainGlobals "mean_at" = some (some (.ref f30))) (l30 : K.lookup f30 = some ⟨oc30, od30, .func (PySem.W.fnOf "mean_at" "mean_at" (defArgs (topS 43)) (defBody (topS 43)) (defScope (topS 43)) .none kV30 dc30 pm30 an30 cd30 ct30), sl30⟩) (e30 : PySem.W.codeIn K cd30 "mean_at" = true) (k30 : PySem.W.keepIn K (.ref f30) = true)
    (a31 : PySem.W.nsIn K mainGlobals "still_going" = some (some (.ref f31))) (l31 : K.lookup f31 = some ⟨oc31, od31, .func (PySem.W.fnOf "still_going" "still_going" (defArgs (topS 44)) (defBody (topS 44)) (defScope (topS 44)) .none kV31 dc31 pm31 an31 cd31 ct31), sl31⟩) (e31 : PySem.W.codeIn K cd31 "still_going" = true) (k31 : PySem.W.keepIn K (.ref f31) = true)
    (a32 : PySem.W.nsIn K mainGlobals "step_means" = some (some (.ref f32))) (l32 : K.lookup f32 = some ⟨oc32, od32, .func (PySem.W.fnOf "step_means" "step_means" (defArgs (topS 45)) (defBody (topS 45)) (defScope (topS 45)) .none kV32 dc32 pm32 an32 cd32 ct32), sl32⟩) (e32 : PySem.W.codeIn K cd32 "step_means" = true) (k32 : PySem.W.keepIn K (.ref f32) = true)
    (a33 : PySem.W.nsIn K mainGlobals "together" = some (some (.ref f33))) (l33 : K.lookup f33 = some ⟨oc33, od33, .func (PySem.W.fnOf "together" "together" (defArgs (topS 46)) (defBody (topS 46)) (defScope (topS 46)) .none kV33 dc33 pm33 an33 cd33 ct33), sl33⟩) (e33 : PySem.W.codeIn K cd33 "together" = true) (k33 : PySem.W.keepIn K (.ref f33) = true)
    (a34 : PySem.W.nsIn K mainGlobals "_law_cell" = some (some (.ref f34))) (l34 : K.lookup f34 = some ⟨oc34, od34, .func (PySem.W.fnOf "_law_cell" "_law_cell" (defArgs (topS 48)) (defBody (topS 48)) (defScope (topS 48)) .none kV34 dc34 pm34 an34 cd34 ct34), sl34⟩) (e34 : PySem.W.codeIn K cd34 "_law_cell" = true) (k34 : PySem.W.keepIn K (.ref f34) = true)
    (a35 : PySem.W.nsIn K mainGlobals "_law_pick" = some (some (.ref f35))) (l35 : K.lookup f35 = some ⟨oc35, od35, .func (PySem.W.fnOf "_law_pick" "_law_pick" (defArgs (topS 49)) (defBody (topS 49)) (defScope (topS 49)) .none kV35 dc35 pm35 an35 cd35 ct35), sl35⟩) (e35 : PySem.W.codeIn K cd35 "_law_pick" = true) (k35 : PySem.W.keepIn K (.ref f35) = true)
    (a36 : PySem.W.nsIn K mainGlobals "_law_game" = some (some (.ref f36))) (l36 : K.lookup f36 = some ⟨oc36, od36, .func (PySem.W.fnOf "_law_game" "_law_game" (defArgs (topS 50)) (defBody (topS 50)) (defScope (topS 50)) .none kV36 dc36 pm36 an36 cd36 ct36), sl36⟩) (e36 : PySem.W.codeIn K cd36 "_law_game" = true) (k36 : PySem.W.keepIn K (.ref f36) = true)
    (a37 : PySem.W.nsIn K mainGlobals "_law_drawn" = some (some (.ref f37))) (l37 : K.lookup f37 = some ⟨oc37, od37, .func (PySem.W.fnOf "_law_drawn" "_law_drawn" (defArgs (topS 51)) (defBody (topS 51)) (defScope (topS 51)) .none kV37 dc37 pm37 an37 cd37 ct37), sl37⟩) (e37 : PySem.W.codeIn K cd37 "_law_drawn" = true) (k37 : PySem.W.keepIn K (.ref f37) = true)
    (a38 : PySem.W.nsIn K mainGlobals "_law_stays" = some (some (.ref f38))) (l38 : K.lookup f38 = some ⟨oc38, od38, .func (PySem.W.fnOf "_law_stays" "_law_stays" (defArgs (topS 52)) (defBody (topS 52)) (defScope (topS 52)) .none kV38 dc38 pm38 an38 cd38 ct38), sl38⟩) (e38 : PySem.W.codeIn K cd38 "_law_stays" = true) (k38 : PySem.W.keepIn K (.ref f38) = true)
    (a39 : PySem.W.nsIn K mainGlobals "law" = some (some (.ref f39))) (l39 : K.lookup f39 = some ⟨oc39, od39, .func (PySem.W.fnOf "law" "law" (defArgs (topS 53)) (defBody (topS 53)) (defScope (topS 53)) .none kV39 dc39 pm39 an39 (.ref cd39) ct39), sl39⟩) (e39 : PySem.W.codeIn K (.ref cd39) "law" = true) (k39 : PySem.W.keepIn K (.ref f39) = true)
    (u1 : K.lookup cd39 = some ⟨ue1, ud1, .fields uv1, us1⟩) (v1 : uv1[11]? = some (.ref PT1)) (n1 : K.lookup PT1 = none) (r1 : ((PyProof.Rows.recsOf q).any fun e => e.name == "law") = true)
    (z0 : PySem.W.nsIn K mainGlobals "abs" = some none)
    (z1 : PySem.W.nsIn K mainGlobals "isinstance" = some none)
    (z2 : PySem.W.nsIn K mainGlobals "int" = some none)
    (z3 : PySem.W.nsIn K mainGlobals "bool" = some none)
    (z4 : PySem.W.nsIn K mainGlobals "tuple" = some none)
    (z5 : PySem.W.nsIn K mainGlobals "len" = some none)
    (z6 : PySem.W.nsIn K mainGlobals "all" = some none)
    (z7 : PySem.W.nsIn K mainGlobals "enumerate" = some none)
    (z8 : PySem.W.nsIn K mainGlobals "sum" = some none)
    (z9 : PySem.W.nsIn K mainGlobals "list" = some none)
    (z10 : PySem.W.nsIn K mainGlobals "sorted" = some none)
    (z11 : PySem.W.nsIn K mainGlobals "set" = some none)
    (z12 : PySem.W.nsIn K mainGlobals "range" = some none)
    (z13 : PySem.W.nsIn K mainGlobals "any" = some none)
    (z14 : PySem.W.nsIn K mainGlobals "max" = some none)
    (y0 : PySem.W.nsIn K mainGlobals "GREATEST" = some (some (.int 20 t0)))
    (y1 : PySem.W.nsIn K mainGlobals "MOST_WAYS" = some (some (.int 3 t1)))
    (y2 : PySem.W.nsIn K mainGlobals "HEAVIEST" = some (some (.int 9 t2)))
    (y3 : PySem.W.nsIn K mainGlobals "DEEPEST" = some (some (.int 4 t3)))
    (xa0 : PySem.W.nsIn K mainGlobals "NoGame" = some (some (.ref C0))) (xe0 : PySem.W.excIn K C0 veB "ValueError.__new__" = true) (xk0 : PySem.W.keepIn K (.ref C0) = true) (xb0 : PySem.W.subIn K (.ref C0) (.type "BaseException") = some true) (xt0 : PySem.W.typeIn K (.ref C0) = some (.type "type"))
    (xa1 : PySem.W.nsIn K mainGlobals "NoRule" = some (some (.ref C1))) (xe1 : PySem.W.excIn K C1 veB "ValueError.__new__" = true) (xk1 : PySem.W.keepIn K (.ref C1) = true) (xb1 : PySem.W.subIn K (.ref C1) (.type "BaseException") = some true) (xt1 : PySem.W.typeIn K (.ref C1) = some (.type "type"))
    (dd0_1 : PT0 ≠ PT1)
    (dd1_0 : PT1 ≠ PT0) :
    LamX.LawAtS l w K (L2.CX l.prog w) 20 63 "script" mg fa h := by
  have e := hfa.symm.trans (PySem.W.mg_of X G a39)
  cases e
  have T : Top K mg (fun i => [0, C0, 0, C1, 0, 0, 0, 0].getD i 0) (fun i => [cd24, cd39].getD i 0) := {
    m_abs := PySem.W.mg_none_of X G z0,
    m_isinstance := PySem.W.mg_none_of X G z1,
    m_int := PySem.W.mg_none_of X G z2,
    m_bool := PySem.W.mg_none_of X G z3,
    m_tuple := PySem.W.mg_none_of X G z4,
    m_len := PySem.W.mg_none_of X G z5,
    m_all := PySem.W.mg_none_of X G z6,
    m_enumerate := PySem.W.mg_none_of X G z7,
    m_sum := PySem.W.mg_none_of X G z8,
    m_list := PySem.W.mg_none_of X G z9,
    m_sorted := PySem.W.mg_none_of X G z10,
    m_set := PySem.W.mg_none_of X G z11,
    m_range := PySem.W.mg_none_of X G z12,
    m_any := PySem.W.mg_none_of X G z13,
    m_max := PySem.W.mg_none_of X G z14,
    c_GREATEST := ⟨t0, PySem.W.mg_of X G y0⟩,
    c_MOST_WAYS := ⟨t1, PySem.W.mg_of X G y1⟩,
    c_HEAVIEST := ⟨t2, PySem.W.mg_of X G y2⟩,
    c_DEEPEST := ⟨t3, PySem.W.mg_of X G y3⟩,
    x_NoGame := ⟨PySem.W.mg_of X G xa0, xe0, xk0, xb0, xt0⟩,
    x_NoRule := ⟨PySem.W.mg_of X G xa1, xe1, xk1, xb1, xt1⟩,
    f_divisor := ⟨_, _, fun_mk l1 e1 k1, PySem.W.mg_of X G a1, (fun_mk l1 e1 k1).binds fun _ _ _ _ _ _ us hl => match us, hl with | [_, _], _ => rfl⟩,
    f_share := ⟨_, _, fun_mk l2 e2 k2, PySem.W.mg_of X G a2, (fun_mk l2 e2 k2).binds fun _ _ _ _ _ _ us hl => match us, hl with | [_, _], _ => rfl⟩,
    f_plus := ⟨_, _, fun_mk l3 e3 k3, PySem.W.mg_of X G a3, (fun_mk l3 e3 k3).binds fun _ _ _ _ _ _ us hl => match us, hl with | [_, _], _ => rfl⟩,
    f_less := ⟨_, _, fun_mk l4 e4 k4, PySem.W.mg_of X G a4, (fun_mk l4 e4 k4).binds fun _ _ _ _ _ _ us hl => match us, hl with | [_, _], _ => rfl⟩,
    f_times := ⟨_, _, fun_mk l5 e5 k5, PySem.W.mg_of X G a5, (fun_mk l5 e5 k5).binds fun _ _ _ _ _ _ us hl => match us, hl with | [_, _], _ => rfl⟩,
    f_all_plus := ⟨_, _, fun_mk l6 e6 k6, PySem.W.mg_of X G a6, (fun_mk l6 e6 k6).binds fun _ _ _ _ _ _ us hl => match us, hl with | [_], _ => rfl⟩,
    f_is_whole := ⟨_, _, fun_mk l7 e7 k7, PySem.W.mg_of X G a7, (fun_mk l7 e7 k7).binds fun _ _ _ _ _ _ us hl => match us, hl with | [_, _, _], _ => rfl⟩,
    f_is_game_in := ⟨_, _, fun_mk l8 e8 k8, PySem.W.mg_of X G a8, (fun_mk l8 e8 k8).binds fun _ _ _ _ _ _ us hl => match us, hl with | [_, _], _ => rfl⟩,
    f_is_game := ⟨_, _, fun_mk l9 e9 k9, PySem.W.mg_of X G a9, (fun_mk l9 e9 k9).binds fun _ _ _ _ _ _ us hl => match us, hl with | [_], _ => rfl⟩,
    f_look_game := ⟨_, _, fun_mk l10 e10 k10, PySem.W.mg_of X G a10, (fun_mk l10 e10 k10).binds fun _ _ _ _ _ _ us hl => match us, hl with | [_], _ => rfl⟩,
    f_is_end := ⟨_, _, fun_mk l11 e11 k11, PySem.W.mg_of X G a11, (fun_mk l11 e11 k11).binds fun _ _ _ _ _ _ us hl => match us, hl with | [_], _ => rfl⟩,
    f_ways_of := ⟨_, _, fun_mk l12 e12 k12, PySem.W.mg_of X G a12, (fun_mk l12 e12 k12).binds fun _ _ _ _ _ _ us hl => match us, hl with | [_], _ => rfl⟩,
    f_paths_of := ⟨_, _, fun_mk l13 e13 k13, PySem.W.mg_of X G a13, (fun_mk l13 e13 k13).binds fun _ _ _ _ _ _ us hl => match us, hl with | [_], _ => rfl⟩,
    f_part_of := ⟨_, _, fun_mk l14 e14 k14, PySem.W.mg_of X G a14, (fun_mk l14 e14 k14).binds fun _ _ _ _ _ _ us hl => match us, hl with | [_, _], _ => rfl⟩,
    f_is_path := ⟨_, _, fun_mk l15 e15 k15, PySem.W.mg_of X G a15, (fun_mk l15 e15 k15).binds fun _ _ _ _ _ _ us hl => match us, hl with | [_, _], _ => rfl⟩,
    f_ends_of := ⟨_, _, fun_mk l16 e16 k16, PySem.W.mg_of X G a16, (fun_mk l16 e16 k16).binds fun _ _ _ _ _ _ us hl => match us, hl with | [_], _ => rfl⟩,
    f_shares_of := ⟨_, _, fun_mk l17 e17 k17, PySem.W.mg_of X G a17, (fun_mk l17 e17 k17).binds fun _ _ _ _ _ _ us hl => match us, hl with | [_], _ => rfl⟩,
    f_chance_of := ⟨_, _, fun_mk l18 e18 k18, PySem.W.mg_of X G a18, (fun_mk l18 e18 k18).binds fun _ _ _ _ _ _ us hl => match us, hl with | [_, _], _ => rfl⟩,
    f_is_rule_of := ⟨_, _, fun_mk l19 e19 k19, PySem.W.mg_of X G a19, (fun_mk l19 e19 k19).binds fun _ _ _ _ _ _ us hl => match us, hl with | [_, _], _ => rfl⟩,
    f_is_rule := ⟨_, _, fun_mk l20 e20 k20, PySem.W.mg_of X G a20, (fun_mk l20 e20 k20).binds fun _ _ _ _ _ _ us hl => match us, hl with | [_, _], _ => rfl⟩,
    f_look_rule := ⟨_, _, fun_mk l21 e21 k21, PySem.W.mg_of X G a21, (fun_mk l21 e21 k21).binds fun _ _ _ _ _ _ us hl => match us, hl with | [_, _], _ => rfl⟩,
    f_mean_of := ⟨_, _, fun_mk l22 e22 k22, PySem.W.mg_of X G a22, (fun_mk l22 e22 k22).binds fun _ _ _ _ _ _ us hl => match us, hl with | [_, _], _ => rfl⟩,
    f_first_met := ⟨_, _, fun_mk l23 e23 k23, PySem.W.mg_of X G a23, (fun_mk l23 e23 k23).binds fun _ _ _ _ _ _ us hl => match us, hl with | [_, _], _ => rfl⟩,
    f_rule_at := ⟨_, _, ⟨⟨_, _, _, _, _, _, _, _, rfl, l24, e24⟩, k24⟩, PySem.W.mg_of X G a24, (fun_mk l24 e24 k24).binds fun _ _ _ _ _ _ us hl => match us, hl with | [_, _], _ => rfl⟩,
    f_ahead_of := ⟨_, _, fun_mk l25 e25 k25, PySem.W.mg_of X G a25, (fun_mk l25 e25 k25).binds fun _ _ _ _ _ _ us hl => match us, hl with | [_, _], _ => rfl⟩,
    f_spread_of := ⟨_, _, fun_mk l26 e26 k26, PySem.W.mg_of X G a26, (fun_mk l26 e26 k26).binds fun _ _ _ _ _ _ us hl => match us, hl with | [_, _], _ => rfl⟩,
    f_spread := ⟨_, _, fun_mk l27 e27 k27, PySem.W.mg_of X G a27, (fun_mk l27 e27 k27).binds fun _ _ _ _ _ _ us hl => match us, hl with | [_, _], _ => rfl⟩,
    f_last_spread := ⟨_, _, fun_mk l28 e28 k28, PySem.W.mg_of X G a28, (fun_mk l28 e28 k28).binds fun _ _ _ _ _ _ us hl => match us, hl with | [_], _ => rfl⟩,
    f_spread_at := ⟨_, _, fun_mk l29 e29 k29, PySem.W.mg_of X G a29, (fun_mk l29 e29 k29).binds fun _ _ _ _ _ _ us hl => match us, hl with | [_, _], _ => rfl⟩,
    f_mean_at := ⟨_, _, fun_mk l30 e30 k30, PySem.W.mg_of X G a30, (fun_mk l30 e30 k30).binds fun _ _ _ _ _ _ us hl => match us, hl with | [_, _], _ => rfl⟩,
    f_still_going := ⟨_, _, fun_mk l31 e31 k31, PySem.W.mg_of X G a31, (fun_mk l31 e31 k31).binds fun _ _ _ _ _ _ us hl => match us, hl with | [_, _], _ => rfl⟩,
    f_step_means := ⟨_, _, fun_mk l32 e32 k32, PySem.W.mg_of X G a32, (fun_mk l32 e32 k32).binds fun _ _ _ _ _ _ us hl => match us, hl with | [_], _ => rfl⟩,
    f_together := ⟨_, _, fun_mk l33 e33 k33, PySem.W.mg_of X G a33, (fun_mk l33 e33 k33).binds fun _ _ _ _ _ _ us hl => match us, hl with | [_, _], _ => rfl⟩,
    f__law_cell := ⟨_, _, fun_mk l34 e34 k34, PySem.W.mg_of X G a34, (fun_mk l34 e34 k34).binds fun _ _ _ _ _ _ us hl => match us, hl with | [_, _], _ => rfl⟩,
    f__law_pick := ⟨_, _, fun_mk l35 e35 k35, PySem.W.mg_of X G a35, (fun_mk l35 e35 k35).binds fun _ _ _ _ _ _ us hl => match us, hl with | [_, _, _], _ => rfl⟩,
    f__law_game := ⟨_, _, fun_mk l36 e36 k36, PySem.W.mg_of X G a36, (fun_mk l36 e36 k36).binds fun _ _ _ _ _ _ us hl => match us, hl with | [_, _, _, _, _], _ => rfl⟩,
    f__law_drawn := ⟨_, _, fun_mk l37 e37 k37, PySem.W.mg_of X G a37, (fun_mk l37 e37 k37).binds fun _ _ _ _ _ _ us hl => match us, hl with | [_, _], _ => rfl⟩,
    f__law_stays := ⟨_, _, fun_mk l38 e38 k38, PySem.W.mg_of X G a38, (fun_mk l38 e38 k38).binds fun _ _ _ _ _ _ us hl => match us, hl with | [_], _ => rfl⟩,
    f_law := ⟨_, _, ⟨⟨_, _, _, _, _, _, _, _, rfl, l39, e39⟩, k39⟩, PySem.W.mg_of X G a39, (fun_mk l39 e39 k39).binds fun _ _ _ _ _ _ us hl => match us, hl with | [_], _ => rfl⟩ }
  obtain ⟨tp0, td0⟩ := tab_of tabs r0 (PySem.W.mg_of X G a24) X l24 rfl u0 v0
  obtain ⟨tp1, td1⟩ := tab_of tabs r1 (PySem.W.mg_of X G a39) X l39 rfl u1 v1
  refine ⟨PySem.W.fnOf "law" "law" (defArgs (topS 53)) (defBody (topS 53)) (defScope (topS 53)) .none kV39 dc39 pm39 an39 (.ref cd39) ct39, [(cd24, PT0), (cd39, PT1)], spT K [(cd24, PT0), (cd39, PT1)], List.forall_mem_cons.mpr ⟨tp0, List.forall_mem_cons.mpr ⟨tp1, fun _ h => nomatch h⟩⟩, List.forall_mem_cons.mpr ⟨n0, List.forall_mem_cons.mpr ⟨n1, fun _ h => nomatch h⟩⟩, List.forall_mem_cons.mpr ⟨td0, List.forall_mem_cons.mpr ⟨td1, fun _ h => nomatch h⟩⟩, ?hb, fun H a ns hl _ hH hS => ⟨a, ns, rfl, hS, hl, hH, fun _ => rfl⟩, fun base _ _ TB => ?hF⟩
  case hb => exact fun s v => .of_eq rfl
  exact law_byTE rfl _ 0 [(PT0, lq "rule_at"), (PT1, lq "law")] [(cd24, PT0), (cd39, PT1)] rfl fun ns _ => ⟨_, law_true (pickJ ns) (pickJ_ok ns), s_law (cl := Glb.of (fun i => [0, C0, 0, C1, 0, 0, 0, 0].getD i 0) ns [(PT0, lq "rule_at"), (PT1, lq "law")]) T (fun F => pick_fn (s__law_pick T (s__law_cell T))) ⟨⟨PT0, TB _ (List.mem_cons_self), List.mem_cons_self, List.forall_mem_cons.mpr ⟨fun z => rfl, List.forall_mem_cons.mpr ⟨fun z => absurd z dd1_0, fun _ h => nomatch h⟩⟩⟩⟩ ⟨⟨PT1, TB _ (List.mem_cons_of_mem _ (List.mem_cons_self)), List.mem_cons_of_mem _ (List.mem_cons_self), List.forall_mem_cons.mpr ⟨fun z => absurd z dd0_1, List.forall_mem_cons.mpr ⟨fun z => rfl, fun _ h => nomatch h⟩⟩⟩⟩ ⟨⟨_, _, _, _, _, _, _, _, rfl, l39, e39⟩, k39⟩⟩
end Kx
open PySem PySem.W PyProof.Rows
set_option maxHeartbeats 0 in
theorem PySem.Challenge.cw_fairstops_k88_whole_told_lists_too_holds : PySem.Challenge.rw_fairstops_k88_whole_told_lists_too.Holds := by
  w_on; o_law; k_head; (case hw => w_witness2)
  k_fill
  refine Sm.walk_all (l := PySem.Challenge.rw_fairstops_k88_whole_told_lists_too) (n := 63) (k := 20) (x := "script") (CX := fun w => L2.CX (PySem.Challenge.rw_fairstops_k88_whole_told_lists_too).prog w) rfl (by decide) rfl ⟨rfl, by decide, by decide⟩ (fun w h Y => by first | exact PySem.W.kIn_of Y | exact PySem.W.km_in_of Y) ?F (fun _ _ _ _ _ h => Sm.no_exc h)
  case F =>
    intro w mg fa h KX G hmg tabs
    refine' Kx.all_mk KX G hmg tabs ?a1 ?l1 ?e1 ?k1 ?a2 ?l2 ?e2 ?k2 ?a3 ?l3 ?e3 ?k3 ?a4 ?l4 ?e4 ?k4 ?a5 ?l5 ?e5 ?k5 ?a6 ?l6 ?e6 ?k6 ?a7 ?l7 ?e7 ?k7 ?a8 ?l8 ?e8 ?k8 ?a9 ?l9 ?e9 ?k9 ?a10 ?l10 ?e10 ?k10 ?a11 ?l11 ?e11 ?k11 ?a12 ?l12 ?e12 ?k12 ?a13 ?l13 ?e13 ?k13 ?a14 ?l14 ?e14 ?k14 ?a15 ?l15 ?e15 ?k15 ?a16 ?l16 ?e16 ?k16 ?a17 ?l17 ?e17 ?k17 ?a18 ?l18 ?e18 ?k18 ?a19 ?l19 ?e19 ?k19 ?a20 ?l20 ?e20 ?k20 ?a21 ?l21 ?e21 ?k21 ?a22 ?l22 ?e22 ?k22 ?a23 ?l23 ?e23 ?k23 ?a24 ?l24 ?e24 ?k24 ?u0 ?v0 ?n0 ?r0 ?a25 ?l25 ?e25 ?k25 ?a26 ?l26 ?e26 ?k26 ?a27 ?l27 ?e27 ?k27 ?a28 ?l28 ?e28 ?k28 ?a29 ?l29 ?e29 ?k29 ?a30 ?l30 ?e30 ?k30 ?a31 ?l31 ?e31 ?k31 ?a32 ?l32 ?e32 ?k32 ?a33 ?l33 ?e33 ?k33 ?a34 ?l34 ?e34 ?k34 ?a35 ?l35 ?e35 ?k35 ?a36 ?l36 ?e36 ?k36 ?a37 ?l37 ?e37 ?k37 ?a38 ?l38 ?e38 ?k38 ?a39 ?l39 ?e39 ?k39 ?u1 ?v1 ?n1 ?r1 ?z0 ?z1 ?z2 ?z3 ?z4 ?z5 ?z6 ?z7 ?z8 ?z9 ?z10 ?z11 ?z12 ?z13 ?z14 ?y0 ?y1 ?y2 ?y3 ?xa0 ?xe0 ?xk0 ?xb0 ?xt0 ?xa1 ?xe1 ?xk1 ?xb1 ?xt1 ?dd0_1 ?dd1_0
    (case a1 => k_is)
    (case l1 => k_is)
    (case e1 => k_is)
    (case k1 => k_is)
    (case a2 => k_is)
    (case l2 => k_is)
    (case e2 => k_is)
    (case k2 => k_is)
    (case a3 => k_is)
    (case l3 => k_is)
    (case e3 => k_is)
    (case k3 => k_is)
    (case a4 => k_is)
    (case l4 => k_is)
    (case e4 => k_is)
    (case k4 => k_is)
    (case a5 => k_is)
    (case l5 => k_is)
    (case e5 => k_is)
    (case k5 => k_is)
    (case a6 => k_is)
    (case l6 => k_is)
    (case e6 => k_is)
    (case k6 => k_is)
    (case a7 => k_is)
    (case l7 => k_is)
    (case e7 => k_is)
    (case k7 => k_is)
    (case a8 => k_is)
    (case l8 => k_is)
    (case e8 => k_is)
    (case k8 => k_is)
    (case a9 => k_is)
    (case l9 => k_is)
    (case e9 => k_is)
    (case k9 => k_is)
    (case a10 => k_is)
    (case l10 => k_is)
    (case e10 => k_is)
    (case k10 => k_is)
    (case a11 => k_is)
    (case l11 => k_is)
    (case e11 => k_is)
    (case k11 => k_is)
    (case a12 => k_is)
    (case l12 => k_is)
    (case e12 => k_is)
    (case k12 => k_is)
    (case a13 => k_is)
    (case l13 => k_is)
    (case e13 => k_is)
    (case k13 => k_is)
    (case a14 => k_is)
    (case l14 => k_is)
    (case e14 => k_is)
    (case k14 => k_is)
    (case a15 => k_is)
    (case l15 => k_is)
    (case e15 => k_is)
    (case k15 => k_is)
    (case a16 => k_is)
    (case l16 => k_is)
    (case e16 => k_is)
    (case k16 => k_is)
    (case a17 => k_is)
    (case l17 => k_is)
    (case e17 => k_is)
    (case k17 => k_is)
    (case a18 => k_is)
    (case l18 => k_is)
    (case e18 => k_is)
    (case k18 => k_is)
    (case a19 => k_is)
    (case l19 => k_is)
    (case e19 => k_is)
    (case k19 => k_is)
    (case a20 => k_is)
    (case l20 => k_is)
    (case e20 => k_is)
    (case k20 => k_is)
    (case a21 => k_is)
    (case l21 => k_is)
    (case e21 => k_is)
    (case k21 => k_is)
    (case a22 => k_is)
    (case l22 => k_is)
    (case e22 => k_is)
    (case k22 => k_is)
    (case a23 => k_is)
    (case l23 => k_is)
    (case e23 => k_is)
    (case k23 => k_is)
    (case a24 => k_is)
    (case l24 => k_is)
    (case e24 => k_is)
    (case k24 => k_is)
    (case u0 => k_is)
    (case v0 => rfl)
    (case n0 => first | kernel_rfl | k_is | decide +kernel)
    (case r0 => first | kernel_rfl | k_is | decide +kernel)
    (case a25 => k_is)
    (case l25 => k_is)
    (case e25 => k_is)
    (case k25 => k_is)
    (case a26 => k_is)
    (case l26 => k_is)
    (case e26 => k_is)
    (case k26 => k_is)
    (case a27 => k_is)
    (case l27 => k_is)
    (case e27 => k_is)
    (case k27 => k_is)
    (case a28 => k_is)
    (case l28 => k_is)
    (case e28 => k_is)
    (case k28 => k_is)
    (case a29 => k_is)
    (case l29 => k_is)
    (case e29 => k_is)
    (case k29 => k_is)
    (case a30 => k_is)
    (case l30 => k_is)
    (case e30 => k_is)
    (case k30 => k_is)
    (case a31 => k_is)
    (case l31 => k_is)
    (case e31 => k_is)
    (case k31 => k_is)
    (case a32 => k_is)
    (case l32 => k_is)
    (case e32 => k_is)
    (case k32 => k_is)
    (case a33 => k_is)
    (case l33 => k_is)
    (case e33 => k_is)
    (case k33 => k_is)
    (case a34 => k_is)
    (case l34 => k_is)
    (case e34 => k_is)
    (case k34 => k_is)
    (case a35 => k_is)
    (case l35 => k_is)
    (case e35 => k_is)
    (case k35 => k_is)
    (case a36 => k_is)
    (case l36 => k_is)
    (case e36 => k_is)
    (case k36 => k_is)
    (case a37 => k_is)
    (case l37 => k_is)
    (case e37 => k_is)
    (case k37 => k_is)
    (case a38 => k_is)
    (case l38 => k_is)
    (case e38 => k_is)
    (case k38 => k_is)
    (case a39 => k_is)
    (case l39 => k_is)
    (case e39 => k_is)
    (case k39 => k_is)
    (case u1 => k_is)
    (case v1 => rfl)
    (case n1 => first | kernel_rfl | k_is | decide +kernel)
    (case r1 => first | kernel_rfl | k_is | decide +kernel)
    (case z0 => k_is)
    (case z1 => k_is)
    (case z2 => k_is)
    (case z3 => k_is)
    (case z4 => k_is)
    (case z5 => k_is)
    (case z6 => k_is)
    (case z7 => k_is)
    (case z8 => k_is)
    (case z9 => k_is)
    (case z10 => k_is)
    (case z11 => k_is)
    (case z12 => k_is)
    (case z13 => k_is)
    (case z14 => k_is)
    (case y0 => k_is)
    (case y1 => k_is)
    (case y2 => k_is)
    (case y3 => k_is)
    (case xa0 => k_is)
    (case xe0 => k_exc)
    (case xk0 => k_is)
    (case xb0 => k_is)
    (case xt0 => k_is)
    (case xa1 => k_is)
    (case xe1 => k_exc)
    (case xk1 => k_is)
    (case xb1 => k_is)
    (case xt1 => k_is)
    (case dd0_1 => first | kernel_rfl | k_is | decide +kernel)
    (case dd1_0 => first | kernel_rfl | k_is | decide +kernel)

