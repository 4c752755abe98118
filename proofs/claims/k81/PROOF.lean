import PyProof.Rows.All
import Wide.All
import OpenK.AllK
import Wide.FinOn
import HandS.ForMost
import KE.GoesEnum
import HandS.ForExc
import HandS.Flow
import HandS.TupAny
import HandS.TupMul
import HandS.TupLe
import HandS.IsInst
import HandS.Wide
import HandS.CallSlots
import HandS.Lambda
import HandS.NoneIn
import HandS.Style
import HandS.Deep
import HandS.TupSets
import HandS.Zip
import HandS.ExcIs
import HandS.ExcValue
import HandS.HotCalls
import HandS.SetFor
import KE.SortData
import HandS.SortOrd
import HandS.SortRule
import KE.KDictPairs
import HandS.DictTup
import HandS.Nested
import HandS.EndTab
import HandS.Iter
import PySem.Challenge.RW_fairstops_k81_whole_play_twins
set_option Elab.async false
set_option linter.all false
set_option maxRecDepth 100000
set_option autoImplicit false
namespace Sm
open PySem PySem.Spec L2
inductive D where
  | non | bl (b : Bool) | int (i : Int) | str (x : Str) | tup (xs : List D) | lst (xs : List D) | dct (kvs : List (D × D)) | exc (c : Nat) | scr (ns : List Int) | scr0 | fnv | obj (k : Nat) | dcl (kvs : List (D × D)) | scr1
  deriving Inhabited
inductive R (α : Type) where
  | ok (a : α) | err (c : Nat) | bad
def R.bind {α β : Type} : R α → (α → R β) → R β
  | .ok a, k => k a
  | .err c, _ => .err c
  | .bad, _ => .bad
instance : Monad R where
  pure := R.ok
  bind := R.bind
abbrev Env := List (Option D)

def isTbl : HO → Bool | .tbl _ => true | _ => false
def Sam (H H' : Hp) : Prop := ∀ b o, H b = some o → isTbl o = false → H' b = some o
theorem Sam.refl (H : Hp) : Sam H H := fun _ _ h _ => h
theorem Sam.trans {H H1 H2 : Hp} (a : Sam H H1) (b : Sam H1 H2) : Sam H H2 := fun c o h n => b c o (a c o h n) n
theorem Sam.of {H H' : Hp} (s : Same H H') : Sam H H' := fun b o h _ => s b o h
theorem Sam.rd {H H' : Hp} {a : Addr} {u : HO} (e : Sam H H') (h : Rd H a u) (n : isTbl u = false) : Rd H' a u := by
  rcases h with h | ⟨o, h⟩
  · exact .inl (e _ _ h n)
  · exact .inr ⟨o, e _ _ h rfl⟩
theorem Sam.sqL {K : PySem.W.Frag} {H H' : Hp} {a : Addr} {xs : List V} (e : Sam H H') (h : SqL K H a xs) : SqL K H' a xs := by
  rcases h with h | h
  · exact .inl (e.rd h rfl)
  · exact .inr h
theorem Sam.sqT {K : PySem.W.Frag} {H H' : Hp} {a : Addr} {xs : List V} (e : Sam H H') (h : SqT K H a xs) : SqT K H' a xs := by
  rcases h with h | h
  · exact .inl (e.rd h rfl)
  · exact .inr h
theorem sqT_of {K : PySem.W.Frag} {H : Hp} {a : Addr} {xs : List V} (h : H a = some (.tup xs)) : SqT K H a xs := .inl (.inl h)
theorem Sam.sqU {K : PySem.W.Frag} {H H' : Hp} {a : Addr} {xs : List V} (e : Sam H H') (h : H a = some (.tup xs)) : SqT K H' a xs := .inl (.inl (e _ _ h rfl))
structure Glb where
  c : Nat → Addr
  ns : List Int
  T : List (Addr × Str)
  fn : Hp → Addr → Prop
  fnM : ∀ H H' v, Sam H H' → fn H v → fn H' v
  ob : Nat → Addr → Prop
def Glb.of (c : Nat → Addr) (ns : List Int) (T : List (Addr × Str)) : Glb := ⟨c, ns, T, fun _ _ => False, fun _ _ _ _ h => h, fun _ _ => False⟩
theorem same_upd {H : Hp} {p : Addr} {o : HO} (h : H p = none) : Same H (upd H p o) := fun b x e => by
  rw [upd_ne (ne_of_none e h)]
  exact e

structure Vw (cl : Glb) (Hv H : Hp) : Prop where
  s : Sam Hv H
  d : ∀ b, H b = none → Hv b = none
  t : ∀ b xs, H b = some (.tup xs) → Hv b = some (.tup xs)
  z : ∀ b o u, H b = some (.frz o u) → Hv b = some (.frz o u)
  tab : LamX.Tabs cl.T H
  x : ∀ b φ, H b = some (.ext φ) → Hv b = some (.ext φ)
section
variable {cl : Glb}
theorem Vw.refl {H : Hp} (t : LamX.Tabs cl.T H) : Vw cl H H := ⟨Sam.refl _, fun _ h => h, fun _ _ h => h, fun _ _ _ h => h, t, fun _ _ h => h⟩
structure Ext (cl : Glb) (Hv H Hv' H' : Hp) : Prop where
  hh : Sam H H'
  vv : Sam Hv Hv'
  vh : Vw cl Hv' H'
  old : ∀ b o, H b = some o → Hv b = none → Hv' b = none
  dom : ∀ b, H' b = none → H b = none
  tt : ∀ b ps, H b = some (.tbl ps) → ∃ ps', H' b = some (.tbl ps')
theorem Ext.refl {Hv H : Hp} (s : Vw cl Hv H) : Ext cl Hv H Hv H := ⟨Sam.refl _, Sam.refl _, s, fun _ _ _ h => h, fun _ h => h, fun _ ps h => ⟨ps, h⟩⟩
theorem Ext.trans {Hv H Hv1 H1 Hv2 H2 : Hp} (a : Ext cl Hv H Hv1 H1) (b : Ext cl Hv1 H1 Hv2 H2) : Ext cl Hv H Hv2 H2 where
  hh := a.hh.trans b.hh
  vv := a.vv.trans b.vv
  vh := b.vh
  old := fun c o h n => by
    cases q : H1 c with
    | none => rw [a.dom c q] at h; cases h
    | some u => exact b.old c u q (a.old c o h n)
  dom := fun c h => a.dom c (b.dom c h)
  tt := fun c ps h => let ⟨ps', h'⟩ := a.tt c ps h; b.tt c ps' h'
theorem upd_none {H : Hp} {p b : Addr} {o : HO} (h : upd H p o b = none) : b ≠ p ∧ H b = none := by
  unfold upd at h
  split at h
  · cases h
  · exact ⟨by assumption, h⟩
theorem Ext.new {Hv H : Hp} {p : Addr} {o : HO} (s : Vw cl Hv H) (h : H p = none) : Ext cl Hv H (upd Hv p o) (upd H p o) where
  hh := .of (same_upd h)
  vv := .of (same_upd (s.d p h))
  vh := ⟨fun b u e n => by
    by_cases z : b = p
    · subst z; rw [upd_same] at e ⊢; exact e
    · rw [upd_ne z] at e ⊢; exact s.s b u e n, fun b e => by
    obtain ⟨h1, h2⟩ := upd_none e
    rw [upd_ne h1]; exact s.d b h2, fun b xs e => by
    by_cases z : b = p
    · subst z; rw [upd_same] at e ⊢; exact e
    · rw [upd_ne z] at e ⊢; exact s.t b xs e, fun b xs y e => by
    by_cases z : b = p
    · subst z; rw [upd_same] at e ⊢; exact e
    · rw [upd_ne z] at e ⊢; exact s.z b xs y e, s.tab.ext (same_upd h), fun b φ e => by
    by_cases z : b = p
    · subst z; rw [upd_same] at e ⊢; exact e
    · rw [upd_ne z] at e ⊢; exact s.x b φ e⟩
  old := fun b u e n => by rw [upd_ne (ne_of_none e h)]; exact n
  dom := fun b e => (upd_none e).2
  tt := fun b ps e => ⟨ps, by rw [upd_ne (ne_of_none e h)]; exact e⟩
end
section
variable (K : PySem.W.Frag) (cl : Glb)
def ExcO (a C : Addr) : HO := .ext fun h => ∃ (o : Obj) (vs : Array Value), h.get? a = some o ∧ Zc (.ref C) none o ∧ o.data = .fields vs
mutual
inductive Rep (H : Hp) : V → D → Prop
  | non : Rep H .non .non
  | bl (b : Bool) : Rep H (.bl b) (.bl b)
  | int (i : Int) : Rep H (.int i) (.int i)
  | str (x : Str) : Rep H (.str x) (.str x)
  | lst {a : Addr} {xs : List V} {ds : List D} : H a = some (.lst xs) → xs.length ≤ sizeLine → Reps H xs ds → Rep H (.ref a) (.lst ds)
  | tup {a : Addr} {xs : List V} {ds : List D} : H a = some (.tup xs) → xs.length ≤ sizeLine → Reps H xs ds → Rep H (.ref a) (.tup ds)
  | dctK {a : Addr} {kvs : List (L2.Key × V)} {es : List (D × D)} : H a = some (.dK kvs) → RepsK H kvs es → Rep H (.ref a) (.dct es)
  | dctT {a : Addr} {kvs : List (List L2.Key × V)} {es : List (D × D)} : H a = some (.dT kvs) → es ≠ [] → RepsT H kvs es → Rep H (.ref a) (.dct es)
  | scr {a : Addr} {ns : List Int} : SqL K H a (ns.map V.int) → ns.length ≤ sizeLine → Rep H (.ref a) (.scr ns)
  | scr0 {a : Addr} : SqL K H a (cl.ns.map V.int) → cl.ns.length ≤ sizeLine → Rep H (.ref a) .scr0
  | exc {a : Addr} {c : Nat} : H a = some (ExcO a (cl.c c)) → Rep H (.ref a) (.exc c)
  | fnv {a : Addr} : cl.fn H a → Rep H (.ref a) .fnv
  | obj {a : Addr} {k : Nat} : cl.ob k a → Rep H (.ref a) (.obj k)
  | dclK {a : Addr} {o : Obj} {kvs : List (L2.Key × V)} {es : List (D × D)} : H a = some (.frz o (.dK kvs)) → RepsK H kvs es → Rep H (.ref a) (.dcl es)
  | dclT {a : Addr} {o : Obj} {kvs : List (List L2.Key × V)} {es : List (D × D)} : H a = some (.frz o (.dT kvs)) → es ≠ [] → RepsT H kvs es → Rep H (.ref a) (.dcl es)
  | scr1 {a : Addr} : SqL K H a ((cl.ns.map (· + 1)).map V.int) → cl.ns.length ≤ sizeLine → Rep H (.ref a) .scr1
inductive Reps (H : Hp) : List V → List D → Prop
  | nil : Reps H [] []
  | cons {v : V} {vs : List V} {d : D} {ds : List D} : Rep H v d → Reps H vs ds → Reps H (v :: vs) (d :: ds)
inductive RepsK (H : Hp) : List (L2.Key × V) → List (D × D) → Prop
  | nil : RepsK H [] []
  | cons {i : Int} {v : V} {d : D} {r : List (L2.Key × V)} {es : List (D × D)} : Rep H v d → RepsK H r es → RepsK H ((Sum.inl i, v) :: r) ((.int i, d) :: es)
inductive RepsT (H : Hp) : List (List L2.Key × V) → List (D × D) → Prop
  | nil : RepsT H [] []
  | cons {k : List Int} {v : V} {d : D} {r : List (List L2.Key × V)} {es : List (D × D)} : Rep H v d → RepsT H r es → RepsT H ((k.map Sum.inl, v) :: r) ((.tup (k.map D.int), d) :: es)
end
end
section
variable {K : PySem.W.Frag} {cl : Glb} {H H' Hv Hv' : Hp}
mutual
theorem Rep.mono (e : Sam H H') : ∀ {v : V} {d : D}, Rep K cl H v d → Rep K cl H' v d
  | _, _, .non => .non
  | _, _, .bl b => .bl b
  | _, _, .int i => .int i
  | _, _, .str x => .str x
  | _, _, .lst h n r => .lst (e _ _ h rfl) n (Reps.mono e r)
  | _, _, .scr h n => .scr (e.sqL h) n
  | _, _, .scr0 h n => .scr0 (e.sqL h) n
  | _, _, .tup h n r => .tup (e _ _ h rfl) n (Reps.mono e r)
  | _, _, .dctK h r => .dctK (e _ _ h rfl) (RepsK.mono e r)
  | _, _, .dctT h n r => .dctT (e _ _ h rfl) n (RepsT.mono e r)
  | _, _, .exc h => .exc (e _ _ h rfl)
  | _, _, .fnv h => .fnv (cl.fnM _ _ _ e h)
  | _, _, .obj h => .obj h
  | _, _, .dclK h r => .dclK (e _ _ h rfl) (RepsK.mono e r)
  | _, _, .dclT h n r => .dclT (e _ _ h rfl) n (RepsT.mono e r)
  | _, _, .scr1 h n => .scr1 (e.sqL h) n
theorem Reps.mono (e : Sam H H') : ∀ {v : List V} {d : List D}, Reps K cl H v d → Reps K cl H' v d
  | _, _, .nil => .nil
  | _, _, .cons r t => .cons (Rep.mono e r) (Reps.mono e t)
theorem RepsK.mono (e : Sam H H') : ∀ {v : List (L2.Key × V)} {d : List (D × D)}, RepsK K cl H v d → RepsK K cl H' v d
  | _, _, .nil => .nil
  | _, _, .cons r t => .cons (Rep.mono e r) (RepsK.mono e t)
theorem RepsT.mono (e : Sam H H') : ∀ {v : List (List L2.Key × V)} {d : List (D × D)}, RepsT K cl H v d → RepsT K cl H' v d
  | _, _, .nil => .nil
  | _, _, .cons r t => .cons (Rep.mono e r) (RepsT.mono e t)
end
theorem Reps.length : ∀ {vs : List V} {ds : List D}, Reps K cl H vs ds → vs.length = ds.length
  | _, _, .nil => rfl
  | _, _, .cons _ t => by rw [List.length_cons, List.length_cons, Reps.length t]
theorem Reps.get : ∀ {vs : List V} {ds : List D} {i : Nat} {d : D}, Reps K cl H vs ds → ds[i]? = some d → ∃ v, vs[i]? = some v ∧ Rep K cl H v d
  | _, _, _, _, .nil, e => by simp at e
  | _, _, 0, _, .cons r _, e => by simp at e; subst e; exact ⟨_, rfl, r⟩
  | _, _, i + 1, d, .cons _ t, e => by
    obtain ⟨u, h1, h2⟩ := Reps.get (i := i) (d := d) t (by simpa using e)
    exact ⟨u, by simpa using h1, h2⟩
theorem Reps.append : ∀ {vs us : List V} {ds es : List D}, Reps K cl H vs ds → Reps K cl H us es → Reps K cl H (vs ++ us) (ds ++ es)
  | _, _, _, _, .nil, s => s
  | _, _, _, _, .cons r t, s => .cons r (Reps.append t s)
theorem Reps.take : ∀ {vs : List V} {ds : List D} (n : Nat), Reps K cl H vs ds → Reps K cl H (vs.take n) (ds.take n)
  | _, _, 0, _ => .nil
  | _, _, _ + 1, .nil => .nil
  | _, _, n + 1, .cons r t => .cons r (Reps.take n t)
theorem Reps.drop : ∀ {vs : List V} {ds : List D} (n : Nat), Reps K cl H vs ds → Reps K cl H (vs.drop n) (ds.drop n)
  | _, _, 0, r => r
  | _, _, _ + 1, .nil => .nil
  | _, _, n + 1, .cons _ t => Reps.drop n t
theorem Reps.reverse : ∀ {vs : List V} {ds : List D}, Reps K cl H vs ds → Reps K cl H vs.reverse ds.reverse
  | _, _, .nil => .nil
  | _, _, .cons r t => by
    rw [List.reverse_cons, List.reverse_cons]
    exact (Reps.reverse t).append (.cons r .nil)
theorem Reps.set {v : V} {d : D} (r : Rep K cl H v d) : ∀ {vs : List V} {ds : List D} (i : Nat), Reps K cl H vs ds → Reps K cl H (vs.set i v) (ds.set i d)
  | _, _, _, .nil => .nil
  | _, _, 0, .cons _ t => .cons r t
  | _, _, i + 1, .cons q t => .cons q (Reps.set r i t)
theorem Reps.replicate (n : Nat) {vs : List V} {ds : List D} (h : Reps K cl H vs ds) : Reps K cl H (List.replicate n vs).flatten (List.replicate n ds).flatten := by
  induction n with
  | zero => exact .nil
  | succ n ih => simp only [List.replicate_succ, List.flatten_cons]; exact h.append ih
end
section
variable (cl : Glb) (W : WX) (σ : St)
def Pst {α : Type} (Hv H : Hp) (T : Hp → Hp → α → Prop) : R α → Prop
  | .ok d => ∀ Hv' H', Ext cl Hv H Hv' H' → T Hv' H' d
  | .err c => ∀ Hv' H', Ext cl Hv H Hv' H' → W (.ref (cl.c c)) none σ H'
  | .bad => False
end
section
variable {cl : Glb} {W : WX} {σ : St} {Hv H Hv1 H1 : Hp} {α β : Type}
theorem Pst.ext {T : Hp → Hp → α → Prop} {r : R α} (h : Pst cl W σ Hv H T r) (e : Ext cl Hv H Hv1 H1) : Pst cl W σ Hv1 H1 T r := by
  cases r with
  | ok d => exact fun Hv' H' e' => h Hv' H' (e.trans e')
  | err c => exact fun Hv' H' e' => h Hv' H' (e.trans e')
  | bad => exact h
theorem bindP {r : R α} {k : α → R β} {T : Hp → Hp → β → Prop} {T1 : Hp → Hp → α → Prop} (h : Pst cl W σ Hv H T (r.bind k))
    (hk : ∀ a Hv1 H1, r = .ok a → Ext cl Hv H Hv1 H1 → Pst cl W σ Hv1 H1 T (k a) → T1 Hv1 H1 a) : Pst cl W σ Hv H T1 r := by
  cases r with
  | ok d => exact fun Hv' H' e => hk d Hv' H' rfl e (Pst.ext (r := k d) h e)
  | err c => exact h
  | bad => exact h
end
def TV (K : PySem.W.Frag) (cl : Glb) (Q : VK) : Hp → Hp → D → Prop := fun Hv' H' d => ∀ v, Rep K cl Hv' v d → Q v H'
def TVs (K : PySem.W.Frag) (cl : Glb) (Q : List V → Hp → Prop) : Hp → Hp → List D → Prop := fun Hv' H' d => ∀ v, Reps K cl Hv' v d → Q v H'
def TB (Q : Bool → Hp → Prop) : Hp → Hp → Bool → Prop := fun _ H' b => Q b H'

structure ER (K : PySem.W.Frag) (cl : Glb) (Hv : Hp) (ρ : Env) (σ : St) : Prop where
  get : ∀ (i : Nat) d, ρ[i]? = some (some d) → ∃ v, σ[i]? = some (some v) ∧ Rep K cl Hv v d
  len : ρ.length = σ.length
theorem ER.mono {K : PySem.W.Frag} {cl : Glb} {Hv Hv' : Hp} {ρ : Env} {σ : St} (e : ER K cl Hv ρ σ) (s : Sam Hv Hv') : ER K cl Hv' ρ σ :=
  ⟨fun i d h => let ⟨v, h1, h2⟩ := e.get i d h; ⟨v, h1, h2.mono s⟩, e.len⟩

abbrev DE := Env → R D
abbrev DA := Env → R (List D)
abbrev DT := Env → R Bool
section
variable (X : Cx) (W : WX) (cl : Glb)
def RunE (f : DE) (t : TE) : Prop := ∀ (Hv H : Hp) (σ : St) (ρ : Env) (Q : VK), Vw cl Hv H → ER X.K cl Hv ρ σ → Pst cl W σ Hv H (TV X.K cl Q) (f ρ) → t σ H Q
def RunA (f : DA) (t : TA) : Prop := ∀ (Hv H : Hp) (σ : St) (ρ : Env) (Q : List V → Hp → Prop), Vw cl Hv H → ER X.K cl Hv ρ σ → Pst cl W σ Hv H (TVs X.K cl Q) (f ρ) → t σ H Q
def RunT (f : DT) (t : TT) : Prop := ∀ (Hv H : Hp) (σ : St) (ρ : Env) (Q : Bool → Hp → Prop), Vw cl Hv H → ER X.K cl Hv ρ σ → Pst cl W σ Hv H (TB Q) (f ρ) → t σ H Q
def SE (e : Expr) (f : DE) : Prop := ∃ t, PE X e t ∧ RunE X W cl f t
def SA (es : List Expr) (f : DA) : Prop := ∃ t, PA X es t ∧ RunA X W cl f t ∧ ∀ ρ ds, f ρ = .ok ds → ds.length = es.length
def ST (e : Expr) (f : DT) : Prop := ∃ t, PT X e t ∧ RunT X W cl f t
def SW (e : Expr) (f : DT) : Prop := ∃ t, PW X e t ∧ RunT X W cl f t
end
end Sm
namespace Sm
open PySem PySem.Spec L2
def ofO {α : Type} : Option α → R α
  | some a => .ok a
  | none => .bad
theorem ofO_ok {α : Type} {o : Option α} {cl : Glb} {W : WX} {σ : St} {Hv H : Hp} {T : Hp → Hp → α → Prop} (h : Pst cl W σ Hv H T (ofO o)) : ∃ a, o = some a ∧ ∀ Hv' H', Ext cl Hv H Hv' H' → T Hv' H' a := by
  cases o with
  | none => exact h.elim
  | some a => exact ⟨a, rfl, h⟩

mutual
def toPy : D → PyData
  | .non => .none
  | .bl b => .bool b
  | .int i => .int i
  | .str x => .str x
  | .tup xs => .tuple (toPys xs)
  | .lst xs => .list (toPys xs)
  | .dct _ => .dict []
  | .exc _ => .dict []
  | .scr ns => .list (ns.map .int)
  | .scr0 => .dict []
  | .fnv => .dict []
  | .obj _ => .dict []
  | .dcl _ => .dict []
  | .scr1 => .dict []
def toPys : List D → List PyData
  | [] => []
  | x :: xs => toPy x :: toPys xs
end
mutual
def pln : Nat → D → Bool
  | _, .non => true
  | _, .bl _ => true
  | _, .int _ => true
  | _, .str x => PySem.PyData.strOk x
  | n + 1, .tup xs => plns n xs
  | n + 1, .lst xs => plns n xs
  | n + 1, .scr _ => true
  | _, _ => false
def plns : Nat → List D → Bool
  | _, [] => true
  | n, x :: xs => pln n x && plns n xs
end
def deqI (i : Int) : D → Bool
  | .int j => i == j
  | .bl b => i == (if b then 1 else 0)
  | _ => false
def deqIs : List Int → List D → Bool
  | [], [] => true
  | i :: is, d :: ds => deqI i d && deqIs is ds
  | _, _ => false
def deqJ (i : Int) : D → Bool
  | .int j => j == i
  | .bl b => (if b then 1 else 0) == i
  | _ => false
def deqJs : List D → List Int → Bool
  | [], [] => true
  | d :: ds, i :: is => deqJ i d && deqJs ds is
  | _, _ => false
mutual
def deq : D → D → Bool
  | .non, .non => true
  | .bl a, .bl b => a == b
  | .bl a, .int j => (if a then 1 else 0) == j
  | .int i, .bl b => i == (if b then 1 else 0)
  | .int i, .int j => i == j
  | .str x, .str y => x == y
  | .lst xs, .lst ys => deqs xs ys
  | .tup xs, .tup ys => deqs xs ys
  | .scr ns, .lst ys => deqIs ns ys
  | .lst ys, .scr ns => deqJs ys ns
  | .scr ns, .scr ms => ns == ms
  | _, _ => false
def deqs : List D → List D → Bool
  | [], [] => true
  | x :: xs, y :: ys => deq x y && deqs xs ys
  | _, _ => false
end
theorem deqI_py (i : Int) (d : D) : PyData.eqv (.int i) (toPy d) = deqI i d := by cases d <;> simp [toPy, deqI, PyData.eqv]
theorem deqJ_py (i : Int) (d : D) : PyData.eqv (toPy d) (.int i) = deqJ i d := by cases d <;> simp [toPy, deqJ, PyData.eqv]
theorem deqIs_py : ∀ (ns : List Int) (ds : List D), PyData.eqvAll (ns.map .int) (toPys ds) = deqIs ns ds
  | [], [] => by simp [toPys, deqIs, PyData.eqvAll]
  | [], _ :: _ => by simp [toPys, deqIs, PyData.eqvAll]
  | _ :: _, [] => by simp [toPys, deqIs, PyData.eqvAll]
  | n :: ns, d :: ds => by simp only [List.map_cons, toPys, deqIs, PyData.eqvAll]; rw [deqI_py, deqIs_py ns ds]
theorem deqJs_py : ∀ (ds : List D) (ns : List Int), PyData.eqvAll (toPys ds) (ns.map .int) = deqJs ds ns
  | [], [] => by simp [toPys, deqJs, PyData.eqvAll]
  | [], _ :: _ => by simp [toPys, deqJs, PyData.eqvAll]
  | _ :: _, [] => by simp [toPys, deqJs, PyData.eqvAll]
  | d :: ds, n :: ns => by simp only [List.map_cons, toPys, deqJs, PyData.eqvAll]; rw [deqJ_py, deqJs_py ds ns]
theorem eqv_ints : ∀ (ns ms : List Int), PyData.eqvAll (ns.map .int) (ms.map .int) = (ns == ms)
  | [], [] => by simp [PyData.eqvAll]
  | [], _ :: _ => by simp [PyData.eqvAll]
  | _ :: _, [] => by simp [PyData.eqvAll]
  | n :: ns, m :: ms => by
    simp only [List.map_cons, PyData.eqvAll]
    rw [eqv_ints ns ms]
    simp [PyData.eqv]
mutual
theorem deq_py : ∀ a b : D, PyData.eqv (toPy a) (toPy b) = deq a b
  | .non, b => by cases b <;> simp [toPy, deq, PyData.eqv]
  | .bl _, b => by cases b <;> simp [toPy, deq, PyData.eqv]
  | .int _, b => by cases b <;> simp [toPy, deq, PyData.eqv]
  | .str _, b => by cases b <;> simp [toPy, deq, PyData.eqv]
  | .tup xs, b => by
    cases b with
    | tup ys => simp only [toPy, deq, PyData.eqv]; exact deqs_py xs ys
    | _ => simp [toPy, deq, PyData.eqv]
  | .lst xs, b => by
    cases b with
    | lst ys => simp only [toPy, deq, PyData.eqv]; exact deqs_py xs ys
    | scr ys => simp only [toPy, deq, PyData.eqv]; exact deqJs_py xs ys
    | _ => simp [toPy, deq, PyData.eqv]
  | .dct _, b => by cases b <;> simp [toPy, deq, PyData.eqv]
  | .exc _, b => by cases b <;> simp [toPy, deq, PyData.eqv]
  | .scr0, b => by cases b <;> simp [toPy, deq, PyData.eqv]
  | .fnv, b => by cases b <;> simp [toPy, deq, PyData.eqv]
  | .obj _, b => by cases b <;> simp [toPy, deq, PyData.eqv]
  | .dcl _, b => by cases b <;> simp [toPy, deq, PyData.eqv]
  | .scr1, b => by cases b <;> simp [toPy, deq, PyData.eqv]
  | .scr xs, b => by
    cases b with
    | lst ys => simp only [toPy, deq, PyData.eqv]; exact deqIs_py xs ys
    | scr ys => simp only [toPy, deq, PyData.eqv]; exact eqv_ints xs ys
    | _ => simp [toPy, deq, PyData.eqv]
theorem deqs_py : ∀ a b : List D, PyData.eqvAll (toPys a) (toPys b) = deqs a b
  | [], [] => by simp [toPys, deqs, PyData.eqvAll]
  | [], _ :: _ => by simp [toPys, deqs, PyData.eqvAll]
  | _ :: _, [] => by simp [toPys, deqs, PyData.eqvAll]
  | x :: xs, y :: ys => by simp only [toPys, deqs, PyData.eqvAll]; rw [deq_py x y, deqs_py xs ys]
end
theorem ints_lay : ∀ ns : List Int, PyData.canLayAll0 (ns.map .int) = true ∧ PyData.depthAll (ns.map .int) = 0
  | [] => by simp [PyData.canLayAll0, PyData.depthAll]
  | n :: ns => by
    have := ints_lay ns
    simp [PyData.canLayAll0, PyData.depthAll, PyData.canLay0, PyData.depth, this.1, this.2]
mutual
theorem pln_lay : ∀ (n : Nat) (a : D), pln n a = true → (toPy a).canLay0 = true ∧ (toPy a).depth ≤ n
  | _, .non, _ => by simp [toPy, PyData.canLay0, PyData.depth]
  | _, .bl _, _ => by simp [toPy, PyData.canLay0, PyData.depth]
  | _, .int _, _ => by simp [toPy, PyData.canLay0, PyData.depth]
  | _, .str x, h => by
    simp only [pln] at h
    simp [toPy, PyData.canLay0, PyData.depth, h]
  | 0, .tup xs, h => by simp [pln] at h
  | 0, .lst xs, h => by simp [pln] at h
  | n + 1, .tup xs, h => by
    simp only [pln] at h
    have := plns_lay n xs h
    simp only [toPy, PyData.canLay0, PyData.depth]
    exact ⟨this.1, by omega⟩
  | n + 1, .lst xs, h => by
    simp only [pln] at h
    have := plns_lay n xs h
    simp only [toPy, PyData.canLay0, PyData.depth]
    exact ⟨this.1, by omega⟩
  | 0, .scr xs, h => by simp [pln] at h
  | n + 1, .scr xs, h => by
    have := ints_lay xs
    simp only [toPy, PyData.canLay0, PyData.depth]
    exact ⟨this.1, by omega⟩
  | 0, .dct _, h => by simp [pln] at h
  | _ + 1, .dct _, h => by simp [pln] at h
  | 0, .exc _, h => by simp [pln] at h
  | _ + 1, .exc _, h => by simp [pln] at h
  | 0, .scr0, h => by simp [pln] at h
  | 0, .fnv, h => by simp [pln] at h
  | 0, .obj _, h => by simp [pln] at h
  | 0, .dcl _, h => by simp [pln] at h
  | 0, .scr1, h => by simp [pln] at h
  | _ + 1, .scr0, h => by simp [pln] at h
  | _ + 1, .fnv, h => by simp [pln] at h
  | _ + 1, .obj _, h => by simp [pln] at h
  | _ + 1, .dcl _, h => by simp [pln] at h
  | _ + 1, .scr1, h => by simp [pln] at h
theorem plns_lay : ∀ (n : Nat) (a : List D), plns n a = true → PyData.canLayAll0 (toPys a) = true ∧ PyData.depthAll (toPys a) ≤ n
  | n, [], _ => by simp [toPys, PyData.canLayAll0, PyData.depthAll]
  | n, x :: xs, h => by
    simp only [plns, Bool.and_eq_true] at h
    have h1 := pln_lay n x h.1
    have h2 := plns_lay n xs h.2
    simp only [toPys, PyData.canLayAll0, PyData.depthAll, Bool.and_eq_true]
    exact ⟨⟨h1.1, h2.1⟩, by omega⟩
end
theorem pln_shaped {a : D} (h : pln 64 a = true) : SeqAt.shaped (toPy a) = true := by
  have := pln_lay 64 a h
  unfold SeqAt.shaped
  rw [this.1, decide_eq_true this.2]; rfl
section
variable {K : PySem.W.Frag} {cl : Glb} {H : Hp}
theorem dp_ints : ∀ ns : List Int, DpAll K H (ns.map V.int) (ns.map PyData.int)
  | [] => .nil
  | n :: ns => .cons (.int n) (dp_ints ns)
mutual
theorem Rep.dp : ∀ {n : Nat} {v : V} {d : D}, Rep K cl H v d → pln n d = true → Dp K H v (toPy d)
  | _, _, _, .non, _ => by simp only [toPy]; exact .non
  | _, _, _, .bl b, _ => by simp only [toPy]; exact .bl b
  | _, _, _, .int b, _ => by simp only [toPy]; exact .int b
  | _, _, _, .str b, _ => by simp only [toPy]; exact .str b
  | 0, _, _, .lst h _ r, p => by simp [pln] at p
  | 0, _, _, .tup h _ r, p => by simp [pln] at p
  | n + 1, _, _, .lst h _ r, p => by
    simp only [pln] at p
    simp only [toPy]
    exact .lst (.inl (.inl h)) (Reps.dp (n := n) r p)
  | 0, _, _, .scr h _, p => by simp [pln] at p
  | n + 1, _, _, .scr h _, p => by
    simp only [toPy]
    exact .lst h (dp_ints _)
  | n + 1, _, _, .tup h _ r, p => by
    simp only [pln] at p
    simp only [toPy]
    exact .tup (sqT_of h) (Reps.dp (n := n) r p)
  | 0, _, _, .exc _, p => by simp [pln] at p
  | _ + 1, _, _, .exc _, p => by simp [pln] at p
  | 0, _, _, .scr0 _ _, p => by simp [pln] at p
  | 0, _, _, .fnv _, p => by simp [pln] at p
  | 0, _, _, .obj _, p => by simp [pln] at p
  | 0, _, _, .dclK _ _, p => by simp [pln] at p
  | 0, _, _, .dclT _ _ _, p => by simp [pln] at p
  | 0, _, _, .scr1 _ _, p => by simp [pln] at p
  | _ + 1, _, _, .scr0 _ _, p => by simp [pln] at p
  | _ + 1, _, _, .fnv _, p => by simp [pln] at p
  | _ + 1, _, _, .obj _, p => by simp [pln] at p
  | _ + 1, _, _, .dclK _ _, p => by simp [pln] at p
  | _ + 1, _, _, .dclT _ _ _, p => by simp [pln] at p
  | _ + 1, _, _, .scr1 _ _, p => by simp [pln] at p
theorem Reps.dp : ∀ {n : Nat} {vs : List V} {ds : List D}, Reps K cl H vs ds → plns n ds = true → DpAll K H vs (toPys ds)
  | _, _, _, .nil, _ => by simp only [toPys]; exact .nil
  | n, _, _, .cons r t, p => by
    simp only [plns, Bool.and_eq_true] at p
    simp only [toPys]
    exact .cons (Rep.dp (n := n) r p.1) (Reps.dp (n := n) t p.2)
end
end
section
variable (X : Cx) (cl : Glb)
def OpS (f : Value → Value → Sem Value) (o : D → D → Option D) : Prop := ∃ r, OpR X f r ∧ ∀ (Hv H : Hp) (x y : V) (a b d : D) (Q : VK), Vw cl Hv H → Rep X.K cl Hv x a → Rep X.K cl Hv y b → o a b = some d →
  (∀ v Hv' H', Ext cl Hv H Hv' H' → Rep X.K cl Hv' v d → Q v H') → r x y H Q
end
theorem OpR.or {X : Cx} {f : Value → Value → Sem Value} {r r' : R2} (h : OpR X f r) (h' : OpR X f r') : OpR X f (fun x y H Q => r x y H Q ∨ r' x y H Q) := by
  intro pins s σ H x y v u Q I rx ry q
  rcases q with q | q
  · exact h pins s σ H x y v u Q I rx ry q
  · exact h' pins s σ H x y v u Q I rx ry q
def orO (o o' : D → D → Option D) : D → D → Option D := fun a b => match o a b with | some d => some d | none => o' a b
theorem OpS.or {X : Cx} {cl : Glb} {f : Value → Value → Sem Value} {o o' : D → D → Option D} (h : OpS X cl f o) (h' : OpS X cl f o') : OpS X cl f (orO o o') := by
  obtain ⟨r, hr, hs⟩ := h
  obtain ⟨r', hr', hs'⟩ := h'
  refine ⟨_, OpR.or hr hr', fun Hv H x y a b d Q vw rx ry e q => ?_⟩
  unfold orO at e
  split at e
  · rename_i d' e'
    cases e
    exact .inl (hs Hv H x y a b _ Q vw rx ry e' q)
  · exact .inr (hs' Hv H x y a b _ Q vw rx ry e q)
theorem OpS.imp {X : Cx} {cl : Glb} {f : Value → Value → Sem Value} {o o' : D → D → Option D} (h : OpS X cl f o) (h' : ∀ a b d, o' a b = some d → o a b = some d) : OpS X cl f o' := by
  obtain ⟨r, hr, hs⟩ := h
  exact ⟨r, hr, fun Hv H x y a b d Q vw rx ry e q => hs Hv H x y a b d Q vw rx ry (h' _ _ _ e) q⟩
section
variable {X : Cx} {cl : Glb}
theorem new_tup {Hv H : Hp} {Q : VK} {xs : List V} {ds : List D} (vw : Vw cl Hv H) (r : Reps X.K cl Hv xs ds) (z : xs.length ≤ sizeLine) (q : ∀ v Hv' H', Ext cl Hv H Hv' H' → Rep X.K cl Hv' v (.tup ds) → Q v H') :
    ∀ p, H p = none → Q (.ref p) (upd H p (.tup xs)) := fun p hp =>
  q _ _ _ (Ext.new vw hp) (.tup upd_same z (r.mono (Ext.new vw hp).vv))
theorem new_lst {Hv H : Hp} {Q : VK} {xs : List V} {ds : List D} (vw : Vw cl Hv H) (r : Reps X.K cl Hv xs ds) (z : xs.length ≤ sizeLine) (q : ∀ v Hv' H', Ext cl Hv H Hv' H' → Rep X.K cl Hv' v (.lst ds) → Q v H') :
    ∀ p, H p = none → Q (.ref p) (upd H p (.lst xs)) := fun p hp =>
  q _ _ _ (Ext.new vw hp) (.lst upd_same z (r.mono (Ext.new vw hp).vv))

def oAddI : D → D → Option D | .int i, .int j => some (.int (i + j)) | _, _ => none
def oSubI : D → D → Option D | .int i, .int j => some (.int (i - j)) | _, _ => none
def mulOk (i j : Int) : Bool := decide (i.natAbs.log2 + j.natAbs.log2 < 1000000) || decide (-(2 ^ 64) < i ∧ i < 2 ^ 64) || decide (-(2 ^ 64) < j ∧ j < 2 ^ 64)
def oMulI : D → D → Option D | .int i, .int j => if mulOk i j then some (.int (i * j)) else none | _, _ => none
def oDivI : D → D → Option D | .int i, .int j => if j ≠ 0 ∧ j.natAbs.log2 < 9000 then some (.int (i.fdiv j)) else none | _, _ => none
def oModI : D → D → Option D | .int i, .int j => if j ≠ 0 then some (.int (i.fmod j)) else none | _, _ => none
def oLt : D → D → Option D | .int i, .int j => some (.bl (decide (i < j))) | _, _ => none
def oLe : D → D → Option D | .int i, .int j => some (.bl (decide (i ≤ j))) | _, _ => none
def oGt : D → D → Option D | .int i, .int j => some (.bl (decide (j < i))) | _, _ => none
def oGe : D → D → Option D | .int i, .int j => some (.bl (decide (j ≤ i))) | _, _ => none
def oCatS : D → D → Option D | .str x, .str y => if x.length + y.length ≤ sizeLine then some (.str (x ++ y)) else none | _, _ => none
def oCatT : D → D → Option D | .tup x, .tup y => if x.length + y.length ≤ sizeLine then some (.tup (x ++ y)) else none | _, _ => none
def oCatL : D → D → Option D | .lst x, .lst y => if x.length + y.length ≤ sizeLine then some (.lst (x ++ y)) else none | _, _ => none
def oEq : D → D → Option D := fun a b => if pln 64 a && pln 64 b then some (.bl (deq a b)) else none
def oNe : D → D → Option D := fun a b => if pln 64 a && pln 64 b then some (.bl (!deq a b)) else none

theorem opI_of {f : Value → Value → Sem Value} {g : Int → Int → V} {h : Int → Int → D} {o : D → D → Option D} (hr : OpR X f (rI0 g)) (hg : ∀ i j H, Rep X.K cl H (g i j) (h i j))
    (ho : ∀ a b d, o a b = some d → ∃ i j, a = .int i ∧ b = .int j ∧ d = h i j) : OpS X cl f o := by
  refine ⟨_, hr, fun Hv H x y a b d Q vw rx ry e q => ?_⟩
  obtain ⟨i, j, rfl, rfl, rfl⟩ := ho a b d e
  cases rx
  cases ry
  exact ⟨i, j, rfl, rfl, q _ _ _ (Ext.refl vw) (hg i j _)⟩
theorem opI_ofC {f : Value → Value → Sem Value} {C : Int → Int → Prop} {g : Int → Int → V} {h : Int → Int → D} {o : D → D → Option D} (hr : OpR X f (rI C g)) (hg : ∀ i j H, Rep X.K cl H (g i j) (h i j))
    (ho : ∀ a b d, o a b = some d → ∃ i j, a = .int i ∧ b = .int j ∧ C i j ∧ d = h i j) : OpS X cl f o := by
  refine ⟨_, hr, fun Hv H x y a b d Q vw rx ry e q => ?_⟩
  obtain ⟨i, j, rfl, rfl, hc, rfl⟩ := ho a b d e
  cases rx
  cases ry
  exact ⟨i, j, rfl, rfl, hc, q _ _ _ (Ext.refl vw) (hg i j _)⟩
theorem os_add : OpS X cl (binaryOp .Add) oAddI := opI_of (h := fun i j => .int (i + j)) op_add (fun _ _ _ => .int _) fun a b d e => by
  cases a <;> cases b <;> simp [oAddI] at e
  subst e; exact ⟨_, _, rfl, rfl, rfl⟩
theorem os_sub : OpS X cl (binaryOp .Sub) oSubI := opI_of (h := fun i j => .int (i - j)) op_sub (fun _ _ _ => .int _) fun a b d e => by
  cases a <;> cases b <;> simp [oSubI] at e
  subst e; exact ⟨_, _, rfl, rfl, rfl⟩
theorem os_lt : OpS X cl (compareOp .Lt) oLt := opI_of (h := fun i j => .bl (decide (i < j))) op_lt (fun _ _ _ => .bl _) fun a b d e => by
  cases a <;> cases b <;> simp [oLt] at e
  subst e; exact ⟨_, _, rfl, rfl, rfl⟩
theorem os_le : OpS X cl (compareOp .LtE) oLe := opI_of (h := fun i j => .bl (decide (i ≤ j))) op_le (fun _ _ _ => .bl _) fun a b d e => by
  cases a <;> cases b <;> simp [oLe] at e
  subst e; exact ⟨_, _, rfl, rfl, rfl⟩
theorem os_ge : OpS X cl (compareOp .GtE) oGe := opI_of (h := fun i j => .bl (decide (j ≤ i))) op_ge (fun _ _ _ => .bl _) fun a b d e => by
  cases a <;> cases b <;> simp [oGe] at e
  subst e; exact ⟨_, _, rfl, rfl, rfl⟩
def CMulX (i j : Int) : Prop := mulOk i j = true
theorem op_mulX : OpR X (binaryOp .Mult) (rI CMulX fun i j => .int (i * j)) := opI fun i j _ _ _ _ _ hc q => by
  unfold CMulX mulOk at hc
  rw [Bool.or_eq_true, Bool.or_eq_true] at hc
  rcases hc with (h | h) | h
  · have h' : i.natAbs.log2 + j.natAbs.log2 < 1000000 := of_decide_eq_true h
    exact PyProof.Rows.mul_int q (CMulW.ok (i := i) (j := j) h')
  · exact PyProof.Rows.mul_int q (CMul.ok (.inl (of_decide_eq_true h)))
  · exact PyProof.Rows.mul_int q (CMul.ok (.inr (of_decide_eq_true h)))
theorem os_mul : OpS X cl (binaryOp .Mult) oMulI := opI_ofC (h := fun i j => .int (i * j)) op_mulX (fun _ _ _ => .int _) fun a b d e => by
  cases a <;> cases b <;> simp [oMulI] at e
  obtain ⟨h1, rfl⟩ := e; exact ⟨_, _, rfl, rfl, h1, rfl⟩
theorem op_divX : OpR X (binaryOp .FloorDiv) (rI (fun _ j => j ≠ 0 ∧ j.natAbs.log2 < 9000) fun i j => .int (i.fdiv j)) := opI fun i j _ _ _ _ _ hc q =>
  PyProof.Rows.floordiv_int hc.1 q (.inl (PyProof.noPylong_of_log2 hc.2))
theorem os_div : OpS X cl (binaryOp .FloorDiv) oDivI := opI_ofC (h := fun i j => .int (i.fdiv j)) op_divX (fun _ _ _ => .int _) fun a b d e => by
  cases a <;> cases b <;> simp [oDivI] at e
  obtain ⟨h1, rfl⟩ := e; exact ⟨_, _, rfl, rfl, h1, rfl⟩
theorem os_mod : OpS X cl (binaryOp .Mod) oModI := opI_ofC (h := fun i j => .int (i.fmod j)) op_modN (fun _ _ _ => .int _) fun a b d e => by
  cases a <;> cases b <;> simp [oModI] at e
  obtain ⟨h1, rfl⟩ := e; exact ⟨_, _, rfl, rfl, h1, rfl⟩
theorem os_catS : OpS X cl (binaryOp .Add) oCatS := by
  refine ⟨_, op_add_str, fun Hv H x y a b d Q vw rx ry e q => ?_⟩
  cases a <;> cases b <;> simp [oCatS] at e
  obtain ⟨h1, rfl⟩ := e
  cases rx; cases ry
  exact ⟨_, _, rfl, rfl, h1, q _ _ _ (Ext.refl vw) (.str _)⟩
theorem os_catT : OpS X cl (binaryOp .Add) oCatT := by
  refine ⟨_, op_catA, fun Hv H x y a b d Q vw rx ry e q => ?_⟩
  cases a <;> cases b <;> simp [oCatT] at e
  obtain ⟨h1, rfl⟩ := e
  cases rx with
  | tup s1 z1 r1 =>
    cases ry with
    | tup s2 z2 r2 =>
      have e1 := r1.length
      have e2 := r2.length
      refine ⟨_, _, _, _, rfl, rfl, vw.s.sqU s1, vw.s.sqU s2, by omega, fun h => ?_, fun h h' => ?_, fun h h' => ?_⟩
      · subst h; cases r1
        exact q _ _ _ (Ext.refl vw) (.tup s2 z2 r2)
      · subst h'; cases r2
        rw [List.append_nil] at q
        exact q _ _ _ (Ext.refl vw) (.tup s1 z1 r1)
      · exact new_tup vw (r1.append r2) (by rw [List.length_append]; omega) q
theorem os_catL : OpS X cl (binaryOp .Add) oCatL := by
  refine ⟨_, op_cat, fun Hv H x y a b d Q vw rx ry e q => ?_⟩
  cases a <;> cases b <;> simp [oCatL] at e
  obtain ⟨h1, rfl⟩ := e
  cases rx with
  | lst s1 z1 r1 =>
    cases ry with
    | lst s2 z2 r2 =>
      have e1 := r1.length
      have e2 := r2.length
      exact ⟨_, _, _, _, rfl, rfl, vw.s _ _ s1 rfl, vw.s _ _ s2 rfl, by omega, new_lst vw (r1.append r2) (by rw [List.length_append]; omega) q⟩
theorem os_eq (hu : X.A.units + 64 < cLine) : OpS X cl (compareOp .Eq) oEq := by
  refine ⟨_, op_eqD hu, fun Hv H x y a b d Q vw rx ry e q => ?_⟩
  unfold oEq at e
  split at e
  · rename_i h
    cases e
    rw [Bool.and_eq_true] at h
    refine ⟨toPy a, toPy b, (rx.mono vw.s).dp h.1, (ry.mono vw.s).dp h.2, pln_shaped h.1, pln_shaped h.2, ?_⟩
    rw [deq_py]
    exact q _ _ _ (Ext.refl vw) (.bl _)
  · cases e
theorem os_ne (hu : X.A.units + 64 < cLine) : OpS X cl (compareOp .NotEq) oNe := by
  refine ⟨_, op_neD hu, fun Hv H x y a b d Q vw rx ry e q => ?_⟩
  unfold oNe at e
  split at e
  · rename_i h
    cases e
    rw [Bool.and_eq_true] at h
    refine ⟨toPy a, toPy b, (rx.mono vw.s).dp h.1, (ry.mono vw.s).dp h.2, pln_shaped h.1, pln_shaped h.2, ?_⟩
    rw [deq_py]
    exact q _ _ _ (Ext.refl vw) (.bl _)
  · cases e
def oAdd : D → D → Option D
  | .int i, .int j => some (.int (i + j))
  | .str x, .str y => if x.length + y.length ≤ sizeLine then some (.str (x ++ y)) else none
  | .tup x, .tup y => if x.length + y.length ≤ sizeLine then some (.tup (x ++ y)) else none
  | .lst x, .lst y => if x.length + y.length ≤ sizeLine then some (.lst (x ++ y)) else none
  | _, _ => none
theorem os_plus : OpS X cl (binaryOp .Add) oAdd := (os_add.or (os_catS.or (os_catT.or os_catL))).imp fun a b d e => by
  unfold orO
  cases a <;> cases b <;> simp [oAdd] at e <;> simp [oAddI, oCatS, oCatT, oCatL, e]
end
end Sm
namespace Sm
open PySem PySem.Spec L2
section
variable {X : Cx} {W : WX} {cl : Glb} {pos p : Pos} {a b c e : Expr} {es : List Expr} {fa fb fc : DE}
def dVar (i : Nat) : DE := fun ρ => match ρ[i]? with | some (some d) => .ok d | _ => .bad
def dC (d : D) : DE := fun _ => .ok d
theorem se_var (i : Nat) {x : Str} (hN : X.N[i]? = some x := by rfl) (hv : Vis X.env.scope x := by first | exact Or.inl rfl | exact Or.inr (Or.inl rfl) | exact Or.inr (Or.inr rfl)) (hd : (x == ("__debug__" : Str)) = false := by decide)
    (hcd : (x == ("__classdict__" : Str)) = false := by decide) : SE X W cl (.Name x pos) (dVar i) := by
  refine ⟨_, pe_var hN hv hd hcd, fun Hv H σ ρ Q vw er pv => ?_⟩
  unfold dVar at pv
  split at pv
  · rename_i d h
    obtain ⟨v, h1, h2⟩ := er.get i d h
    exact ⟨v, h1, pv _ _ (Ext.refl vw) v h2⟩
  · exact pv.elim
theorem se_const {e : Expr} {v : V} {d : D} (h : PE X e (tC v)) (r : ∀ H, Rep X.K cl H v d) : SE X W cl e (dC d) :=
  ⟨_, h, fun _ _ _ _ _ vw _ pv => pv _ _ (Ext.refl vw) v (r _)⟩
theorem se_int {i : Int} {j : Nat} : SE X W cl (.Constant (.int i) j pos) (dC (.int i)) := se_const pe_int fun _ => .int i
theorem se_bl {i : Bool} {j : Nat} : SE X W cl (.Constant (.bool i) j pos) (dC (.bl i)) := se_const pe_bl fun _ => .bl i
theorem se_str {i : Str} {j : Nat} : SE X W cl (.Constant (.str i) j pos) (dC (.str i)) := se_const pe_str fun _ => .str i
theorem se_globI {x : Str} {i : Int} {t : Tok} (hg : Gl X x) (hm : X.mg x = some (.int i t)) (hd : (x == ("__debug__" : Str)) = false := by decide) : SE X W cl (.Name x pos) (dC (.int i)) :=
  se_const (pe_glob (v := .int i) hg hm ⟨t, rfl⟩ hd) fun _ => .int i
def dBin (o : D → D → Option D) (fa fb : DE) : DE := fun ρ => (fa ρ).bind fun a => (fb ρ).bind fun b => ofO (o a b)
theorem bin_run {o : D → D → Option D} {r : R2} {ta tb : TE} (hs : ∀ (Hv H : Hp) (x y : V) (a b d : D) (Q : VK), Vw cl Hv H → Rep X.K cl Hv x a → Rep X.K cl Hv y b → o a b = some d →
      (∀ v Hv' H', Ext cl Hv H Hv' H' → Rep X.K cl Hv' v d → Q v H') → r x y H Q)
    (ha : RunE X W cl fa ta)
    (hb : RunE X W cl fb tb)
    : RunE X W cl (dBin o fa fb) (tOp r ta tb) := by
  intro Hv H σ ρ Q vw er pv
  refine ha Hv H σ ρ _ vw er (bindP pv fun x Hv1 H1 _ e1 pv1 v rv => ?_)
  refine hb Hv1 H1 σ ρ _ e1.vh (er.mono e1.vv) (bindP pv1 fun y Hv2 H2 _ e2 pv2 u ru => ?_)
  obtain ⟨d, ed, q⟩ := ofO_ok pv2
  exact hs Hv2 H2 v u x y d Q e2.vh (rv.mono e2.vv) ru ed fun v' Hv' H' e' r' => q Hv' H' e' v' r'
theorem se_op {op : Operator} {o : D → D → Option D} (ho : OpS X cl (binaryOp op) o) (ha : SE X W cl a fa) (hb : SE X W cl b fb) : SE X W cl (.BinOp a op b pos) (dBin o fa fb) := by
  obtain ⟨r, hr, hs⟩ := ho
  obtain ⟨ta, pa, ha⟩ := ha
  obtain ⟨tb, pb, hb⟩ := hb
  exact ⟨_, pe_op hr pa pb, bin_run hs ha hb⟩
theorem se_cmp {op : CmpOp} {o : D → D → Option D} (ho : OpS X cl (compareOp op) o) (ha : SE X W cl a fa) (hb : SE X W cl b fb) (hm : behindInMarks op b = false := by rfl) : SE X W cl (.Compare a [op] [b] pos) (dBin o fa fb) := by
  obtain ⟨r, hr, hs⟩ := ho
  obtain ⟨ta, pa, ha⟩ := ha
  obtain ⟨tb, pb, hb⟩ := hb
  exact ⟨_, pe_cmpR hr pa pb hm, bin_run hs ha hb⟩
def asB : DE → DT := fun f ρ => (f ρ).bind fun d => match d with | .bl b => .ok b | _ => .bad
theorem tTest_run {fa : DE} {ta : TE} (ha : RunE X W cl fa ta) : RunT X W cl (asB fa) (tTest ta) := by
  intro Hv H σ ρ Q vw er pv
  refine ha Hv H σ ρ _ vw er (bindP pv fun x Hv1 H1 _ e1 pv1 v rv => ?_)
  cases x with
  | bl k =>
    cases rv
    exact ⟨k, rfl, pv1 _ _ (Ext.refl e1.vh)⟩
  | _ => exact pv1.elim
theorem st_cmp {op : CmpOp} {o : D → D → Option D} (ho : OpS X cl (compareOp op) o) (ha : SE X W cl a fa) (hb : SE X W cl b fb) (hm : behindInMarks op b = false := by rfl) : ST X W cl (.Compare a [op] [b] pos) (asB (dBin o fa fb)) := by
  obtain ⟨r, hr, hs⟩ := ho
  obtain ⟨ta, pa, ha⟩ := ha
  obtain ⟨tb, pb, hb⟩ := hb
  exact ⟨_, pt_cmpR hr pa pb hm, tTest_run (bin_run hs ha hb)⟩
def dChain (o o' : D → D → Option D) (fa fb fc : DE) : DE := fun ρ => (fa ρ).bind fun a => (fb ρ).bind fun b => (ofO (o a b)).bind fun k => match k with
  | .bl true => (fc ρ).bind fun c => ofO (o' b c)
  | .bl false => .ok (.bl false)
  | _ => .bad
theorem chain_run {o o' : D → D → Option D} {r r' : R2} {ta tb tc : TE} (hs : ∀ (Hv H : Hp) (x y : V) (a b d : D) (Q : VK), Vw cl Hv H → Rep X.K cl Hv x a → Rep X.K cl Hv y b → o a b = some d →
      (∀ v Hv' H', Ext cl Hv H Hv' H' → Rep X.K cl Hv' v d → Q v H') → r x y H Q) (hs' : ∀ (Hv H : Hp) (x y : V) (a b d : D) (Q : VK), Vw cl Hv H → Rep X.K cl Hv x a → Rep X.K cl Hv y b → o' a b = some d →
      (∀ v Hv' H', Ext cl Hv H Hv' H' → Rep X.K cl Hv' v d → Q v H') → r' x y H Q)
    (ha : RunE X W cl fa ta) (hb : RunE X W cl fb tb) (hc : RunE X W cl fc tc) : RunE X W cl (dChain o o' fa fb fc) (tChain r r' ta tb tc) := by
  intro Hv H σ ρ Q vw er pv
  refine ha Hv H σ ρ _ vw er (bindP pv fun x Hv1 H1 _ e1 pv1 v rv => ?_)
  refine hb Hv1 H1 σ ρ _ e1.vh (er.mono e1.vv) (bindP pv1 fun y Hv2 H2 _ e2 pv2 u ru => ?_)
  cases eo : o x y with
  | none => rw [eo] at pv2; exact pv2.elim
  | some d =>
    rw [eo] at pv2
    refine hs Hv2 H2 v u x y d _ e2.vh (rv.mono e2.vv) ru eo fun z Hv3 H3 e3 rz => ?_
    cases d with
    | bl k =>
      cases rz
      refine ⟨k, rfl, ?_⟩
      have pv3 := Pst.ext pv2 e3
      cases k with
      | false =>
        rw [if_neg Bool.false_ne_true]
        exact pv3 _ _ (Ext.refl e3.vh) _ (.bl false)
      | true =>
        rw [if_pos rfl]
        refine hc Hv3 H3 σ ρ _ e3.vh (((er.mono e1.vv).mono e2.vv).mono e3.vv) (bindP (show Pst cl W σ Hv3 H3 (TV X.K cl Q) ((fc ρ).bind fun c => ofO (o' y c)) from pv3) fun w Hv4 H4 _ e4 pv4 t rt => ?_)
        obtain ⟨d', ed, q⟩ := ofO_ok pv4
        exact hs' Hv4 H4 u t y w d' Q e4.vh ((ru.mono e3.vv).mono e4.vv) rt ed fun v' Hv' H' e' r' => q Hv' H' e' v' r'
    | _ => exact pv2.elim
theorem se_chain {op op' : CmpOp} {o o' : D → D → Option D} (ho : OpS X cl (compareOp op) o) (ho' : OpS X cl (compareOp op') o') (ha : SE X W cl a fa) (hb : SE X W cl b fb) (hc : SE X W cl c fc) (hm : lastMarks [op, op'] [b, c] = false := by rfl) :
    SE X W cl (.Compare a [op, op'] [b, c] pos) (dChain o o' fa fb fc) := by
  obtain ⟨r, hr, hs⟩ := ho
  obtain ⟨r', hr', hs'⟩ := ho'
  obtain ⟨ta, pa, ha⟩ := ha
  obtain ⟨tb, pb, hb⟩ := hb
  obtain ⟨tc, pc, hc⟩ := hc
  exact ⟨_, pe_chain hr hr' pa pb pc hm, chain_run hs hs' ha hb hc⟩
theorem st_chain {op op' : CmpOp} {o o' : D → D → Option D} (ho : OpS X cl (compareOp op) o) (ho' : OpS X cl (compareOp op') o') (ha : SE X W cl a fa) (hb : SE X W cl b fb) (hc : SE X W cl c fc) (hm : lastMarks [op, op'] [b, c] = false := by rfl) :
    ST X W cl (.Compare a [op, op'] [b, c] pos) (asB (dChain o o' fa fb fc)) := by
  obtain ⟨r, hr, hs⟩ := ho
  obtain ⟨r', hr', hs'⟩ := ho'
  obtain ⟨ta, pa, ha⟩ := ha
  obtain ⟨tb, pb, hb⟩ := hb
  obtain ⟨tc, pc, hc⟩ := hc
  exact ⟨_, pt_chain hr hr' pa pb pc hm, tTest_run (chain_run hs hs' ha hb hc)⟩

def tru : D → Option Bool
  | .non => some false
  | .bl b => some b
  | .int i => some (i != 0)
  | .str x => if x.length ≤ sizeLine then some ((x.length : Int) != 0) else none
  | .tup xs => some (!xs.isEmpty)
  | .lst xs => some (!xs.isEmpty)
  | _ => none
theorem reps_isEmpty {K : PySem.W.Frag} {H : Hp} {xs : List V} {ds : List D} (r : Reps K cl H xs ds) : (!xs.isEmpty) = !ds.isEmpty := by cases r <;> rfl
theorem tru_rep {K : PySem.W.Frag} {Hv H : Hp} {v : V} {d : D} {k : Bool} (vw : Vw cl Hv H) (r : Rep K cl Hv v d) (h : tru d = some k) : TruV K v H k := by
  cases r with
  | non => exact (Option.some.inj h).symm
  | bl b => exact (Option.some.inj h).symm
  | int b => exact (Option.some.inj h).symm
  | str b =>
    simp only [tru] at h
    split at h
    · exact ⟨by assumption, (Option.some.inj h).symm⟩
    · cases h
  | lst s z r => exact .inl ⟨_, .inl (.inl (vw.s _ _ s rfl)), by rw [reps_isEmpty r]; exact (Option.some.inj h).symm⟩
  | tup s z r => exact .inr (.inl ⟨_, vw.s.sqU s, by rw [reps_isEmpty r]; exact (Option.some.inj h).symm⟩)
  | scr _ _ => cases h
  | scr0 _ _ => cases h
  | fnv _ => cases h
  | obj _ => cases h
  | dclK _ _ => cases h
  | dclT _ _ _ => cases h
  | scr1 _ _ => cases h
  | exc _ => cases h
  | dctK _ _ => cases h
  | dctT _ _ _ => cases h
def dTru (f : DE) : DT := fun ρ => (f ρ).bind fun d => ofO (tru d)
theorem st_truth (ha : SE X W cl a fa) (he : ∀ whole, isTrue a X.env whole = (do let v ← whole; standAt a.pos; holding [v] (truthy v)) := by intro _; rfl) : ST X W cl a (dTru fa) := by
  obtain ⟨ta, pa, ha⟩ := ha
  refine ⟨_, pt_truth pa he, fun Hv H σ ρ Q vw er pv => ?_⟩
  refine ha Hv H σ ρ _ vw er (bindP pv fun x Hv1 H1 _ e1 pv1 v rv => ?_)
  obtain ⟨k, ek, q⟩ := ofO_ok pv1
  exact ⟨k, tru_rep e1.vh rv ek, q _ _ (Ext.refl e1.vh)⟩
def dNotT (f : DT) : DT := fun ρ => (f ρ).bind fun b => .ok (!b)
theorem st_not {f : DT} (ha : ST X W cl a f) : ST X W cl (.UnaryOp .Not a pos) (dNotT f) := by
  obtain ⟨ta, pa, ha⟩ := ha
  refine ⟨_, pt_not pa, fun Hv H σ ρ Q vw er pv => ?_⟩
  exact ha Hv H σ ρ _ vw er (bindP pv fun x Hv1 H1 _ e1 pv1 => pv1 _ _ (Ext.refl e1.vh))
def dAndT (f g : DT) : DT := fun ρ => (f ρ).bind fun b => match b with | true => g ρ | false => .ok false
def dOrT (f g : DT) : DT := fun ρ => (f ρ).bind fun b => match b with | true => .ok true | false => g ρ
theorem sw_one {f : DT} {op : BoolOp} (ha : ST X W cl a f) : SW X W cl (.BoolOp op [a] pos) f := by
  obtain ⟨ta, pa, ha⟩ := ha
  cases op with
  | And => exact ⟨_, pw_and1 pa, ha⟩
  | Or => exact ⟨_, pw_or1 pa, ha⟩
theorem sw_or {f g : DT} (ha : ST X W cl a f) (hb : SW X W cl (.BoolOp .Or (b :: es) pos) g) : SW X W cl (.BoolOp .Or (a :: b :: es) pos) (dOrT f g) := by
  obtain ⟨ta, pa, ha⟩ := ha
  obtain ⟨tb, pb, hb⟩ := hb
  refine ⟨_, pw_or pa pb, fun Hv H σ ρ Q vw er pv => ?_⟩
  refine ha Hv H σ ρ _ vw er (bindP pv fun x Hv1 H1 _ e1 pv1 => ?_)
  show if x = true then Q true H1 else tb σ H1 Q
  cases x with
  | true => rw [if_pos rfl]; exact pv1 _ _ (Ext.refl e1.vh)
  | false => rw [if_neg Bool.false_ne_true]; exact hb Hv1 H1 σ ρ Q e1.vh (er.mono e1.vv) pv1
theorem SW.st {f : DT} (h : SW X W cl e f) : ST X W cl e f := by
  obtain ⟨t, pt, h⟩ := h
  exact ⟨t, pt.pt, h⟩
def dAnd (f g : DE) : DE := fun ρ => (f ρ).bind fun x => (ofO (tru x)).bind fun k => match k with | true => g ρ | false => .ok x
def dOr (f g : DE) : DE := fun ρ => (f ρ).bind fun x => (ofO (tru x)).bind fun k => match k with | true => .ok x | false => g ρ
def dNot (f : DE) : DE := fun ρ => (f ρ).bind fun x => (ofO (tru x)).bind fun k => .ok (.bl (!k))
theorem se_one {op : BoolOp} (ha : SE X W cl a fa) : SE X W cl (.BoolOp op [a] pos) fa := by
  obtain ⟨ta, pa, ha⟩ := ha
  exact ⟨_, pe_one pa, ha⟩
theorem se_and (ha : SE X W cl a fa) (hb : SE X W cl (.BoolOp .And (b :: es) pos) fb) : SE X W cl (.BoolOp .And (a :: b :: es) pos) (dAnd fa fb) := by
  obtain ⟨ta, pa, ha⟩ := ha
  obtain ⟨tb, pb, hb⟩ := hb
  refine ⟨_, pe_andT pa pb, fun Hv H σ ρ Q vw er pv => ?_⟩
  refine ha Hv H σ ρ _ vw er (bindP pv fun x Hv1 H1 _ e1 pv1 v rv => ?_)
  cases ek : tru x with
  | none => rw [ek] at pv1; exact pv1.elim
  | some k =>
    rw [ek] at pv1
    refine ⟨k, tru_rep e1.vh rv ek, ?_⟩
    cases k with
    | true => rw [if_pos rfl]; exact hb Hv1 H1 σ ρ Q e1.vh (er.mono e1.vv) pv1
    | false => rw [if_neg Bool.false_ne_true]; exact pv1 _ _ (Ext.refl e1.vh) v rv
theorem se_not (ha : SE X W cl a fa) : SE X W cl (.UnaryOp .Not a pos) (dNot fa) := by
  obtain ⟨ta, pa, ha⟩ := ha
  refine ⟨_, pe_notT pa, fun Hv H σ ρ Q vw er pv => ?_⟩
  refine ha Hv H σ ρ _ vw er (bindP pv fun x Hv1 H1 _ e1 pv1 v rv => ?_)
  cases ek : tru x with
  | none => rw [ek] at pv1; exact pv1.elim
  | some k =>
    rw [ek] at pv1
    exact ⟨k, tru_rep e1.vh rv ek, pv1 _ _ (Ext.refl e1.vh) _ (.bl _)⟩
def dIf (t : DT) (f g : DE) : DE := fun ρ => (t ρ).bind fun k => match k with | true => f ρ | false => g ρ
theorem se_if {t : DT} (hc : ST X W cl c t) (ha : SE X W cl a fa) (hb : SE X W cl b fb) : SE X W cl (.IfExp c a b pos) (dIf t fa fb) := by
  obtain ⟨tc, pc, hc⟩ := hc
  obtain ⟨ta, pa, ha⟩ := ha
  obtain ⟨tb, pb, hb⟩ := hb
  refine ⟨_, pe_ifExp pc pa pb, fun Hv H σ ρ Q vw er pv => ?_⟩
  refine hc Hv H σ ρ _ vw er (bindP pv fun x Hv1 H1 _ e1 pv1 => ?_)
  show if x = true then ta σ H1 Q else tb σ H1 Q
  cases x with
  | true => rw [if_pos rfl]; exact ha Hv1 H1 σ ρ Q e1.vh (er.mono e1.vv) pv1
  | false => rw [if_neg Bool.false_ne_true]; exact hb Hv1 H1 σ ρ Q e1.vh (er.mono e1.vv) pv1
def oNeg : D → Option D | .int i => some (.int (-i)) | _ => none
def dUn (o : D → Option D) (f : DE) : DE := fun ρ => (f ρ).bind fun x => ofO (o x)
theorem se_neg (ha : SE X W cl a fa) : SE X W cl (.UnaryOp .USub a pos) (dUn oNeg fa) := by
  obtain ⟨ta, pa, ha⟩ := ha
  refine ⟨_, pe_un un_neg pa, fun Hv H σ ρ Q vw er pv => ?_⟩
  refine ha Hv H σ ρ _ vw er (bindP pv fun x Hv1 H1 _ e1 pv1 v rv => ?_)
  obtain ⟨d, ed, q⟩ := ofO_ok pv1
  cases x <;> simp [oNeg] at ed
  subst ed
  cases rv
  exact ⟨_, rfl, q _ _ (Ext.refl e1.vh) _ (.int _)⟩

def dNil : DA := fun _ => .ok []
def dCons (f : DE) (g : DA) : DA := fun ρ => (f ρ).bind fun a => (g ρ).bind fun as => .ok (a :: as)
theorem sa_nil : SA X W cl [] dNil := ⟨_, pa_nil, fun Hv H σ ρ Q vw er pv => pv _ _ (Ext.refl vw) [] .nil, fun ρ ds h => by cases h; rfl⟩
theorem sa_cons {g : DA} (ha : SE X W cl e fa) (hr : SA X W cl es g) (hs : starEach (e :: es) X.env = (false, eval e X.env) :: starEach es X.env := by rfl) : SA X W cl (e :: es) (dCons fa g) := by
  obtain ⟨ta, pa, ha⟩ := ha
  obtain ⟨tr, pr, hr, hl⟩ := hr
  refine ⟨_, pa_cons pa pr hs, fun Hv H σ ρ Q vw er pv => ?_, fun ρ ds h => ?_⟩
  · refine ha Hv H σ ρ _ vw er (bindP pv fun x Hv1 H1 _ e1 pv1 v rv => ?_)
    refine hr Hv1 H1 σ ρ _ e1.vh (er.mono e1.vv) (bindP pv1 fun y Hv2 H2 _ e2 pv2 u ru => ?_)
    exact pv2 _ _ (Ext.refl e2.vh) _ (.cons (rv.mono e2.vv) ru)
  · unfold dCons at h
    cases h1 : fa ρ with
    | ok x =>
      cases h2 : g ρ with
      | ok y =>
        rw [h1, h2] at h
        cases h
        rw [List.length_cons, List.length_cons, hl ρ y h2]
      | err c => rw [h1, h2] at h; cases h
      | bad => rw [h1, h2] at h; cases h
    | err c => rw [h1] at h; cases h
    | bad => rw [h1] at h; cases h
def dTup (g : DA) : DE := fun ρ => (g ρ).bind fun ds => .ok (.tup ds)
def dLst (g : DA) : DE := fun ρ => (g ρ).bind fun ds => .ok (.lst ds)
theorem small_line {n : Nat} (h : decide (n ≤ 1000) = true) : n ≤ sizeLine := Nat.le_of_lt (small1000 (of_decide_eq_true h))
theorem se_tup {g : DA} {x1 : Nat} (h : SA X W cl es g) (hn : decide (es.length ≤ 1000) = true := by rfl) : SE X W cl (.Tuple es x1 pos) (dTup g) := by
  obtain ⟨ta, pa, ha, hl⟩ := h
  refine ⟨_, pe_tup pa, fun Hv H σ ρ Q vw er pv => ?_⟩
  refine ha Hv H σ ρ _ vw er (bindP pv fun x Hv1 H1 ex e1 pv1 v rv => ?_)
  have z : v.length ≤ sizeLine := by rw [rv.length, hl ρ x ex]; exact small_line hn
  exact ⟨z, new_tup e1.vh rv z fun v' Hv' H' e' r' => pv1 _ _ e' v' r'⟩
theorem se_lst {g : DA} (h : SA X W cl es g) (hn : decide (es.length ≤ 1000) = true := by rfl) : SE X W cl (.List es pos) (dLst g) := by
  obtain ⟨ta, pa, ha, hl⟩ := h
  refine ⟨_, pe_lst pa, fun Hv H σ ρ Q vw er pv => ?_⟩
  refine ha Hv H σ ρ _ vw er (bindP pv fun x Hv1 H1 ex e1 pv1 v rv => ?_)
  have z : v.length ≤ sizeLine := by rw [rv.length, hl ρ x ex]; exact small_line hn
  exact ⟨z, new_lst e1.vh rv z fun v' Hv' H' e' r' => pv1 _ _ e' v' r'⟩

def intsD : List D → Option (List Int)
  | [] => some []
  | .int i :: ds => (intsD ds).map (i :: ·)
  | _ => none
theorem intsD_eq : ∀ {xs : List D} {k : List Int}, intsD xs = some k → xs = k.map .int
  | [], k, h => by cases h; rfl
  | .int i :: ds, k, h => by
    simp only [intsD, Option.map_eq_some_iff] at h
    obtain ⟨k', h1, rfl⟩ := h
    rw [intsD_eq h1]; rfl
  | .non :: _, k, h => by cases h
  | .bl _ :: _, k, h => by cases h
  | .str _ :: _, k, h => by cases h
  | .tup _ :: _, k, h => by cases h
  | .lst _ :: _, k, h => by cases h
  | .dct _ :: _, k, h => by cases h
  | .exc _ :: _, k, h => by cases h
  | .scr _ :: _, k, h => by cases h
  | .scr0 :: _, k, h => by cases h
  | .fnv :: _, k, h => by cases h
  | .obj _ :: _, k, h => by cases h
  | .dcl _ :: _, k, h => by cases h
  | .scr1 :: _, k, h => by cases h
theorem intsD_map : ∀ k : List Int, intsD (k.map .int) = some k
  | [] => rfl
  | i :: k => by simp [intsD, intsD_map k]
def isKI (i : Int) : D → Bool | .int j => j == i | _ => false
def isKT (a : List Int) : D → Bool | .tup ys => intsD ys == some a | _ => false
def kInt : D → Bool | .int _ => true | _ => false
def kTup : D → Bool | .tup ys => (intsD ys).isSome | _ => false
def findE (t : D → Bool) (es : List (D × D)) : Option D := (es.find? fun e => t e.1).map (·.2)
def oGetK (es : List (D × D)) : D → Option (Option D)
  | .int i => if es.all fun e => kInt e.1 then some (findE (isKI i) es) else none
  | .tup xs => match intsD xs with
    | some a => if es ≠ [] ∧ es.all fun e => kTup e.1 then some (findE (isKT a) es) else none
    | none => none
  | _ => none
def oIx : D → D → Option D
  | .dct es, k => (oGetK es k).bind id
  | .dcl es, k => (oGetK es k).bind id
  | .lst ds, .int i => atI ds i
  | .tup ds, .int i => atI ds i
  | .scr ns, .int i => (atI ns i).map .int
  | .str z, .int i => if z.length ≤ sizeLine then (atI z.cps.toList i).map fun c => .str ⟨#[c]⟩ else none
  | _, _ => none
def oIxS : D → D → Option D
  | .lst ds, .int i => atI ds i
  | .tup ds, .int i => atI ds i
  | .scr ns, .int i => (atI ns i).map .int
  | .str z, .int i => if z.length ≤ sizeLine then (atI z.cps.toList i).map fun c => .str ⟨#[c]⟩ else none
  | _, _ => none
theorem reps_atI {K : PySem.W.Frag} {H : Hp} {xs : List V} {ds : List D} {i : Int} {d : D} (r : Reps K cl H xs ds) (h : atI ds i = some d) : ∃ v, atI xs i = some v ∧ Rep K cl H v d := by
  unfold atI at h ⊢
  rw [← r.length] at h
  cases q : ixN xs.length i with
  | none => rw [q] at h; cases h
  | some j =>
    rw [q] at h
    obtain ⟨v, h1, h2⟩ := r.get (i := j) h
    exact ⟨v, h1, h2⟩
theorem se_ix (ha : SE X W cl a fa) (hb : SE X W cl b fb) (hs : PlainIx b := by intro _ _; rfl) : SE X W cl (.Subscript a b pos) (dBin oIxS fa fb) := by
  obtain ⟨ta, pa, ha⟩ := ha
  obtain ⟨tb, pb, hb⟩ := hb
  refine ⟨_, pe_ix ix_seq pa pb hs, bin_run (fun Hv H x y a b d Q vw rx ry e q => ?_) ha hb⟩
  cases b with
  | int i =>
    cases ry
    cases rx with
    | lst s z r =>
      obtain ⟨v, h1, h2⟩ := reps_atI r e
      exact .inl ⟨_, _, i, v, rfl, rfl, .inl (.inl (vw.s _ _ s rfl)), h1, q _ _ _ (Ext.refl vw) h2⟩
    | tup s z r =>
      obtain ⟨v, h1, h2⟩ := reps_atI r e
      exact .inr (.inl ⟨_, _, i, v, rfl, rfl, vw.s.sqU s, h1, q _ _ _ (Ext.refl vw) h2⟩)
    | scr s z =>
      simp only [oIxS, Option.map_eq_some_iff] at e
      obtain ⟨n, h1, rfl⟩ := e
      refine .inl ⟨_, _, i, .int n, rfl, rfl, vw.s.sqL s, ?_, q _ _ _ (Ext.refl vw) (.int n)⟩
      unfold atI at h1 ⊢
      rw [List.length_map]
      cases z : ixN _ i with
      | none => rw [z] at h1; cases h1
      | some j =>
        rw [z] at h1
        show (List.map V.int _)[j]? = _
        have h2 : _[j]? = some n := h1
        rw [List.getElem?_map, h2]; rfl
    | str z =>
      simp only [oIxS] at e
      split at e
      · rw [Option.map_eq_some_iff] at e
        obtain ⟨c, h1, rfl⟩ := e
        exact .inr (.inr ⟨_, _, c, rfl, rfl, by assumption, h1, q _ _ _ (Ext.refl vw) (.str _)⟩)
      · cases e
    | _ => cases e
  | _ => cases a <;> cases e
end
end Sm
namespace Sm
open PySem PySem.Spec L2
def spF (K : PySem.W.Frag) (cl : Glb) (n : Nat) (F : List D → R D) : Sp := fun vs H Q E => vs.length = n ∧ ∃ Hv ds, Vw cl Hv H ∧ Reps K cl Hv vs ds ∧ Pst cl (fun c d _ H => E c d H) [] Hv H (TV K cl Q) (F ds)
structure Fn (P : Program) (w : World) (K : PySem.W.Frag) (mg : Str → Option Value) (base : Heap) (cl : Glb) (k : Nat) (x : Str) (n : Nat) (F : List D → R D) : Prop where
  ex : ∃ f fd ps, FnOk P w K mg base (L2.CX P w) k f fd ps (spF K cl n F) ∧ mg x = some (.ref f) ∧ PySem.W.keepIn K (.ref f) = true ∧ Binds K fd ps [] ∧ ps.length = n
theorem Fn.mono {P : Program} {w : World} {K : PySem.W.Frag} {mg : Str → Option Value} {base : Heap} {cl : Glb} {k k' : Nat} {x : Str} {n : Nat} {F : List D → R D} (h : Fn P w K mg base cl k x n F) (hk : k ≤ k') : Fn P w K mg base cl k' x n F := by
  obtain ⟨f, fd, ps, h1, h2, h3, h4, h5⟩ := h
  exact ⟨f, fd, ps, h1.mono hk, h2, h3, h4, h5⟩
section
variable {X : Cx} {W : WX} {cl : Glb} {pos p : Pos} {a b c e : Expr} {es : List Expr} {fa fb fc : DE} {g : DA}
def dCall (F : List D → R D) (g : DA) : DE := fun ρ => (g ρ).bind F
theorem se_call {k n : Nat} {x : Str} {F : List D → R D} (G : Fn X.prog X.w X.K X.mg X.base cl k x n F) (hr : Room k X.A) (tk : Takes X W) (ha : SA X W cl (e :: es) g) (hg : Gl X x := by rfl) (hn : (e :: es).length = n := by rfl) (hdb : (x == ("__debug__" : Str)) = false := by decide)
    (he : starEach (e :: es) X.env = (false, eval e X.env) :: starEach es X.env := by rfl) (hpl : (backTo pos (starEach es X.env)).any (·.1) = false := by rfl) :
    SE X W cl (.Call (.Name x p) (e :: es) [] pos) (dCall F g) := by
  obtain ⟨f, fd, ps, h1, h2, h3, h4, h5⟩ := G
  obtain ⟨ta, pa, ha, hl⟩ := ha
  refine ⟨_, pe_callS h1 hr hg h2 h3 h4 (fun σ => passAt tk σ) pa hdb he hpl, fun Hv H σ ρ Q vw er pv => ?_⟩
  refine ha Hv H σ ρ _ vw er (bindP pv fun x Hv1 H1 ex e1 pv1 v rv => ?_)
  refine ⟨?_, Hv1, x, e1.vh, rv, ?_⟩
  · rw [rv.length, hl ρ x ex]; exact hn
  · cases q : F x with
    | ok d => rw [q] at pv1; exact pv1
    | err c => rw [q] at pv1; exact pv1
    | bad => rw [q] at pv1; exact pv1.elim

section
variable (X : Cx) (cl : Glb)
def CallS (f : Value) (o : List D → Option D) : Prop := ∃ r, CallR X f r ∧ ∀ (Hv H : Hp) (xs : List V) (ds : List D) (d : D) (Q : VK), Vw cl Hv H → Reps X.K cl Hv xs ds → o ds = some d →
  (∀ v Hv' H', Ext cl Hv H Hv' H' → Rep X.K cl Hv' v d → Q v H') → r xs H Q
end
def dB (o : List D → Option D) (g : DA) : DE := fun ρ => (g ρ).bind fun ds => ofO (o ds)
theorem callB_run {o : List D → Option D} {r : List V → Hp → VK → Prop} {t : TA} (hs : ∀ (Hv H : Hp) (xs : List V) (ds : List D) (d : D) (Q : VK), Vw cl Hv H → Reps X.K cl Hv xs ds → o ds = some d →
  (∀ v Hv' H', Ext cl Hv H Hv' H' → Rep X.K cl Hv' v d → Q v H') → r xs H Q) (ha : RunA X W cl g t) : RunE X W cl (dB o g) (tCB r t) := by
  intro Hv H σ ρ Q vw er pv
  refine ha Hv H σ ρ _ vw er (bindP pv fun x Hv1 H1 ex e1 pv1 v rv => ?_)
  obtain ⟨d, ed, q⟩ := ofO_ok pv1
  exact hs Hv1 H1 v x d Q e1.vh rv ed fun v' Hv' H' e' r' => q Hv' H' e' v' r'
theorem se_callB {x : Str} {id : String} {o : List D → Option D} (hc : CallS X cl (.builtin id) o) (hv : bootBuiltins x = some (.builtin id)) (ha : SA X W cl (e :: es) g) (hm : X.mg x = none) (hg : Gl X x := by rfl) (hn : x ≠ "__name__" := by decide) (hdb : (x == ("__debug__" : Str)) = false := by decide)
    (he : starEach (e :: es) X.env = (false, eval e X.env) :: starEach es X.env := by rfl) (hpl : (backTo pos (starEach es X.env)).any (·.1) = false := by rfl) : SE X W cl (.Call (.Name x p) (e :: es) [] pos) (dB o g) := by
  obtain ⟨r, hr, hs⟩ := hc
  obtain ⟨ta, pa, ha, hl⟩ := ha
  exact ⟨_, pe_callB hr hg hm hv pa hn hdb he hpl, callB_run hs ha⟩
theorem se_callTy {x : Str} {T : String} {o : List D → Option D} (hc : CallS X cl (.type T) o) (hv : bootBuiltins x = some (.type T)) (ha : SA X W cl (e :: es) g) (hm : X.mg x = none) (hg : Gl X x := by rfl) (hn : x ≠ "__name__" := by decide) (hdb : (x == ("__debug__" : Str)) = false := by decide)
    (he : starEach (e :: es) X.env = (false, eval e X.env) :: starEach es X.env := by rfl) (hpl : (backTo pos (starEach es X.env)).any (·.1) = false := by rfl) : SE X W cl (.Call (.Name x p) (e :: es) [] pos) (dB o g) := by
  obtain ⟨r, hr, hs⟩ := hc
  obtain ⟨ta, pa, ha, hl⟩ := ha
  exact ⟨_, pe_callTy hr hg hm hv pa hn hdb he hpl, callB_run hs ha⟩

def oLen : List D → Option D
  | [.lst ds] => some (.int ds.length)
  | [.tup ds] => some (.int ds.length)
  | [.scr ds] => some (.int ds.length)
  | [.str z] => if z.length ≤ sizeLine then some (.int z.length) else none
  | _ => none
theorem cs_len : CallS X cl (.builtin "len") oLen := by
  refine ⟨_, call_len, fun Hv H xs ds d Q vw r e q => ?_⟩
  cases r with
  | nil => cases e
  | cons r t =>
    cases t with
    | cons _ _ => cases r <;> cases e
    | nil =>
      cases r with
      | lst s z r =>
        cases e
        refine ⟨_, _, rfl, .inl ⟨_, .inl (.inl (vw.s _ _ s rfl)), rfl⟩, ?_⟩
        rw [r.length]; exact q _ _ _ (Ext.refl vw) (.int _)
      | tup s z r =>
        cases e
        refine ⟨_, _, rfl, .inr ⟨_, vw.s.sqU s, rfl⟩, ?_⟩
        rw [r.length]; exact q _ _ _ (Ext.refl vw) (.int _)
      | scr s z =>
        cases e
        refine ⟨_, _, rfl, .inl ⟨_, vw.s.sqL s, rfl⟩, ?_⟩
        rw [List.length_map]; exact q _ _ _ (Ext.refl vw) (.int _)
      | str z =>
        simp only [oLen] at e
        split at e
        · cases e
          exact ⟨_, _, rfl, ⟨by assumption, rfl⟩, q _ _ _ (Ext.refl vw) (.int _)⟩
        · cases e
      | _ => cases e
def oMax2 : List D → Option D | [.int i, .int j] => some (.int (if j > i then j else i)) | _ => none
theorem cs_max2 (hc : X.calm = true) : CallS X cl (.builtin "max") oMax2 := by
  refine ⟨_, call_max2 hc, fun Hv H xs ds d Q vw r e q => ?_⟩
  cases r with
  | nil => cases e
  | cons r t =>
    cases t with
    | nil => cases r <;> cases e
    | cons r' t =>
      cases t with
      | cons _ _ => cases r <;> cases r' <;> cases e
      | nil =>
        cases r with
        | int i =>
          cases r' with
          | int j => cases e; exact ⟨_, _, rfl, q _ _ _ (Ext.refl vw) (.int _)⟩
          | _ => cases e
        | _ => cases r' <;> cases e
end
structure ItOk (K : PySem.W.Frag) (cl : Glb) (J : It) (Hv0 : Hp) (ds : List D) : Prop where
  go : ∀ i Hv H, Sam Hv0 Hv → Vw cl Hv H → i < ds.length → J.go i H
  stop : ∀ i Hv H, Sam Hv0 Hv → Vw cl Hv H → i = ds.length → J.stop i H
  yld : ∀ (i : Nat) Hv H, Sam Hv0 Hv → Vw cl Hv H → ∀ d, ds[i]? = some d → ∀ x H', J.yld i H x H' → ∃ Hv', Ext cl Hv H Hv' H' ∧ Rep K cl Hv' x d
abbrev DI := Env → R (List D)
def TJ (K : PySem.W.Frag) (cl : Glb) (Q : It → Hp → Prop) : Hp → Hp → List D → Prop := fun Hv' H' ds => ds.length ≤ sizeLine → ∀ J, ItOk K cl J Hv' ds → Q J H'
def SI (X : Cx) (W : WX) (cl : Glb) (tg iter : Expr) (f : DI) : Prop := ∃ wi, PI X tg iter wi ∧ ∀ (Hv H : Hp) (σ : St) (ρ : Env) (Q : It → Hp → Prop), Vw cl Hv H → ER X.K cl Hv ρ σ → Pst cl W σ Hv H (TJ X.K cl Q) (f ρ) → wi σ H Q
theorem PI.or {X : Cx} {tg iter : Expr} {w1 w2 : TI} (h1 : PI X tg iter w1) (h2 : PI X tg iter w2) : PI X tg iter (fun σ H R => w1 σ H R ∨ w2 σ H R) :=
  ⟨fun pins s σ H R I h => h.elim (h1.run pins s σ H R I) (h2.run pins s σ H R I)⟩
section
variable {X : Cx} {W : WX} {cl : Glb} {pos p : Pos} {a b c e tg : Expr} {es : List Expr} {fa fb fc : DE} {g : DA}
def itemsOf : D → Option (List D)
  | .lst ds => some ds
  | .tup ds => some ds
  | .scr ns => some (ns.map .int)
  | _ => none
def dItems (f : DE) : DI := fun ρ => (f ρ).bind fun d => ofO (itemsOf d)
theorem it_list {K : PySem.W.Frag} {Hv : Hp} {l : Addr} {xs : List V} {ds : List D} (s : SqL K Hv l xs) (r : Reps K cl Hv xs ds) : ItOk K cl (Itl K l) Hv ds where
  go := fun i Hv' H sm vw h => by
    have hl := r.length
    obtain ⟨v, h1, _⟩ := r.get (i := i) (d := ds[i]) (by simp [h])
    exact ⟨xs, v, vw.s.sqL (sm.sqL s), h1⟩
  stop := fun i Hv' H sm vw h => ⟨xs, vw.s.sqL (sm.sqL s), by rw [r.length]; omega⟩
  yld := fun i Hv' H sm vw d h x H' ⟨e1, e2⟩ => by
    subst e1
    obtain ⟨v, h1, h2⟩ := r.get h
    have := e2 xs (vw.s.sqL (sm.sqL s))
    rw [h1] at this; cases this
    exact ⟨Hv', Ext.refl vw, h2.mono sm⟩
theorem it_tup {K : PySem.W.Frag} {Hv : Hp} {l : Addr} {xs : List V} {ds : List D} (s : SqT K Hv l xs) (r : Reps K cl Hv xs ds) : ItOk K cl (Itt K l) Hv ds where
  go := fun i Hv' H sm vw h => by
    have hl := r.length
    obtain ⟨v, h1, _⟩ := r.get (i := i) (d := ds[i]) (by simp [h])
    exact ⟨xs, v, vw.s.sqT (sm.sqT s), h1⟩
  stop := fun i Hv' H sm vw h => ⟨xs, vw.s.sqT (sm.sqT s), by rw [r.length]; omega⟩
  yld := fun i Hv' H sm vw d h x H' ⟨e1, e2⟩ => by
    subst e1
    obtain ⟨v, h1, h2⟩ := r.get h
    have := e2 xs (vw.s.sqT (sm.sqT s))
    rw [h1] at this; cases this
    exact ⟨Hv', Ext.refl vw, h2.mono sm⟩
theorem reps_ints {K : PySem.W.Frag} {H : Hp} : ∀ ns : List Int, Reps K cl H (ns.map V.int) (ns.map D.int)
  | [] => .nil
  | n :: ns => .cons (.int n) (reps_ints ns)
theorem si_seq (ha : SE X W cl a fa) : SI X W cl tg a (dItems fa) := by
  obtain ⟨ta, pa, ha⟩ := ha
  refine ⟨_, PI.or (pi_list pa) (pi_tup pa), fun Hv H σ ρ Q vw er pv => ?_⟩
  unfold dItems at pv
  cases q : fa ρ with
  | bad => rw [q] at pv; exact pv.elim
  | err c =>
    rw [q] at pv
    exact .inl (ha Hv H σ ρ _ vw er (by rw [q]; exact pv))
  | ok d =>
    rw [q] at pv
    have left : ∀ ds, (itemsOf d = some ds) → (∀ v Hv1, Rep X.K cl Hv1 v d → ∃ l xs, v = .ref l ∧ SqL X.K Hv1 l xs ∧ Reps X.K cl Hv1 xs ds ∧ ds.length ≤ sizeLine) → iList X.K ta σ H Q := fun ds ed hd => by
      refine ha Hv H σ ρ _ vw er ?_
      rw [q]
      intro Hv1 H1 e1 v rv
      obtain ⟨l, xs, rfl, s, r, z⟩ := hd v Hv1 rv
      have pv1 : Pst cl W σ Hv H (TJ X.K cl Q) (ofO (itemsOf d)) := pv
      rw [ed] at pv1
      exact ⟨l, rfl, ⟨xs, e1.vh.s.sqL s⟩, pv1 Hv1 H1 e1 z _ (it_list s r)⟩
    cases d with
    | lst ds => exact .inl (left ds rfl fun v Hv1 rv => by cases rv with | lst s z r => exact ⟨_, _, rfl, .inl (.inl s), r, by rw [← r.length]; exact z⟩)
    | scr ns => exact .inl (left _ rfl fun v Hv1 rv => by cases rv with | scr s z => exact ⟨_, _, rfl, s, reps_ints ns, by rw [List.length_map]; exact z⟩)
    | tup ds =>
      refine .inr (ha Hv H σ ρ _ vw er ?_)
      rw [q]
      intro Hv1 H1 e1 v rv
      cases rv with
      | tup s z r => exact ⟨_, rfl, ⟨_, e1.vh.s.sqU s⟩, pv Hv1 H1 e1 (by rw [← r.length]; exact z) _ (it_tup (sqT_of s) r)⟩
    | _ => exact pv.elim
def rngD (lo : Int) (n : Nat) : List D := (List.range n).map fun i => .int (lo + (i : Nat))
theorem it_range {K : PySem.W.Frag} {Hv : Hp} (lo : Int) (n : Nat) : ItOk K cl (Itr lo n) Hv (rngD lo n) where
  go := fun i Hv' H sm vw h => by
    show i < n
    simpa [rngD] using h
  stop := fun i Hv' H sm vw h => by
    show n ≤ i
    simp [rngD] at h
    omega
  yld := fun i Hv' H sm vw d h x H' ⟨e1, e2⟩ => by
    subst e1 e2
    unfold rngD at h
    rw [List.getElem?_map] at h
    by_cases hi : i < n
    · rw [List.getElem?_range hi] at h
      cases h
      exact ⟨Hv', Ext.refl vw, .int _⟩
    · rw [List.getElem?_eq_none (by simpa using hi)] at h; cases h
def rng1 : List D → Option (List D)
  | [.int j] => if -16777216 ≤ j ∧ j ≤ 16777216 then some (rngD 0 j.toNat) else none
  | _ => none
def dRng (o : List D → Option (List D)) (g : DA) : DI := fun ρ => (g ρ).bind fun d => ofO (o d)
theorem rngD_len (lo : Int) (n : Nat) : (rngD lo n).length = n := by simp [rngD]
theorem si_range1 (ha : SA X W cl [a] g) (hm : X.mg "range" = none) (hg : Gl X "range" := by rfl) (hs : starEach [a] X.env = [(false, eval a X.env)] := by rfl) : SI X W cl tg (.Call (.Name "range" p) [a] [] pos) (dRng rng1 g) := by
  obtain ⟨ta, pa, ha, hl⟩ := ha
  refine ⟨_, pi_range1 hg hm pa hs, fun Hv H σ ρ Q vw er pv => ?_⟩
  refine ha Hv H σ ρ _ vw er (bindP pv fun x Hv1 H1 ex e1 pv1 v rv => ?_)
  obtain ⟨ds, ed, q⟩ := ofO_ok pv1
  cases rv with
  | nil => cases ed
  | cons r t =>
    cases t with
    | cons _ _ => cases r <;> cases ed
    | nil =>
      cases r with
      | int j =>
        simp only [rng1] at ed
        split at ed
        · rename_i hj
          cases ed
          exact ⟨j, rfl, by omega, by omega, q _ _ (Ext.refl e1.vh) (by rw [rngD_len]; show j.toNat ≤ 16777216; omega) _ (it_range 0 j.toNat)⟩
        · cases ed
      | _ => cases ed
end
inductive Pat where
  | v (i : Nat)
  | t (ps : List Pat)
mutual
def bindPat : Pat → D → Env → Option Env
  | .v i, d, ρ => some (ρ.set i (some d))
  | .t ps, d, ρ => match d with
    | .tup ds => bindPats ps ds ρ
    | .lst ds => bindPats ps ds ρ
    | _ => none
def bindPats : List Pat → List D → Env → Option Env
  | [], [], ρ => some ρ
  | p :: ps, d :: ds, ρ => (bindPat p d ρ).bind fun ρ' => bindPats ps ds ρ'
  | _, _, _ => none
end
end Sm
namespace Sm
open PySem PySem.Spec L2
inductive O where
  | nx (ρ : Env) | ret (d : D) | err (ρ : Env) (c : Nat) | bad
abbrev DS := Env → O
def O.seq : O → DS → O
  | .nx ρ, k => k ρ
  | .ret d, _ => .ret d
  | .err ρ c, _ => .err ρ c
  | .bad, _ => .bad
def R.to {α : Type} (ρ : Env) : R α → (α → O) → O
  | .ok a, k => k a
  | .err c, _ => .err ρ c
  | .bad, _ => .bad

inductive OwnO (K : PySem.W.Frag) (cl : Glb) (Hv : Hp) : HO → D → Prop
  | lst {vs : List V} {ds : List D} : vs.length ≤ sizeLine → Reps K cl Hv vs ds → OwnO K cl Hv (.lst vs) (.lst ds)
  | dct {kvs : List (L2.Key × V)} {es : List (D × D)} : kvs.length ≤ sizeLine → RepsK K cl Hv kvs es → OwnO K cl Hv (.dK kvs) (.dct es)
theorem OwnO.mono {K : PySem.W.Frag} {cl : Glb} {Hv Hv' : Hp} {o : HO} {d : D} (h : OwnO K cl Hv o d) (e : Sam Hv Hv') : OwnO K cl Hv' o d := by
  cases h with
  | lst z r => exact .lst z (r.mono e)
  | dct z r => exact .dct z (r.mono e)
theorem OwnO.tbl {K : PySem.W.Frag} {cl : Glb} {Hv : Hp} {o : HO} {d : D} (h : OwnO K cl Hv o d) : isTbl o = false := by cases h <;> rfl
theorem OwnO.noT {K : PySem.W.Frag} {cl : Glb} {Hv : Hp} {o : HO} {d : D} (h : OwnO K cl Hv o d) : (∀ xs, o ≠ .tup xs) ∧ (∀ u x, o ≠ .frz u x) ∧ (∀ ps, o ≠ .tbl ps) := by
  cases h <;> refine ⟨fun _ e => ?_, fun _ _ e => ?_, fun _ e => ?_⟩ <;> cases e
theorem OwnO.rep {K : PySem.W.Frag} {cl : Glb} {H : Hp} {o : HO} {d : D} {p : Addr} (h : OwnO K cl H o d) (e : H p = some o) : Rep K cl H (.ref p) d := by
  cases h with
  | lst z r => exact .lst e z r
  | dct z r => exact .dctK e r
theorem OwnO.ofL {K : PySem.W.Frag} {cl : Glb} {Hv : Hp} {o : HO} {ds : List D} (h : OwnO K cl Hv o (.lst ds)) : ∃ vs, o = .lst vs ∧ vs.length ≤ sizeLine ∧ Reps K cl Hv vs ds := by
  cases h with
  | lst z r => exact ⟨_, rfl, z, r⟩
def OwnR (K : PySem.W.Frag) (cl : Glb) (Hv H : Hp) (p : Addr) (d : D) : Prop := ∃ o, H p = some o ∧ OwnO K cl Hv o d
structure SR (K : PySem.W.Frag) (cl : Glb) (Hv0 H0 : Hp) (own : List Nat) (ρ : Env) (σ : St) (Hv H : Hp) : Prop where
  ext : Ext cl Hv0 H0 Hv H
  len : ρ.length = σ.length
  sh : ∀ (i : Nat) d, i ∉ own → ρ[i]? = some (some d) → ∃ v, σ[i]? = some (some v) ∧ Rep K cl Hv v d
  ow : ∀ i, i ∈ own → ∃ p d, ρ[i]? = some (some d) ∧ σ[i]? = some (some (.ref p)) ∧ Hv p = none ∧ H0 p = none ∧ OwnR K cl Hv H p d
  ap : ∀ (i j : Nat) p, i ∈ own → j ∈ own → σ[i]? = some (some (.ref p)) → σ[j]? = some (some (.ref p)) → i = j
def mask (own : List Nat) (ρ : Env) : Env := own.foldr (fun i r => r.set i none) ρ
theorem mask_get {ρ : Env} {i : Nat} {d : D} : ∀ {own : List Nat}, (mask own ρ)[i]? = some (some d) → i ∉ own ∧ ρ[i]? = some (some d)
  | [], h => ⟨by simp, h⟩
  | j :: own, h => by
    have h : ((mask own ρ).set j none)[i]? = some (some d) := h
    by_cases hj : j = i
    · subst hj
      by_cases hl : j < (mask own ρ).length
      · rw [List.getElem?_set_self hl] at h; cases h
      · rw [List.getElem?_eq_none (by simpa using hl)] at h; cases h
    · rw [List.getElem?_set_ne hj] at h
      obtain ⟨h1, h2⟩ := mask_get (own := own) h
      exact ⟨by simp only [List.mem_cons, not_or]; exact ⟨fun e => hj e.symm, h1⟩, h2⟩
theorem mask_len {ρ : Env} : ∀ {own : List Nat}, (mask own ρ).length = ρ.length
  | [] => rfl
  | j :: own => (List.length_set ..).trans (mask_len (own := own))
section
variable {K : PySem.W.Frag} {cl : Glb} {Hv0 H0 Hv H Hv' H' : Hp} {own : List Nat} {ρ : Env} {σ : St}
theorem SR.er (s : SR K cl Hv0 H0 own ρ σ Hv H) : ER K cl Hv (mask own ρ) σ := ⟨fun i d h => let ⟨h1, h2⟩ := mask_get h; s.sh i d h1 h2, mask_len.trans s.len⟩
theorem SR.step (s : SR K cl Hv0 H0 own ρ σ Hv H) (e : Ext cl Hv H Hv' H') : SR K cl Hv0 H0 own ρ σ Hv' H' where
  ext := s.ext.trans e
  len := s.len
  sh := fun i d h1 h2 => let ⟨v, h3, h4⟩ := s.sh i d h1 h2; ⟨v, h3, h4.mono e.vv⟩
  ow := fun i hi => by
    obtain ⟨p, d, h1, h2, h3, h4, o, h5, h6⟩ := s.ow i hi
    exact ⟨p, d, h1, h2, e.old p _ h5 h3, h4, o, e.hh _ _ h5 h6.tbl, h6.mono e.vv⟩
  ap := s.ap
def lift (Hv H H' : Hp) : Hp := fun b => if (H b).isSome && (Hv b).isNone then none else H' b
theorem lift_old {b : Addr} {o : HO} (h : Hv b = some o) : lift Hv H H' b = H' b := by
  unfold lift
  rw [h]
  simp
theorem lift_new {b : Addr} (h : H b = none) : lift Hv H H' b = H' b := by
  unfold lift
  rw [h]
  simp
theorem lift_tup (e : Ext cl H H Hv' H') {b : Addr} {o : HO} (h' : H' b = some o) (ho : isTbl o = false) (hv : H b = some o → Hv b = some o) : lift Hv H H' b = some o := by
  cases q : H b with
  | none => rw [lift_new q]; exact h'
  | some u =>
    have eu : u = o := by
      cases t : isTbl u with
      | false =>
        rw [e.hh b u q t] at h'
        exact Option.some.inj h'
      | true =>
        cases u with
        | tbl ps =>
          obtain ⟨ps', w⟩ := e.tt b ps q
          rw [w] at h'; cases h'; cases ho
        | _ => cases t
    subst eu
    rw [lift_old (hv q)]; exact h'
theorem ext_lift (vw : Vw cl Hv H) (e : Ext cl H H Hv' H') : Ext cl Hv H (lift Hv H H') H' where
  hh := e.hh
  vv := fun b o h n => by
    rw [lift_old h]
    exact e.hh b o (vw.s b o h n) n
  vh := by
    refine ⟨fun b o h n => ?_, fun b h => ?_, fun b xs h => ?_, fun b ob xs h => ?_, ?_, fun b φ h => ?_⟩
    · unfold lift at h
      split at h
      · cases h
      · exact h
    · unfold lift
      split
      · rfl
      · exact h
    · exact lift_tup e h rfl fun q => vw.t b xs q
    · exact lift_tup e h rfl fun q => vw.z b ob xs q
    · exact e.vh.tab
    · exact lift_tup e h rfl fun q => vw.x b φ q
  old := fun b o h n => by
    unfold lift
    rw [h, n]; rfl
  dom := e.dom
  tt := e.tt
end
mutual
def pure' : D → Bool
  | .non => true
  | .bl _ => true
  | .int _ => true
  | .str _ => true
  | .tup xs => pures xs
  | _ => false
def pures : List D → Bool
  | [] => true
  | x :: xs => pure' x && pures xs
end
section
variable {K : PySem.W.Frag} {cl : Glb}
mutual
theorem pure_hide {H Hh : Hp} (ht : ∀ b xs, H b = some (.tup xs) → Hh b = some (.tup xs)) (hz : ∀ b o u, H b = some (.frz o u) → Hh b = some (.frz o u)) : ∀ {v : V} {d : D}, Rep K cl H v d → pure' d = true → Rep K cl Hh v d
  | _, _, .non, _ => .non
  | _, _, .bl b, _ => .bl b
  | _, _, .int b, _ => .int b
  | _, _, .str b, _ => .str b
  | _, _, .lst _ _ _, h => by simp [pure'] at h
  | _, _, .scr _ _, h => by simp [pure'] at h
  | _, _, .scr0 _ _, h => by simp [pure'] at h
  | _, _, .fnv _, h => by simp [pure'] at h
  | _, _, .obj _, h => by simp [pure'] at h
  | _, _, .dclK _ _, h => by simp [pure'] at h
  | _, _, .dclT _ _ _, h => by simp [pure'] at h
  | _, _, .scr1 _ _, h => by simp [pure'] at h
  | _, _, .exc _, h => by simp [pure'] at h
  | _, _, .dctK _ _, h => by simp [pure'] at h
  | _, _, .dctT _ _ _, h => by simp [pure'] at h
  | _, _, .tup s z r, h => .tup (ht _ _ s) z (pures_hide ht hz r (by simpa [pure'] using h))
theorem pures_hide {H Hh : Hp} (ht : ∀ b xs, H b = some (.tup xs) → Hh b = some (.tup xs)) (hz : ∀ b o u, H b = some (.frz o u) → Hh b = some (.frz o u)) : ∀ {v : List V} {d : List D}, Reps K cl H v d → pures d = true → Reps K cl Hh v d
  | _, _, .nil, _ => .nil
  | _, _, .cons r t, h => by
    simp only [pures, Bool.and_eq_true] at h
    exact .cons (pure_hide ht hz r h.1) (pures_hide ht hz t h.2)
end
end
end Sm
namespace Sm
open PySem PySem.Spec L2
section
variable {K : PySem.W.Frag} {cl : Glb} {Hv0 H0 Hv H Hv' H' : Hp} {own own' : List Nat} {ρ : Env} {σ : St}
open Classical in
noncomputable def thaw (own own' : List Nat) (σ : St) (Hv H : Hp) : Hp := fun b => match Hv b with
  | some o => some o
  | none => if ∃ i, i ∈ own ∧ i ∉ own' ∧ σ[i]? = some (some (.ref b)) then H b else none
theorem thaw_old {b : Addr} {o : HO} (h : Hv b = some o) : thaw own own' σ Hv H b = some o := by
  unfold thaw; rw [h]
theorem thaw_new {b : Addr} (h : Hv b = none) (i : Nat) (h1 : i ∈ own) (h2 : i ∉ own') (h3 : σ[i]? = some (some (.ref b))) : thaw own own' σ Hv H b = H b := by
  unfold thaw; rw [h]
  exact if_pos ⟨i, h1, h2, h3⟩
theorem thaw_no {b : Addr} (h : Hv b = none) (hn : ∀ i : Nat, i ∈ own → i ∉ own' → σ[i]? ≠ some (some (.ref b))) : thaw own own' σ Hv H b = none := by
  unfold thaw; rw [h]
  exact if_neg fun ⟨i, h1, h2, h3⟩ => hn i h1 h2 h3
theorem thaw_some {b : Addr} {o : HO} (vs : Vw cl Hv H) (h : thaw own own' σ Hv H b = some o) : Hv b = some o ∨ (Hv b = none ∧ H b = some o) := by
  cases q : Hv b with
  | some u => rw [thaw_old q] at h; exact .inl h
  | none =>
    unfold thaw at h
    rw [q] at h
    simp only at h
    split at h
    · exact .inr ⟨rfl, h⟩
    · cases h
theorem SR.freeze (s : SR K cl Hv0 H0 own ρ σ Hv H) (hs : ∀ i ∈ own', i ∈ own) : SR K cl Hv0 H0 own' ρ σ (thaw own own' σ Hv H) H ∧ Sam Hv (thaw own own' σ Hv H) := by
  have vw := s.ext.vh
  have vv : Sam Hv (thaw own own' σ Hv H) := fun b o h _ => thaw_old h
  refine ⟨⟨⟨s.ext.hh, s.ext.vv.trans vv, ⟨fun b o h n => ?_, fun b h => ?_, fun b xs h => thaw_old (vw.t b xs h), fun b o u h => thaw_old (vw.z b o u h), vw.tab, fun b φ h => thaw_old (vw.x b φ h)⟩, fun b o h n => ?_, s.ext.dom, s.ext.tt⟩, s.len, fun i d h1 h2 => ?_, fun i hi => ?_, fun i j p h1 h2 => s.ap i j p (hs i h1) (hs j h2)⟩, vv⟩
  · rcases thaw_some vw h with q | ⟨_, q⟩
    · exact vw.s b o q n
    · exact q
  · cases q : thaw own own' σ Hv H b with
    | none => rfl
    | some o =>
      rcases thaw_some vw q with z | ⟨_, z⟩
      · rw [vw.d b h] at z; cases z
      · rw [h] at z; cases z
  · refine thaw_no (s.ext.old b o h n) fun i h1 h2 h3 => ?_
    obtain ⟨p, d, _, e2, _, e4, _⟩ := s.ow i h1
    rw [h3] at e2; cases e2
    rw [h] at e4; cases e4
  · by_cases hi : i ∈ own
    · obtain ⟨p, d', e1, e2, e3, e4, o, e6, e8⟩ := s.ow i hi
      rw [h2] at e1; cases e1
      exact ⟨_, e2, (e8.mono vv).rep ((thaw_new e3 i hi h1 e2).trans e6)⟩
    · obtain ⟨v, e1, e2⟩ := s.sh i d hi h2
      exact ⟨v, e1, e2.mono vv⟩
  · obtain ⟨p, d, e1, e2, e3, e4, o, e6, e8⟩ := s.ow i (hs i hi)
    refine ⟨p, d, e1, e2, thaw_no e3 fun j h1 h2 h3 => ?_, e4, o, e6, e8.mono vv⟩
    have := s.ap i j p (hs i hi) h1 e2 h3
    subst this
    exact h2 hi
theorem SR.set {i : Nat} {v : V} {d : D} (s : SR K cl Hv0 H0 own ρ σ Hv H) (hs : ∀ j ∈ own', j ∈ own ∧ j ≠ i) (r : Rep K cl Hv v d) (ho : ∀ j ∈ own, j ∈ own' ∨ j = i) : SR K cl Hv0 H0 own' (ρ.set i (some d)) (σ.set i (some v)) Hv H where
  ext := s.ext
  len := by rw [List.length_set, List.length_set]; exact s.len
  sh := fun j e h1 h2 => by
    by_cases hj : j = i
    · subst hj
      by_cases hi : j < σ.length
      · rw [List.getElem?_set_self (by rw [s.len]; exact hi)] at h2
        cases h2
        exact ⟨v, List.getElem?_set_self hi, r⟩
      · rw [List.getElem?_eq_none (by rw [List.length_set, s.len]; omega)] at h2
        cases h2
    · rw [List.getElem?_set_ne (Ne.symm hj)] at h2
      rw [List.getElem?_set_ne (Ne.symm hj)]
      exact s.sh j e (fun z => (ho j z).elim h1 hj) h2
  ow := fun j hj => by
    obtain ⟨h1, h2⟩ := hs j hj
    rw [List.getElem?_set_ne (Ne.symm h2), List.getElem?_set_ne (Ne.symm h2)]
    exact s.ow j h1
  ap := fun j k p h1 h2 e1 e2 => by
    rw [List.getElem?_set_ne (Ne.symm (hs j h1).2)] at e1
    rw [List.getElem?_set_ne (Ne.symm (hs k h2).2)] at e2
    exact s.ap j k p (hs j h1).1 (hs k h2).1 e1 e2
theorem SR.setOwnO {i : Nat} {p : Addr} {o : HO} {d : D} (s : SR K cl Hv0 H0 own ρ σ Hv H) (hp : H p = none) (r : OwnO K cl Hv o d) (hi : i < σ.length) :
    SR K cl Hv0 H0 (i :: own.filter (· ≠ i)) (ρ.set i (some d)) (σ.set i (some (.ref p))) Hv (upd H p o) := by
  have vw := s.ext.vh
  have smh : Sam H (upd H p o) := .of (same_upd hp)
  have vw' : Vw cl Hv (upd H p o) := ⟨vw.s.trans smh, fun b h => vw.d b (upd_none h).2, fun b xs h => by
    by_cases z : b = p
    · subst z; rw [upd_same] at h; cases h; exact (r.noT.1 _ rfl).elim
    · rw [upd_ne z] at h; exact vw.t b xs h, fun b o' u h => by
    by_cases z : b = p
    · subst z; rw [upd_same] at h; cases h; exact (r.noT.2.1 _ _ rfl).elim
    · rw [upd_ne z] at h; exact vw.z b o' u h, vw.tab.ext (same_upd hp), fun b φ h => by
    by_cases z : b = p
    · subst z; rw [upd_same] at h; cases h; cases r
    · rw [upd_ne z] at h; exact vw.x b φ h⟩
  have mem : ∀ j, j ∈ i :: own.filter (· ≠ i) → j ≠ i → j ∈ own := fun j h n => by
    rcases List.mem_cons.mp h with z | z
    · exact absurd z n
    · exact (List.mem_filter.mp z).1
  refine ⟨⟨s.ext.hh.trans smh, s.ext.vv, vw', s.ext.old, fun b h => s.ext.dom b (upd_none h).2, fun b ps h => ?_⟩, ?_, fun j d h1 h2 => ?_, fun j hj => ?_, fun j k q h1 h2 e1 e2 => ?_⟩
  · obtain ⟨ps', h'⟩ := s.ext.tt b ps h
    exact ⟨ps', by rw [upd_ne (ne_of_none h' hp)]; exact h'⟩
  · rw [List.length_set, List.length_set]; exact s.len
  · have hj : j ≠ i := fun z => h1 (by rw [z]; exact List.mem_cons_self)
    rw [List.getElem?_set_ne (Ne.symm hj)] at h2 ⊢
    exact s.sh j d (fun z => h1 (List.mem_cons_of_mem _ (List.mem_filter.mpr ⟨z, by simpa using hj⟩))) h2
  · by_cases hji : j = i
    · subst hji
      exact ⟨p, d, List.getElem?_set_self (by rw [s.len]; exact hi), List.getElem?_set_self hi, vw.d p hp, s.ext.dom p hp, o, upd_same, r⟩
    · rw [List.getElem?_set_ne (Ne.symm hji), List.getElem?_set_ne (Ne.symm hji)]
      obtain ⟨q, d, e1, e2, e3, e4, o', e6, e8⟩ := s.ow j (mem j hj hji)
      exact ⟨q, d, e1, e2, e3, e4, o', by rw [upd_ne (ne_of_none e6 hp)]; exact e6, e8⟩
  · have key : ∀ m, m ∈ i :: own.filter (· ≠ i) → m ≠ i → (σ.set i (some (.ref p)))[m]? = some (some (.ref p)) → False := fun m hm n e => by
      rw [List.getElem?_set_ne (Ne.symm n)] at e
      obtain ⟨q', d, e1, e2, e3, e4, o', e6, e8⟩ := s.ow m (mem m hm n)
      rw [e] at e2; cases e2
      rw [hp] at e6; cases e6
    have self : (σ.set i (some (.ref p)))[i]? = some (some (.ref p)) := List.getElem?_set_self hi
    by_cases hj : j = i
    · by_cases hk : k = i
      · rw [hj, hk]
      · rw [hj, self] at e1
        cases e1
        exact (key k h2 hk e2).elim
    · by_cases hk : k = i
      · rw [hk, self] at e2
        cases e2
        exact (key j h1 hj e1).elim
      · rw [List.getElem?_set_ne (Ne.symm hj)] at e1
        rw [List.getElem?_set_ne (Ne.symm hk)] at e2
        exact s.ap j k q (mem j h1 hj) (mem k h2 hk) e1 e2
theorem SR.setOwn {i : Nat} {p : Addr} {vs : List V} {ds : List D} (s : SR K cl Hv0 H0 own ρ σ Hv H) (hp : H p = none) (hz : vs.length ≤ sizeLine) (r : Reps K cl Hv vs ds) (hi : i < σ.length) :
    SR K cl Hv0 H0 (i :: own.filter (· ≠ i)) (ρ.set i (some (.lst ds))) (σ.set i (some (.ref p))) Hv (upd H p (.lst vs)) := s.setOwnO hp (.lst hz r) hi
theorem SR.writeO {i : Nat} {p : Addr} {o' : HO} {d0 d' : D} (s : SR K cl Hv0 H0 own ρ σ Hv H) (hi : i ∈ own) (e1 : ρ[i]? = some (some d0)) (e2 : σ[i]? = some (some (.ref p))) (r : OwnO K cl Hv o' d') :
    SR K cl Hv0 H0 own (ρ.set i (some d')) σ Hv (upd H p o') := by
  have vw := s.ext.vh
  obtain ⟨p', d, a1, a2, a3, a4, o, e6, ro⟩ := s.ow i hi
  rw [e2] at a2; cases a2
  have ne : ∀ b u, H b = some u → (∃ ps, u = .tbl ps) ∨ (∃ xs, u = .tup xs) → b ≠ p := fun b u h n z => by
    subst z; rw [e6] at h; cases h
    rcases n with ⟨ps, n⟩ | ⟨xs, n⟩
    · exact ro.noT.2.2 _ n
    · exact ro.noT.1 _ n
  have neV : ∀ b o, Hv b = some o → b ≠ p := fun b o h z => by subst z; rw [a3] at h; cases h
  have iσ : i < σ.length := (List.getElem?_eq_some_iff.mp e2).1
  refine ⟨⟨fun b o h n => ?_, s.ext.vv, ⟨fun b o h n => ?_, fun b h => vw.d b (upd_none h).2, fun b xs h => ?_, fun b o u h => ?_, fun p hp => ?_, fun b φ h => ?_⟩, s.ext.old, fun b h => s.ext.dom b (upd_none h).2, fun b ps h => ?_⟩, by rw [List.length_set]; exact s.len, fun j d h1 h2 => ?_, fun j hj => ?_, s.ap⟩
  · rw [upd_ne fun z => by subst z; rw [a4] at h; cases h]
    exact s.ext.hh b o h n
  · rw [upd_ne (neV b o h)]; exact vw.s b o h n
  · by_cases z : b = p
    · subst z; rw [upd_same] at h; cases h; exact (r.noT.1 _ rfl).elim
    · rw [upd_ne z] at h; exact vw.t b xs h
  · by_cases z : b = p
    · subst z; rw [upd_same] at h; cases h; exact (r.noT.2.1 _ _ rfl).elim
    · rw [upd_ne z] at h; exact vw.z b o u h
  · obtain ⟨ps, h1, h2, h3⟩ := vw.tab p hp
    refine ⟨ps, by rw [upd_ne (ne p.1 _ h1 (.inl ⟨_, rfl⟩))]; exact h1, h2, fun pos cv hc => ?_⟩
    obtain ⟨c, e, hc'⟩ := h3 pos cv hc
    exact ⟨c, e, by rw [upd_ne fun z => ?_]; exact hc'; subst z; rw [e6] at hc'; cases hc'; cases ro⟩
  · by_cases z : b = p
    · subst z; rw [upd_same] at h; cases h; cases r
    · rw [upd_ne z] at h; exact vw.x b φ h
  · obtain ⟨ps', h'⟩ := s.ext.tt b ps h
    exact ⟨ps', by rw [upd_ne (ne b _ h' (.inl ⟨_, rfl⟩))]; exact h'⟩
  · have hji : j ≠ i := fun z => h1 (z ▸ hi)
    rw [List.getElem?_set_ne (Ne.symm hji)] at h2
    exact s.sh j d h1 h2
  · by_cases hji : j = i
    · subst hji
      exact ⟨p, d', List.getElem?_set_self (by rw [s.len]; exact iσ), e2, a3, a4, o', upd_same, r⟩
    · rw [List.getElem?_set_ne (Ne.symm hji)]
      obtain ⟨q, d', b1, b2, b3, b4, o2, b6, b8⟩ := s.ow j hj
      have : q ≠ p := fun z => hji (s.ap j i p hj hi (z ▸ b2) e2)
      exact ⟨q, d', b1, b2, b3, b4, o2, by rw [upd_ne this]; exact b6, b8⟩
theorem SR.write {i : Nat} {p : Addr} {vs : List V} {ds ds' : List D} {vs' : List V} (s : SR K cl Hv0 H0 own ρ σ Hv H) (hi : i ∈ own) (e1 : ρ[i]? = some (some (.lst ds))) (e2 : σ[i]? = some (some (.ref p))) (e6 : H p = some (.lst vs)) (hz : vs'.length ≤ sizeLine) (r : Reps K cl Hv vs' ds') :
    SR K cl Hv0 H0 own (ρ.set i (some (.lst ds'))) σ Hv (upd H p (.lst vs')) := s.writeO hi e1 e2 (.lst hz r)
end
end Sm
namespace Sm
open PySem PySem.Spec L2
structure Gd (X : Cx) (W : WX) : Prop where
  calm : X.calm = true
  nd : X.N.Nodup
  tk : Takes X W
  po : PassesOwn (model X.prog X.w) X.A X.env X.xe
section
variable (X : Cx) (W : WX) (cl : Glb)
def PSO (Hv0 H0 : Hp) (own : List Nat) (Hv : Hp) (Dn : Ends) : O → Prop
  | .nx ρ' => ∀ σ' Hv' H', SR X.K cl Hv0 H0 own ρ' σ' Hv' H' → Sam Hv Hv' → σ'.length = X.N.length → Dn.nx σ' H'
  | .ret d => ∀ v Hv' H', Ext cl Hv0 H0 Hv' H' → Rep X.K cl Hv' v d → Dn.rt v H'
  | .err ρ' c => ∀ σ' Hv' H', SR X.K cl Hv0 H0 [] ρ' σ' Hv' H' → Sam Hv Hv' → σ'.length = X.N.length → W (.ref (cl.c c)) none σ' H'
  | .bad => False
def RunS (own own' : List Nat) (f : DS) (t : TS) : Prop := ∀ (Hv0 H0 : Hp) (ρ : Env) (σ : St) (Hv H : Hp) (Dn : Ends), SR X.K cl Hv0 H0 own ρ σ Hv H → σ.length = X.N.length → PSO X W cl Hv0 H0 own' Hv Dn (f ρ) → t Dn σ H
def SS (own own' : List Nat) (st : Stmt) (f : DS) : Prop := ∃ t, PS X st t ∧ RunS X W cl own own' f t
def SSs (own own' : List Nat) (st : List Stmt) (f : DS) : Prop := ∃ t, PSs X st t ∧ RunS X W cl own own' f t
end
section
variable {X : Cx} {W : WX} {cl : Glb} {Hv0 H0 Hv Hv1 H : Hp} {own own1 own2 own3 : List Nat} {Dn : Ends} {pos p : Pos} {a b c e : Expr} {es : List Expr} {fa fb : DE} {g : DA} {st : Stmt} {sts : List Stmt}
theorem PSO.mono {r : O} (h : PSO X W cl Hv0 H0 own Hv Dn r) (s : Sam Hv Hv1) : PSO X W cl Hv0 H0 own Hv1 Dn r := by
  cases r with
  | nx ρ => exact fun σ' Hv' H' sr sm hl => h σ' Hv' H' sr (s.trans sm) hl
  | ret d => exact h
  | err ρ c => exact fun σ' Hv' H' sr sm hl => h σ' Hv' H' sr (s.trans sm) hl
  | bad => exact h
theorem PSO.less {r : O} (h : PSO X W cl Hv0 H0 own2 Hv Dn r) (hs : ∀ i ∈ own2, i ∈ own1) : PSO X W cl Hv0 H0 own1 Hv Dn r := by
  cases r with
  | nx ρ =>
    intro σ' Hv' H' sr sm hl
    obtain ⟨s1, s2⟩ := sr.freeze hs
    exact h σ' _ H' s1 (sm.trans s2) hl
  | ret d => exact h
  | err ρ c => exact h
  | bad => exact h
def sub (a b : List Nat) : Bool := a.all fun i => b.contains i
theorem sub_mem {a b : List Nat} (h : sub a b = true) : ∀ i ∈ a, i ∈ b := fun i hi => by
  unfold sub at h
  rw [List.all_eq_true] at h
  simpa using h i hi
theorem SS.pre {f : DS} (h : SS X W cl own1 own2 st f) (hs : sub own1 own = true := by rfl) : SS X W cl own own2 st f := by
  obtain ⟨t, pt, h⟩ := h
  refine ⟨t, pt, fun Hv0 H0 ρ σ Hv H Dn sr hl po => ?_⟩
  obtain ⟨s1, s2⟩ := sr.freeze (sub_mem hs)
  exact h Hv0 H0 ρ σ _ H Dn s1 hl (po.mono s2)
theorem SS.post {f : DS} (h : SS X W cl own own1 st f) (hs : sub own2 own1 = true := by rfl) : SS X W cl own own2 st f := by
  obtain ⟨t, pt, h⟩ := h
  exact ⟨t, pt, fun Hv0 H0 ρ σ Hv H Dn sr hl po => h Hv0 H0 ρ σ Hv H Dn sr hl (po.less (sub_mem hs))⟩
theorem SSs.post {f : DS} (h : SSs X W cl own own1 sts f) (hs : sub own2 own1 = true := by rfl) : SSs X W cl own own2 sts f := by
  obtain ⟨t, pt, h⟩ := h
  exact ⟨t, pt, fun Hv0 H0 ρ σ Hv H Dn sr hl po => h Hv0 H0 ρ σ Hv H Dn sr hl (po.less (sub_mem hs))⟩

theorem ss_nil : SSs X W cl own own [] .nx :=
  ⟨_, pss_nil, fun Hv0 H0 ρ σ Hv H Dn sr hl po => po σ Hv H sr (Sam.refl _) hl⟩
def dSeq (f g : DS) : DS := fun ρ => (f ρ).seq g
theorem seq_run {f g : DS} {t u : TS} (h1 : RunS X W cl own own1 f t) (h2 : RunS X W cl own2 own3 g u) (hs : ∀ i ∈ own2, i ∈ own1) : RunS X W cl own own3 (dSeq f g) (tSeq t u) := by
  intro Hv0 H0 ρ σ Hv H Dn sr hl po
  refine h1 Hv0 H0 ρ σ Hv H _ sr hl ?_
  unfold dSeq at po
  cases q : f ρ with
  | nx ρ' =>
    rw [q] at po
    intro σ' Hv' H' sr' sm hl'
    obtain ⟨s1, s2⟩ := sr'.freeze hs
    exact h2 Hv0 H0 ρ' σ' _ H' Dn s1 hl' (PSO.mono (r := g ρ') po (sm.trans s2))
  | ret d => rw [q] at po; exact po
  | err ρ c => rw [q] at po; exact po
  | bad => rw [q] at po; exact po
theorem ss_cons {f g : DS} (h1 : SS X W cl own own1 st f) (h2 : SSs X W cl own2 own3 sts g) (hs : sub own2 own1 = true := by rfl) : SSs X W cl own own3 (st :: sts) (dSeq f g) := by
  obtain ⟨t, pt, h1⟩ := h1
  obtain ⟨u, pu, h2⟩ := h2
  exact ⟨_, pss_cons pt pu, seq_run h1 h2 (sub_mem hs)⟩
theorem ss_one {f : DS} (h1 : SS X W cl own own1 st f) : SSs X W cl own own1 [st] f := by
  obtain ⟨t, pt, h1⟩ := h1
  exact ⟨_, pss_one pt, h1⟩
theorem use_mask {α : Type} {ρ : Env} {σ : St} {T : Hp → Hp → α → Prop} {r : R α} {k : α → O} (sr : SR X.K cl Hv0 H0 own ρ σ Hv H) (hl : σ.length = X.N.length) (po : PSO X W cl Hv0 H0 own1 Hv Dn (r.to ρ k))
    (h : ∀ a Hv' H', r = .ok a → Ext cl Hv H Hv' H' → SR X.K cl Hv0 H0 own ρ σ Hv' H' → PSO X W cl Hv0 H0 own1 Hv' Dn (k a) → T Hv' H' a) : Pst cl W σ Hv H T r := by
  cases r with
  | ok a => exact fun Hv' H' e => h a Hv' H' rfl e (sr.step e) (PSO.mono (r := k a) po e.vv)
  | err c =>
    intro Hv' H' e
    obtain ⟨s1, s2⟩ := (sr.step e).freeze (own' := []) (by simp)
    exact po σ _ H' s1 (e.vv.trans s2) hl
  | bad => exact po
theorem use_full {α : Type} {ρ : Env} {σ : St} {T : Hp → Hp → α → Prop} {r : R α} {k : α → O} (sr : SR X.K cl Hv0 H0 own ρ σ Hv H) (hl : σ.length = X.N.length) (po : PSO X W cl Hv0 H0 own1 Hv Dn (r.to ρ k))
    (h : ∀ a Hv1 H', r = .ok a → Ext cl (thaw own [] σ Hv H) H Hv1 H' → SR X.K cl Hv0 H0 [] ρ σ Hv1 H' → SR X.K cl Hv0 H0 own ρ σ (lift Hv H H') H' → Sam Hv (lift Hv H H') → PSO X W cl Hv0 H0 own1 (lift Hv H H') Dn (k a) → T Hv1 H' a) :
    Pst cl W σ (thaw own [] σ Hv H) H T r := by
  obtain ⟨s1, s2⟩ := sr.freeze (own' := []) (by simp)
  cases r with
  | ok a =>
    intro Hv1 H' e
    have e2 : Ext cl Hv H (lift Hv H H') H' := ext_lift sr.ext.vh ⟨e.hh, Sam.trans e.hh (Sam.refl _), Vw.refl e.vh.tab, fun b o h n => (by rw [h] at n; cases n), e.dom, e.tt⟩
    exact h a Hv1 H' rfl e (s1.step e) (sr.step e2) e2.vv (PSO.mono (r := k a) po e2.vv)
  | err c =>
    intro Hv' H' e
    exact po σ Hv' H' (s1.step e) (s2.trans e.vv) hl
  | bad => exact po
def dRet (f : DE) : DS := fun ρ => (f ρ).to ρ .ret
theorem ss_ret (ha : SE X W cl a fa) : SS X W cl own own1 (.Return (some a) pos) (dRet fa) := by
  obtain ⟨ta, pa, ha⟩ := ha
  refine ⟨_, ps_ret pa, fun Hv0 H0 ρ σ Hv H Dn sr hl po => ?_⟩
  obtain ⟨s1, s2⟩ := sr.freeze (own' := []) (by simp)
  refine ha _ H σ ρ _ s1.ext.vh s1.er (use_full sr hl po fun d Hv1 H' _ e sr1 sr2 sm po' v r => ?_)
  exact po' v Hv1 H' sr1.ext r
def dDrop (f : DE) : DS := fun ρ => (f ρ).to ρ fun _ => .nx ρ
def dIfS (t : DT) (f g : DS) : DS := fun ρ => (t ρ).to ρ fun k => match k with | true => f ρ | false => g ρ
theorem ss_if {t : DT} {f g : DS} {s1 s2 : List Stmt} (hc : ST X W cl c t) (ha : SSs X W cl own own1 s1 f) (hb : SSs X W cl own own1 s2 g) : SS X W cl own own1 (.If c s1 s2 pos) (dIfS t f g) := by
  obtain ⟨tc, pc, hc⟩ := hc
  obtain ⟨ta, pa, ha⟩ := ha
  obtain ⟨tb, pb, hb⟩ := hb
  refine ⟨_, ps_if pc pa pb, fun Hv0 H0 ρ σ Hv H Dn sr hl po => ?_⟩
  obtain ⟨s1, s2⟩ := sr.freeze (own' := []) (by simp)
  refine hc _ H σ ρ _ s1.ext.vh s1.er (use_full sr hl po fun k Hv1 H' _ e sr1 sr2 sm po' => ?_)
  show if k = true then ta Dn σ H' else tb Dn σ H'
  cases k with
  | true => rw [if_pos rfl]; exact ha Hv0 H0 ρ σ _ H' Dn sr2 hl po'
  | false => rw [if_neg Bool.false_ne_true]; exact hb Hv0 H0 ρ σ _ H' Dn sr2 hl po'

def nots (own : List Nat) (i : Nat) : List Nat := own.filter (· ≠ i)
theorem nots_mem {own : List Nat} {i : Nat} : ∀ j ∈ nots own i, j ∈ own ∧ j ≠ i := fun j h => by
  have := List.mem_filter.mp h
  exact ⟨this.1, by simpa using this.2⟩
theorem nots_or {own : List Nat} {i : Nat} : ∀ j ∈ own, j ∈ nots own i ∨ j = i := fun j h => by
  by_cases e : j = i
  · exact .inr e
  · exact .inl (List.mem_filter.mpr ⟨h, by simpa using e⟩)
def dSet (own : List Nat) (i : Nat) (f : DE) : DS := fun ρ => (f (mask own ρ)).to ρ fun d => .nx (ρ.set i (some d))
def dSetP (i : Nat) (f : DE) : DS := fun ρ => (f ρ).to ρ fun d => if pure' d then .nx (ρ.set i (some d)) else .bad
theorem ilt {i : Nat} {x : Str} {σ : St} (hi : X.N[i]? = some x) (hl : σ.length = X.N.length) : i < σ.length := by
  rw [hl]; exact (List.getElem?_eq_some_iff.mp hi).1
theorem ss_set {i : Nat} {x : Str} {p' : Pos} (gd : Gd X W) (ha : SE X W cl a fa) (hi : X.N[i]? = some x := by rfl) (hx : Loc X.env.scope x := by first | exact Or.inl rfl | exact Or.inr rfl) (hs : swapsWith a (some (.Name x p')) pos.line X.env = pure false := by rfl)
    (hf : X.fn x = true ∨ X.env.scope.names.lookup x = some .local := by first | exact .inl rfl | exact .inr rfl | assumption) : SS X W cl own (nots own i) (.Assign [.Name x p'] a pos) (dSet own i fa) := by
  obtain ⟨ta, pa, ha⟩ := ha
  refine ⟨_, ps_set gd.nd hi hx pa hs hf, fun Hv0 H0 ρ σ Hv H Dn sr hl po => ?_⟩
  refine ha Hv H σ _ _ sr.ext.vh sr.er (use_mask sr hl po fun d Hv' H' _ e sr' po' v r => ?_)
  exact po' _ Hv' H' (sr'.set nots_mem r nots_or) (Sam.refl _) (by rw [List.length_set]; exact hl)
def TN (K : PySem.W.Frag) (cl : Glb) (Q : VK) : Hp → Hp → List D → Prop := fun Hv' H' ds => ∀ p vs, H' p = none → vs.length ≤ sizeLine → Reps K cl Hv' vs ds → Q (.ref p) (upd H' p (.lst vs))
def SN (X : Cx) (W : WX) (cl : Glb) (e : Expr) (f : DA) : Prop := ∃ t, PE X e t ∧ ∀ (Hv H : Hp) (σ : St) (ρ : Env) (Q : VK), Vw cl Hv H → ER X.K cl Hv ρ σ → Pst cl W σ Hv H (TN X.K cl Q) (f ρ) → t σ H Q
theorem sn_lst (h : SA X W cl es g) (hn : decide (es.length ≤ 1000) = true := by rfl) : SN X W cl (.List es pos) g := by
  obtain ⟨ta, pa, ha, hl⟩ := h
  refine ⟨_, pe_lst pa, fun Hv H σ ρ Q vw er pv => ?_⟩
  refine ha Hv H σ ρ _ vw er ?_
  cases q : g ρ with
  | ok ds =>
    rw [q] at pv
    intro Hv1 H1 e1 vs rv
    have z : vs.length ≤ sizeLine := by rw [rv.length, hl ρ ds q]; exact small_line hn
    exact ⟨z, fun p hp => pv Hv1 H1 e1 p vs hp z rv⟩
  | err c => rw [q] at pv; exact pv
  | bad => rw [q] at pv; exact pv
def dSetN (own : List Nat) (i : Nat) (f : DA) : DS := fun ρ => (f (mask own ρ)).to ρ fun ds => .nx (ρ.set i (some (.lst ds)))
theorem ss_setN {i : Nat} {x : Str} {p' : Pos} (gd : Gd X W) (ha : SN X W cl a g) (hi : X.N[i]? = some x := by rfl) (hx : Loc X.env.scope x := by first | exact Or.inl rfl | exact Or.inr rfl) (hs : swapsWith a (some (.Name x p')) pos.line X.env = pure false := by rfl)
    (hf : X.fn x = true ∨ X.env.scope.names.lookup x = some .local := by first | exact .inl rfl | exact .inr rfl | assumption) : SS X W cl own (i :: nots own i) (.Assign [.Name x p'] a pos) (dSetN own i g) := by
  obtain ⟨ta, pa, ha⟩ := ha
  refine ⟨_, ps_set gd.nd hi hx pa hs hf, fun Hv0 H0 ρ σ Hv H Dn sr hl po => ?_⟩
  refine ha Hv H σ _ _ sr.ext.vh sr.er (use_mask sr hl po fun ds Hv' H' _ e sr' po' p vs hp hz r => ?_)
  exact po' _ Hv' _ (sr'.setOwn hp hz r (ilt hi hl)) (Sam.refl _) (by rw [List.length_set]; exact hl)
def putIn (i : Nat) (ρ : Env) (new : List D) : O := match ρ[i]? with
  | some (some (.lst ds)) => if ds.length + new.length ≤ sizeLine then .nx (ρ.set i (some (.lst (ds ++ new)))) else .bad
  | _ => .bad
def lstAt (i : Nat) (ρ : Env) : Bool := match ρ[i]? with | some (some (.lst _)) => true | _ => false
def dApp (own : List Nat) (i : Nat) (f : DE) : DS := fun ρ => if lstAt i ρ then (f (mask own ρ)).to ρ fun d => putIn i ρ [d] else .bad
def dAppP (i : Nat) (f : DE) : DS := fun ρ => if lstAt i ρ then (f ρ).to ρ fun d => if pure' d then putIn i ρ [d] else .bad else .bad
theorem lstAt_ok {i : Nat} {ρ : Env} (h : lstAt i ρ = true) : ∃ ds, ρ[i]? = some (some (.lst ds)) := by
  unfold lstAt at h
  split at h
  · exact ⟨_, by assumption⟩
  · cases h
theorem app_end {i : Nat} {ρ : Env} {σ : St} {Hv H H' : Hp} {v : V} {d : D} {q : Addr} (sr : SR X.K cl Hv0 H0 own ρ σ Hv H') (hl : σ.length = X.N.length) (ho : i ∈ own) (hq : σ[i]? = some (some (.ref q))) (r : Rep X.K cl Hv v d) (po : PSO X W cl Hv0 H0 own Hv Dn (putIn i ρ [d])) :
    ∃ l xs y, V.ref q = .ref l ∧ [v] = [y] ∧ H' l = some (.lst xs) ∧ xs.length < sizeLine ∧ Dn.nx σ (upd H' l (.lst (xs ++ [y]))) := by
  obtain ⟨p, d0, e1, e2, e3, e4, o, e6, eo⟩ := sr.ow i ho
  rw [hq] at e2; cases e2
  unfold putIn at po
  rw [e1] at po
  cases d0 with
  | lst ds => ?_
  | _ => exact po.elim
  obtain ⟨vs, rfl, e7, e8⟩ := eo.ofL
  simp only at po
  split at po
  · rename_i hz
    have hz : vs.length + 1 ≤ sizeLine := by rw [e8.length]; exact hz
    refine ⟨q, vs, v, rfl, rfl, e6, hz, ?_⟩
    exact po σ Hv _ (sr.write ho e1 hq e6 (by rw [List.length_append]; exact hz) (e8.append (.cons r .nil))) (Sam.refl _) hl
  · exact po.elim
theorem ss_app {i : Nat} {x : Str} {apos npos : Pos} (ha : SE X W cl a fa) (ho : own.contains i = true := by rfl) (hN : X.N[i]? = some x := by rfl) (hv : Vis X.env.scope x := by first | exact Or.inl rfl | exact Or.inr (Or.inl rfl)) (hd : (x == ("__debug__" : Str)) = false := by decide)
    (hcd : (x == ("__classdict__" : Str)) = false := by decide) (hline : (apos.endLine == p.line) = true := by rfl) (hs1 : starEach [a] X.env = [(false, eval a X.env)] := by rfl)
    (hfew : ((backTo p (starEach [a] X.env)).all (fun x => !x.1) && (backToKw p (keywordEach [] X.env)).all (fun x => x.1.isSome) && decide ([a].length + ([] : List Keyword).length + (if ([] : List Keyword).isEmpty then 0 else 1) < 30)) = true := by rfl)
    (hs : swapsWith (.Call (.Attribute (.Name x npos) "append" apos) [a] [] p) none pos.line X.env = pure false := by rfl) :
    SS X W cl own own (.Expr (.Call (.Attribute (.Name x npos) "append" apos) [a] [] p) pos) (dApp own i fa) := by
  obtain ⟨ta, pa, ha⟩ := ha
  refine ⟨_, ps_expr (pe_bm PySem.F.plainAttrs_list PySem.F.slot_list_append PySem.F.type_list_append mt_append (pe_var hN hv hd hcd) (pa_cons pa pa_nil hs1) rfl hfew hline hs1 rfl) hs, fun Hv0 H0 ρ σ Hv H Dn sr hl po => ?_⟩
  have hi : i ∈ own := by simpa using ho
  obtain ⟨q, d0, e1, e2, e3, e4, o, e6, eo⟩ := sr.ow i hi
  cases hla : lstAt i ρ with
  | false => simp only [dApp, dAppP, hla] at po; exact po.elim
  | true => ?_
  obtain ⟨ds, h1⟩ := lstAt_ok hla
  rw [h1] at e1; cases e1
  obtain ⟨vs, rfl, e7, e8⟩ := eo.ofL
  simp only [dApp, dAppP, hla, if_true] at po
  refine ⟨.ref q, e2, .inl ⟨rfl, vs, .inl (.inl e6)⟩, ?_⟩
  refine ha Hv H σ _ _ sr.ext.vh sr.er (use_mask sr hl po fun d Hv' H' _ e sr' po' v r => ?_)
  exact app_end (H := H) sr' hl hi e2 r po'
end
end Sm
namespace Sm
open PySem PySem.Spec L2
mutual
def patIx : Pat → List Nat
  | .v i => [i]
  | .t ps => patIxs ps
def patIxs : List Pat → List Nat
  | [] => []
  | p :: ps => patIx p ++ patIxs ps
end
def disj (a b : List Nat) : Bool := a.all fun i => !b.contains i
theorem disj_mem {a b : List Nat} (h : disj a b = true) : ∀ i ∈ a, i ∉ b := fun i hi => by
  unfold disj at h
  rw [List.all_eq_true] at h
  simpa using h i hi
section
variable {X : Cx} {W : WX} {cl : Glb} {Hv0 H0 Hv Hv1 H : Hp} {own own1 own2 own3 : List Nat} {Dn : Ends} {pos p : Pos} {a b c e tg iter : Expr} {es : List Expr} {fa fb : DE} {g : DA} {st : Stmt} {sts : List Stmt}
def SG (X : Cx) (cl : Glb) (tg : Expr) (pt : Pat) : Prop := ∃ t, PG X tg t ∧ ∀ (Hv H : Hp) (v : V) (d : D) (ρ ρ' : Env) (σ : St) (Q : St → Hp → Prop), Vw cl Hv H → Rep X.K cl Hv v d → bindPat pt d ρ = some ρ' → ρ.length = σ.length →
  (∀ σ', (∀ (own : List Nat) (Hv0 H0 Hv1 H1 : Hp), SR X.K cl Hv0 H0 own ρ σ Hv1 H1 → Sam Hv Hv1 → (∀ i ∈ patIx pt, i ∉ own) → SR X.K cl Hv0 H0 own ρ' σ' Hv1 H1) → (∀ Hv2, ER X.K cl Hv2 ρ σ → Sam Hv Hv2 → ER X.K cl Hv2 ρ' σ') → σ'.length = σ.length → ρ'.length = ρ.length → (∀ j, j ∉ patIx pt → σ'[j]? = σ[j]?) → Q σ' H) → t v σ H Q
def SGs (X : Cx) (cl : Glb) (tg : List Expr) (pt : List Pat) : Prop := ∃ t, PGs X tg t ∧ ∀ (Hv H : Hp) (v : List V) (d : List D) (ρ ρ' : Env) (σ : St) (Q : St → Hp → Prop), Vw cl Hv H → Reps X.K cl Hv v d → bindPats pt d ρ = some ρ' → ρ.length = σ.length →
  (∀ σ', (∀ (own : List Nat) (Hv0 H0 Hv1 H1 : Hp), SR X.K cl Hv0 H0 own ρ σ Hv1 H1 → Sam Hv Hv1 → (∀ i ∈ patIxs pt, i ∉ own) → SR X.K cl Hv0 H0 own ρ' σ' Hv1 H1) → (∀ Hv2, ER X.K cl Hv2 ρ σ → Sam Hv Hv2 → ER X.K cl Hv2 ρ' σ') → σ'.length = σ.length → ρ'.length = ρ.length → (∀ j, j ∉ patIxs pt → σ'[j]? = σ[j]?) → Q σ' H) → t v σ H Q
theorem er_set {K : PySem.W.Frag} {Hv : Hp} {ρ : Env} {σ : St} {i : Nat} {v : V} {d : D} (e : ER K cl Hv ρ σ) (r : Rep K cl Hv v d) : ER K cl Hv (ρ.set i (some d)) (σ.set i (some v)) := ⟨fun j d' h => by
  by_cases hj : j = i
  · subst hj
    by_cases hl : j < ρ.length
    · rw [List.getElem?_set_self hl] at h; cases h
      exact ⟨v, List.getElem?_set_self (by rw [← e.len]; exact hl), r⟩
    · rw [List.getElem?_eq_none (by simpa using hl)] at h; cases h
  · rw [List.getElem?_set_ne (Ne.symm hj)] at h ⊢
    exact e.get j d' h, by rw [List.length_set, List.length_set]; exact e.len⟩
theorem sg_name {x : Str} (i : Nat) (nd : X.N.Nodup) (hi : X.N[i]? = some x := by rfl) (hx : Loc X.env.scope x := by first | exact Or.inl rfl | exact Or.inr rfl)
    (hf : X.fn x = true ∨ X.env.scope.names.lookup x = some .local := by first | exact .inl rfl | exact .inr rfl | assumption) : SG X cl (.Name x pos) (.v i) := by
  refine ⟨_, pg_name nd hi hx hf, fun Hv H v d ρ ρ' σ Q vw r e hl q => ?_⟩
  cases e
  refine q _ (fun own Hv0 H0 Hv1 H1 sr sm hd => ?_) (fun Hv2 er sm => ?_) (by rw [List.length_set]) (by rw [List.length_set]) fun j hj => ?_
  · have ho : i ∉ own := hd i (by simp [patIx])
    exact sr.set (fun j hj => ⟨hj, fun z => ho (z ▸ hj)⟩) (r.mono sm) fun j hj => .inl hj
  · exact er_set er (r.mono sm)
  · rw [List.getElem?_set_ne]
    intro z
    exact hj (by simp [patIx, z])
theorem sgs_nil : SGs X cl [] [] := by
  refine ⟨_, pgs_nil, fun Hv H v d ρ ρ' σ Q vw r e hl q => ?_⟩
  cases r with
  | nil =>
    cases e
    exact ⟨rfl, q σ (fun own Hv0 H0 Hv1 H1 sr _ _ => sr) (fun _ er _ => er) rfl rfl fun _ _ => rfl⟩
  | cons _ _ => cases e
theorem sgs_cons {pt : Pat} {pts : List Pat} (h1 : SG X cl e pt) (h2 : SGs X cl es pts) (hs : (assignEach (e :: es) X.env).map (·.2) = assign e X.env :: (assignEach es X.env).map (·.2) := by rfl) : SGs X cl (e :: es) (pt :: pts) := by
  obtain ⟨t, pt1, h1⟩ := h1
  obtain ⟨u, pu, h2⟩ := h2
  refine ⟨_, pgs_cons pt1 pu hs, fun Hv H v d ρ ρ' σ Q vw r e hl q => ?_⟩
  cases r with
  | nil => simp [bindPats] at e
  | cons r t =>
    simp only [bindPats, Option.bind_eq_some_iff] at e
    obtain ⟨ρ1, e1, e2⟩ := e
    refine ⟨_, _, rfl, h1 Hv H _ _ ρ ρ1 σ _ vw r e1 hl fun σ1 f1 g1 l1 m1 k1 => ?_⟩
    refine h2 Hv H _ _ ρ1 ρ' σ1 _ vw t e2 (by rw [m1, l1]; exact hl) fun σ2 f2 g2 l2 m2 k2 => ?_
    refine q σ2 (fun own Hv0 H0 Hv1 H1 sr sm hd => ?_) (fun Hv2 er sm => ?_) (l2.trans l1) (m2.trans m1) fun j hj => ?_
    · exact f2 own Hv0 H0 Hv1 H1 (f1 own Hv0 H0 Hv1 H1 sr sm fun i hi => hd i (by simp [patIxs, hi])) sm fun i hi => hd i (by simp [patIxs, hi])
    · exact g2 Hv2 (g1 Hv2 er sm) sm
    · rw [k2 j fun z => hj (by simp [patIxs, z]), k1 j fun z => hj (by simp [patIxs, z])]
theorem PG.or {t1 t2 : TG} (h1 : PG X tg t1) (h2 : PG X tg t2) : PG X tg (fun v σ H Q => t1 v σ H Q ∨ t2 v σ H Q) :=
  ⟨fun pins s σ H v u Q I r h => h.elim (h1.run pins s σ H v u Q I r) (h2.run pins s σ H v u Q I r)⟩
theorem bindPats_len : ∀ (ps : List Pat) (ds : List D) (ρ ρ' : Env), bindPats ps ds ρ = some ρ' → ds.length = ps.length := by
  intro ps
  induction ps with
  | nil => intro ds ρ ρ' h; cases ds with | nil => rfl | cons _ _ => simp [bindPats] at h
  | cons p ps ih =>
    intro ds ρ ρ' h
    cases ds with
    | nil => simp [bindPats] at h
    | cons d ds =>
      simp only [bindPats, Option.bind_eq_some_iff] at h
      obtain ⟨ρ1, _, h2⟩ := h
      rw [List.length_cons, List.length_cons, ih ds ρ1 ρ' h2]
theorem sg_tup {pts : List Pat} {k : Nat} (hc : X.calm = true) (h : SGs X cl es pts) (hn : (assignEach es X.env).length = pts.length := by rfl) (hst : (assignEach es X.env).findIdx? (·.1) = none := by rfl) : SG X cl (.Tuple es k pos) (.t pts) := by
  obtain ⟨t, pt, h⟩ := h
  refine ⟨_, PG.or (pg_tup hc pt hn hst) (pg_unl hc pt hn hst), fun Hv H v d ρ ρ' σ Q vw r e hl q => ?_⟩
  cases d with
  | tup ds =>
    cases r with
    | tup s z r =>
      simp only [bindPat] at e
      refine .inl ⟨_, _, rfl, vw.s.sqU s, ?_, h Hv H _ _ ρ ρ' σ Q vw r e hl fun σ' f1 g1 l1 m1 k1 => q σ' f1 g1 l1 m1 k1⟩
      rw [r.length]
      exact bindPats_len _ _ _ _ e
  | lst ds =>
    cases r with
    | lst s z r =>
      simp only [bindPat] at e
      refine .inr ⟨_, _, rfl, .inl (.inl (vw.s _ _ s rfl)), ?_, h Hv H _ _ ρ ρ' σ Q vw r e hl fun σ' f1 g1 l1 m1 k1 => q σ' f1 g1 l1 m1 k1⟩
      rw [r.length]
      exact bindPats_len _ _ _ _ e
  | _ => simp [bindPat] at e
def dAsg (own : List Nat) (pt : Pat) (f : DE) : DS := fun ρ => (f (mask own ρ)).to ρ fun d => match bindPat pt d ρ with | some ρ' => .nx ρ' | none => .bad
theorem ss_asg {pt : Pat} (ha : SE X W cl a fa) (hg : SG X cl tg pt) (hd : disj (patIx pt) own = true := by rfl) (hs : swapsWithSole [tg] a pos.line X.env = pure false := by rfl) (hw : swappedStores [tg] a X.env = pure none := by rfl)
    (h1 : (assignEach [tg] X.env).map (·.2) = [assign tg X.env] := by rfl) : SS X W cl own own (.Assign [tg] a pos) (dAsg own pt fa) := by
  obtain ⟨ta, pa, ha⟩ := ha
  obtain ⟨t, pt1, hg⟩ := hg
  refine ⟨_, ps_asg pa pt1 hs hw h1, fun Hv0 H0 ρ σ Hv H Dn sr hl po => ?_⟩
  refine ha Hv H σ _ _ sr.ext.vh sr.er (use_mask sr hl po fun d Hv' H' _ e sr' po' v r => ?_)
  cases q : bindPat pt d ρ with
  | none => rw [q] at po'; exact po'.elim
  | some ρ' =>
    rw [q] at po'
    exact hg Hv' H' v d ρ ρ' σ _ sr'.ext.vh r q sr'.len fun σ' f1 g1 l1 m1 k1 => po' σ' Hv' H' (f1 own Hv0 H0 Hv' H' sr' (Sam.refl _) (disj_mem hd)) (Sam.refl _) (l1.trans hl)
def dPar (own : List Nat) (i j : Nat) (g : DA) : DS := fun ρ => (g (mask own ρ)).to ρ fun ds => match ds with | [d1, d2] => .nx ((ρ.set i (some d1)).set j (some d2)) | _ => .bad
theorem ss_par {i j : Nat} {x y : Str} {px py pt pt2 : Pos} {kt k2 : Nat} (gd : Gd X W) (ha : SA X W cl [a, b] g) (hi : X.N[i]? = some x := by rfl) (hj : X.N[j]? = some y := by rfl) (hij : i ≠ j := by decide)
    (hd : disj [i, j] own = true := by rfl) (hx : X.env.scope.names.lookup x = some .local := by rfl) (hy : X.env.scope.names.lookup y = some .local := by rfl)
    (hw : swappedStores [.Tuple [.Name x px, .Name y py] kt pt] (.Tuple [a, b] k2 pt2) X.env = pure (some [x, y]) := by rfl)
    (hs : swapsWithSole [.Tuple [.Name x px, .Name y py] kt pt] (.Tuple [a, b] k2 pt2) pos.line X.env = pure false := by rfl) :
    SS X W cl own own (.Assign [.Tuple [.Name x px, .Name y py] kt pt] (.Tuple [a, b] k2 pt2) pos) (dPar own i j g) := by
  obtain ⟨ta, pa, ha, _⟩ := ha
  refine ⟨_, ps_par gd.calm gd.nd hi hj hij hx hy pa hw hs, fun Hv0 H0 ρ σ Hv H Dn sr hl po => ?_⟩
  refine ha Hv H σ _ _ sr.ext.vh sr.er (use_mask sr hl po fun ds Hv' H' _ e sr' po' vs r => ?_)
  have di := disj_mem hd
  cases r with
  | nil => exact po'.elim
  | cons r1 r =>
    cases r with
    | nil => exact po'.elim
    | cons r2 r =>
      cases r with
      | cons _ _ => exact po'.elim
      | nil =>
        have s1 := sr'.set (own' := own) (i := i) (fun k hk => ⟨hk, fun z => di i (by simp) (z ▸ hk)⟩) r1 fun k hk => .inl hk
        have s2 := s1.set (own' := own) (i := j) (fun k hk => ⟨hk, fun z => di j (by simp) (z ▸ hk)⟩) r2 fun k hk => .inl hk
        exact ⟨_, _, rfl, po' _ Hv' H' s2 (Sam.refl _) (by rw [List.length_set, List.length_set]; exact hl)⟩

def forGo (pt : Pat) (f : DS) : List D → DS
  | [], ρ => .nx ρ
  | d :: ds, ρ => match bindPat pt d ρ with
    | some ρ' => (f ρ').seq (forGo pt f ds)
    | none => .bad
def dFor (own : List Nat) (pt : Pat) (it : DI) (f : DS) : DS := fun ρ => (it (mask own ρ)).to ρ fun ds => forGo pt f ds ρ
theorem ss_for {pt : Pat} {it : DI} {f : DS} (gd : Gd X W) (hi : SI X W cl tg iter it) (hg : SG X cl tg pt) (hb : SSs X W cl own own sts f) (hd : disj (patIx pt) own = true := by rfl) (hs : ∀ x, foldedSetIterable iter X.env x = pure x := by intro _; rfl) :
    SS X W cl own own (.For tg iter sts [] pos) (dFor own pt it f) := by
  obtain ⟨wi, pi, hi⟩ := hi
  obtain ⟨tg1, pg, hg⟩ := hg
  obtain ⟨tb, pb, hb⟩ := hb
  refine ⟨_, ps_for gd.po gd.calm pi pg pb hs, fun Hv0 H0 ρ σ Hv H Dn sr hl po => ?_⟩
  refine hi Hv H σ _ _ sr.ext.vh sr.er (use_mask sr hl po fun ds Hv' H' _ e sr' po' z J hJ => ?_)
  refine ⟨fun i m σ1 H1 => ∃ ρ1 Hv1, SR X.K cl Hv0 H0 own ρ1 σ1 Hv1 H1 ∧ σ1.length = X.N.length ∧ Sam Hv' Hv1 ∧ m = ds.length - i ∧ i ≤ ds.length ∧ PSO X W cl Hv0 H0 own Hv1 Dn (forGo pt f (ds.drop i) ρ1),
    ⟨ds.length, ρ, Hv', sr', hl, Sam.refl _, rfl, Nat.zero_le _, po'⟩, ?_⟩
  rintro i m σ1 H1 ⟨ρ1, Hv1, s1, l1, sm1, rfl, hi1, p1⟩
  by_cases hlt : i < ds.length
  · rw [List.drop_eq_getElem_cons hlt] at p1
    unfold forGo at p1
    refine .inr ⟨hJ.go i Hv1 H1 sm1 s1.ext.vh hlt, fun σ2 H2 => ∃ ρ2 Hv2, SR X.K cl Hv0 H0 own ρ2 σ2 Hv2 H2 ∧ σ2.length = X.N.length ∧ Sam Hv' Hv2 ∧ PSO X W cl Hv0 H0 own Hv2 Dn (forGo pt f (ds.drop (i + 1)) ρ2),
      fun σ2 H2 ⟨ρ2, Hv2, s2, l2, sm2, p2⟩ => ⟨ds.length - (i + 1), by omega, ρ2, Hv2, s2, l2, sm2, rfl, hlt, p2⟩, fun x H2 y => ?_⟩
    obtain ⟨Hv2, e2, r2⟩ := hJ.yld i Hv1 H1 sm1 s1.ext.vh ds[i] (by simp [hlt]) x H2 y
    cases q : bindPat pt ds[i] ρ1 with
    | none => rw [q] at p1; exact p1.elim
    | some ρ' =>
      rw [q] at p1
      refine hg Hv2 H2 x ds[i] ρ1 ρ' σ1 _ e2.vh r2 q s1.len fun σ3 f3 g3 l3 m3 k3 => ?_
      have s3 := f3 own Hv0 H0 Hv2 H2 (s1.step e2) (Sam.refl _) (disj_mem hd)
      refine hb Hv0 H0 ρ' σ3 Hv2 H2 _ s3 (l3.trans l1) ?_
      have p1' : PSO X W cl Hv0 H0 own Hv2 Dn ((f ρ').seq (forGo pt f (ds.drop (i + 1)))) := p1.mono e2.vv
      cases w : f ρ' with
      | nx ρ4 =>
        rw [w] at p1'
        intro σ4 Hv4 H4 s4 sm4 l4
        exact ⟨ρ4, Hv4, s4, l4, (sm1.trans e2.vv).trans sm4, p1'.mono sm4⟩
      | ret d => rw [w] at p1'; exact p1'
      | err ρ4 c => rw [w] at p1'; exact p1'
      | bad => rw [w] at p1'; exact p1'
  · have ei : i = ds.length := by omega
    subst ei
    rw [List.drop_length] at p1
    exact .inl ⟨hJ.stop _ Hv1 H1 sm1 s1.ext.vh rfl, p1 σ1 Hv1 H1 s1 (Sam.refl _) l1⟩
def whileGo (t : DT) (f : DS) : Nat → DS
  | 0, _ => .bad
  | n + 1, ρ => (t ρ).to ρ fun k => match k with
    | true => (f ρ).seq (whileGo t f n)
    | false => .nx ρ
def dWhile (n : Env → Nat) (t : DT) (f : DS) : DS := fun ρ => whileGo t f (n ρ) ρ
end
def outR : O → R D
  | .nx _ => .ok .non
  | .ret d => .ok d
  | .err _ c => .err c
  | .bad => .bad
def args (m : Nat) (ds : List D) : Env := ds.map some ++ List.replicate (m - ds.length) none
def defD (n m : Nat) (f : DS) : List D → R D := fun ds => if ds.length = n then outR (f (args m ds)) else .bad
theorem args_get {K : PySem.W.Frag} {cl : Glb} {H : Hp} {vs : List V} {ds : List D} {N : List Str} {i : Nat} {d : D} (r : Reps K cl H vs ds) (h : (args N.length ds)[i]? = some (some d)) : ∃ v, (start N vs)[i]? = some (some v) ∧ Rep K cl H v d := by
  unfold args at h
  unfold L2.start
  by_cases hi : i < ds.length
  · rw [List.getElem?_append_left (by simpa using hi), List.getElem?_map] at h
    rw [List.getElem?_append_left (by rw [List.length_map, r.length]; exact hi), List.getElem?_map]
    cases q : ds[i]? with
    | none => rw [q] at h; cases h
    | some d' =>
      rw [q] at h; cases h
      obtain ⟨v, h1, h2⟩ := r.get q
      exact ⟨v, by rw [h1]; rfl, h2⟩
  · rw [List.getElem?_append_right (by simpa using hi), List.getElem?_replicate] at h
    split at h <;> cases h
theorem fn_ok {P : Program} {w : World} {K : PySem.W.Frag} {mg : Str → Option Value} {base : Heap} {cl : Glb} {k n m : Nat} {x : Str} {st : Stmt} {f : Addr} {fd : FuncData} {N ps : List Str} {den : DS} {own : List Nat}
    (F : Fun K x x st f fd) (S : FnScope N ps (defScope st)) (hn : ps.length = n) (hN : N.length = m)
    (h : ∀ (cdv : Value) (A : Around) (outer : List PySem.Env) (s : Shared) (H : Hp) (E : XK), Gd (cxOf (L2.CX P w) P w K mg base N x (defScope st) f cdv A outer s H E) (fun cls d _ H => E cls d H) →
      Room k (A.deeper (PyProof.Rows.envOfC x (defScope st) s.heap.objs.size f cdv)) → SSs (cxOf (L2.CX P w) P w K mg base N x (defScope st) f cdv A outer s H E) (fun cls d _ H => E cls d H) cl [] own (defBody st) den) :
    FnOk P w K mg base (L2.CX P w) (k + 1) f fd ps (spF K cl n (defD n m den)) := by
  refine F.okX S (fun vs H Q E h => h.1.trans hn.symm) (fun cdv A outer s H vs Q E hr hsp => ?_)
  obtain ⟨hv, Hv, ds, vw, r, ps'⟩ := hsp
  have gd : Gd (cxOf (L2.CX P w) P w K mg base N x (defScope st) f cdv A outer s H E) (fun cls d _ H => E cls d H) := ⟨rfl, S.nd, takes_of rfl rfl rfl rfl, passes_of rfl⟩
  obtain ⟨t, pt, run⟩ := h cdv A outer s H E gd hr
  refine ⟨t, pt, run Hv H (args N.length ds) (start N vs) Hv H _ ⟨Ext.refl vw, ?_, fun i d _ e => args_get r e, fun i hi => absurd hi (by simp), fun i j p hi => absurd hi (by simp)⟩ ?_ ?_⟩
  · unfold args L2.start
    rw [List.length_append, List.length_append, List.length_map, List.length_map, List.length_replicate, List.length_replicate, r.length]
  · unfold L2.start
    have h1 : ps.length ≤ N.length := by have := congrArg List.length S.pre; rw [List.length_take] at this; omega
    show _ = N.length
    rw [List.length_append, List.length_map, List.length_replicate]
    omega
  · have hd : ds.length = n := by rw [← r.length]; exact hv
    unfold defD at ps'
    rw [if_pos hd] at ps'
    rw [hN]
    cases q : den (args m ds) with
    | nx ρ =>
      rw [q] at ps'
      exact fun σ' Hv' H' sr sm hl => ps' Hv' H' sr.ext .non .non
    | ret d =>
      rw [q] at ps'
      exact fun v Hv' H' e r' => ps' Hv' H' e v r'
    | err ρ c =>
      rw [q] at ps'
      exact fun σ' Hv' H' sr _ hl => ps' Hv' H' sr.ext
    | bad => rw [q] at ps'; exact ps'.elim
theorem fn_mk {P : Program} {w : World} {K : PySem.W.Frag} {mg : Str → Option Value} {base : Heap} {cl : Glb} {k n m : Nat} {x : Str} {st : Stmt} {f : Addr} {fd : FuncData} {N ps : List Str} {den : DS} {own : List Nat}
    (F : Fun K x x st f fd) (S : FnScope N ps (defScope st)) (hm : mg x = some (.ref f)) (hb : Binds K fd ps []) (hn : ps.length = n) (hN : N.length = m)
    (h : ∀ (cdv : Value) (A : Around) (outer : List PySem.Env) (s : Shared) (H : Hp) (E : XK), Gd (cxOf (L2.CX P w) P w K mg base N x (defScope st) f cdv A outer s H E) (fun cls d _ H => E cls d H) →
      Room k (A.deeper (PyProof.Rows.envOfC x (defScope st) s.heap.objs.size f cdv)) → SSs (cxOf (L2.CX P w) P w K mg base N x (defScope st) f cdv A outer s H E) (fun cls d _ H => E cls d H) cl [] own (defBody st) den) :
    Fn P w K mg base cl (k + 1) x n (defD n m den) := ⟨f, fd, ps, fn_ok F S hn hN h, hm, F.kp, hb, hn⟩
theorem Fn.imp {P : Program} {w : World} {K : PySem.W.Frag} {mg : Str → Option Value} {base : Heap} {cl : Glb} {k n : Nat} {x : Str} {F F' : List D → R D} (h : Fn P w K mg base cl k x n F)
    (hi : ∀ ds, F' ds = .bad ∨ ∃ es, F' ds = F es ∧ ∀ H vs, Reps K cl H vs ds → Reps K cl H vs es) : Fn P w K mg base cl k x n F' := by
  obtain ⟨f, fd, ps, h1, h2, h3, h4, h5⟩ := h
  refine ⟨f, fd, ps, h1.imp fun vs H Q E ⟨a1, Hv, ds, vw, r, p⟩ => ?_, h2, h3, h4, h5⟩
  rcases hi ds with z | ⟨es, e, hr⟩
  · rw [z] at p; exact p.elim
  · rw [e] at p
    exact ⟨a1, Hv, es, vw, hr Hv vs r, p⟩
theorem no_exc {P : Program} {w : World} {H : Hp} {s : Shared} {e : Value} {s' : Shared} (h : L2.CX P w [] H s (fun _ _ _ => False) e s') : False := by
  obtain ⟨_, _, _, _, _, _, _, _, _, _, _, _, z⟩ := h
  exact z
end Sm
namespace Sm
open PySem PySem.Spec L2
def noErr {α : Type} : R α → R α
  | .err _ => .bad
  | r => r
def lcGo (pt : Pat) (t : DT) (f : DE) : List D → Env → R (List D)
  | [], _ => .ok []
  | d :: ds, ρ => match bindPat pt d ρ with
    | none => .bad
    | some ρ' => (noErr (t ρ')).bind fun k => match k with
      | true => (noErr (f ρ')).bind fun y => (lcGo pt t f ds ρ).bind fun ys => .ok (y :: ys)
      | false => lcGo pt t f ds ρ
def dLcs (vs : List Nat) (pt : Pat) (it : DI) (t : DT) (f : DE) : DA := fun ρ => (it ρ).bind fun ds => lcGo pt t f ds (mask vs ρ)
def dLc (vs : List Nat) (pt : Pat) (it : DI) (t : DT) (f : DE) : DE := fun ρ => (dLcs vs pt it t f ρ).bind fun ds => .ok (.lst ds)
def dYes : DT := fun _ => .ok true
def hideA (p : Addr) (H : Hp) : Hp := fun b => if b = p then none else H b
theorem hideA_ne {p b : Addr} {H : Hp} (h : b ≠ p) : hideA p H b = H b := if_neg h
theorem hideA_self {p : Addr} {H : Hp} : hideA p H p = none := if_pos rfl
theorem hideA_some {p b : Addr} {H : Hp} {o : HO} (h : hideA p H b = some o) : b ≠ p ∧ H b = some o := by
  unfold hideA at h
  split at h
  · cases h
  · exact ⟨by assumption, h⟩
theorem hideA_none {p b : Addr} {H : Hp} (h : hideA p H b = none) : b = p ∨ H b = none := by
  unfold hideA at h
  split at h
  · exact .inl (by assumption)
  · exact .inr h
theorem hideA_upd {p : Addr} {H : Hp} {o : HO} (h : H p = some o) : upd (hideA p H) p o = H := by
  funext b
  by_cases z : b = p
  · subst z; rw [upd_same, h]
  · rw [upd_ne z, hideA_ne z]
theorem upd_hideA {p : Addr} {H : Hp} {o : HO} : hideA p (upd H p o) = hideA p H := by
  funext b
  by_cases z : b = p
  · subst z; rw [hideA_self, hideA_self]
  · rw [hideA_ne z, hideA_ne z, upd_ne z]
theorem hideA_new {p : Addr} {H : Hp} (h : H p = none) : hideA p H = H := by
  funext b
  by_cases z : b = p
  · subst z; rw [hideA_self, h]
  · rw [hideA_ne z]
theorem tabs_put {T : List (Addr × Str)} {H : Hp} {p : Addr} {xs : List V} {o : HO} (t : LamX.Tabs T H) (hp : H p = some (.lst xs)) : LamX.Tabs T (upd H p o) := fun q hq => by
  obtain ⟨ps, g1, g2, g3⟩ := t q hq
  refine ⟨ps, ?_, g2, fun pos cv hc => ?_⟩
  · rw [upd_ne fun z => by rw [z, hp] at g1; cases g1]; exact g1
  · obtain ⟨c, ec, hc'⟩ := g3 pos cv hc
    exact ⟨c, ec, by rw [upd_ne fun z => by subst z; rw [hp] at hc'; cases hc']; exact hc'⟩
theorem Ext.hide {cl : Glb} {Hv H Hv' H' : Hp} {p : Addr} {xs : List V} (e : Ext cl Hv H Hv' H') (hp : H p = some (.lst xs)) (hv : Hv p = none) : Ext cl Hv (hideA p H) Hv' (hideA p H') := by
  have hv' : Hv' p = none := e.old p _ hp hv
  have hp' : H' p = some (.lst xs) := e.hh p _ hp rfl
  refine ⟨fun b o h n => ?_, e.vv, ⟨fun b o h n => ?_, fun b h => ?_, fun b xs h => ?_, fun b o u h => ?_, fun p' hT => ?_, fun b φ h => e.vh.x b φ (hideA_some h).2⟩, fun b o h n => e.old b o (hideA_some h).2 n, fun b h => ?_, fun b ps h => ?_⟩
  · obtain ⟨h1, h2⟩ := hideA_some h
    rw [hideA_ne h1]; exact e.hh b o h2 n
  · rw [hideA_ne fun z => by subst z; rw [hv'] at h; cases h]
    exact e.vh.s b o h n
  · rcases hideA_none h with z | z
    · rw [z]; exact hv'
    · exact e.vh.d b z
  · exact e.vh.t b xs (hideA_some h).2
  · exact e.vh.z b o u (hideA_some h).2
  · obtain ⟨ps', g1, g2, g3⟩ := e.vh.tab p' hT
    refine ⟨ps', ?_, g2, fun pos cv hc => ?_⟩
    · rw [hideA_ne fun z => by subst z; rw [hp'] at g1; cases g1]; exact g1
    · obtain ⟨c, ec, hc'⟩ := g3 pos cv hc
      exact ⟨c, ec, by rw [hideA_ne fun z => by subst z; rw [hp'] at hc'; cases hc']; exact hc'⟩
  · rcases hideA_none h with z | z
    · rw [z]; exact hideA_self
    · by_cases w : b = p
      · rw [w]; exact hideA_self
      · rw [hideA_ne w]; exact e.dom b z
  · obtain ⟨h1, h2⟩ := hideA_some h
    obtain ⟨ps', h'⟩ := e.tt b ps h2
    exact ⟨ps', by rw [hideA_ne h1]; exact h'⟩
theorem wipe_mask {σ : St} {i : Nat} : ∀ {vs : List Nat}, i ∉ vs → (wipe σ vs)[i]? = σ[i]?
  | [], _ => rfl
  | v :: vs, h => by
    simp only [List.mem_cons, not_or] at h
    unfold wipe
    rw [List.getElem?_set_ne (Ne.symm h.1), wipe_mask h.2]
theorem wipe_in {σ : St} {i : Nat} : ∀ {vs : List Nat}, i ∈ vs → i < σ.length → (wipe σ vs)[i]? = some none
  | v :: vs, h, hl => by
    unfold wipe
    by_cases e : v = i
    · subst e; rw [List.getElem?_set_self (by rw [wipe_length]; exact hl)]
    · rw [List.getElem?_set_ne e]
      rcases List.mem_cons.mp h with z | z
      · exact absurd z.symm e
      · exact wipe_in z hl
theorem er_wipe {K : PySem.W.Frag} {cl : Glb} {Hv : Hp} {ρ : Env} {σ : St} {vs : List Nat} (e : ER K cl Hv ρ σ) : ER K cl Hv (mask vs ρ) (wipe σ vs) := ⟨fun i d h => by
  obtain ⟨h1, h2⟩ := mask_get h
  rw [wipe_mask h1]
  exact e.get i d h2, by rw [mask_len, wipe_length]; exact e.len⟩
theorem wipe_eq {σ σ' : St} {vs : List Nat} {pt : Pat} (hl : σ'.length = σ.length) (hk : ∀ j, j ∉ patIx pt → σ'[j]? = (wipe σ vs)[j]?) (hp : sub (patIx pt) vs = true) : wipe σ' vs = wipe σ vs := by
  apply List.ext_getElem?
  intro i
  by_cases hi : i ∈ vs
  · by_cases h : i < σ.length
    · rw [wipe_in hi h, wipe_in hi (by rw [hl]; exact h)]
    · rw [List.getElem?_eq_none (by rw [wipe_length, hl]; omega), List.getElem?_eq_none (by rw [wipe_length]; omega)]
  · rw [wipe_mask hi, hk i fun z => hi (sub_mem hp i z)]
section
variable {X : Cx} {W : WX} {cl : Glb} {pos : Pos} {elt tg iter : Expr} {ifs : List Expr} {scope : Scope} {own : List (Str × Nat)} {pt : Pat} {it : DI} {t : DT} {f : DE}
def W0 : WX := fun _ _ _ _ => False
def STs (X : Cx) (W : WX) (cl : Glb) (ifs : List Expr) (f : DT) : Prop := ∃ t, PTs X ifs t ∧ RunT X W cl f t
theorem sts_nil : STs X W cl [] dYes := ⟨_, pts_nil, fun Hv H σ ρ Q vw er pv => pv _ _ (Ext.refl vw)⟩
theorem noErr_pst {α : Type} {β : Type} {r : R α} {k : α → R β} {b : β} {σ : St} {Hv H : Hp} {T : Hp → Hp → α → Prop} (e : (noErr r).bind k = .ok b) (h : ∀ a Hv' H', r = .ok a → k a = .ok b → Ext cl Hv H Hv' H' → T Hv' H' a) : Pst cl W0 σ Hv H T r := by
  cases r with
  | ok a => exact fun Hv' H' ex => h a Hv' H' rfl e ex
  | err c => cases e
  | bad => cases e
theorem lc_run1 {wi : TI} {gt : TG} {tt : TT} {te : TE}
    (hg : ∀ (Hv H : Hp) (v : V) (d : D) (ρ ρ' : Env) (σ : St) (Q : St → Hp → Prop), Vw cl Hv H → Rep X.K cl Hv v d → bindPat pt d ρ = some ρ' → ρ.length = σ.length →
      (∀ σ', (∀ Hv2, ER X.K cl Hv2 ρ σ → Sam Hv Hv2 → ER X.K cl Hv2 ρ' σ') → σ'.length = σ.length → (∀ j, j ∉ patIx pt → σ'[j]? = σ[j]?) → Q σ' H) → gt v σ H Q)
    (ht : RunT X W0 cl t tt) (he : RunE X W0 cl f te) (hp : sub (patIx pt) (own.map (·.2)) = true)
    (Hv H : Hp) (σ : St) (ρ : Env) (Q : VK) (hi : ∀ (Q : It → Hp → Prop), Pst cl W σ Hv H (TJ X.K cl Q) (it ρ) → wi σ H Q) (vw : Vw cl Hv H) (er : ER X.K cl Hv ρ σ) (pv : Pst cl W σ Hv H (TN X.K cl Q) (dLcs (own.map (·.2)) pt it t f ρ)) : tLc wi gt tt te (own.map (·.2)) σ H Q := by
  refine hi _ (bindP pv fun ds Hv1 H1 _ e1 pv1 hz J hJ => ?_)
  cases qf : lcGo pt t f ds (mask (own.map (·.2)) ρ) with
  | bad => rw [qf] at pv1; exact pv1.elim
  | err c =>
    exfalso
    have : ∀ (ds : List D) (ρ : Env), lcGo pt t f ds ρ ≠ .err c := by
      intro ds
      induction ds with
      | nil => intro ρ h; cases h
      | cons d ds ih =>
        intro ρ h
        unfold lcGo at h
        cases q : bindPat pt d ρ with
        | none => rw [q] at h; cases h
        | some ρ' =>
          rw [q] at h
          simp only at h
          cases q1 : t ρ' with
          | ok k =>
            rw [q1] at h
            cases k with
            | true =>
              simp only [noErr, R.bind] at h
              cases q2 : f ρ' with
              | ok y =>
                rw [q2] at h
                simp only [noErr, R.bind] at h
                cases q3 : lcGo pt t f ds ρ with
                | ok ys => rw [q3] at h; cases h
                | err c' => rw [q3] at h; cases h; exact ih ρ q3
                | bad => rw [q3] at h; cases h
              | err c' => rw [q2] at h; cases h
              | bad => rw [q2] at h; cases h
            | false => exact ih ρ h
          | err c' => rw [q1] at h; cases h
          | bad => rw [q1] at h; cases h
    exact this _ _ qf
  | ok full =>
    rw [qf] at pv1
    intro D hD
    refine ⟨fun i m H2 => ∃ Hv2 acc ys, Ext cl Hv1 H1 Hv2 (hideA D H2) ∧ Vw cl Hv2 H2 ∧ H2 D = some (.lst acc) ∧ Hv2 D = none ∧ Reps X.K cl Hv2 acc ys ∧ ys.length ≤ i ∧ i ≤ ds.length ∧ m = ds.length - i ∧ ∃ rest, lcGo pt t f (ds.drop i) (mask (own.map (·.2)) ρ) = .ok rest ∧ ys ++ rest = full,
      ⟨ds.length, Hv1, [], [], ?_, ?_, upd_same, e1.vh.d D hD, .nil, Nat.le_refl _, Nat.zero_le _, rfl, full, qf, rfl⟩, ?_⟩
    · rw [upd_hideA, hideA_new hD]; exact Ext.refl e1.vh
    · refine ⟨e1.vh.s.trans (.of (same_upd hD)), fun b h => e1.vh.d b (upd_none h).2, fun b xs h => ?_, fun b o u h => ?_, e1.vh.tab.ext (same_upd hD), fun b φ h => ?_⟩
      · by_cases z : b = D
        · subst z; rw [upd_same] at h; cases h
        · rw [upd_ne z] at h; exact e1.vh.t b xs h
      · by_cases z : b = D
        · subst z; rw [upd_same] at h; cases h
        · rw [upd_ne z] at h; exact e1.vh.z b o u h
      · by_cases z : b = D
        · subst z; rw [upd_same] at h; cases h
        · rw [upd_ne z] at h; exact e1.vh.x b φ h
    · rintro i m H2 ⟨Hv2, acc, ys, e2, vw2, hD2, hv2, ra, hy, hi2, rfl, rest, hr, hf⟩
      by_cases hlt : i < ds.length
      · refine .inr ⟨hJ.go i Hv2 H2 e2.vv vw2 hlt, fun H3 => ∃ Hv3 acc3 ys3, Ext cl Hv1 H1 Hv3 (hideA D H3) ∧ Vw cl Hv3 H3 ∧ H3 D = some (.lst acc3) ∧ Hv3 D = none ∧ Reps X.K cl Hv3 acc3 ys3 ∧ ys3.length ≤ i + 1 ∧ ∃ rest, lcGo pt t f (ds.drop (i + 1)) (mask (own.map (·.2)) ρ) = .ok rest ∧ ys3 ++ rest = full,
          fun H3 ⟨Hv3, acc3, ys3, a1, a2, a3, a4, a5, a6, a7⟩ => ⟨ds.length - (i + 1), by omega, Hv3, acc3, ys3, a1, a2, a3, a4, a5, a6, hlt, rfl, a7⟩, fun x H3 y => ?_⟩
        obtain ⟨Hv3, e3, r3⟩ := hJ.yld i Hv2 H2 e2.vv vw2 ds[i] (by simp [hlt]) x H3 y
        rw [List.drop_eq_getElem_cons hlt] at hr
        unfold lcGo at hr
        cases q : bindPat pt ds[i] (mask (own.map (·.2)) ρ) with
        | none => rw [q] at hr; cases hr
        | some ρ' =>
          rw [q] at hr
          simp only at hr
          refine hg Hv3 H3 x ds[i] _ ρ' (wipe σ (own.map (·.2))) _ e3.vh r3 q (by rw [wipe_length, mask_len]; exact er.len) fun σ' g' l' k' => ?_
          have er3 : ER X.K cl Hv3 ρ' σ' := g' Hv3 (er_wipe (((er.mono e1.vv).mono e2.vv).mono e3.vv)) (Sam.refl _)
          refine ⟨wipe_eq (l'.trans (wipe_length _ _)) k' hp, ?_⟩
          refine ht Hv3 H3 σ' ρ' _ e3.vh er3 (noErr_pst hr fun k Hv4 H4 qk hk e4 => ?_)
          have hD3 : H3 D = some (.lst acc) := e3.hh D _ hD2 rfl
          have hD4 : H4 D = some (.lst acc) := e4.hh D _ hD3 rfl
          have hv3 : Hv3 D = none := e3.old D _ hD2 hv2
          have hv4 : Hv4 D = none := e4.old D _ hD3 hv3
          have ext4 : Ext cl Hv1 H1 Hv4 (hideA D H4) := (e2.trans (e3.hide hD2 hv2)).trans (e4.hide hD3 hv3)
          show if k = true then _ else _
          cases k with
          | false =>
            rw [if_neg Bool.false_ne_true]
            exact ⟨Hv4, acc, ys, ext4, e4.vh, hD4, hv4, (ra.mono e3.vv).mono e4.vv, by omega, rest, hk, hf⟩
          | true =>
            rw [if_pos rfl]
            refine he Hv4 H4 σ' ρ' _ e4.vh (er3.mono e4.vv) (noErr_pst hk fun yd Hv5 H5 qy hy5 e5 v rv => ?_)
            have hD5 : H5 D = some (.lst acc) := e5.hh D _ hD4 rfl
            have hv5 : Hv5 D = none := e5.old D _ hD4 hv4
            have hla : acc.length = ys.length := ra.length
            refine ⟨acc, hD5, by omega, ?_⟩
            cases q5 : lcGo pt t f (ds.drop (i + 1)) (mask (own.map (·.2)) ρ) with
            | ok rest5 =>
              rw [q5] at hy5
              cases hy5
              have ra5 := (((ra.mono e3.vv).mono e4.vv).mono e5.vv).append (.cons rv .nil)
              refine ⟨Hv5, acc ++ [v], ys ++ [yd], ?_, ?_, upd_same, hv5, ra5, by rw [List.length_append, List.length_singleton]; omega, rest5, rfl, by rw [List.append_assoc]; exact hf⟩
              · rw [upd_hideA]; exact ext4.trans (e5.hide hD4 hv4)
              · refine ⟨fun b o h n => ?_, fun b h => e5.vh.d b (upd_none h).2, fun b xs h => ?_, fun b o u h => ?_, tabs_put e5.vh.tab hD5, fun b φ h => ?_⟩
                · rw [upd_ne fun z => by subst z; rw [hv5] at h; cases h]; exact e5.vh.s b o h n
                · by_cases z : b = D
                  · subst z; rw [upd_same] at h; cases h
                  · rw [upd_ne z] at h; exact e5.vh.t b xs h
                · by_cases z : b = D
                  · subst z; rw [upd_same] at h; cases h
                  · rw [upd_ne z] at h; exact e5.vh.z b o u h
                · by_cases z : b = D
                  · subst z; rw [upd_same] at h; cases h
                  · rw [upd_ne z] at h; exact e5.vh.x b φ h
            | err c => rw [q5] at hy5; cases hy5
            | bad => rw [q5] at hy5; cases hy5
      · have ei : i = ds.length := by omega
        subst ei
        rw [List.drop_length] at hr
        cases hr
        rw [List.append_nil] at hf
        subst hf
        refine .inl ⟨hJ.stop _ Hv2 H2 e2.vv vw2 rfl, ?_⟩
        have z : acc.length ≤ sizeLine := by rw [ra.length]; omega
        have := pv1 Hv2 (hideA D H2) e2 D acc hideA_self z ra
        rw [hideA_upd hD2] at this
        exact this
theorem lc_run {wi : TI} {gt : TG} {tt : TT} {te : TE}
    (hi : ∀ (Hv H : Hp) (σ : St) (ρ : Env) (Q : It → Hp → Prop), Vw cl Hv H → ER X.K cl Hv ρ σ → Pst cl W σ Hv H (TJ X.K cl Q) (it ρ) → wi σ H Q)
    (hg : ∀ (Hv H : Hp) (v : V) (d : D) (ρ ρ' : Env) (σ : St) (Q : St → Hp → Prop), Vw cl Hv H → Rep X.K cl Hv v d → bindPat pt d ρ = some ρ' → ρ.length = σ.length →
      (∀ σ', (∀ Hv2, ER X.K cl Hv2 ρ σ → Sam Hv Hv2 → ER X.K cl Hv2 ρ' σ') → σ'.length = σ.length → (∀ j, j ∉ patIx pt → σ'[j]? = σ[j]?) → Q σ' H) → gt v σ H Q)
    (ht : RunT X W0 cl t tt) (he : RunE X W0 cl f te) (hp : sub (patIx pt) (own.map (·.2)) = true)
    (Hv H : Hp) (σ : St) (ρ : Env) (Q : VK) (vw : Vw cl Hv H) (er : ER X.K cl Hv ρ σ) (pv : Pst cl W σ Hv H (TN X.K cl Q) (dLcs (own.map (·.2)) pt it t f ρ)) : tLc wi gt tt te (own.map (·.2)) σ H Q :=
  lc_run1 hg ht he hp Hv H σ ρ Q (fun Q => hi Hv H σ ρ Q vw er) vw er pv
end
end Sm
namespace Sm
open PySem PySem.Spec L2
section
variable {X : Cx} {W : WX} {cl : Glb} {pos : Pos} {e elt tg iter : Expr} {ifs : List Expr} {scope : Scope} {own : List (Str × Nat)} {pt : Pat} {it : DI} {t : DT} {f : DE} {ow ow1 : List Nat}
def tE (K : PySem.W.Frag) (cl : Glb) (W : WX) (f : DE) : TE := fun σ H Q => ∃ Hv ρ, Vw cl Hv H ∧ ER K cl Hv ρ σ ∧ Pst cl W σ Hv H (TV K cl Q) (f ρ)
def tT (K : PySem.W.Frag) (cl : Glb) (W : WX) (f : DT) : TT := fun σ H Q => ∃ Hv ρ, Vw cl Hv H ∧ ER K cl Hv ρ σ ∧ Pst cl W σ Hv H (TB Q) (f ρ)
def tG (K : PySem.W.Frag) (cl : Glb) (pt : Pat) : TG := fun v σ H Q => ∃ Hv d ρ ρ', Vw cl Hv H ∧ Rep K cl Hv v d ∧ bindPat pt d ρ = some ρ' ∧ ρ.length = σ.length ∧
  (∀ σ', (∀ Hv2, ER K cl Hv2 ρ σ → Sam Hv Hv2 → ER K cl Hv2 ρ' σ') → σ'.length = σ.length → (∀ j, j ∉ patIx pt → σ'[j]? = σ[j]?) → Q σ' H)
theorem SE.pe (h : SE X W cl e f) : PE X e (tE X.K cl W f) := by
  obtain ⟨u, pu, hu⟩ := h
  exact ⟨fun pins s σ H Q I ⟨Hv, ρ, vw, er, pv⟩ => pu.run pins s σ H Q I (hu Hv H σ ρ Q vw er pv)⟩
theorem STs.pts (h : STs X W cl ifs t) : PTs X ifs (tT X.K cl W t) := by
  obtain ⟨u, pu, hu⟩ := h
  exact ⟨fun pins s σ H Q I ⟨Hv, ρ, vw, er, pv⟩ => pu.run pins s σ H Q I (hu Hv H σ ρ Q vw er pv)⟩
theorem SG.pg (h : SG X cl tg pt) : PG X tg (tG X.K cl pt) := by
  obtain ⟨u, pu, hu⟩ := h
  exact ⟨fun pins s σ H v w Q I r ⟨Hv, d, ρ, ρ', vw, rv, eb, hl, q⟩ => pu.run pins s σ H v w Q I r (hu Hv H v d ρ ρ' σ Q vw rv eb hl fun σ' _ g' l' _ k' => q σ' g' l' k')⟩
theorem lc_runs {wi : TI} (hi : ∀ (Hv H : Hp) (σ : St) (ρ : Env) (Q : It → Hp → Prop), Vw cl Hv H → ER X.K cl Hv ρ σ → Pst cl W σ Hv H (TJ X.K cl Q) (it ρ) → wi σ H Q) (hp : sub (patIx pt) (own.map (·.2)) = true)
    (Hv H : Hp) (σ : St) (ρ : Env) (Q : VK) (vw : Vw cl Hv H) (er : ER X.K cl Hv ρ σ) (pv : Pst cl W σ Hv H (TN X.K cl Q) (dLcs (own.map (·.2)) pt it t f ρ)) : tLc wi (tG X.K cl pt) (tT X.K cl W0 t) (tE X.K cl W0 f) (own.map (·.2)) σ H Q :=
  lc_run hi (fun Hv H v d ρ ρ' σ Q vw r e hl q => ⟨Hv, d, ρ, ρ', vw, r, e, hl, q⟩) (fun Hv H σ ρ Q vw er pv => ⟨Hv, ρ, vw, er, pv⟩) (fun Hv H σ ρ Q vw er pv => ⟨Hv, ρ, vw, er, pv⟩) hp Hv H σ ρ Q vw er pv
theorem sn_lc (gd : X.calm = true) (nd : X.N.Nodup) (hi : SI X W cl tg iter it) (ok : BlkOk X.N X.env.scope scope own)
    (hg : ∀ (s : Shared) (H : Hp) (C : Addr) (cs : List (Str × Addr)) (fp : List Addr), SG (X.blk s H scope (compEnvC scope cs C X.env) fp) cl tg pt)
    (ht : ∀ (s : Shared) (H : Hp) (C : Addr) (cs : List (Str × Addr)) (fp : List Addr), STs (X.blk s H scope (compEnvC scope cs C X.env) fp) W0 cl ifs t)
    (he : ∀ (s : Shared) (H : Hp) (C : Addr) (cs : List (Str × Addr)) (fp : List Addr), SE (X.blk s H scope (compEnvC scope cs C X.env) fp) W0 cl elt f) (hp : sub (patIx pt) (own.map (·.2)) = true := by rfl) (hs : ∀ x, foldedSetIterable iter X.env x = pure x := by intro _; rfl) :
    SN X W cl (.ListComp elt [⟨tg, iter, ifs, 0⟩] scope pos) (dLcs (own.map (·.2)) pt it t f) := by
  obtain ⟨wi, pi, hi⟩ := hi
  exact ⟨_, pe_lc (te := tE X.K cl W0 f) (tt := tT X.K cl W0 t) (g := tG X.K cl pt) gd nd pi ok (fun s H C cs fp => (hg s H C cs fp).pg) (fun s H C cs fp => (ht s H C cs fp).pts) (fun s H C cs fp => (he s H C cs fp).pe) hs, lc_runs hi hp⟩
theorem SN.se {g : DA} (h : SN X W cl e g) : SE X W cl e (fun ρ => (g ρ).bind fun ds => .ok (.lst ds)) := by
  obtain ⟨u, pu, hu⟩ := h
  refine ⟨u, pu, fun Hv H σ ρ Q vw er pv => hu Hv H σ ρ Q vw er ?_⟩
  have pv : Pst cl W σ Hv H (TV X.K cl Q) ((g ρ).bind fun ds => .ok (.lst ds)) := pv
  cases q : g ρ with
  | ok ds =>
    rw [q] at pv
    exact fun Hv' H' ex p vs hp hz r => pv _ _ (ex.trans (Ext.new ex.vh hp)) _ (.lst upd_same hz (r.mono (Ext.new ex.vh hp).vv))
  | err c => rw [q] at pv; exact pv
  | bad => rw [q] at pv; exact pv
theorem se_lc (gd : X.calm = true) (nd : X.N.Nodup) (hi : SI X W cl tg iter it) (ok : BlkOk X.N X.env.scope scope own)
    (hg : ∀ (s : Shared) (H : Hp) (C : Addr) (cs : List (Str × Addr)) (fp : List Addr), SG (X.blk s H scope (compEnvC scope cs C X.env) fp) cl tg pt)
    (ht : ∀ (s : Shared) (H : Hp) (C : Addr) (cs : List (Str × Addr)) (fp : List Addr), STs (X.blk s H scope (compEnvC scope cs C X.env) fp) W0 cl ifs t)
    (he : ∀ (s : Shared) (H : Hp) (C : Addr) (cs : List (Str × Addr)) (fp : List Addr), SE (X.blk s H scope (compEnvC scope cs C X.env) fp) W0 cl elt f) (hp : sub (patIx pt) (own.map (·.2)) = true := by rfl) (hs : ∀ x, foldedSetIterable iter X.env x = pure x := by intro _; rfl) :
    SE X W cl (.ListComp elt [⟨tg, iter, ifs, 0⟩] scope pos) (dLc (own.map (·.2)) pt it t f) := (sn_lc gd nd hi ok hg ht he hp hs).se
end
end Sm
namespace Sm
open PySem PySem.Spec L2
theorem tuple_mul1W (l : Addr) (items : Array Value) (n : Nat) (dd : Option Addr) (sl : Array (Option Value)) (u : Tok) :
    Meets (Builtin.«tuple.__mul__» ⟨[.ref l, .int 1 u], []⟩) (fun _ R s => s.heap.get? l = some { cls := .type "tuple", dict := dd, data := .seq items n, slots := sl } ∧ R (.ok (.ret (Value.ref l))) s) :=
  .of_wp fun prog w A R s h => by
    obtain ⟨hp, g, d, tk, os⟩ := s
    obtain ⟨hl, h⟩ := h
    have f1 := AutoSeq1.idx_int
    wp_walk using wpAny_loadPart' hl
    repeat (first
      | (refine wpAny_ite_false (decide_eq_false (by decide)) ?_; wp_walk using wpAny_loadPart' hl)
      | (refine wpAny_ite_true (decide_eq_true (by simp)) ?_; wp_walk using wpAny_loadPart' hl))
    exact ⟨_, rfl, h⟩
def rRep1 (K : PySem.W.Frag) : R2 := fun x y H Q => ∃ l xs, x = .ref l ∧ y = .int 1 ∧ SqT K H l xs ∧ Q (.ref l) H
theorem op_rep1 {X : Cx} : OpR X (binaryOp .Mult) (rRep1 X.K) := by
  intro pins s σ H x y v u Q I rx ry h
  obtain ⟨l, xs, rfl, rfl, hT, q⟩ := h
  cases rx
  obtain ⟨t, rfl⟩ := ry
  obtain ⟨its, r, ⟨⟨cls, dd, data, sl⟩, ho, hc, n, hd⟩, hs⟩ := I.tuple hT
  simp only at hc hd
  subst hc hd
  refine wpAny_binaryOp_repeat_ref (T := "tuple") (U := "int") (by decide) ⟨_, ho, rfl⟩ (fun s' => typeIs_int s' 1 t) noFill_tuple_mul F.fills_int_mul F.slot_int_rmul repeat_tuple F.slot_int_index.lookup
    (call_meets F.slot_int_rmul (typeIs_int s 1 t) F.entry_int_rmul (F.args_int_rmul_2 _ _) (int_rmul_tuple 1 t l its.toArray n dd sl)
      ⟨ho, rfl, ⟨_, ho, rfl⟩, call_meets F.slot_tuple_mul ⟨_, ho, rfl⟩ F.entry_tuple_mul (F.args_tuple_mul_2 _ _) (tuple_mul1W l its.toArray n dd sl t) ⟨ho, ?_⟩⟩)
  exact ⟨.ref l, _, I, rfl, q⟩
section
variable {X : Cx} {W : WX} {cl : Glb}
def oRepL : D → D → Option D
  | .lst x, .int k => if -16777216 ≤ k ∧ k ≤ 16777216 ∧ x.length * k.toNat ≤ sizeLine then some (.lst (List.replicate k.toNat x).flatten) else none
  | _, _ => none
def oRepT : D → D → Option D
  | .tup x, .int k => if x ≠ [] ∧ 2 ≤ k ∧ k ≤ 1000 ∧ x.length ≤ 1000 then some (.tup (List.replicate k.toNat x).flatten) else none
  | _, _ => none
theorem flat_len {α : Type} (k : Nat) (x : List α) : ((List.replicate k x).flatten).length = x.length * k := by
  induction k with
  | zero => simp
  | succ k ih => rw [List.replicate_succ, List.flatten_cons, List.length_append, ih, Nat.mul_succ]; omega
theorem os_repL : OpS X cl (binaryOp .Mult) oRepL := by
  refine ⟨_, op_rep, fun Hv H x y a b d Q vw rx ry e q => ?_⟩
  cases a <;> cases b <;> simp [oRepL] at e
  obtain ⟨⟨h1, h2, h3⟩, rfl⟩ := e
  cases ry
  cases rx with
  | lst s1 z1 r1 =>
    have e1 := r1.length
    refine ⟨_, _, _, rfl, rfl, vw.s _ _ s1 rfl, by omega, by omega, by rw [e1]; exact h3, new_lst vw (r1.replicate _) ?_ q⟩
    rw [flat_len, e1]; exact h3
theorem os_repT : OpS X cl (binaryOp .Mult) oRepT := by
  refine ⟨_, op_repT, fun Hv H x y a b d Q vw rx ry e q => ?_⟩
  cases a <;> cases b <;> simp [oRepT] at e
  obtain ⟨⟨h0, h1, h2, h3⟩, rfl⟩ := e
  rename_i x0 k0
  cases ry
  cases rx with
  | tup s1 z1 r1 =>
    have e1 := r1.length
    refine ⟨_, _, _, rfl, rfl, vw.s.sqU s1, fun z => ?_, h1, h2, by omega, new_tup vw (r1.replicate _) ?_ q⟩
    · subst z; cases r1; exact h0 rfl
    · rw [flat_len, e1]
      have h4 : x0.length * k0.toNat ≤ 1000 * 1000 := Nat.mul_le_mul h3 (by omega)
      exact Nat.le_trans h4 (by decide)
def oRep1 : D → D → Option D
  | .tup x, .int k => if k = 1 then some (.tup x) else none
  | _, _ => none
theorem os_rep1 : OpS X cl (binaryOp .Mult) oRep1 := by
  refine ⟨_, op_rep1, fun Hv H x y a b d Q vw rx ry e q => ?_⟩
  cases a <;> cases b <;> simp [oRep1] at e
  obtain ⟨rfl, rfl⟩ := e
  cases ry
  cases rx with
  | tup s1 z1 r1 => exact ⟨_, _, rfl, rfl, vw.s.sqU s1, q _ _ _ (Ext.refl vw) (.tup s1 z1 r1)⟩
def oMul : D → D → Option D
  | .int i, .int j => if mulOk i j then some (.int (i * j)) else none
  | .lst x, .int k => if -16777216 ≤ k ∧ k ≤ 16777216 ∧ x.length * k.toNat ≤ sizeLine then some (.lst (List.replicate k.toNat x).flatten) else none
  | .tup x, .int k => if k = 1 then some (.tup x) else if x ≠ [] ∧ 2 ≤ k ∧ k ≤ 1000 ∧ x.length ≤ 1000 then some (.tup (List.replicate k.toNat x).flatten) else none
  | _, _ => none
theorem os_times : OpS X cl (binaryOp .Mult) oMul := (os_mul.or (os_repL.or (os_rep1.or os_repT))).imp fun a b d e => by
  unfold orO
  cases a <;> cases b <;> simp [oMul] at e <;> simp [oMulI, oRepL, oRepT, oRep1, e]
  rename_i k
  by_cases h : k = 1
  · rw [if_pos h] at e ⊢
    exact e
  · rw [if_neg h] at e ⊢
    exact e
end
theorem Fn.none {P : Program} {w : World} {K : PySem.W.Frag} {mg : Str → Option Value} {base : Heap} {cl : Glb} {k n : Nat} {x : Str} {st : Stmt} {f : Addr} {fd : FuncData} {ps : List Str} (F : Fun K x x st f fd) (hm : mg x = some (.ref f)) (hb : Binds K fd ps []) (hn : ps.length = n) :
    Fn P w K mg base cl k x n (fun _ => .bad) :=
  ⟨f, fd, ps, ⟨fun vs H Q E h => h.1.trans hn.symm, fun A outer s H args us vs Q E _ _ _ _ h => by obtain ⟨_, _, _, _, _, z⟩ := h; exact z.elim⟩, hm, F.kp, hb, hn⟩
end Sm
namespace Sm
open PySem PySem.Spec L2
section
variable {X : Cx} {W : WX} {cl : Glb} {pos p : Pos} {a b c e : Expr} {es : List Expr} {fa fb fc : DE} {g : DA}
def SO (X : Cx) (W : WX) (cl : Glb) (e : Option Expr) (f : Env → R (Option Int)) : Prop := ∃ t, PO X e t ∧ ∀ (Hv H : Hp) (σ : St) (ρ : Env) (Q : Option Int → Hp → Prop), Vw cl Hv H → ER X.K cl Hv ρ σ → Pst cl W σ Hv H (fun _ H' i => Q i H') (f ρ) → t σ H Q
def dNo : Env → R (Option Int) := fun _ => .ok none
def dSo (f : DE) : Env → R (Option Int) := fun ρ => (f ρ).bind fun d => match d with | .int i => .ok (some i) | _ => .bad
theorem so_none : SO X W cl none dNo := ⟨_, po_none, fun Hv H σ ρ Q vw er pv => pv _ _ (Ext.refl vw)⟩
theorem so_some (ha : SE X W cl a fa) : SO X W cl (some a) (dSo fa) := by
  obtain ⟨ta, pa, ha⟩ := ha
  refine ⟨_, po_some pa, fun Hv H σ ρ Q vw er pv => ?_⟩
  refine ha Hv H σ ρ _ vw er (bindP pv fun x Hv1 H1 _ e1 pv1 v rv => ?_)
  cases x with
  | int i => cases rv; exact ⟨i, rfl, pv1 _ _ (Ext.refl e1.vh)⟩
  | _ => exact pv1.elim
def cutD {α : Type} (xs : List α) (lo hi : Option Int) : List α := (xs.drop (HT.sIx xs.length 0 lo)).take (HT.sIx xs.length xs.length hi - HT.sIx xs.length 0 lo)
def oSl (d : D) (lo hi : Option Int) : Option D := match d with
  | .lst ds => some (.lst (cutD ds lo hi))
  | .tup ds => some (.tup (cutD ds lo hi))
  | .str z => if z.length ≤ sizeLine then some (.str (cutS z lo hi)) else none
  | _ => none
theorem reps_cut {K : PySem.W.Frag} {H : Hp} {xs : List V} {ds : List D} (r : Reps K cl H xs ds) (lo hi : Option Int) : Reps K cl H (cutV xs lo hi) (cutD ds lo hi) := by
  unfold cutV cutD
  rw [r.length]
  exact (r.drop _).take _
theorem cutD_all {α : Type} {xs : List α} {lo hi : Option Int} (h1 : HT.sIx xs.length 0 lo = 0) (h2 : HT.sIx xs.length xs.length hi = xs.length) : cutD xs lo hi = xs := by
  unfold cutD
  rw [h1, h2]; simp
def dSl (f : DE) (lo hi : Env → R (Option Int)) : DE := fun ρ => (f ρ).bind fun d => (lo ρ).bind fun l => (hi ρ).bind fun h => ofO (oSl d l h)
theorem se_slice {lo hi : Option Expr} {fl fh : Env → R (Option Int)} {p2 : Pos} (ha : SE X W cl a fa) (hl : SO X W cl lo fl) (hh : SO X W cl hi fh) : SE X W cl (.Subscript a (.Slice lo hi none p2) pos) (dSl fa fl fh) := by
  obtain ⟨ta, pa, ha⟩ := ha
  obtain ⟨tl, pl, hl⟩ := hl
  obtain ⟨th, ph, hh⟩ := hh
  refine ⟨_, pe_slice (sl_list.or (sl_tupA.or sl_str)) pa pl ph, fun Hv H σ ρ Q vw er pv => ?_⟩
  refine ha Hv H σ ρ _ vw er (bindP pv fun x Hv1 H1 _ e1 pv1 v rv => ?_)
  refine hl Hv1 H1 σ ρ _ e1.vh (er.mono e1.vv) (bindP pv1 fun l Hv2 H2 _ e2 pv2 => ?_)
  refine hh Hv2 H2 σ ρ _ e2.vh ((er.mono e1.vv).mono e2.vv) (bindP pv2 fun h Hv3 H3 _ e3 pv3 => ?_)
  obtain ⟨d, ed, q⟩ := ofO_ok pv3
  have q : ∀ v Hv' H', Ext cl Hv3 H3 Hv' H' → Rep X.K cl Hv' v d → Q v H' := fun v Hv' H' ex r => q Hv' H' ex v r
  have rv := (rv.mono e2.vv).mono e3.vv
  have vw := e3.vh
  cases rv with
  | lst s z r =>
    cases ed
    exact .inl ⟨_, _, rfl, .inl (.inl (vw.s _ _ s rfl)), new_lst vw (reps_cut r l h) (Nat.le_trans (cutV_length _ _ _) z) q⟩
  | tup s z r =>
    cases ed
    refine .inr (.inl ⟨_, _, rfl, vw.s.sqU s, fun hw => ?_, fun _ => new_tup vw (reps_cut r l h) (Nat.le_trans (cutV_length _ _ _) z) q⟩)
    rw [r.length] at hw
    rw [cutD_all hw.1 hw.2] at q
    exact q _ _ _ (Ext.refl vw) (.tup s z r)
  | str z =>
    simp only [oSl] at ed
    split at ed
    · cases ed
      exact .inr (.inr ⟨_, rfl, by assumption, q _ _ _ (Ext.refl vw) (.str _)⟩)
    · cases ed
  | _ => cases ed
def intsOf : List D → Option (List Int)
  | [] => some []
  | .int i :: ds => (intsOf ds).map (i :: ·)
  | _ => none
def boolsOf : List D → Option (List Bool)
  | [] => some []
  | .bl i :: ds => (boolsOf ds).map (i :: ·)
  | _ => none
theorem reps_boolsOf {K : PySem.W.Frag} {H : Hp} : ∀ {xs : List V} {ds : List D} {ns : List Bool}, Reps K cl H xs ds → boolsOf ds = some ns → xs = ns.map V.bl
  | _, _, _, .nil, h => by cases h; rfl
  | _, _, _, .cons r t, h => by
    cases r with
    | bl i =>
      simp only [boolsOf, Option.map_eq_some_iff] at h
      obtain ⟨ns, h1, rfl⟩ := h
      rw [reps_boolsOf t h1]; rfl
    | _ => cases h
theorem one_lst {K : PySem.W.Frag} {H : Hp} {xs : List V} {ds : List D} (r : Reps K cl H xs [.lst ds]) : ∃ l vs, xs = [.ref l] ∧ H l = some (.lst vs) ∧ vs.length ≤ sizeLine ∧ Reps K cl H vs ds := by
  cases r with
  | cons r t =>
    cases t
    cases r with
    | lst s z r => exact ⟨_, _, rfl, s, z, r⟩
def oAll : List D → Option D
  | [.lst ds] => (boolsOf ds).map fun ns => .bl (ns.all id)
  | _ => none
theorem cs_all (hc : X.calm = true) : CallS X cl (.builtin "all") oAll := by
  refine ⟨_, cr_all hc, fun Hv H xs ds d Q vw r e q => ?_⟩
  unfold oAll at e
  split at e
  · obtain ⟨l, vs, rfl, h1, h2, h3⟩ := one_lst r
    rw [Option.map_eq_some_iff] at e
    obtain ⟨ns, e1, rfl⟩ := e
    have := reps_boolsOf h3 e1
    subst this
    exact ⟨l, ns, rfl, .inl (.inl (vw.s _ _ h1 rfl)), q _ _ _ (Ext.refl vw) (.bl _)⟩
  · cases e
def maxI : List Int → Option Int
  | [] => none
  | x :: xs => some (xs.foldl max x)
def oMax : List D → Option D
  | [.lst ds] => (intsOf ds).bind fun ns => (maxI ns).map .int
  | _ => none
def oTuple : List D → Option D
  | [.lst ds] => some (.tup ds)
  | [.tup ds] => some (.tup ds)
  | _ => none
theorem one_tup {K : PySem.W.Frag} {H : Hp} {xs : List V} {ds : List D} (r : Reps K cl H xs [.tup ds]) : ∃ l vs, xs = [.ref l] ∧ H l = some (.tup vs) ∧ vs.length ≤ sizeLine ∧ Reps K cl H vs ds := by
  cases r with
  | cons r t =>
    cases t
    cases r with
    | tup s z r => exact ⟨_, _, rfl, s, z, r⟩
theorem cs_tuple : CallS X cl (.type "tuple") oTuple := by
  refine ⟨_, call_tuple_of, fun Hv H xs ds d Q vw r e q => ?_⟩
  unfold oTuple at e
  split at e
  · cases e
    obtain ⟨l, vs, rfl, h1, h2, h3⟩ := one_lst r
    exact ⟨l, vs, rfl, .inl ⟨.inl (.inl (vw.s _ _ h1 rfl)), new_tup vw h3 h2 q⟩⟩
  · cases e
    obtain ⟨l, vs, rfl, h1, h2, h3⟩ := one_tup r
    exact ⟨l, vs, rfl, .inr ⟨vw.s.sqU h1, q _ _ _ (Ext.refl vw) (.tup h1 h2 h3)⟩⟩
  · cases e
def oInt : List D → Option D
  | [.int i] => some (.int i)
  | [.bl k] => some (.int (if k then 1 else 0))
  | [.str z] => if z.length ≤ 640 then (PySem.intText? z).map .int else none
  | _ => none
theorem CallR.or {f : Value} {r r' : List V → Hp → VK → Prop} (h : CallR X f r) (h' : CallR X f r') : CallR X f (fun xs H Q => r xs H Q ∨ r' xs H Q) := fun pins s σ H xs us Q I rv q =>
  q.elim (h pins s σ H xs us Q I rv) (h' pins s σ H xs us Q I rv)
theorem cs_int : CallS X cl (.type "int") oInt := by
  refine ⟨_, CallR.or call_int1 call_int_str, fun Hv H xs ds d Q vw r e q => ?_⟩
  unfold oInt at e
  split at e
  · cases e
    cases r with
    | cons r t => cases t; cases r; exact .inl (.inl ⟨_, rfl, q _ _ _ (Ext.refl vw) (.int _)⟩)
  · cases e
    cases r with
    | cons r t => cases t; cases r; exact .inl (.inr ⟨_, rfl, q _ _ _ (Ext.refl vw) (.int _)⟩)
  · split at e
    · rw [Option.map_eq_some_iff] at e
      obtain ⟨n, e1, rfl⟩ := e
      cases r with
      | cons r t => cases t; cases r; exact .inr ⟨_, n, rfl, e1, by assumption, q _ _ _ (Ext.refl vw) (.int _)⟩
    · cases e
  · cases e
end
end Sm
namespace Sm
open PySem PySem.Spec L2
section
variable {X : Cx} {W : WX} {cl : Glb} {pos p p1 p2 : Pos} {a b c e : Expr} {es : List Expr} {fa fb fc : DE} {g : DA}
def tyN : D → Option String
  | .non => some "NoneType"
  | .bl _ => some "bool"
  | .int _ => some "int"
  | .str _ => some "str"
  | .tup _ => some "tuple"
  | .lst _ => some "list"
  | _ => none
theorem tyN_ok {K : PySem.W.Frag} {Hv H : Hp} {v : V} {d : D} {t : String} (vw : Vw cl Hv H) (r : Rep K cl Hv v d) (h : tyN d = some t) : TyX K H v (.type t) := by
  cases r with
  | non => cases h; exact .base .non
  | bl b => cases h; exact .base (.bl b)
  | int b => cases h; exact .base (.int b)
  | str b => cases h; exact .base (.str b)
  | lst s z r => cases h; exact .base (.lst (vw.s _ _ s rfl))
  | tup s z r =>
    cases h
    exact .base (.tup (vw.s _ _ s rfl))
  | _ => cases h
def kitF (T : String) (d : D) : Option D := (tyN d).bind fun t => (kitB t T).map .bl
theorem se_isiT {T : String} {x : Str} {o : D → Option D} (ho : ∀ d r, o d = some r → kitF T d = some r) (hb : bootBuiltins x = some (.type T)) (ha : SE X W cl a fa) (hm : X.mg "isinstance" = none) (hT : X.mg x = none) (hg : Gl X "isinstance" := by rfl) (hgx : Gl X x := by rfl)
    (hn : x ≠ "__name__" := by decide) (hdb : (x == ("__debug__" : Str)) = false := by decide)
    (he : starEach [a, .Name x p1] X.env = (false, eval a X.env) :: starEach [.Name x p1] X.env := by rfl) (he2 : starEach [.Name x p1] X.env = [(false, eval (.Name x p1) X.env)] := by rfl) (hpl : (backTo pos (starEach [.Name x p1] X.env)).any (·.1) = false := by rfl) :
    SE X W cl (.Call (.Name "isinstance" p) [a, .Name x p1] [] pos) (dUn o fa) := by
  obtain ⟨ta, pa, ha⟩ := ha
  refine ⟨_, pe_callB call_isi hg hm (by decide +kernel) (pa_cons pa (pa_cons (pe_bltn (v := .ty T) hgx hT hb rfl hn hdb) pa_nil he2) he) (by decide) (by decide) he hpl, fun Hv H σ ρ Q vw er pv => ?_⟩
  refine ha Hv H σ ρ _ vw er (bindP pv fun x Hv1 H1 _ e1 pv1 v rv => ?_)
  obtain ⟨d, ed, q⟩ := ofO_ok pv1
  have := ho _ _ ed
  unfold kitF at this
  simp only [Option.bind_eq_some_iff, Option.map_eq_some_iff] at this
  obtain ⟨t, h1, r, h2, rfl⟩ := this
  exact ⟨v, .ty T, .type t, .type T, r, rfl, .ty T, tyN_ok e1.vh rv h1, kit_ty h2, q _ _ (Ext.refl e1.vh) _ (.bl _)⟩
def oIsInt : D → Option D
  | .int _ => some (.bl true) | .bl _ => some (.bl true) | .non => some (.bl false) | .str _ => some (.bl false) | .tup _ => some (.bl false) | .lst _ => some (.bl false) | _ => none
def oIsBool : D → Option D
  | .int _ => some (.bl false) | .bl _ => some (.bl true) | .non => some (.bl false) | .str _ => some (.bl false) | .tup _ => some (.bl false) | .lst _ => some (.bl false) | _ => none
def oIsTup : D → Option D
  | .int _ => some (.bl false) | .bl _ => some (.bl false) | .non => some (.bl false) | .str _ => some (.bl false) | .tup _ => some (.bl true) | .lst _ => some (.bl false) | _ => none
theorem kit_int : ∀ d r, oIsInt d = some r → kitF "int" d = some r := fun d r h => by
  cases d <;> first | cases h | skip
  all_goals (simp only [kitF, tyN, Option.bind_some]; first | rw [show kitB "int" "int" = some true by decide +kernel] | rw [show kitB "bool" "int" = some true by decide +kernel] | rw [show kitB "NoneType" "int" = some false by decide +kernel] | rw [show kitB "str" "int" = some false by decide +kernel] | rw [show kitB "tuple" "int" = some false by decide +kernel] | rw [show kitB "list" "int" = some false by decide +kernel])
  all_goals rfl
theorem kit_bool : ∀ d r, oIsBool d = some r → kitF "bool" d = some r := fun d r h => by
  cases d <;> first | cases h | skip
  all_goals (simp only [kitF, tyN, Option.bind_some]; first | rw [show kitB "int" "bool" = some false by decide +kernel] | rw [show kitB "bool" "bool" = some true by decide +kernel] | rw [show kitB "NoneType" "bool" = some false by decide +kernel] | rw [show kitB "str" "bool" = some false by decide +kernel] | rw [show kitB "tuple" "bool" = some false by decide +kernel] | rw [show kitB "list" "bool" = some false by decide +kernel])
  all_goals rfl
theorem kit_tup : ∀ d r, oIsTup d = some r → kitF "tuple" d = some r := fun d r h => by
  cases d <;> first | cases h | skip
  all_goals (simp only [kitF, tyN, Option.bind_some]; first | rw [show kitB "int" "tuple" = some false by decide +kernel] | rw [show kitB "bool" "tuple" = some false by decide +kernel] | rw [show kitB "NoneType" "tuple" = some false by decide +kernel] | rw [show kitB "str" "tuple" = some false by decide +kernel] | rw [show kitB "tuple" "tuple" = some true by decide +kernel] | rw [show kitB "list" "tuple" = some false by decide +kernel])
  all_goals rfl
end
section
variable {X : Cx} {W : WX} {cl : Glb} {Hv0 H0 Hv Hv1 H : Hp} {own own1 own2 own3 : List Nat} {Dn : Ends} {pos p : Pos} {a b c e tg iter : Expr} {es : List Expr} {fa fb : DE} {g : DA} {st : Stmt} {sts : List Stmt}
def dExt (own : List Nat) (i : Nat) (f : DE) : DS := fun ρ => if lstAt i ρ then (f (mask own ρ)).to ρ fun d => match d with | .lst ds => Sm.putIn i ρ ds | _ => .bad else .bad
end
end Sm
namespace Sm
open PySem PySem.Spec L2
def SqG (K : PySem.W.Frag) (H : Hp) (b : Bool) (a : Addr) (xs : List V) : Prop := match b with | true => SqL K H a xs | false => SqT K H a xs
def IterG (b : Bool) (h : Heap) (it a : Addr) (i : Nat) : Prop := match b with | true => h.IsListIter it a i | false => h.IsTupleIter it a i
def ContG (b : Bool) (h : Heap) (a : Addr) (items : Array Value) : Prop := match b with | true => h.IsList a items | false => h.IsTuple a items
def iterO (b : Bool) (a : Addr) : Obj := match b with
  | true => { cls := .type "list_iterator", data := .fields #[.ref a, .int 0 0] }
  | false => { cls := .type "tuple_iterator", data := .fields #[.ref a, .int 0 0] }
theorem beginsG (b : Bool) (a : Addr) (items : Array Value) : Begins (.ref a) (iterO b a) fun h => ContG b h a items := by
  cases b with
  | true => exact begins_list a items
  | false => exact begins_tuple a items
theorem drawsG {prog : Program} {w : World} {A : Around} (b : Bool) (hh : A.handled = none) (it a : Addr) (hne : a ≠ it) (items : Array Value) :
    Draws prog w A it [it, a] items.size (fun i v => items[i]? = some v) (fun i h => IterG b h it a i ∧ ContG b h a items) := by
  cases b with
  | true => exact Draws.list hh it a hne items
  | false => exact Draws.tuple hh it a hne items
theorem IterG.new {b : Bool} {h : Heap} {it a : Addr} (e : h.get? it = some (iterO b a)) : IterG b h it a 0 := by
  cases b with
  | true => exact ⟨_, e, rfl, rfl⟩
  | false => exact ⟨_, e, rfl, rfl⟩
theorem IterG.at' {b : Bool} {h h' : Heap} {it a : Addr} {i : Nat} (x : IterG b h it a i) (k : ∀ o, h.get? it = some o → h'.get? it = some o) : IterG b h' it a i := by
  cases b with
  | true => exact Heap.IsListIter.at x k
  | false => exact Heap.IsTupleIter.at x k
theorem IterG.obj {b : Bool} {h : Heap} {it a : Addr} {i : Nat} (x : IterG b h it a i) : ∃ o, h.get? it = some o ∧ ∀ v, o.data ≠ .cell v := by
  cases b with
  | true => obtain ⟨o, e, c, d⟩ := x; exact ⟨o, e, fun v z => by rw [d] at z; cases z⟩
  | false => obtain ⟨o, e, c, d⟩ := x; exact ⟨o, e, fun v z => by rw [d] at z; cases z⟩
section
variable {X : Cx} {pins : List (Addr × Obj)} {σ : St} {H : Hp} {s : Shared}
theorem contG {b : Bool} {a : Addr} {xs : List V} (I : Inv X pins σ H s) (h : SqG X.K H b a xs) : ∃ its : List Value, Vals xs its ∧ ContG b s.heap a its.toArray := by
  cases b with
  | true => obtain ⟨its, r, p, _⟩ := I.list h; exact ⟨its, r, p.isList⟩
  | false => obtain ⟨its, r, p, _⟩ := I.tuple h; exact ⟨its, r, p⟩
theorem sqG_inj {b : Bool} {a : Addr} {xs ys : List V} (I : Inv X pins σ H s) (h : SqG X.K H b a xs) (h' : SqG X.K H b a ys) : xs = ys := by
  cases b with
  | true => exact I.list_inj h h'
  | false => exact I.tuple_inj h h'
theorem contG_lt {b : Bool} {h : Heap} {a : Addr} {its : Array Value} (x : ContG b h a its) : a < h.objs.size := by
  cases b with
  | true => obtain ⟨o, e, _⟩ := x; exact Heap.lt_size e
  | false => obtain ⟨o, e, _⟩ := x; exact Heap.lt_size e
end
theorem enum1_meets {v : Value} {o : Obj} {H0 : Heap → Prop} (B : Begins v o H0) : Meets (Builtin.«enumerate.__new__» ⟨[.type "enumerate", v], []⟩)
    (fun _ R s => H0 s.heap ∧ R (.ok (.ret (.ref (s.heap.push o).objs.size))) { s with heap := (s.heap.push o).push { cls := .type "enumerate", data := .fields #[.none, .bool false, .ref s.heap.objs.size, rawInt 0, .none, .none] } }) := by
  refine Meets.of_wp fun prog w A R s h => ?_
  rcases s with ⟨hp, gn, dr, tk, os⟩
  rcases h with ⟨hb, h⟩
  have hsb := sub_enumerate
  have go : ∀ {A' : Around} {E : Value → Shared → Prop} {Q : Value → Shared → Prop}, Q (.ref hp.objs.size) ⟨hp.push o, gn, dr, tk, os⟩ → wpAny (model prog w) A' (pyIter v) Q E ⟨hp, gn, dr, tk, os⟩ :=
    fun hq => B.iter prog w _ _ ⟨hp, gn, dr, tk, os⟩ _ hb hq
  wp_walk using go
  refine wpAny_stack_any fun stk => ?_
  refine wpAny_pure ?_
  split
  · rename_i cc _ _ _ _ _
    cases (cc == Value.type "enumerate") <;> (wp_walk using go; exact ⟨_, rfl, h⟩)
  · wp_walk using go
    exact ⟨_, rfl, h⟩
theorem call_enum1 {prog : Program} {w : World} {A : Around} {E : Value → Shared → Prop} {s : Shared} {v : Value} {o : Obj} {H0 : Heap → Prop} {Q : Value → Shared → Prop} (B : Begins v o H0) (hb : H0 s.heap)
    (h : ∀ h', IsEnum h' (s.heap.objs.size + 1) s.heap.objs.size 0 .none → h'.get? s.heap.objs.size = some o → (∀ c u, s.heap.get? c = some u → h'.get? c = some u) → Q (.ref (s.heap.objs.size + 1)) { s with heap := h' }) :
    wpAny (model prog w) A (call (.type "enumerate") [v]) Q E s := by
  refine callType_new F.called_enumerate (by decide) (F.typeCall_enumerate_1 _) (F.newCall_enumerate_1 _) (fun ob => F.args_object_init_2 ob _) F.entry_enumerate_new (enum1_meets B) ⟨hb, ?_⟩
  have hz : (s.heap.push o).objs.size = s.heap.objs.size + 1 := Heap.size_push ..
  show _ ∧ _
  rw [hz]
  have he := Heap.get?_push_size (s.heap.push o) (o := { cls := .type "enumerate", data := .fields #[.none, .bool false, .ref s.heap.objs.size, rawInt 0, .none, .none] }) rfl
  rw [hz] at he
  exact ⟨⟨_, he, rfl⟩, h _ he (Heap.get?_push_of_some _ (Heap.get?_push_size _ B.free)) fun c u q => Heap.get?_push_of_some _ (Heap.get?_push_of_some _ q)⟩
def IteG (K : PySem.W.Frag) (b : Bool) (a : Addr) : It :=
  ⟨fun i H => ∃ (xs : List V) (x : V), SqG K H b a xs ∧ xs[i]? = some x, fun i H v H' => ∃ T x, v = .ref T ∧ H T = none ∧ H' = upd H T (.tup [.int (i : Nat), x]) ∧ ∀ xs, SqG K H b a xs → xs[i]? = some x, fun i H => ∃ xs : List V, SqG K H b a xs ∧ xs.length = i⟩
theorem turn_enumG {P : Program} {w : World} {K : PySem.W.Frag} {elts : List Expr} {kk : Nat} {tpos : Pos} (b : Bool) (a e it : Addr) :
    Turn P w K (.Tuple elts kk tpos) (IteG K b a) [e, it] e (fun i h => (∃ old, IsEnum h e it ((i : Nat) : Int) old) ∧ IterG b h it a i ∧ e ≠ it ∧ e ≠ a ∧ a ≠ it) where
  mem := by simp
  obj := fun i h ⟨⟨old, he⟩, hi, _⟩ c hc => by
    rcases List.mem_cons.mp hc with z | hc
    · rw [z]; exact ⟨_, he, fun v q => nomatch q⟩
    · rw [List.mem_singleton.mp hc]; exact hi.obj
  keep := fun i h h' ⟨⟨old, he⟩, hi, ne⟩ k => ⟨⟨old, k e (by simp) _ he⟩, hi.at' fun o q => k it (by simp) o q, ne⟩
  item := by
    intro X hP hw hK hc i pins s σ H E I hf st hg
    subst hP hw hK
    obtain ⟨⟨old, he⟩, hit, n1, n2, n3⟩ := st
    obtain ⟨xs, x, hq, hx⟩ := hg
    obtain ⟨its, rv, ct⟩ := contG I hq
    obtain ⟨u, hu, ru⟩ := rv.get hx
    have hA : X.A.in1.handled = none := I.ok.hd hc
    have Wk := WalksT.enumFrom (A := X.A) 0 (drawsG (prog := X.prog) (w := X.w) (A := X.A.in1) b hA it a n3 its.toArray) e n1 (by simp [n1, n2]) (by simp)
    have hi : i < its.toArray.size := by
      have := (List.getElem?_eq_some_iff.mp hu).1
      simpa using this
    refine Wk.item i s _ E hi ⟨⟨old, by rw [Int.zero_add]; exact he⟩, hit, ct⟩ fun T vals h' tk ⟨t, y, hy, ev⟩ hT0 hT hm hk => ?_
    subst ev
    have hy : y = u := by
      have h1 : its.toArray[i]? = some u := by simpa using hu
      rw [h1] at hy; exact (Option.some.inj hy).symm
    subst hy
    refine ⟨_, rfl, Wk.go elts kk tpos i T { s with heap := h', toks := tk } _ E hm fun h'' st2 hk2 => ?_⟩
    have ap := Wk.apart i T h' hm
    obtain ⟨oT, hoT, hcT, nT, hdT⟩ := hT
    have hT2 : h''.get? T = some oT := hk2 T oT ap hoT
    have new : ObjOk X.prog X.w (upd H T (.tup [.int (i : Nat), x])) h'' T (.tup [.int (i : Nat), x]) :=
      ⟨by show 2 ≤ sizeLine; decide, [.int (0 + (i : Int)) t, y], .cons ⟨t, by rw [Int.zero_add]⟩ (.cons ru .nil), ⟨oT, hT2, hcT, nT, hdT⟩⟩
    have I1 : Inv X pins σ (upd H T (.tup [.int (i : Nat), x])) { s with heap := h'', toks := tk } :=
      I.turnedNew (ch := [e, it]) (fun c ob hb q => hk2 c ob hb (hk c ob hb q)) hf hT0 new
    obtain ⟨⟨old2, he2⟩, hit2, _⟩ := st2
    refine ⟨.ref T, _, I1, rfl, ⟨T, x, rfl, I.hok.fresh hT0, rfl, fun ys hy => by rw [sqG_inj I hy hq]; exact hx⟩, ⟨⟨old2, ?_⟩, hit2, n1, n2, n3⟩, fun c hcm => ?_⟩
    · have : (0 : Int) + ((i + 1 : Nat) : Int) = ((i + 1 : Nat) : Int) := Int.zero_add _
      rw [this] at he2; exact he2
    · have hlt : c < s.heap.objs.size := by
        rcases List.mem_cons.mp hcm with z | z
        · rw [z]; exact Heap.lt_size he
        · rw [List.mem_singleton.mp z]; obtain ⟨o, ho, _⟩ := hit.obj; exact Heap.lt_size ho
      rw [upd_ne (Nat.ne_of_lt (Nat.lt_of_lt_of_le hlt hT0))]
      exact (hf c hcm).1
  done := by
    intro X hP hw hK hc i pins s σ H E I hf st hg
    subst hP hw hK
    obtain ⟨⟨old, he⟩, hit, n1, n2, n3⟩ := st
    obtain ⟨xs, hq, hx⟩ := hg
    obtain ⟨its, rv, ct⟩ := contG I hq
    have hA : X.A.in1.handled = none := I.ok.hd hc
    have Wk := WalksT.enumFrom (A := X.A) 0 (drawsG (prog := X.prog) (w := X.w) (A := X.A.in1) b hA it a n3 its.toArray) e n1 (by simp [n1, n2]) (by simp)
    have hl : its.toArray.size = i := by rw [List.size_toArray, ← rv.length]; exact hx
    refine Wk.done s _ E ?_ fun h' tk hk => ⟨rfl, I.turnedL (ch := [e, it]) (fun c o hb q => hk c o hb q) hf⟩
    rw [hl]
    exact ⟨⟨old, by rw [Int.zero_add]; exact he⟩, hit, ct⟩
  self := fun A i s Q E st h => by
    obtain ⟨⟨_, he⟩, _⟩ := st
    exact wpAny_pyIter_enum he h
def iEnumG (K : PySem.W.Frag) (ta : TA) : TI := fun σ H R => ta σ H fun vs H1 => ∃ b a xs, vs = [.ref a] ∧ SqG K H1 b a xs ∧ R (IteG K b a) H1
theorem pi_enumG {X : Cx} {e : Expr} {ta : TA} {p pos tpos : Pos} {elts : List Expr} {kk : Nat} (hg : Gl X "enumerate") (hm : X.mg "enumerate" = none) (ha : PA X [e] ta) (hs : starEach [e] X.env = [(false, eval e X.env)] := by rfl) :
    PI X (.Tuple elts kk tpos) (.Call (.Name "enumerate" p) [e] [] pos) (iEnumG X.K ta) := by
  constructor
  intro pins s σ H R I h
  refine PyProof.Rows.Call_ (ld_blt I hg hm PyProof.Rows.boot_enumerate (PyProof.Rows.callWith_type1 (thn (ha.run pos pins s σ H _ I h) fun us s1 ⟨vs, H1, I1, r1, b, a, xs, ev, hq, q⟩ => ?_) hs rfl))
  subst ev
  cases r1 with
  | cons r rr =>
    cases rr
    cases r
    obtain ⟨its, rv, ct⟩ := contG I1 hq
    have hlt := contG_lt ct
    refine call_enum1 (beginsG b a its.toArray) ct fun h' he hit hk => wpAny_pyIter_enum he ?_
    have I2 : Inv X pins σ H1 { s1 with heap := h' } := I1.kept (t' := s1.toks) hk
    refine ⟨s1.heap.objs.size + 1, [s1.heap.objs.size + 1, s1.heap.objs.size], _, _, H1, rfl, I2, turn_enumG b a (s1.heap.objs.size + 1) s1.heap.objs.size, ⟨⟨.none, he⟩, IterG.new hit, Nat.succ_ne_self _, Nat.ne_of_gt (Nat.lt_succ_of_lt hlt), Nat.ne_of_lt hlt⟩, fun c hc => ?_, q⟩
    have hle : s1.heap.objs.size ≤ c := by
      rcases List.mem_cons.mp hc with z | z
      · rw [z]; exact Nat.le_succ _
      · rw [List.mem_singleton.mp z]; exact Nat.le_refl _
    exact I1.fpOk hle (I1.hok.fresh hle)
section
variable {X : Cx} {W : WX} {cl : Glb} {pos p tpos : Pos} {a b c e : Expr} {es elts : List Expr} {fa fb fc : DE} {g : DA} {kk : Nat}
theorem Sam.sqG {K : PySem.W.Frag} {H H' : Hp} {b : Bool} {a : Addr} {xs : List V} (e : Sam H H') (h : SqG K H b a xs) : SqG K H' b a xs := by
  cases b with
  | true => exact e.sqL h
  | false => exact e.sqT h
theorem rep_items {K : PySem.W.Frag} {H : Hp} {v : V} {d : D} {ds : List D} (r : Rep K cl H v d) (h : itemsOf d = some ds) : ∃ b a xs, v = .ref a ∧ SqG K H b a xs ∧ Reps K cl H xs ds ∧ ds.length ≤ sizeLine := by
  cases r with
  | lst s z r => cases h; exact ⟨true, _, _, rfl, .inl (.inl s), r, by rw [← r.length]; exact z⟩
  | tup s z r => cases h; exact ⟨false, _, _, rfl, sqT_of s, r, by rw [← r.length]; exact z⟩
  | scr s z => cases h; exact ⟨true, _, _, rfl, s, reps_ints _, by rw [List.length_map]; exact z⟩
  | _ => cases h
def enumFrom (k : Nat) : List D → List D
  | [] => []
  | d :: ds => .tup [.int (k : Nat), d] :: enumFrom (k + 1) ds
theorem enumFrom_len : ∀ (ds : List D) (k : Nat), (enumFrom k ds).length = ds.length
  | [], _ => rfl
  | _ :: ds, k => by simp only [enumFrom, List.length_cons]; rw [enumFrom_len ds]
theorem enumFrom_get : ∀ (ds : List D) (k i : Nat), (enumFrom k ds)[i]? = (ds[i]?).map fun d => .tup [.int ((k + i : Nat) : Int), d]
  | [], _, _ => by simp [enumFrom]
  | d :: ds, k, 0 => by simp [enumFrom]
  | d :: ds, k, i + 1 => by
    simp only [enumFrom, List.getElem?_cons_succ]
    rw [enumFrom_get ds (k + 1) i, show k + 1 + i = k + (i + 1) by omega]
def enumD : List D → Option (List D)
  | [d] => (itemsOf d).map (enumFrom 0)
  | _ => none
theorem it_enum {K : PySem.W.Frag} {Hv : Hp} {b : Bool} {l : Addr} {xs : List V} {ds : List D} (s : SqG K Hv b l xs) (r : Reps K cl Hv xs ds) : ItOk K cl (IteG K b l) Hv (enumFrom 0 ds) where
  go := fun i Hv' H sm vw h => by
    rw [enumFrom_len] at h
    obtain ⟨v, h1, _⟩ := r.get (i := i) (d := ds[i]) (by simp [h])
    exact ⟨xs, v, vw.s.sqG (sm.sqG s), h1⟩
  stop := fun i Hv' H sm vw h => ⟨xs, vw.s.sqG (sm.sqG s), by rw [enumFrom_len] at h; rw [r.length]; omega⟩
  yld := fun i Hv' H sm vw d h x H' ⟨T, y, e1, e2, e3, e4⟩ => by
    subst e1 e3
    rw [enumFrom_get, Option.map_eq_some_iff] at h
    obtain ⟨d', h1, rfl⟩ := h
    obtain ⟨v, g1, g2⟩ := r.get h1
    have := e4 xs (vw.s.sqG (sm.sqG s))
    rw [g1] at this; cases this
    refine ⟨_, Ext.new vw e2, .tup upd_same (by show 2 ≤ sizeLine; decide) (.cons ?_ (.cons ((g2.mono sm).mono (Ext.new vw e2).vv) .nil))⟩
    rw [Nat.zero_add]
    exact .int _
theorem si_enum (ha : SA X W cl [a] g) (hm : X.mg "enumerate" = none) (hg : Gl X "enumerate" := by rfl) (hs : starEach [a] X.env = [(false, eval a X.env)] := by rfl) : SI X W cl (.Tuple elts kk tpos) (.Call (.Name "enumerate" p) [a] [] pos) (dRng enumD g) := by
  obtain ⟨ta, pa, ha, hl⟩ := ha
  refine ⟨_, pi_enumG hg hm pa hs, fun Hv H σ ρ Q vw er pv => ?_⟩
  refine ha Hv H σ ρ _ vw er (bindP pv fun x Hv1 H1 ex e1 pv1 v rv => ?_)
  obtain ⟨ds, ed, q⟩ := ofO_ok pv1
  unfold enumD at ed
  split at ed
  · rw [Option.map_eq_some_iff] at ed
    obtain ⟨its, h1, rfl⟩ := ed
    cases rv with
    | cons r t =>
      cases t
      obtain ⟨b, l, xs, rfl, s, r2, z⟩ := rep_items r h1
      exact ⟨b, l, xs, rfl, e1.vh.s.sqG s, q Hv1 H1 (Ext.refl e1.vh) (by rw [enumFrom_len]; exact z) _ (it_enum s r2)⟩
  · cases ed
end
end Sm
namespace Sm
open PySem PySem.Spec L2
abbrev veB : List Value := [.type "ValueError", .type "Exception", .type "BaseException", .type "object"]
structure XC (K : PySem.W.Frag) (mg : Str → Option Value) (x : Str) (C : Addr) : Prop where
  g : mg x = some (.ref C)
  x : PySem.W.excIn K C veB "ValueError.__new__" = true
  k : PySem.W.keepIn K (.ref C) = true
  b : PySem.W.subIn K (.ref C) (.type "BaseException") = some true
  t : PySem.W.typeIn K (.ref C) = some (.type "type")
section
variable {X : Cx} {W : WX} {cl : Glb} {own own1 : List Nat} {pos p p2 pos' : Pos}
def dRaise (c : Nat) : DS := fun ρ => .err ρ c
theorem ss_raise {c j : Nat} {x m : Str} (gd : Gd X W) (F : XC X.K X.mg x (cl.c c)) (hg : Gl X x := by rfl) (hdb : (x == ("__debug__" : Str)) = false := by decide) :
    SS X W cl own own1 (.Raise (some (.Call (.Name x p) [.Constant (.str m) j p2] [] pos)) none pos') (dRaise c) := by
  refine ⟨_, ps_raise gd.calm gd.tk (pmk_own PySem.F.excBase_ValueError F.x F.g F.k (raises_own F.b F.t) hg hdb), fun Hv0 H0 ρ σ Hv H Dn sr hl po => ?_⟩
  obtain ⟨s1, s2⟩ := sr.freeze (own' := []) (by simp)
  exact po σ _ H s1 s2 hl
end
def dPick (pk : Nat → Int → Int) : List D → R D
  | [.scr0, .int k, .int m] => if 0 ≤ k ∧ 0 < m then .ok (.int (pk k.toNat m)) else .bad
  | [.scr1, .int k, .int m] => if 0 ≤ k ∧ 0 < m then .ok (.int (if 0 ≤ pk k.toNat (-m) ∧ pk k.toNat (-m) < m then pk k.toNat (-m) else 0)) else .bad
  | _ => .bad
end Sm
namespace Sm
open PySem PySem.Spec L2
section
variable {X : Cx} {W : WX} {cl : Glb} {pos p : Pos} {a b c e : Expr} {es : List Expr} {fa fb : DE} {g : DA} {own : List Nat}
end
end Sm
namespace Sm
open PySem PySem.Spec L2
section
variable {X : Cx} {pins : List (Addr × Obj)} {σ : St} {H : Hp} {s : Shared}
theorem excO_ok {P : Program} {w : World} {h : Heap} {a C : Addr} {oe : Obj} {vs : Array Value} (e : h.get? a = some oe) (z : Zc (.ref C) none oe) (d : oe.data = .fields vs) : ObjOk P w H h a (ExcO a C) :=
  ⟨⟨oe, vs, e, z, d⟩, ⟨oe, e⟩, fun _ _ ⟨o, v, q, r⟩ k => ⟨o, v, k o q, r⟩⟩
theorem inv_track {a C : Addr} {oe : Obj} {vs : Array Value} (I : Inv X pins σ H s) (na : H a = none) (he : s.heap.get? a = some oe) (hz : Zc (.ref C) none oe) (hd : oe.data = .fields vs) (n0 : X.s_0.heap.get? a = none) (nL : a ≠ X.env.locals)
    (nP : ∀ p ∈ X.pn ++ pins, p.1 ≠ a) : Inv X pins σ (upd H a (ExcO a C)) s := by
  refine ⟨I.ok, I.os, I.bare, ⟨I.base.keep, I.base.slot, fun b u q n hx => ?_, I.base.there, fun b xs q => ?_, fun b u xs q => ?_, fun b ps q => ?_⟩, I.loc, I.cell, ?_, fun x c q => ?_, fun p hp => ?_, I.hok.laidN (fun _ _ k => k) na (excO_ok he hz hd), I.len⟩
  · have nb : b ≠ a := fun y => by rw [y, n0] at q; cases q
    rw [upd_ne nb]; exact I.base.free b u q n hx
  · have z := I.base.tups b xs q
    rw [upd_ne (ne_of_none z na)]; exact z
  · have z := I.base.frzs b u xs q
    rw [upd_ne (ne_of_none z na)]; exact z
  · obtain ⟨more, z⟩ := I.base.tbls b ps q
    exact ⟨more, by rw [upd_ne (ne_of_none z na)]; exact z⟩
  · rw [upd_ne (Ne.symm nL)]; exact I.free
  · have nc : c ≠ a := fun y => by
      obtain ⟨v, o, d1, d2⟩ := I.cell x c q
      rw [y, he] at d1; cases d1
      rw [hd] at d2; cases d2
    rw [upd_ne nc]; exact I.freeC x c q
  · obtain ⟨g1, g2, g3, g4, g5⟩ := I.pin p hp
    exact ⟨g1, by rw [upd_ne (nP p hp)]; exact g2, g3, g4, g5⟩
abbrev cxS (X : Cx) (a : Addr) (pn : List (Addr × Obj)) : Cx := { X with A := X.A.mark (some (.ref a)), calm := false, pn := pn, xe := fun _ _ => False }
theorem inv_in {a : Addr} (I : Inv X pins σ H s) : Inv (cxS X a (X.pn ++ pins)) [] σ H s := by
  have ok := I.ok
  exact ⟨⟨ok.mod, ok.kind, ok.glob, ok.blt, ok.above, ok.inj, ok.has, ok.cab, fun y => Bool.noConfusion (show false = true from y), ok.frames, ok.stk, ok.exf, ok.bs, ok.bsz, ok.noex, ok.exfs, ok.funs, ok.frf⟩, I.os, I.bare, I.base, I.loc, I.cell, I.free, I.freeC,
    fun p hp => I.pin p (by rw [List.append_nil] at hp; exact hp), I.hok, I.len⟩
theorem inv_back {a : Addr} {q : List (Addr × Obj)} (I : Inv (cxS X a (X.pn ++ pins)) q σ H s) (ok : X.Ok) : Inv X pins σ H s :=
  ⟨ok, I.os, I.bare, I.base, I.loc, I.cell, I.free, I.freeC, fun p hp => I.pin p (List.mem_append_left _ hp), I.hok, I.len⟩
def wX (K : PySem.W.Frag) (c : Value) (i : Nat) (ts : Addr → TS) (Wo : WX) (D : Ends) : WX := fun cls d σ H =>
  ∃ b, PySem.W.exmOne K cls c = some b ∧ (b = true → ∃ C, cls = .ref C ∧ d = none ∧ ∀ a, H a = none →
    ts a { nx := fun σ' H' => D.nx (σ'.set i none) H', rt := D.rt, bk := fun σ' H' => D.bk (σ'.set i none) H', ct := fun σ' H' => D.ct (σ'.set i none) H' } (σ.set i (some (.ref a))) (upd H a (ExcO a C))) ∧ (b = false → Wo cls d σ H)
end
section
variable {X : Cx} {x n : Str} {c : Value} {i : Nat} {body suite : List Stmt} {b₀ : Stmt} {np pos pos' : Pos} {tb : WX → TS} {ts : Addr → TS} {Wo : WX}
theorem ps_try_x (hs : X.stack = X.env :: X.outer) (hf : X.env.frame = some X.env.locals) (hx : X.ex = []) (nd : X.N.Nodup) (hi : X.N[i]? = some n) (hln : X.env.kindOf n = some .local) (hc : Names X x c) (tk : Takes X Wo)
    (hb : ∀ (W : WX) (pn : List (Addr × Obj)) (xe : Value → Shared → Prop), Takes (X.tr pn xe) W → PassesOwn (model X.prog X.w) X.A X.env xe → PSs (X.tr pn xe) body (tb W))
    (hsu : ∀ (a : Addr) (pn : List (Addr × Obj)), PSs (cxS X a pn) (b₀ :: suite) (ts a)) :
    PS X (.Try body [.ExceptHandler (some (.Name x np)) (some n) (b₀ :: suite) pos'] [] [] pos) (fun D σ H => tb (wX X.K c i ts Wo D) D σ H) := by
  refine ⟨fun pins s σ H D I hw => ?_⟩
  have ok := I.ok
  have fr0 : X.A.frames = some (X.env :: X.outer) := by rw [ok.frames, hs]
  have hl0 : Loc X.env.scope n := .inl hln
  refine wpAny_Try_except (wpAny_mono ((hb (wX X.K c i ts Wo D) (X.pn ++ pins) (fun e t1 => wpAny (model X.prog X.w) X.A (noteFrame e X.env) (fun _ t2 => wpAny (model X.prog X.w) X.A (setFlight e none) (fun _ t3 =>
    wpAny (model X.prog X.w) X.A (handleBy e X.env [.ExceptHandler (some (.Name x np)) (some n) (b₀ :: suite) pos']) (SP X pins D) X.xe t3) X.xe t2) X.xe t1) (fun u s' air => ?_) PassesOwn.looking).run [] s σ H D (I.toTry _) hw) (fun f s1 fin => ?_) (fun e s1 z => z))
  · obtain ⟨a, B, sI, pins', σ', H', cls, d, rfl, J', nb, up, sky, na, os, ag, b, hm, yes, no⟩ := air
    have J : Inv X pins σ' H' sI := J'.ofTry ok
    have sky1 : Sky B (X.env :: X.outer) a (Zc cls d) X.env.locals s'.heap := by rw [← hs]; exact sky
    show wpAny (model X.prog X.w) X.A (noteFrame (.ref a) X.env) _ _ _
    refine Sky.land Zc.steady fr0 hf sky1 fun h3 fl up3 => ?_
    have J3 : Inv X pins σ' H' { s' with heap := h3 } := J.landed nb fl.1 (up.trans up3) os ag
    obtain ⟨o3, v3, g3, z3, d3⟩ := fl.there
    have off : a ∉ frs (X.env :: X.outer) := fun hm => by
      obtain ⟨_, o', q', bad⟩ := fl.2.2.1.mem hm
      rw [g3] at q'; cases q'
      exact bad _ d3
    have nL : a ≠ X.env.locals := fun z => off (List.mem_filterMap.mpr ⟨X.env, List.mem_cons_self, by rw [hf, z]⟩)
    have nI : sI.heap.get? a = none := by
      cases q : sI.heap.get? a with
      | none => rfl
      | some o =>
        have := nb a o q (by rw [hs]; exact off)
        rw [fl.2.1] at this; cases this
    have n0 : X.s_0.heap.get? a = none := by
      cases q : X.s_0.heap.get? a with
      | none => rfl
      | some o =>
        obtain ⟨o', q'⟩ := J.base.there a o q (by rw [hx]; simp)
        rw [nI] at q'; cases q'
    have nP : ∀ p ∈ X.pn ++ pins, p.1 ≠ a := fun p hp z => by
      have := (J.pin p hp).1
      rw [z, nI] at this; cases this
    refine wpAny_handleBy_cons (codeAny_handlers_test ?_) (by intro q; cases q)
    have ty : PySem.W.Looks (model X.prog X.w) h3 (typeOf (.ref a)) cls := fun A Q E t k q => wpAny_typeOf_ref (k _ _ g3) (by rw [z3.1]; exact q)
    have mt := PySem.W.exm_one (M := model X.prog X.w) J3.kIn ty hm
    have S3 := inv_in (a := a) J3
    have test : ∀ {Q : Value → Shared → Prop} {E : Value → Shared → Prop}, Q c { s' with heap := h3 } → wpAny (model X.prog X.w) (X.A.mark (some (.ref a))) (eval (.Name x np) X.env) Q E { s' with heap := h3 } := fun {Q E} q => by
      obtain ⟨hg, hdb, h1 | ⟨h1, h2, h4⟩⟩ := hc
      · exact ld_glob (X := cxS X a (X.pn ++ pins)) S3 hg h1 q hdb
      · exact ld_blt (X := cxS X a (X.pn ++ pins)) S3 hg h1 h2 q h4 hdb
    refine test (mt.here ?_)
    cases b with
    | true =>
      obtain ⟨C, rfl, rfl, go⟩ := yes rfl
      refine codeAny_handlers_suite_as (HandSPX.lands_againZ fl fun h4 fl4 up4 => ?_)
      have J4 : Inv X pins σ' H' { s' with heap := h4 } := J.landed nb fl4.1 ((up.trans up3).trans up4) os ag
      obtain ⟨o4, v4, g4, z4, d4⟩ := fl4.there
      have S4 := inv_in (a := a) (inv_track J4 na g4 z4 d4 n0 nL nP)
      refine store_ok (X := cxS X a (X.pn ++ pins)) (v := .ref a) S4 nd hi hl0 rfl (fun s5 S5 => ?_) (.inr hln)
      refine wpAny_mono ((hsu a (X.pn ++ pins)).run [] s5 _ _ _ S5 (go a na)) (fun f s6 fin => ?_) (fun _ _ z => False.elim z)
      have away : ∀ {σ6 : St} {H6 : Hp} {Q : Shared → Prop}, Inv (cxS X a (X.pn ++ pins)) [] σ6 H6 s6 → (∀ s7, Inv X pins (σ6.set i none) H6 s7 → Q s7) →
          wpAny (model X.prog X.w) X.A (do bindName X.env n .none; unbindBehindTheSuite X.env n pos') (fun _ s7 => Q s7) X.xe s6 := fun {σ6 H6 Q} S6 k => gone_ok (inv_back S6 ok) nd hi hln k
      cases f with
      | next => obtain ⟨σ6, H6, S6, q6⟩ := fin; exact away S6 fun s7 J7 => ⟨_, _, J7, q6⟩
      | brk => obtain ⟨σ6, H6, S6, q6⟩ := fin; exact away S6 fun s7 J7 => ⟨_, _, J7, q6⟩
      | cont => obtain ⟨σ6, H6, S6, q6⟩ := fin; exact away S6 fun s7 J7 => ⟨_, _, J7, q6⟩
      | ret u => obtain ⟨v6, σ6, H6, S6, r6, q6⟩ := fin; exact away S6 fun s7 J7 => ⟨_, _, _, J7, r6, q6⟩
    | false =>
      show wpAny _ X.A (handleBy (.ref a) X.env []) _ _ _
      refine wpAny_handleBy_nil ?_
      obtain ⟨_, _, _, oe, vs, T, oT, ts', q1, q2, q3, q4, _⟩ := id fl
      unfold PySem.passOn
      refine wpAny_bind (wpAny_field q1 q3 q4 ?_)
      rw [if_neg (show ¬ ((Value.ref T == Value.none) = true) by simp)]
      have off2 : wpAny (model X.prog X.w) X.A (setFlight (.ref a) X.env.frame) (fun _ s4 => wpAny (model X.prog X.w) X.A (throw (.ref a) : Sem Flow) (SP X pins D) X.xe s4) X.xe { s' with heap := h3 } := by
        rw [hf]
        exact HandSPX.setFlight_upZ fl fun h4 hh up4 => wpAny_throw (tk _ _ ⟨a, B, sI, pins, σ', H', cls, d, rfl, J, nb, (up.trans up3).trans up4, .inr (.inr (by rw [hs]; exact hh)), na, os, ag, no rfl⟩)
      first
        | exact wpAny_bind (wpAny_pure (wpAny_bind off2))
        | exact wpAny_bind off2
  · cases f with
    | next => obtain ⟨σ', H', J', q⟩ := fin; exact wpAny_execs_nil ⟨σ', H', J'.ofTry ok, q⟩
    | brk => obtain ⟨σ', H', J', q⟩ := fin; exact ⟨σ', H', J'.ofTry ok, q⟩
    | cont => obtain ⟨σ', H', J', q⟩ := fin; exact ⟨σ', H', J'.ofTry ok, q⟩
    | ret u => obtain ⟨v, σ', H', J', r, q⟩ := fin; exact ⟨v, σ', H', J'.ofTry ok, r, q⟩
end
end Sm
namespace Sm
open PySem PySem.Spec L2
section
variable {X : Cx} {W : WX} {cl : Glb} {pos p apos cpos : Pos} {a b c e o : Expr} {es : List Expr} {fa fb : DE} {g : DA} {own : List Nat}
theorem toPys_get : ∀ (ds : List D) (i : Nat), (toPys ds)[i]? = (ds[i]?).map toPy
  | [], i => by simp [toPys]
  | d :: ds, 0 => by simp [toPys]
  | d :: ds, i + 1 => by simpa [toPys] using toPys_get ds i
theorem toPys_count (k : D) : ∀ ds : List D, ((toPys ds).countP fun z => PyData.eqv z (toPy k)) = ds.countP fun z => deq z k
  | [] => by simp [toPys]
  | d :: ds => by simp only [toPys, List.countP_cons]; rw [deq_py, toPys_count k ds]
def rCntD (K : PySem.W.Frag) : V → List V → Hp → VK → Prop := fun x xs H Q => ∃ (a : Addr) (y : V) (d : PyData) (ds : List PyData), x = V.ref a ∧ xs = [y] ∧ Dp K H (V.ref a) (.list ds) ∧ Dp K H y d ∧
  SeqAt.shaped (.list ds) = true ∧ SeqAt.shaped d = true ∧ Q (.int (ds.countP fun z => PyData.eqv z d : Nat)) H
theorem mt_cntD (hu : X.A.units + 65 < cLine) : MtR X "list.count" (rCntD X.K) := by
  intro pins s σ H x xs v us Q I rx rxs h
  obtain ⟨a, y, d, ds, rfl, rfl, hl, hy, sl, sd, q⟩ := h
  cases rx
  cases rxs with
  | cons ry rt =>
    rename_i uy ut
    cases rt
    obtain ⟨bs, rb⟩ := Dp.reads I d y uy hy ry
    have lay : PyData.canLayAll0 ds = true := SeqAt.canLay_of_shaped sl
    have room : X.A.units + 1 + min (PyData.depthAll ds) d.depth < cLine := PyProof.Rows.room_in_shaped sd hu
    cases hl with
    | lst hs ha =>
      obtain ⟨its, rv, ⟨⟨cls, dd, data, sls⟩, n, ho, hc, hdn, hdt⟩, hlen⟩ := I.list hs
      simp only at hc hdt
      subst hc hdt
      obtain ⟨as, all⟩ := Dp.readsAll I ds _ its ha rv
      have same : its.map (SeqAt.readOf s.heap) = ds := SeqAt.readsAll_map ds its as lay all
      refine call_meets PySem.F.slot_list_count ⟨_, ho, rfl⟩ PySem.F.entry_list_count (PySem.F.args_list_count_2 _ _)
        (SeqAt.list_countAt a its.toArray n dd sls uy (fun u => PyData.eqv (SeqAt.readOf s.heap u) d)) ⟨ho, SeqAt.items_eqAt (vs := its.toArray) (show ReadsAll s.heap its.toArray.toList ds as from all) rb lay (SeqAt.canLay_of_shaped sd) room, ?_⟩
      have cnt : its.toArray.toList.countP (fun u => PyData.eqv (SeqAt.readOf s.heap u) d) = ds.countP fun z => PyData.eqv z d := by
        rw [← same, List.countP_map]; rfl
      rw [cnt]
      exact ⟨.int (ds.countP fun z => PyData.eqv z d : Nat), H, I.tok _, ⟨_, rfl⟩, q⟩
def dMeth (o : List D → D → Option D) (f g : DE) : DE := fun ρ => (f ρ).bind fun a => match a with | .lst ds => (g ρ).bind fun b => ofO (o ds b) | _ => .bad
def oCount (ds : List D) (b : D) : Option D := if pln 64 b && pln 64 (.lst ds) then some (.int (ds.countP fun z => deq z b : Nat)) else none
def oIndex (ds : List D) (b : D) : Option D := if pln 64 b && pln 64 (.lst ds) then (ds.findIdx? fun z => deq z b).map fun j => .int (j : Nat) else none
theorem meth_run {K : PySem.W.Frag} {om : List D → D → Option D} {r : V → List V → Hp → VK → Prop} {ta tb : TE} (hK : K = X.K) (ha : RunE X W cl fa ta) (hb : RunE X W cl fb tb)
    (hr : ∀ (Hv H : Hp) (l : Addr) (vs : List V) (ds : List D) (u : V) (b d : D) (Q : VK), Vw cl Hv H → Hv l = some (.lst vs) → Rep X.K cl Hv (.ref l) (.lst ds) → Rep X.K cl Hv u b → om ds b = some d → (∀ v, Rep X.K cl Hv v d → Q v H) → r (.ref l) [u] H Q) : RunE X W cl (dMeth om fa fb) (tBM K "list" r ta (tCons tb tNil)) := by
  subst hK
  intro Hv H σ ρ Q vw er pv
  refine ha Hv H σ ρ _ vw er (bindP pv fun x Hv1 H1 _ e1 pv1 v rv => ?_)
  cases x with
  | lst ds =>
    cases rv with
    | lst s z r =>
      refine ⟨.inl ⟨rfl, _, .inl (.inl (e1.vh.s _ _ s rfl))⟩, ?_⟩
      refine hb Hv1 H1 σ ρ _ e1.vh (er.mono e1.vv) (bindP pv1 fun y Hv2 H2 _ e2 pv2 u ru => ?_)
      obtain ⟨d, ed, q⟩ := ofO_ok pv2
      exact hr Hv2 H2 _ _ ds u y d Q e2.vh (e2.vv _ _ s rfl) (.lst (e2.vv _ _ s rfl) z (r.mono e2.vv)) ru ed fun v' r' => q _ _ (Ext.refl e2.vh) v' r'
  | _ => exact pv1.elim
theorem se_count (hu : X.A.units + 65 < cLine) (ha : SE X W cl o fa) (hb : SE X W cl e fb) (hbase : attributeBase o "count" X.env (eval o X.env) = eval o X.env := by rfl)
    (hfew : ((backTo cpos (starEach [e] X.env)).all (fun x => !x.1) && (backToKw cpos (keywordEach [] X.env)).all (fun x => x.1.isSome) && decide ([e].length + ([] : List Keyword).length + (if ([] : List Keyword).isEmpty then 0 else 1) < 30)) = true := by rfl)
    (hline : (apos.endLine == cpos.line) = true := by rfl) (hs : starEach [e] X.env = [(false, eval e X.env)] := by rfl) : SE X W cl (.Call (.Attribute o "count" apos) [e] [] cpos) (dMeth oCount fa fb) := by
  obtain ⟨ta, pa, ha⟩ := ha
  obtain ⟨tb, pb, hb⟩ := hb
  refine ⟨_, pe_bm PySem.F.plainAttrs_list PySem.F.slot_list_count PySem.F.type_list_count (mt_cntD hu) pa (pa_cons pb pa_nil hs) hbase hfew hline hs rfl, meth_run rfl ha hb fun Hv H l vs ds u b d Q vw hl rl ru ed q => ?_⟩
  unfold oCount at ed
  split at ed
  · rename_i hp
    cases ed
    simp only [Bool.and_eq_true] at hp
    have d2 := (rl.mono vw.s).dp hp.2
    rw [toPy] at d2
    have sh := pln_shaped hp.2
    rw [toPy] at sh
    refine ⟨_, _, _, _, rfl, rfl, d2, (ru.mono vw.s).dp hp.1, sh, pln_shaped hp.1, ?_⟩
    rw [toPys_count]
    exact q _ (.int _)
  · cases ed
theorem se_index (hu : X.A.units + 65 < cLine) (ha : SE X W cl o fa) (hb : SE X W cl e fb) (hbase : attributeBase o "index" X.env (eval o X.env) = eval o X.env := by rfl)
    (hfew : ((backTo cpos (starEach [e] X.env)).all (fun x => !x.1) && (backToKw cpos (keywordEach [] X.env)).all (fun x => x.1.isSome) && decide ([e].length + ([] : List Keyword).length + (if ([] : List Keyword).isEmpty then 0 else 1) < 30)) = true := by rfl)
    (hline : (apos.endLine == cpos.line) = true := by rfl) (hs : starEach [e] X.env = [(false, eval e X.env)] := by rfl) : SE X W cl (.Call (.Attribute o "index" apos) [e] [] cpos) (dMeth oIndex fa fb) := by
  obtain ⟨ta, pa, ha⟩ := ha
  obtain ⟨tb, pb, hb⟩ := hb
  refine ⟨_, pe_bm PySem.F.plainAttrs_list PySem.F.slot_list_index PySem.F.type_list_index (mt_indexD hu) pa (pa_cons pb pa_nil hs) hbase hfew hline hs rfl, meth_run rfl ha hb fun Hv H l vs ds u b d Q vw hl rl ru ed q => ?_⟩
  unfold oIndex at ed
  split at ed
  · rename_i hp
    simp only [Bool.and_eq_true] at hp
    rw [Option.map_eq_some_iff] at ed
    obtain ⟨j, hj, rfl⟩ := ed
    rw [List.findIdx?_eq_some_iff_getElem] at hj
    obtain ⟨h1, h2, h3⟩ := hj
    have d2 := (rl.mono vw.s).dp hp.2
    rw [toPy] at d2
    have sh := pln_shaped hp.2
    rw [toPy] at sh
    refine ⟨_, _, _, _, j, toPy ds[j], rfl, rfl, d2, (ru.mono vw.s).dp hp.1, sh, pln_shaped hp.1, ?_, ?_, fun m z hm hz => ?_, q _ (.int _)⟩
    · rw [toPys_get, List.getElem?_eq_getElem h1]; rfl
    · rw [deq_py]; exact h2
    · rw [toPys_get, List.getElem?_eq_getElem (show m < ds.length by omega)] at hz
      cases hz
      rw [deq_py]
      simpa using h3 m hm
  · cases ed
end
end Sm
namespace Sm
open PySem PySem.Spec L2
theorem u65 {k : Nat} {A : Around} (r : Room k A) : A.units + 65 < cLine := by have := r.un; omega
structure XT (K : PySem.W.Frag) (c : Nat → Addr) (codes : List Nat) : Prop where
  ex : ∀ k ∈ codes, ExcC K (c k)
section
variable {X : Cx} {W : WX} {cl : Glb} {pos p p1 apos cpos : Pos} {a b c e o : Expr} {es : List Expr} {fa fb : DE} {g : DA} {own own1 : List Nat}
def rIsX (K : PySem.W.Frag) : List V → Hp → VK → Prop := fun xs H Q => ∃ (a C : Addr) (c : V) (cv : Value) (b : Bool), xs = [.ref a, c] ∧ H a = some (ExcO a C) ∧ ExcC K C ∧ (∀ u, RelV c u → u = cv) ∧ PySem.W.kitOne K (.ref C) cv = some b ∧ Q (.bl b) H
theorem call_isX : CallR X (.builtin "isinstance") (rIsX X.K) := by
  intro pins s σ H xs us Q I r h
  obtain ⟨a, C, c, cv, b, rfl, hH, ec, hcv, e, q⟩ := h
  cases r with
  | cons rx rr =>
    cases rr with
    | cons rt rr =>
      cases rr
      cases rx
      have := hcv _ rt
      subst this
      obtain ⟨⟨oe, vs, g1, g2, g3⟩, _⟩ := I.hok a _ hH
      have J : PySem.W.InstAt s.heap a oe C none := by
        obtain ⟨oc, od, oda, osl⟩ := oe
        obtain ⟨h1, h2⟩ := g2
        dsimp only at h1 h2 g3
        subst h1 h2 g3
        exact ⟨g1, rfl, rfl, trivial⟩
      exact PySem.W.kia_one (PySem.W.handS_kitx_exc ec.hg ec.hk ec.hs ec.hd ec.ha ec.hn ec.ht ec.hm) I.kIn J e (fun z => nomatch z) fun tk => ⟨.bl b, H, I.kept (t' := tk) fun _ _ z => z, rfl, q⟩
def oIsX (codes : List Nat) (t : Nat → Bool) : D → Option D
  | .exc c => if codes.contains c then some (.bl (t c)) else none
  | _ => none
theorem isX_run {codes : List Nat} {t : Nat → Bool} {u : V} {cv : Value} {ta : TE} {tc : TE} (T : XT X.K cl.c codes) (ht : ∀ k ∈ codes, PySem.W.kitOne X.K (.ref (cl.c k)) cv = some (t k)) (hcv : ∀ w, RelV u w → w = cv) (htc : tc = tC u)
    (ha : RunE X W cl fa ta) : RunE X W cl (dUn (oIsX codes t) fa) (tCB (rIsX X.K) (tCons ta (tCons tc tNil))) := by
  subst htc
  intro Hv H σ ρ Q vw er pv
  refine ha Hv H σ ρ _ vw er (bindP pv fun x Hv1 H1 _ e1 pv1 v rv => ?_)
  obtain ⟨d, ed, q⟩ := ofO_ok pv1
  cases x with
  | exc k =>
    simp only [oIsX] at ed
    split at ed
    · rename_i hk
      cases ed
      have hk : k ∈ codes := by simpa using hk
      cases rv with
      | exc h => exact ⟨_, _, u, cv, _, rfl, e1.vh.s _ _ h rfl, T.ex k hk, hcv, ht k hk, q _ _ (Ext.refl e1.vh) _ (.bl _)⟩
    · cases ed
  | _ => cases ed
theorem se_isiC {codes : List Nat} {t : Nat → Bool} {x : Str} {C : Addr} (T : XT X.K cl.c codes) (ht : ∀ k ∈ codes, PySem.W.kitOne X.K (.ref (cl.c k)) (.ref C) = some (t k)) (hC : X.mg x = some (.ref C)) (ha : SE X W cl a fa) (hm : X.mg "isinstance" = none) (hg : Gl X "isinstance" := by rfl) (hgx : Gl X x := by rfl)
    (hdb : (x == ("__debug__" : Str)) = false := by decide)
    (he : starEach [a, .Name x p1] X.env = (false, eval a X.env) :: starEach [.Name x p1] X.env := by rfl) (he2 : starEach [.Name x p1] X.env = [(false, eval (.Name x p1) X.env)] := by rfl) (hpl : (backTo pos (starEach [.Name x p1] X.env)).any (·.1) = false := by rfl) :
    SE X W cl (.Call (.Name "isinstance" p) [a, .Name x p1] [] pos) (dUn (oIsX codes t) fa) := by
  obtain ⟨ta, pa, ha⟩ := ha
  exact ⟨_, pe_callB call_isX hg hm (by decide +kernel) (pa_cons pa (pa_cons (pe_glob (v := .ref C) hgx hC rfl hdb) pa_nil he2) he) (by decide) (by decide) he hpl, isX_run (u := .ref C) T ht (fun w h => h) rfl ha⟩
theorem se_isiB {codes : List Nat} {t : Nat → Bool} {x : Str} {S : String} (T : XT X.K cl.c codes) (ht : ∀ k ∈ codes, PySem.W.kitOne X.K (.ref (cl.c k)) (.type S) = some (t k)) (hb : bootBuiltins x = some (.type S)) (ha : SE X W cl a fa) (hm : X.mg "isinstance" = none) (hT : X.mg x = none) (hg : Gl X "isinstance" := by rfl) (hgx : Gl X x := by rfl)
    (hn : x ≠ "__name__" := by decide) (hdb : (x == ("__debug__" : Str)) = false := by decide)
    (he : starEach [a, .Name x p1] X.env = (false, eval a X.env) :: starEach [.Name x p1] X.env := by rfl) (he2 : starEach [.Name x p1] X.env = [(false, eval (.Name x p1) X.env)] := by rfl) (hpl : (backTo pos (starEach [.Name x p1] X.env)).any (·.1) = false := by rfl) :
    SE X W cl (.Call (.Name "isinstance" p) [a, .Name x p1] [] pos) (dUn (oIsX codes t) fa) := by
  obtain ⟨ta, pa, ha⟩ := ha
  exact ⟨_, pe_callB call_isX hg hm (by decide +kernel) (pa_cons pa (pa_cons (pe_bltn (v := .ty S) hgx hT hb rfl hn hdb) pa_nil he2) he) (by decide) (by decide) he hpl, isX_run (u := .ty S) T ht (fun w h => h) rfl ha⟩
def tS (K : PySem.W.Frag) (N : List Str) (W : WX) (cl : Glb) (own own' : List Nat) (f : DS) : TS := fun Dn σ H => ∃ Hv0 H0 ρ Hv, SR K cl Hv0 H0 own ρ σ Hv H ∧ σ.length = N.length ∧
  (match f ρ with
  | .nx ρ' => ∀ σ' Hv' H', SR K cl Hv0 H0 own' ρ' σ' Hv' H' → Sam Hv Hv' → σ'.length = N.length → Dn.nx σ' H'
  | .ret d => ∀ v Hv' H', Ext cl Hv0 H0 Hv' H' → Rep K cl Hv' v d → Dn.rt v H'
  | .err ρ' c => ∀ σ' Hv' H', SR K cl Hv0 H0 [] ρ' σ' Hv' H' → Sam Hv Hv' → σ'.length = N.length → W (.ref (cl.c c)) none σ' H'
  | .bad => False)
end
end Sm
namespace Sm
open PySem PySem.Spec L2
section
variable {α : Type} (le : α → α → Bool)
end
section
variable {prog : Program} {w : World} {A : Around} {s : Shared} {h : Heap}
open PySem.W PyProof.Rows
section
variable {E : Value → Shared → Prop} {β : Type} {vs : List Value} {bs : List β} {enc : β → PyData} {R : Value → β → Prop}
end
end
section
variable {X : Cx} {W : WX} {cl : Glb}
open PySem.W PyProof.Rows
theorem CallS.or {f : Value} {o o' : List D → Option D} (h : CallS X cl f o) (h' : CallS X cl f o') : CallS X cl f (fun ds => match o ds with | some d => some d | none => o' ds) := by
  obtain ⟨r, hr, hs⟩ := h
  obtain ⟨r', hr', hs'⟩ := h'
  refine ⟨_, CallR.or hr hr', fun Hv H xs ds d Q vw rr e q => ?_⟩
  simp only at e
  cases ho : o ds with
  | some d' =>
    rw [ho] at e
    cases e
    exact .inl (hs Hv H xs ds _ Q vw rr ho q)
  | none =>
    rw [ho] at e
    exact .inr (hs' Hv H xs ds d Q vw rr e q)
end
end Sm
namespace Sm
open PySem PySem.Spec L2
section
variable {X : Cx} {W : WX} {cl : Glb} {pos p apos npos : Pos} {tg : Expr} {own : List Nat}
def dPop (i : Nat) (pt : Pat) : DS := fun ρ => match ρ[i]? with
  | some (some (.lst ds)) => match ds.getLast? with
    | some d => match bindPat pt d (ρ.set i (some (.lst ds.dropLast))) with
      | some ρ' => .nx ρ'
      | none => .bad
    | none => .bad
  | _ => .bad
theorem reps_dropLast {K : PySem.W.Frag} {H : Hp} {vs : List V} {ds : List D} (r : Reps K cl H vs ds) : Reps K cl H vs.dropLast ds.dropLast := by
  rw [List.dropLast_eq_take, List.dropLast_eq_take, r.length]
  exact r.take _
end
end Sm
set_option maxHeartbeats 3200000
namespace Sm
open PySem PySem.Spec L2 PyProof.Rows
section
variable {P : Program} {w : World} {A : Around} {E : Value → Shared → Prop} {s : Shared}
end
end Sm
namespace Sm
open PySem PySem.Spec L2
def dd : List (List Int) → List (List Int)
  | [] => []
  | x :: l => if x ∈ dd l then dd l else x :: dd l
section
variable {P : Program} {w : World} {A : Around} {E : Value → Shared → Prop} {s : Shared}
open PySem.W PyProof.Rows
end
end Sm
namespace Sm
open PySem PySem.Spec L2
section
variable {X : Cx} {W : WX} {cl : Glb}
end
end Sm
namespace Sm
open PySem PySem.Spec L2
def putE (t : D → Bool) (k v : D) (es : List (D × D)) : List (D × D) :=
  if es.any fun e => t e.1 then es.map fun e => if t e.1 then (e.1, v) else e else es ++ [(k, v)]
section
variable {K : PySem.W.Frag} {cl : Glb} {H : Hp}
theorem inl_inj {k a : List Int} (h : k.map (Sum.inl (β := Str)) = a.map Sum.inl) : k = a := by
  induction k generalizing a with
  | nil => cases a with
    | nil => rfl
    | cons _ _ => cases h
  | cons x k ih =>
    cases a with
    | nil => cases h
    | cons y a =>
      rw [List.map_cons, List.map_cons] at h
      injection h with h1 h2
      injection h1 with h1
      rw [h1, ih h2]
theorem isKT_iff {k a : List Int} : isKT a (.tup (k.map .int)) = decide (k = a) := by
  simp only [isKT, intsD_map]
  by_cases h : k = a
  · subst h; simp
  · simp [h]
theorem RepsK.val {i : Int} : ∀ {kvs : List (L2.Key × V)} {es : List (D × D)}, RepsK K cl H kvs es → (match findE (isKI i) es with
    | some d => ∃ v, valV kvs (Sum.inl i) = some v ∧ Rep K cl H v d
    | none => valV kvs (Sum.inl i) = none)
  | _, _, .nil => rfl
  | _, _, .cons (i := j) (v := v) (d := d) (r := r) (es := es) hv t => by
    have ih := RepsK.val (i := i) t
    by_cases h : j = i
    · subst h
      have e1 : findE (isKI j) ((D.int j, d) :: es) = some d := by simp [findE, isKI]
      rw [e1]
      exact ⟨v, valV_pos rfl, hv⟩
    · have e1 : findE (isKI i) ((D.int j, d) :: es) = findE (isKI i) es := by simp [findE, isKI, h]
      rw [e1, valV_neg (p := (Sum.inl j, v)) (k := Sum.inl i) (fun e => h (Sum.inl.inj e))]
      exact ih
theorem RepsT.val {i : List Int} : ∀ {kvs : List (List L2.Key × V)} {es : List (D × D)}, RepsT K cl H kvs es → (match findE (isKT i) es with
    | some d => ∃ v, valV kvs (i.map Sum.inl) = some v ∧ Rep K cl H v d
    | none => valV kvs (i.map Sum.inl) = none)
  | _, _, .nil => rfl
  | _, _, .cons (k := j) (v := v) (d := d) (r := r) (es := es) hv t => by
    have ih := RepsT.val (i := i) t
    by_cases h : j = i
    · subst h
      have e1 : findE (isKT j) ((D.tup (j.map .int), d) :: es) = some d := by simp [findE, isKT_iff]
      rw [e1]
      exact ⟨v, valV_pos rfl, hv⟩
    · have e1 : findE (isKT i) ((D.tup (j.map .int), d) :: es) = findE (isKT i) es := by simp [findE, isKT_iff, h]
      rw [e1, valV_neg (p := (j.map Sum.inl, v)) (k := i.map Sum.inl) (fun e => h (inl_inj e))]
      exact ih
theorem RepsK.anyE {i : Int} : ∀ {kvs : List (L2.Key × V)} {es : List (D × D)}, RepsK K cl H kvs es → (kvs.any fun kv => decide (kv.1 = Sum.inl i)) = es.any fun e => isKI i e.1
  | _, _, .nil => rfl
  | _, _, .cons (i := j) hv t => by
    rw [List.any_cons, List.any_cons, RepsK.anyE t]
    congr 1
    show decide ((Sum.inl j : L2.Key) = Sum.inl i) = (j == i)
    by_cases h : j = i
    · subst h; simp
    · rw [decide_eq_false (fun q => h (Sum.inl.inj q))]; simp [h]
theorem RepsT.anyE {i : List Int} : ∀ {kvs : List (List L2.Key × V)} {es : List (D × D)}, RepsT K cl H kvs es → (kvs.any fun kv => decide (kv.1 = i.map Sum.inl)) = es.any fun e => isKT i e.1
  | _, _, .nil => rfl
  | _, _, .cons (k := j) hv t => by
    rw [List.any_cons, List.any_cons, RepsT.anyE t]
    congr 1
    rw [isKT_iff, Bool.eq_iff_iff, decide_eq_true_eq, decide_eq_true_eq]
    exact ⟨inl_inj, fun e => by rw [e]⟩
theorem RepsK.snoc {i : Int} {v : V} {d : D} (hv : Rep K cl H v d) : ∀ {kvs : List (L2.Key × V)} {es : List (D × D)}, RepsK K cl H kvs es → RepsK K cl H (kvs ++ [(Sum.inl i, v)]) (es ++ [(.int i, d)])
  | _, _, .nil => .cons hv .nil
  | _, _, .cons h t => .cons h (RepsK.snoc hv t)
theorem RepsT.snoc {i : List Int} {v : V} {d : D} (hv : Rep K cl H v d) : ∀ {kvs : List (List L2.Key × V)} {es : List (D × D)}, RepsT K cl H kvs es → RepsT K cl H (kvs ++ [(i.map Sum.inl, v)]) (es ++ [(.tup (i.map .int), d)])
  | _, _, .nil => .cons hv .nil
  | _, _, .cons h t => .cons h (RepsT.snoc hv t)
theorem RepsK.repl {i : Int} {v : V} {d : D} (hv : Rep K cl H v d) : ∀ {kvs : List (L2.Key × V)} {es : List (D × D)}, RepsK K cl H kvs es → RepsK K cl H (kvs.map fun kv => if kv.1 = Sum.inl i then (kv.1, v) else kv) (es.map fun e => if isKI i e.1 then (e.1, d) else e)
  | _, _, .nil => .nil
  | _, _, .cons (i := j) h t => by
    have ih := RepsK.repl (i := i) hv t
    rw [List.map_cons, List.map_cons]
    by_cases e : j = i
    · subst e
      rw [if_pos rfl, if_pos (by simp [isKI])]
      exact .cons hv ih
    · rw [if_neg (fun q => e (Sum.inl.inj q)), if_neg (by simp [isKI, e])]
      exact .cons h ih
theorem RepsT.repl {i : List Int} {v : V} {d : D} (hv : Rep K cl H v d) : ∀ {kvs : List (List L2.Key × V)} {es : List (D × D)}, RepsT K cl H kvs es → RepsT K cl H (kvs.map fun kv => if kv.1 = i.map Sum.inl then (kv.1, v) else kv) (es.map fun e => if isKT i e.1 then (e.1, d) else e)
  | _, _, .nil => .nil
  | _, _, .cons (k := j) h t => by
    have ih := RepsT.repl (i := i) hv t
    rw [List.map_cons, List.map_cons]
    by_cases e : j = i
    · subst e
      rw [if_pos rfl, if_pos (by simp [isKT_iff])]
      exact .cons hv ih
    · rw [if_neg (fun q => e (inl_inj q)), if_neg (by simp [isKT_iff, e])]
      exact .cons h ih
theorem RepsK.put {i : Int} {v : V} {d : D} {kvs : List (L2.Key × V)} {es : List (D × D)} (r : RepsK K cl H kvs es) (hv : Rep K cl H v d) : RepsK K cl H (putK kvs (Sum.inl i) v) (putE (isKI i) (.int i) d es) := by
  unfold putK putE
  rw [r.anyE]
  split
  · exact r.repl hv
  · exact r.snoc hv
theorem RepsT.put {i : List Int} {v : V} {d : D} {kvs : List (List L2.Key × V)} {es : List (D × D)} (r : RepsT K cl H kvs es) (hv : Rep K cl H v d) : RepsT K cl H (putK kvs (i.map Sum.inl) v) (putE (isKT i) (.tup (i.map .int)) d es) := by
  unfold putK putE
  rw [r.anyE]
  split
  · exact r.repl hv
  · exact r.snoc hv
theorem rep_dctI {v : V} {es : List (D × D)} (r : Rep K cl H v (.dct es)) (h : (es.all fun e => kInt e.1) = true) : ∃ a kvs, v = .ref a ∧ H a = some (.dK kvs) ∧ RepsK K cl H kvs es := by
  cases r with
  | dctK h1 h2 => exact ⟨_, _, rfl, h1, h2⟩
  | dctT h1 h0 h2 =>
    cases h2 with
    | nil => exact (h0 rfl).elim
    | cons _ _ => simp [kInt] at h
theorem rep_dctT {v : V} {es : List (D × D)} (r : Rep K cl H v (.dct es)) (h0 : es ≠ []) (h : (es.all fun e => kTup e.1) = true) : ∃ a kvs, v = .ref a ∧ H a = some (.dT kvs) ∧ RepsT K cl H kvs es := by
  cases r with
  | dctT h1 h0 h2 => exact ⟨_, _, rfl, h1, h2⟩
  | dctK h1 h2 =>
    cases h2 with
    | nil => exact (h0 rfl).elim
    | cons _ _ => simp [kTup] at h
theorem rep_dclI {v : V} {es : List (D × D)} (r : Rep K cl H v (.dcl es)) (h : (es.all fun e => kInt e.1) = true) : ∃ a o kvs, v = .ref a ∧ H a = some (.frz o (.dK kvs)) ∧ RepsK K cl H kvs es := by
  cases r with
  | dclK h1 h2 => exact ⟨_, _, _, rfl, h1, h2⟩
  | dclT h1 h0 h2 =>
    cases h2 with
    | nil => exact (h0 rfl).elim
    | cons _ _ => simp [kInt] at h
theorem rep_dclT {v : V} {es : List (D × D)} (r : Rep K cl H v (.dcl es)) (h0 : es ≠ []) (h : (es.all fun e => kTup e.1) = true) : ∃ a o kvs, v = .ref a ∧ H a = some (.frz o (.dT kvs)) ∧ RepsT K cl H kvs es := by
  cases r with
  | dclT h1 h0 h2 => exact ⟨_, _, _, rfl, h1, h2⟩
  | dclK h1 h2 =>
    cases h2 with
    | nil => exact (h0 rfl).elim
    | cons _ _ => simp [kTup] at h
theorem reps_ints_eq : ∀ {k : List Int} {xs : List V}, Reps K cl H xs (k.map .int) → xs = k.map V.int
  | [], _, .nil => rfl
  | i :: k, _, .cons r t => by
    cases r; rw [reps_ints_eq t]; rfl
theorem kV_ints (k : List Int) : (k.map Sum.inl).map kV = k.map V.int := by rw [List.map_map]; rfl
theorem rep_key {v : V} {k : List Int} (r : Rep K cl H v (.tup (k.map .int))) : ∃ b, v = .ref b ∧ H b = some (.tup ((k.map Sum.inl).map kV)) := by
  cases r with
  | tup s z rs => rw [reps_ints_eq rs] at s; exact ⟨_, rfl, by rw [kV_ints]; exact s⟩
def DGo (K : PySem.W.Frag) (cl : Glb) (Hv H : Hp) (a : Addr) (y : V) : Option D → Prop
  | some d => ∃ v, DGet H a y (some v) ∧ Rep K cl Hv v d
  | none => DGet H a y none
theorem dget_of {Hv : Hp} {x y : V} {es : List (D × D)} {k : D} {o : Option D} (vw : Vw cl Hv H) (rx : Rep K cl Hv x (.dct es)) (ry : Rep K cl Hv y k) (h : oGetK es k = some o) : ∃ a, x = .ref a ∧ DGo K cl Hv H a y o := by
  cases k with
  | int i =>
    simp only [oGetK] at h
    split at h
    · rename_i hal
      cases h
      obtain ⟨a, kvs, rfl, h1, h2⟩ := rep_dctI rx hal
      refine ⟨a, rfl, ?_⟩
      cases ry
      have hv := h2.val (i := i)
      have g := DGet.k (k := Sum.inl i) (vw.s _ _ h1 rfl)
      cases e : findE (isKI i) es with
      | none => rw [e] at hv; rw [show valV kvs (Sum.inl i) = none from hv] at g; exact g
      | some d =>
        rw [e] at hv
        obtain ⟨v, hv1, hv2⟩ := hv
        rw [hv1] at g
        exact ⟨v, g, hv2⟩
    · cases h
  | tup xs =>
    simp only [oGetK] at h
    split at h
    · rename_i k hk
      split at h
      · rename_i hal
        cases h
        have ek := intsD_eq hk
        subst ek
        obtain ⟨a, kvs, rfl, h1, h2⟩ := rep_dctT rx hal.1 hal.2
        obtain ⟨b, rfl, hb⟩ := rep_key ry
        refine ⟨a, rfl, ?_⟩
        have hv := h2.val (i := k)
        have g := DGet.t (vw.s _ _ h1 rfl) (vw.s _ _ hb rfl)
        cases e : findE (isKT k) es with
        | none => rw [e] at hv; rw [show valV kvs (k.map Sum.inl) = none from hv] at g; exact g
        | some d =>
          rw [e] at hv
          obtain ⟨v, hv1, hv2⟩ := hv
          rw [hv1] at g
          exact ⟨v, g, hv2⟩
      · cases h
    · cases h
  | _ => cases h
theorem dgel_of {Hv : Hp} {x y : V} {es : List (D × D)} {k : D} {o : Option D} (vw : Vw cl Hv H) (rx : Rep K cl Hv x (.dcl es)) (ry : Rep K cl Hv y k) (h : oGetK es k = some o) : ∃ a, x = .ref a ∧ DGo K cl Hv H a y o := by
  cases k with
  | int i =>
    simp only [oGetK] at h
    split at h
    · rename_i hal
      cases h
      obtain ⟨a, oo, kvs, rfl, h1, h2⟩ := rep_dclI rx hal
      refine ⟨a, rfl, ?_⟩
      cases ry
      have hv := h2.val (i := i)
      have g : DGet H a (kV (Sum.inl i)) (valV kvs (Sum.inl i)) := .inl ⟨kvs, Sum.inl i, .inr ⟨oo, vw.s _ _ h1 rfl⟩, rfl, rfl⟩
      cases e : findE (isKI i) es with
      | none => rw [e] at hv; rw [show valV kvs (Sum.inl i) = none from hv] at g; exact g
      | some d =>
        rw [e] at hv
        obtain ⟨v, hv1, hv2⟩ := hv
        rw [hv1] at g
        exact ⟨v, g, hv2⟩
    · cases h
  | tup xs =>
    simp only [oGetK] at h
    split at h
    · rename_i k hk
      split at h
      · rename_i hal
        cases h
        have ek := intsD_eq hk
        subst ek
        obtain ⟨a, oo, kvs, rfl, h1, h2⟩ := rep_dclT rx hal.1 hal.2
        obtain ⟨b, rfl, hb⟩ := rep_key ry
        refine ⟨a, rfl, ?_⟩
        have hv := h2.val (i := k)
        have g : DGet H a (.ref b) (valV kvs (k.map Sum.inl)) := .inr ⟨kvs, k.map Sum.inl, b, .inr ⟨oo, vw.s _ _ h1 rfl⟩, rfl, vw.s _ _ hb rfl, rfl⟩
        cases e : findE (isKT k) es with
        | none => rw [e] at hv; rw [show valV kvs (k.map Sum.inl) = none from hv] at g; exact g
        | some d =>
          rw [e] at hv
          obtain ⟨v, hv1, hv2⟩ := hv
          rw [hv1] at g
          exact ⟨v, g, hv2⟩
      · cases h
    · cases h
  | _ => cases h
end
section
variable {X : Cx} {W : WX} {cl : Glb} {a b : Expr} {fa fb : DE} {pos : Pos}
theorem PE.or {e : Expr} {t1 t2 : TE} (h1 : PE X e t1) (h2 : PE X e t2) : PE X e (fun σ H Q => t1 σ H Q ∨ t2 σ H Q) :=
  ⟨fun pins s σ H Q I h => h.elim (fun h => h1.run pins s σ H Q I h) fun h => h2.run pins s σ H Q I h⟩
theorem oIx_not {a b : D} (h : ∀ es, a ≠ .dct es) (h' : ∀ es, a ≠ .dcl es) : oIx a b = oIxS a b := by
  cases a <;> first | exact (h _ rfl).elim | exact (h' _ rfl).elim | (cases b <;> rfl)
theorem se_ixD (hu : X.A.units + 65 < cLine) (ha : SE X W cl a fa) (hb : SE X W cl b fb) (hs : PlainIx b := by intro _ _; rfl) : SE X W cl (.Subscript a b pos) (dBin oIx fa fb) := by
  obtain ⟨t1, p1, r1⟩ := se_ix (pos := pos) ha hb hs
  obtain ⟨ta, pa, ha⟩ := ha
  obtain ⟨tb, pb, hb⟩ := hb
  refine ⟨_, PE.or p1 (pe_dget (by omega) pa pb hs), fun Hv H σ ρ Q vw er pv => ?_⟩
  by_cases hd : ∃ es, fa ρ = .ok (.dct es)
  · obtain ⟨es, hd⟩ := hd
    right
    refine ha Hv H σ ρ _ vw er (bindP pv fun x Hv1 H1 ex e1 pv1 v rv => ?_)
    rw [hd] at ex
    cases ex
    refine hb Hv1 H1 σ ρ _ e1.vh (er.mono e1.vv) (bindP pv1 fun y Hv2 H2 _ e2 pv2 u ru => ?_)
    obtain ⟨d, ed, q⟩ := ofO_ok pv2
    simp only [oIx, Option.bind_eq_some_iff, id_eq] at ed
    obtain ⟨o, h1, rfl⟩ := ed
    obtain ⟨ad, rfl, v', g, rv'⟩ := dget_of e2.vh (rv.mono e2.vv) ru h1
    exact ⟨ad, v', rfl, g, q _ _ (Ext.refl e2.vh) v' rv'⟩
  by_cases hd' : ∃ es, fa ρ = .ok (.dcl es)
  · obtain ⟨es, hd⟩ := hd'
    right
    refine ha Hv H σ ρ _ vw er (bindP pv fun x Hv1 H1 ex e1 pv1 v rv => ?_)
    rw [hd] at ex
    cases ex
    refine hb Hv1 H1 σ ρ _ e1.vh (er.mono e1.vv) (bindP pv1 fun y Hv2 H2 _ e2 pv2 u ru => ?_)
    obtain ⟨d, ed, q⟩ := ofO_ok pv2
    simp only [oIx, Option.bind_eq_some_iff, id_eq] at ed
    obtain ⟨o, h1, rfl⟩ := ed
    obtain ⟨ad, rfl, v', g, rv'⟩ := dgel_of e2.vh (rv.mono e2.vv) ru h1
    exact ⟨ad, v', rfl, g, q _ _ (Ext.refl e2.vh) v' rv'⟩
  · left
    refine r1 Hv H σ ρ Q vw er ?_
    have e : dBin oIx fa fb ρ = dBin oIxS fa fb ρ := by
      unfold dBin
      cases h : fa ρ with
      | err c => rfl
      | bad => rfl
      | ok x =>
        show ((fb ρ).bind fun b => ofO (oIx x b)) = (fb ρ).bind fun b => ofO (oIxS x b)
        congr 1
        funext y
        rw [oIx_not (fun es e => hd ⟨es, by rw [h, e]⟩) fun es e => hd' ⟨es, by rw [h, e]⟩]
    rw [← e]
    exact pv
end
end Sm
namespace Sm
open PySem PySem.Spec L2
section
variable {X : Cx} {W : WX} {cl : Glb}
abbrev PT (K : PySem.W.Frag) (H : Hp) : List Addr → List (List Key × Addr × V) → Prop := Paired fun p kv => SqT K H p [.ref kv.2.1, kv.2.2] ∧ H kv.2.1 = some (.tup (kv.1.map kV))
end
end Sm
namespace Sm
open PySem PySem.Spec L2
section
variable {X : Cx} {W : WX} {cl : Glb} {Hv0 H0 Hv Hv1 H : Hp} {own own1 : List Nat} {Dn : Ends} {pos p apos npos spos cpos : Pos} {a b c e f o : Expr} {es : List Expr} {fa fb fc : DE} {g : DA}
theorem RepsK.length {K : PySem.W.Frag} {H : Hp} : ∀ {kvs : List (L2.Key × V)} {es : List (D × D)}, RepsK K cl H kvs es → kvs.length = es.length
  | _, _, .nil => rfl
  | _, _, .cons _ t => by rw [List.length_cons, List.length_cons, RepsK.length t]
end
end Sm
namespace Sm
open PySem PySem.Spec L2
section
variable {X : Cx} {W : WX} {cl : Glb}
open PySem.W PyProof.Rows
end
end Sm
namespace Sm
open PySem PySem.Spec L2
section
variable {X : Cx} {W : WX} {cl : Glb} {pos p p1 p2 : Pos} {a b c e i fe : Expr} {es ns : List Expr} {fi : DE} {g : DA} {k n : Nat}
end
theorem exm_of {K : PySem.W.Frag} {C Ck : Addr} (h1 : PySem.W.subIn K (.ref C) (.type "BaseException") = some true) (h2 : (PySem.W.clsIn K C).isSome = true) (h3 : PySem.W.typeIn K (.ref C) = some (.type "type")) (h4 : PySem.W.subIn K (.ref Ck) (.ref C) = some true) :
    PySem.W.exmOne K (.ref Ck) (.ref C) = some true := by
  unfold PySem.W.exmOne PySem.W.kitCls
  rw [h1]
  simp only [h2, h3, h4, beq_self_eq_true, Bool.and_self, if_true]
end Sm
namespace Sm
open PySem PySem.Spec L2 PyProof.Rows
theorem rev_pick (xs : Array Value) : ((List.range xs.size).filterMap fun (k : Nat) => xs[((xs.size : Int) - 1 + (k : Int) * (-1)).toNat]?) = xs.toList.reverse := by
  have gen : ∀ (l : List Nat), (∀ k ∈ l, k < xs.size) → (l.filterMap fun (k : Nat) => xs[((xs.size : Int) - 1 + (k : Int) * (-1)).toNat]?) = l.map fun k => xs.toList.reverse.getD k .none := by
    intro l
    induction l with
    | nil => intro _; rfl
    | cons k l ih =>
      intro hl
      have hk := hl k (by simp)
      have e : ((xs.size : Int) - 1 + (k : Int) * (-1)).toNat = xs.size - 1 - k := by omega
      have hk2 : k < xs.toList.reverse.length := by simpa using hk
      have e2 : xs[((xs.size : Int) - 1 + (k : Int) * (-1)).toNat]? = some (xs.toList.reverse.getD k .none) := by
        rw [e, List.getD_eq_getElem?_getD, List.getElem?_eq_getElem hk2, Option.getD_some, List.getElem_reverse]
        rw [Array.getElem?_eq_getElem (by omega)]
        simp
      rw [List.filterMap_cons, e2, List.map_cons, ih fun j hj => hl j (by simp [hj])]
  have h := gen (List.range xs.size) fun k hk => List.mem_range.mp hk
  rw [h]
  apply List.ext_getElem?
  intro i
  rw [List.getElem?_map]
  by_cases hi : i < xs.size
  · rw [List.getElem?_range hi]
    have : i < xs.toList.reverse.length := by simpa using hi
    rw [List.getElem?_eq_getElem this]
    simp [List.getD_eq_getElem?_getD, List.getElem?_eq_getElem this]
  · rw [List.getElem?_eq_none (by simpa using hi), List.getElem?_eq_none (by simpa using hi)]
    rfl
section
variable {prog : Program} {w : World} {A : Around} {E : Value → Shared → Prop} {s : Shared}
theorem getItem_tuple_rev {t sl : Addr} {items : Array Value} {vl vu vs : Value} {Q : Value → Shared → Prop} (ht : IsTup s.heap t items) (hs : s.heap.IsSliceOf sl vl vu vs) (pl : IsPart vl none) (pu : IsPart vu none) (ps : IsPart vs (some (-1)))
    (h : Q (.ref s.heap.objs.size) { s with heap := s.heap.push { cls := .type "tuple", data := .seq items.toList.reverse.toArray } }) (hsz : items.size ≤ sizeLine) : wpAny (model prog w) A (getItem (.ref t) (.ref sl)) Q E s := by
  have htake : sizeOk (.seq items.toList.reverse.toArray) := by
    show items.toList.reverse.toArray.size ≤ sizeLine
    simpa using hsz
  obtain ⟨os, hos, hcs, hds⟩ := id hs
  have hTs : s.TypeIs (.ref sl) "slice" := ⟨os, hos, hcs⟩
  unfold getItem
  try with_reducible refine wpAny_holding ?_
  first | refine wpAny_bind (wpAny_pure ?_) | skip
  refine wpAny_bind (wpAny_sequenceKey ht.typeIs (by decide) ?_)
  refine wpAny_bind (wpAny_callSpecial?_slot (name := Str.ofString "__getitem__") ht.typeIs PyProof.Rows.slot_tuple_getitem
    (wpAny_call_entry PyProof.Rows.slot_tuple_getitem ht.typeIs entry_tuple_getitem ?_ (args_tuple_getitem _ _)))
  show wpAny _ _ (Builtin.Tuple.tupleItemsOf (.ref t) >>= _) _ _ s
  refine wpAny_bind (tupleItemsOf_ ht ?_)
  refine wpAny_bind (wpAny_typeOf hTs ?_)
  rw [if_pos (by decide)]
  have ap : ∀ {R : Int × Int × Nat → Shared → Prop}, R ((items.size : Int) - 1, -1, items.size) s → wpAny (model prog w) A.in1 (Builtin.Slice.sliceApplied (.ref sl) (pure (items.size : Int))) R E s := fun {R} hr => by
    unfold Builtin.Slice.sliceApplied Builtin.Slice.sliceFields
    refine wpAny_bind (wpAny_bind (wpAny_field hos hds (x := vl) rfl (wpAny_bind (wpAny_field hos hds (x := vu) rfl (wpAny_bind (wpAny_field hos hds (x := vs) rfl (wpAny_pure ?_)))))))
    refine wpAny_bind (HT.slicePart_ ps ?_)
    show wpAny _ _ (if ((-1 : Int) == 0) = true then _ else _) _ _ s
    rw [if_neg (by decide)]
    refine wpAny_bind (HT.slicePart_ pl (wpAny_bind (HT.slicePart_ pu (wpAny_bind (wpAny_pure ?_)))))
    have e1 : Builtin.Slice.sliceAdjust none none (-1) (items.size : Int) = ((items.size : Int) - 1, -1) := rfl
    have e2 : Builtin.Slice.slicePlaces ((items.size : Int) - 1) (-1) (-1) = items.size := by
      unfold Builtin.Slice.slicePlaces
      rw [if_neg (by decide), show (-(-1) : Int) = 1 by decide, Int.ediv_one]
      split <;> omega
    show wpAny _ _ (match Builtin.Slice.sliceAdjust none none (-1) (items.size : Int) with | (lo, hi) => pure (lo, (-1 : Int), Builtin.Slice.slicePlaces lo hi (-1))) _ _ s
    rw [e1]
    show wpAny _ _ (pure ((items.size : Int) - 1, (-1 : Int), Builtin.Slice.slicePlaces ((items.size : Int) - 1) (-1) (-1))) _ _ s
    rw [e2]
    exact wpAny_pure hr
  refine wpAny_bind (ap ?_)
  show wpAny _ _ (if ((((items.size : Int) - 1) == 0 && (-1 : Int) == 1 && items.size == items.size) = true) then _ else _) _ _ s
  rw [if_neg (by simp), rev_pick]
  first
    | exact wpAny_bind (m := Builtin.Tuple.tupleExact _) (wpAny_newObj_type (wpAny_pure ⟨_, rfl, wpAny_pure h⟩) htake)
    | exact wpAny_bind (m := Builtin.Tuple.tupleExact _) (wpAny_newObj_type (wpAny_bind (wpAny_pure (wpAny_pure ⟨_, rfl, wpAny_pure h⟩))) htake)
    | exact wpAny_bind (wpAny_bind (m := Builtin.Tuple.tupleExact _) (wpAny_newObj_type (wpAny_pure (wpAny_pure ⟨_, rfl, wpAny_pure h⟩)) htake))
    | exact wpAny_bind (wpAny_bind (m := Builtin.Tuple.tupleExact _) (wpAny_newObj_type (wpAny_pure ⟨_, rfl, wpAny_pure h⟩) htake))
end
section
variable {X : Cx} {W : WX} {cl : Glb} {a : Expr} {fa : DE} {pos : Pos}
def tRevT (K : PySem.W.Frag) (te : TE) : TE := fun σ H Q => te σ H fun x H1 => ∃ a xs, x = .ref a ∧ SqT K H1 a xs ∧ ∀ p, H1 p = none → Q (.ref p) (upd H1 p (.tup xs.reverse))
theorem pe_revT {e : Expr} {te : TE} {k : Nat} {p1 p2 p3 : Pos} (he : PE X e te) : PE X (.Subscript e (.Slice none none (some (.UnaryOp .USub (.Constant (.int 1) k p1) p2)) p3) pos) (tRevT X.K te) := by
  refine ⟨fun pins s σ H Q I h => ?_⟩
  refine Subscript_ (thn (he.run pins s σ H _ I h) fun v s1 ⟨x, H1, I1, r1, q1⟩ => ?_)
  obtain ⟨a, xs, ex, hx, q⟩ := q1
  subst ex
  cases r1
  have hst : PO X (some (.UnaryOp .USub (.Constant (.int 1) k p1) p2)) (tPart (tUn (rU fun i => .int (-i)) (tC (.int 1)))) := po_some (pe_un un_neg pe_int)
  refine wpAny_Slice (thn (po_none.run pins s1 σ H1 (fun o H2 => o = none ∧ H2 = H1) I1 ⟨rfl, rfl⟩) fun vl s2 ⟨l, H2, I2, pl, el, e2⟩ => ?_)
  subst el e2
  refine thn (po_none.run pins s2 σ H2 (fun o H3 => o = none ∧ H3 = H2) I2 ⟨rfl, rfl⟩) fun vu s3 ⟨u, H3, I3, pu, eu, e3⟩ => ?_
  subst eu e3
  refine thn (hst.run pins s3 σ H3 (fun o H4 => o = some (-1) ∧ H4 = H3) I3 ⟨1, rfl, -1, rfl, rfl, rfl⟩) fun vs s4 ⟨o, H4, I4, ps, eo, e4⟩ => ?_
  subst eo e4
  have I5 : Inv X pins σ H4 { s4 with heap := s4.heap.push { cls := .type "slice", data := .fields #[vl, vu, vs] } } := I4.kept (t' := s4.toks) fun b ob q => Heap.get?_push_of_some _ q
  obtain ⟨its, r, ht, hz⟩ := I5.tuple hx
  have hlen := r.length
  show wpAny (model X.prog X.w) X.A (subscriptTail e (.Slice none none (some (.UnaryOp .USub (.Constant (.int 1) k p1) p2)) p3) (.ref a) (.ref s4.heap.objs.size)) (EP X pins σ Q) X.xe { s4 with heap := s4.heap.push { cls := .type "slice", data := .fields #[vl, vu, vs] } }
  refine tail_any (ops := [.ref a, .ref s4.heap.objs.size]) ht.typeIs (PyProof.Rows.slot_tuple_getitem.lookup) ?_ (by with_unfolding_all rfl)
  refine getItem_tuple_rev ht (Heap.IsSliceOf.new _ vl vu vs) pl pu ps ?_ (by rw [List.size_toArray]; omega)
  refine ⟨.ref _, _, I5.laid (t' := s4.toks) (o := .tup xs.reverse) (fun b ob q => Heap.get?_push_of_some _ q) (Nat.le_refl _) ?_, rfl, q _ (I5.hok.fresh (Nat.le_refl _))⟩
  exact ⟨by rw [List.length_reverse]; exact hz, _, by simpa using r.reverse, IsTup.new _ _⟩
def oRevA : D → Option D
  | .lst ds => some (.lst ds.reverse)
  | .tup ds => some (.tup ds.reverse)
  | _ => none
theorem se_revA {k : Nat} {p1 p2 p3 : Pos} (ha : SE X W cl a fa) : SE X W cl (.Subscript a (.Slice none none (some (.UnaryOp .USub (.Constant (.int 1) k p1) p2)) p3) pos) (dUn oRevA fa) := by
  obtain ⟨ta, pa, ha⟩ := ha
  refine ⟨_, PE.or (pe_revL pa) (pe_revT pa), fun Hv H σ ρ Q vw er pv => ?_⟩
  by_cases hd : ∃ ds, fa ρ = .ok (.tup ds)
  · obtain ⟨ds, hd⟩ := hd
    right
    refine ha Hv H σ ρ _ vw er (bindP pv fun x Hv1 H1 ex e1 pv1 v rv => ?_)
    rw [hd] at ex
    cases ex
    cases rv with
    | tup s z r => exact ⟨_, _, rfl, e1.vh.s.sqU s, new_tup e1.vh r.reverse (by rw [List.length_reverse]; exact z) fun v Hv' H' ex r => pv1 Hv' H' ex v r⟩
  · left
    refine ha Hv H σ ρ _ vw er (bindP pv fun x Hv1 H1 ex e1 pv1 v rv => ?_)
    obtain ⟨d, ed, q⟩ := ofO_ok pv1
    cases rv with
    | lst s z r =>
      cases ed
      exact ⟨_, _, rfl, .inl (.inl (e1.vh.s _ _ s rfl)), new_lst e1.vh r.reverse (by rw [List.length_reverse]; exact z) fun v Hv' H' ex r => q Hv' H' ex v r⟩
    | tup s z r => exact (hd ⟨_, ex⟩).elim
    | _ => cases ed
end
end Sm
namespace Sm
open PySem PySem.Spec L2
abbrev Zf := Addr → Option Obj
def Fz (o : Obj) : HO := .frz o (.own 0)
def trk (Z : Zf) (H : Hp) : Hp := fun b => match Z b with | some o => some (Fz o) | none => H b
def utr (Z : Zf) (H : Hp) : Hp := fun b => match Z b with | some _ => none | none => H b
section
variable {Z : Zf} {H H' : Hp} {b : Addr} {o : Obj} {u : HO}
theorem trk_in (h : Z b = some o) : trk Z H b = some (Fz o) := by unfold trk; rw [h]
theorem trk_out (h : Z b = none) : trk Z H b = H b := by unfold trk; rw [h]
theorem utr_in (h : Z b = some o) : utr Z H b = none := by unfold utr; rw [h]
theorem utr_out (h : Z b = none) : utr Z H b = H b := by unfold utr; rw [h]
theorem utr_some (h : utr Z H b = some u) : Z b = none ∧ H b = some u := by
  cases q : Z b with
  | none => rw [utr_out q] at h; exact ⟨rfl, h⟩
  | some o => rw [utr_in q] at h; cases h
theorem trk_none (h : trk Z H b = none) : Z b = none ∧ H b = none := by
  cases q : Z b with
  | none => rw [trk_out q] at h; exact ⟨rfl, h⟩
  | some o => rw [trk_in q] at h; cases h
def Fre (Z : Zf) (H : Hp) : Prop := ∀ b o, Z b = some o → H b = none
def Hld (Z : Zf) (H : Hp) : Prop := ∀ b o, Z b = some o → H b = some (Fz o)
theorem Fre.out (f : Fre Z H) (h : H b = some u) : Z b = none := by
  cases q : Z b with
  | none => rfl
  | some o => rw [f b o q] at h; cases h
theorem Hld.out (f : Hld Z H) (h : H b = some u) (n : ∀ o, u ≠ Fz o) : Z b = none := by
  cases q : Z b with
  | none => rfl
  | some o => rw [f b o q] at h; cases h; exact (n o rfl).elim
theorem Hld.outN (f : Hld Z H) (h : H b = none) : Z b = none := by
  cases q : Z b with
  | none => rfl
  | some o => rw [f b o q] at h; cases h
theorem hld_trk : Hld Z (trk Z H) := fun b o h => trk_in h
theorem fre_utr : Fre Z (utr Z H) := fun b o h => utr_in h
theorem Hld.mono (f : Hld Z H) (s : Sam H H') : Hld Z H' := fun b o h => s b _ (f b o h) rfl
theorem sam_trk (f : Fre Z H) : Sam H (trk Z H) := fun b u h n => by rw [trk_out (f.out h)]; exact h
theorem sam_utr (s : Sam H H') : Sam (utr Z H) (utr Z H') := fun b u h n => by
  obtain ⟨h1, h2⟩ := utr_some h
  rw [utr_out h1]; exact s b u h2 n
theorem utr_trk (f : Fre Z H) : utr Z (trk Z H) = H := by
  funext b
  cases q : Z b with
  | none => rw [utr_out q, trk_out q]
  | some o => rw [utr_in q, f b o q]
theorem hok_utr {P : Program} {w : World} {h : Heap} (k : HOk P w H h) (f : Hld Z H) : HOk P w (utr Z H) h := fun a u e => by
  obtain ⟨_, h2⟩ := utr_some e
  refine (k a u h2).stay (fun _ _ _ q => q) (fun b q => ?_) fun b xs q => ?_
  · rw [utr_out (f.out q fun o z => by cases z)]; exact q
  · rw [utr_out (f.out q fun o z => by cases z)]; exact q
theorem hok_trk {P : Program} {w : World} {h : Heap} (k : HOk P w H h) (f : Fre Z H) (hz : ∀ b o, Z b = some o → h.get? b = some o) : HOk P w (trk Z H) h := fun a u e => by
  cases q : Z a with
  | none =>
    rw [trk_out q] at e
    exact (k a u e).stay (fun _ _ _ q => q) (fun b q => by rw [trk_out (f.out q)]; exact q) fun b xs q => by rw [trk_out (f.out q)]; exact q
  | some o =>
    rw [trk_in q] at e
    cases e
    exact ⟨hz a o q, o, hz a o q⟩
end
section
variable {Z : Zf} {H H' : Hp} {P : Program} {w : World} {outer : List PySem.Env} {s s' : Shared} {Q Q' : VK} {E E' : XK} {r : Result}
theorem cr_utr (h : CR (L2.CX P w) outer P w (trk Z H) s Q' E' r s') (f : Fre Z H) (hz : ∀ b o, Z b = some o → s.heap.get? b = some o) (nf : ∀ b o, Z b = some o → b ∉ frs outer)
    (q : ∀ v H', Hld Z H' → Q' v H' → Q v (utr Z H')) (e : ∀ c d H', Hld Z H' → E' c d H' → E c d (utr Z H')) : CR (L2.CX P w) outer P w H s Q E r s' := by
  cases r with
  | error x =>
    obtain ⟨a, B, H', cls, d, rfl, fl, hok, ub, na, os, ag, hE⟩ := (show L2.CX P w outer (trk Z H) s E' x s' from h)
    have hl : Hld Z H' := fun b o z => ub.frzs b o _ (trk_in z)
    refine (show L2.CX P w outer H s E (.ref a) s' from ⟨a, B, utr Z H', cls, d, rfl, fl, hok_utr hok hl, ⟨fun b o g n nfb => ?_, ub.slot, fun b o g n => ?_, ub.there, fun b xs g => ?_, fun b o u g => ?_, fun b ps g => ?_⟩, ?_, os, ag, e _ _ _ hl hE⟩)
    · cases z : Z b with
      | none => exact ub.keep b o g (by rw [trk_out z]; exact n) nfb
      | some o' =>
        have := hz b o' z
        rw [g] at this; cases this
        exact (hok b _ (hl b o z)).1
    · cases z : Z b with
      | none => rw [utr_out z]; exact ub.free b o g (by rw [trk_out z]; exact n)
      | some o' => exact utr_in z
    · rw [utr_out (f.out g)]; exact ub.tups b xs (by rw [trk_out (f.out g)]; exact g)
    · rw [utr_out (f.out g)]; exact ub.frzs b o u (by rw [trk_out (f.out g)]; exact g)
    · rw [utr_out (f.out g)]; exact ub.tbls b ps (by rw [trk_out (f.out g)]; exact g)
    · cases z : Z a with
      | none => rw [utr_out z]; exact na
      | some o' => exact utr_in z
  | ok fl =>
    cases fl with
    | ret u =>
      obtain ⟨v, H', os, bare, un, hok, rv, hq⟩ := (show CE outer P w (trk Z H) s Q' u s' from h)
      have hl : Hld Z H' := fun b o z => un.frzs b o _ (trk_in z)
      refine (show CE outer P w H s Q u s' from ⟨v, utr Z H', os, bare, ⟨fun b o g n nfb nx => ?_, fun b o g n nfb nx => ?_, fun b o g n nx => ?_, un.there, fun b xs g => ?_, fun b o u g => ?_, fun b ps g => ?_⟩, hok_utr hok hl, rv, q _ _ hl hq⟩)
      · cases z : Z b with
        | none => exact un.keep b o g (by rw [trk_out z]; exact n) nfb nx
        | some o' =>
          have := hz b o' z
          rw [g] at this; cases this
          exact (hok b _ (hl b o z)).1
      · cases z : Z b with
        | none => exact un.slot b o g (by rw [trk_out z]; exact n) nfb nx
        | some o' => exact (nf b o' z nfb).elim
      · cases z : Z b with
        | none => rw [utr_out z]; exact un.free b o g (by rw [trk_out z]; exact n) nx
        | some o' => exact utr_in z
      · rw [utr_out (f.out g)]; exact un.tups b xs (by rw [trk_out (f.out g)]; exact g)
      · rw [utr_out (f.out g)]; exact un.frzs b o u (by rw [trk_out (f.out g)]; exact g)
      · rw [utr_out (f.out g)]; exact un.tbls b ps (by rw [trk_out (f.out g)]; exact g)
    | next => exact h
    | brk => exact h
    | cont => exact h
theorem cr_trk (h : CR (L2.CX P w) outer P w (utr Z H) s Q' E' r s') (f : Hld Z H) (hk : HOk P w H s.heap) (nf : ∀ b ∈ frs outer, H b = none)
    (q : ∀ v H', Fre Z H' → Q' v H' → Q v (trk Z H')) (e : ∀ c d H', Fre Z H' → E' c d H' → E c d (trk Z H')) : CR (L2.CX P w) outer P w H s Q E r s' := by
  have hz : ∀ b o, Z b = some o → s.heap.get? b = some o := fun b o z => (hk b _ (f b o z)).1
  have nfz : ∀ b o, Z b = some o → b ∉ frs outer := fun b o z hb => by
    have := nf b hb
    rw [f b o z] at this; cases this
  cases r with
  | error x =>
    obtain ⟨a, B, H', cls, d, rfl, fl, hok, ub, na, os, ag, hE⟩ := (show L2.CX P w outer (utr Z H) s E' x s' from h)
    have hl : Fre Z H' := fun b o z => ub.free b o (hz b o z) (utr_in z)
    have hB : ∀ b o, Z b = some o → B.get? b = some o := fun b o z => ub.keep b o (hz b o z) (utr_in z) (nfz b o z)
    have out : ∀ {b : Addr} {u : HO}, H b = some u → (∀ o, u ≠ Fz o) → Z b = none := fun g n => f.out g n
    refine (show L2.CX P w outer H s E (.ref a) s' from ⟨a, B, trk Z H', cls, d, rfl, fl, hok_trk hok hl hB, ⟨fun b o g n nfb => ?_, ub.slot, fun b o g n => ?_, ub.there, fun b xs g => ?_, fun b o u g => ?_, fun b ps g => ?_⟩, ?_, os, ag, e _ _ _ hl hE⟩)
    · exact ub.keep b o g (by rw [utr_out (f.outN n)]; exact n) nfb
    · rw [trk_out (f.outN n)]; exact ub.free b o g (by rw [utr_out (f.outN n)]; exact n)
    · have z := out g fun o z => by cases z
      rw [trk_out z]; exact ub.tups b xs (by rw [utr_out z]; exact g)
    · cases z : Z b with
      | none => rw [trk_out z]; exact ub.frzs b o u (by rw [utr_out z]; exact g)
      | some o' => rw [trk_in z, ← f b o' z]; exact g
    · have z := out g fun o z => by cases z
      rw [trk_out z]; exact ub.tbls b ps (by rw [utr_out z]; exact g)
    · cases z : Z a with
      | none => rw [trk_out z]; exact na
      | some o' =>
        have g := hB a o' z
        have g2 := fl.2.1
        rw [g] at g2; cases g2
  | ok fl =>
    cases fl with
    | ret u =>
      obtain ⟨v, H', os, bare, un, hok, rv, hq⟩ := (show CE outer P w (utr Z H) s Q' u s' from h)
      have hl : Fre Z H' := fun b o z => un.free b o (hz b o z) (utr_in z) (by simp)
      have hB : ∀ b o, Z b = some o → s'.heap.get? b = some o := fun b o z => un.keep b o (hz b o z) (utr_in z) (nfz b o z) (by simp)
      refine (show CE outer P w H s Q u s' from ⟨v, trk Z H', os, bare, ⟨fun b o g n nfb nx => ?_, fun b o g n nfb nx => ?_, fun b o g n nx => ?_, un.there, fun b xs g => ?_, fun b o u g => ?_, fun b ps g => ?_⟩, hok_trk hok hl hB, rv, q _ _ hl hq⟩)
      · exact un.keep b o g (by rw [utr_out (f.outN n)]; exact n) nfb nx
      · exact un.slot b o g (by rw [utr_out (f.outN n)]; exact n) nfb nx
      · rw [trk_out (f.outN n)]; exact un.free b o g (by rw [utr_out (f.outN n)]; exact n) nx
      · have z := f.out g fun o z => by cases z
        rw [trk_out z]; exact un.tups b xs (by rw [utr_out z]; exact g)
      · cases z : Z b with
        | none => rw [trk_out z]; exact un.frzs b o u (by rw [utr_out z]; exact g)
        | some o' => rw [trk_in z, ← f b o' z]; exact g
      · have z := f.out g fun o z => by cases z
        rw [trk_out z]; exact un.tbls b ps (by rw [utr_out z]; exact g)
    | next => exact h
    | brk => exact h
    | cont => exact h
theorem env0_utr {K : PySem.W.Frag} {mg : Str → Option Value} {base : Heap} {A : Around} (e : Env0 P w K mg base A outer s H) (f : Hld Z H) : Env0 P w K mg base A outer s (utr Z H) :=
  ⟨e.frames, e.mod, fun b o h => ⟨(e.bs b o h).1, by rw [utr_out (f.outN (e.bs b o h).2)]; exact (e.bs b o h).2⟩, e.bsz, e.funs, fun b h => by rw [utr_out (f.outN (e.frf b h))]; exact e.frf b h, hok_utr e.hok f, e.bare⟩
theorem env0_trk {K : PySem.W.Frag} {mg : Str → Option Value} {base : Heap} {A : Around} (e : Env0 P w K mg base A outer s H) (f : Fre Z H) (hz : ∀ b o, Z b = some o → s.heap.get? b = some o) (nf : ∀ b o, Z b = some o → b ∉ frs outer) (nb : ∀ b o, Z b = some o → base.get? b = none) : Env0 P w K mg base A outer s (trk Z H) := by
  refine ⟨e.frames, e.mod, fun b o h => ⟨(e.bs b o h).1, ?_⟩, e.bsz, e.funs, fun b h => ?_, hok_trk e.hok f hz, e.bare⟩
  · cases z : Z b with
    | none => rw [trk_out z]; exact (e.bs b o h).2
    | some o' => rw [nb b o' z] at h; cases h
  · cases z : Z b with
    | none => rw [trk_out z]; exact e.frf b h
    | some o' => exact (nf b o' z h).elim
end
section
variable {Z : Zf} {cl cl' : Glb} {Hv H Hv' H' : Hp}
theorem tabs_utr {T : List (Addr × Str)} (t : LamX.Tabs T H) (f : Hld Z H) : LamX.Tabs T (utr Z H) := fun p hp => by
  obtain ⟨ps, g1, g2, g3⟩ := t p hp
  refine ⟨ps, by rw [utr_out (f.out g1 fun o z => by cases z)]; exact g1, g2, fun pos cv hc => ?_⟩
  obtain ⟨c, ec, hc'⟩ := g3 pos cv hc
  exact ⟨c, ec, by rw [utr_out (f.out hc' fun o z => by unfold LamX.CodeO at z; cases z)]; exact hc'⟩
theorem tabs_trk {T : List (Addr × Str)} (t : LamX.Tabs T H) (f : Fre Z H) : LamX.Tabs T (trk Z H) := fun p hp => by
  obtain ⟨ps, g1, g2, g3⟩ := t p hp
  refine ⟨ps, by rw [trk_out (f.out g1)]; exact g1, g2, fun pos cv hc => ?_⟩
  obtain ⟨c, ec, hc'⟩ := g3 pos cv hc
  exact ⟨c, ec, by rw [trk_out (f.out hc')]; exact hc'⟩
theorem vw_trk (vw : Vw cl Hv H) (f : Fre Z H) (hT : cl'.T = cl.T) : Vw cl' (trk Z Hv) (trk Z H) := by
  refine ⟨fun b o h n => ?_, fun b h => ?_, fun b xs h => ?_, fun b o u h => ?_, by rw [hT]; exact tabs_trk vw.tab f, fun b φ h => ?_⟩
  · cases z : Z b with
    | none => rw [trk_out z] at h ⊢; exact vw.s b o h n
    | some o' => rw [trk_in z] at h ⊢; exact h
  · obtain ⟨z, h⟩ := trk_none h
    rw [trk_out z]; exact vw.d b h
  · cases z : Z b with
    | none => rw [trk_out z] at h ⊢; exact vw.t b xs h
    | some o' => rw [trk_in z] at h ⊢; exact h
  · cases z : Z b with
    | none => rw [trk_out z] at h ⊢; exact vw.z b o u h
    | some o' => rw [trk_in z] at h ⊢; exact h
  · cases z : Z b with
    | none => rw [trk_out z] at h ⊢; exact vw.x b φ h
    | some o' => rw [trk_in z] at h ⊢; exact h
theorem vw_utr (vw : Vw cl' Hv H) (f : Hld Z Hv) (hT : cl'.T = cl.T) : Vw cl (utr Z Hv) (utr Z H) := by
  have fH := f.mono vw.s
  refine ⟨sam_utr vw.s, fun b h => ?_, fun b xs h => ?_, fun b o u h => ?_, by rw [← hT]; exact tabs_utr vw.tab fH, fun b φ h => ?_⟩
  · cases z : Z b with
    | none => rw [utr_out z] at h ⊢; exact vw.d b h
    | some o' => exact utr_in z
  · obtain ⟨z, h⟩ := utr_some h
    rw [utr_out z]; exact vw.t b xs h
  · obtain ⟨z, h⟩ := utr_some h
    rw [utr_out z]; exact vw.z b o u h
  · obtain ⟨z, h⟩ := utr_some h
    rw [utr_out z]; exact vw.x b φ h
end
mutual
def noFn : D → Bool
  | .fnv => false
  | .tup xs => noFns xs
  | .lst xs => noFns xs
  | .dct es => noFnp es
  | .dcl _ => false
  | _ => true
def noFns : List D → Bool
  | [] => true
  | x :: xs => noFn x && noFns xs
def noFnp : List (D × D) → Bool
  | [] => true
  | x :: xs => noFn x.2 && noFnp xs
end
section
variable {Z : Zf} {K : PySem.W.Frag} {cl cl' : Glb} {Hv : Hp}
mutual
theorem rep_utr (f : Hld Z Hv) (hc : cl'.c = cl.c) (hn : cl'.ns = cl.ns) (ho : cl'.ob = cl.ob) : ∀ {v : V} {d : D}, Rep K cl' Hv v d → noFn d = true → Rep K cl (utr Z Hv) v d
  | _, _, .non, _ => .non
  | _, _, .bl b, _ => .bl b
  | _, _, .int b, _ => .int b
  | _, _, .str b, _ => .str b
  | _, _, .lst h n r, q => .lst (by rw [utr_out (f.out h fun o z => by cases z)]; exact h) n (reps_utr f hc hn ho r (by simpa [noFn] using q))
  | _, _, .tup h n r, q => .tup (by rw [utr_out (f.out h fun o z => by cases z)]; exact h) n (reps_utr f hc hn ho r (by simpa [noFn] using q))
  | _, _, .dctK h r, q => .dctK (by rw [utr_out (f.out h fun o z => by cases z)]; exact h) (repsK_utr f hc hn ho r (by simpa [noFn] using q))
  | _, _, .dctT h n r, q => .dctT (by rw [utr_out (f.out h fun o z => by cases z)]; exact h) n (repsT_utr f hc hn ho r (by simpa [noFn] using q))
  | _, _, .scr h n, _ => .scr (by
      rcases h with (h | ⟨o, h⟩) | h
      · exact .inl (.inl (by rw [utr_out (f.out h fun o z => by cases z)]; exact h))
      · exact .inl (.inr ⟨o, by rw [utr_out (f.out h fun o z => by cases z)]; exact h⟩)
      · exact .inr h) n
  | _, _, .scr0 h n, _ => .scr0 (by
      rw [hn] at h
      rcases h with (h | ⟨o, h⟩) | h
      · exact .inl (.inl (by rw [utr_out (f.out h fun o z => by cases z)]; exact h))
      · exact .inl (.inr ⟨o, by rw [utr_out (f.out h fun o z => by cases z)]; exact h⟩)
      · exact .inr h) (by rw [← hn]; exact n)
  | _, _, .exc h, _ => .exc (by rw [← hc, utr_out (f.out h fun o z => by cases z)]; exact h)
  | _, _, .fnv h, q => by simp [noFn] at q
  | _, _, .obj h, _ => .obj (by rw [← ho]; exact h)
  | _, _, .dclK h r, q => by simp [noFn] at q
  | _, _, .dclT h n r, q => by simp [noFn] at q
  | _, _, .scr1 h n, _ => .scr1 (by
      rw [hn] at h
      rcases h with (h | ⟨o, h⟩) | h
      · exact .inl (.inl (by rw [utr_out (f.out h fun o z => by cases z)]; exact h))
      · exact .inl (.inr ⟨o, by rw [utr_out (f.out h fun o z => by cases z)]; exact h⟩)
      · exact .inr h) (by rw [← hn]; exact n)
theorem reps_utr (f : Hld Z Hv) (hc : cl'.c = cl.c) (hn : cl'.ns = cl.ns) (ho : cl'.ob = cl.ob) : ∀ {v : List V} {d : List D}, Reps K cl' Hv v d → noFns d = true → Reps K cl (utr Z Hv) v d
  | _, _, .nil, _ => .nil
  | _, _, .cons r t, q => by
    simp only [noFns, Bool.and_eq_true] at q
    exact .cons (rep_utr f hc hn ho r q.1) (reps_utr f hc hn ho t q.2)
theorem repsK_utr (f : Hld Z Hv) (hc : cl'.c = cl.c) (hn : cl'.ns = cl.ns) (ho : cl'.ob = cl.ob) : ∀ {v : List (L2.Key × V)} {d : List (D × D)}, RepsK K cl' Hv v d → noFnp d = true → RepsK K cl (utr Z Hv) v d
  | _, _, .nil, _ => .nil
  | _, _, .cons r t, q => by
    simp only [noFnp, Bool.and_eq_true] at q
    exact .cons (rep_utr f hc hn ho r q.1) (repsK_utr f hc hn ho t q.2)
theorem repsT_utr (f : Hld Z Hv) (hc : cl'.c = cl.c) (hn : cl'.ns = cl.ns) (ho : cl'.ob = cl.ob) : ∀ {v : List (List L2.Key × V)} {d : List (D × D)}, RepsT K cl' Hv v d → noFnp d = true → RepsT K cl (utr Z Hv) v d
  | _, _, .nil, _ => .nil
  | _, _, .cons r t, q => by
    simp only [noFnp, Bool.and_eq_true] at q
    exact .cons (rep_utr f hc hn ho r q.1) (repsT_utr f hc hn ho t q.2)
end
theorem utr0 : utr (fun _ => none) Hv = Hv := by funext b; rfl
theorem rep_cl {v : V} {d : D} (hc : cl'.c = cl.c) (hn : cl'.ns = cl.ns) (ho : cl'.ob = cl.ob) (r : Rep K cl' Hv v d) (q : noFn d = true) : Rep K cl Hv v d := by
  have := rep_utr (Z := fun _ => none) (cl := cl) (fun _ _ z => nomatch z) hc hn ho r q
  rw [utr0] at this; exact this
theorem reps_cl {v : List V} {d : List D} (hc : cl'.c = cl.c) (hn : cl'.ns = cl.ns) (ho : cl'.ob = cl.ob) (r : Reps K cl' Hv v d) (q : noFns d = true) : Reps K cl Hv v d := by
  have := reps_utr (Z := fun _ => none) (cl := cl) (fun _ _ z => nomatch z) hc hn ho r q
  rw [utr0] at this; exact this
end
end Sm
namespace Sm
open PySem PySem.Spec L2
structure Gro (H H1 : Hp) : Prop where
  get : ∀ b o, H b = some o → isTbl o = false → H1 b = some o
  dom : ∀ b, H1 b = none → H b = none
  tt : ∀ b ps, H b = some (.tbl ps) → ∃ ps', H1 b = some (.tbl ps')
theorem Gro.ext {cl : Glb} {Hv H H1 : Hp} (g : Gro H H1) (vw : Vw cl Hv H) (t : LamX.Tabs cl.T H1) : Ext cl Hv H (lift Hv H H1) H1 := by
  refine ext_lift vw (Hv' := H1) ⟨g.get, g.get, Vw.refl t, fun b o h n => ?_, g.dom, g.tt⟩
  rw [h] at n; cases n
theorem Gro.new {H : Hp} {a : Addr} {o : HO} (n : H a = none) : Gro H (upd H a o) where
  get := fun b u e _ => (upd_ne (ne_of_none e n)).trans e
  dom := fun b e => (upd_none e).2
  tt := fun b ps e => ⟨ps, (upd_ne (ne_of_none e n)).trans e⟩
theorem Gro.tbl {H : Hp} {a : Addr} {ps ps' : Array Value} (h : H a = some (.tbl ps)) : Gro H (upd H a (.tbl ps')) where
  get := fun b u e n => by
    by_cases z : b = a
    · rw [z, h] at e; cases e; cases n
    · exact (upd_ne z).trans e
  dom := fun b e => (upd_none e).2
  tt := fun b qs e => by
    by_cases z : b = a
    · exact ⟨ps', by rw [z]; exact upd_same⟩
    · exact ⟨qs, (upd_ne z).trans e⟩
theorem Gro.trans {H H1 H2 : Hp} (a : Gro H H1) (b : Gro H1 H2) : Gro H H2 where
  get := fun c o e n => b.get c o (a.get c o e n) n
  dom := fun c e => a.dom c (b.dom c e)
  tt := fun c ps e => let ⟨_, e'⟩ := a.tt c ps e; b.tt c _ e'
abbrev lobj (F : NdefX.NF) (body : Expr) (pm ctv : Value) : Obj := PySem.W.kla_obj F.name F.qual F.params body F.scope F.cl pm F.c ctv
abbrev lamF (X : Cx) (params : Arguments) (scope : Scope) (c : Addr) : NdefX.NF := ⟨"<lambda>", X.env.qual ++ "<lambda>", params, [], scope, cloFrom X.env.cells scope.names [], c⟩
section
variable {X : Cx} {pins : List (Addr × Obj)} {σ : St} {H : Hp} {s : Shared}
theorem fz_ok {P : Program} {w : World} {H : Hp} {h : Heap} {a : Addr} {o : Obj} (e : h.get? a = some o) : ObjOk P w H h a (Fz o) := ⟨e, o, e⟩
theorem lam_new {T : List (Addr × Str)} {c P : Addr} {params : Arguments} {body : Expr} {scope : Scope} {pos : Pos} {E Q : Value → Shared → Prop} (I : Inv X pins σ H s) (TB : LamX.TabB X.base X.mg c P) (hcode : X.env.code = .ref c)
    (mT : (P, X.env.qual ++ "<lambda>") ∈ T) (uT : ∀ p ∈ T, p.1 = P → p.2 = X.env.qual ++ "<lambda>") (hT : LamX.Tabs T H) (hdef : defaultsOf params X.env = ([], [])) (hfree : ∀ y ∈ scope.names, y.2 = .free → ∃ c, X.env.cells.lookup y.1 = some c)
    (k : ∀ (f c' : Addr) (pm ctv : Value) (H1 : Hp) (s' : Shared), Inv X pins σ H1 s' → Gro H H1 → LamX.Tabs T H1 → H1 f = some (Fz (lobj (lamF X params scope c') body pm ctv)) → H1 c' = some (LamX.CodeO c' (X.env.qual ++ "<lambda>")) → H f = none → (H c' = none ∨ H c' = some (LamX.CodeO c' (X.env.qual ++ "<lambda>"))) → Q (.ref f) s') :
    wpAny (model X.prog X.w) X.A (eval (.Lambda params body scope pos) X.env) Q E s := by
  obtain ⟨ps, tP, tO, tC⟩ := hT _ mT
  have oP : s.heap.get? P = some { cls := .none, data := .fields ps } := I.hok P _ tP
  have gl := I.mod.glob.keeps I.bk
  have cd := TB.code.keeps I.bk
  have bm := TB.bm.keeps I.bk
  refine PySem.W.kla_eval hdef ?_
  cases among : codeAmong pos ps.toList with
  | some cv =>
    obtain ⟨c', rfl, oc⟩ := tC pos cv among
    refine PySem.W.kla_makeFunctionHit (P := P) (closure_ok hfree) I.ok.glob gl hcode cd oP tO among bm
      fun ctv h' tk keep size => ?_
    have I1 : Inv X pins σ H { s with heap := h', toks := tk } := I.kept keep
    have free : H h'.objs.size = none := I1.hok.fresh (Nat.le_refl _)
    have I2 := I1.laid (a := h'.objs.size) (t' := tk) (o := Fz (lobj (lamF X params scope c') body ((X.mg "__name__").getD .none) ctv))
      (fun b u e => Heap.get?_push_of_some _ e) (Nat.le_refl _) (fz_ok (Heap.get?_push_size _ rfl))
    have g := Gro.new (o := Fz (lobj (lamF X params scope c') body ((X.mg "__name__").getD .none) ctv)) free
    exact k _ c' _ ctv _ _ I2 g (hT.ext (same_upd free)) upd_same (g.get _ _ oc rfl) free (.inr oc)
  | none =>
    refine PySem.W.kla_makeFunction (P := P) (closure_ok hfree) I.ok.glob gl hcode cd oP tO among TB.gP bm
      fun c' ctv h' tk keep lo hi rec tab => ?_
    obtain ⟨c2, oc, vs, t, e2, g1, g2, g3⟩ := rec
    cases e2
    have freeC : H c' = none := I.hok.fresh lo
    have I1 := LamX.inv_table (t' := tk) (h' := h') (q := X.env.qual ++ "<lambda>") I tP (fun b o n e => keep b o n e) tab lo ⟨oc, vs, t, g1, g2, g3⟩
    have free := I1.hok.fresh (Nat.le_refl _)
    have I2 := I1.laid (a := h'.objs.size) (t' := tk) (o := Fz (lobj (lamF X params scope c') body ((X.mg "__name__").getD .none) ctv))
      (fun b u e => Heap.get?_push_of_some _ e) (Nat.le_refl _) (fz_ok (Heap.get?_push_size _ rfl))
    have gA := Gro.tbl (ps' := ps ++ #[rawInt pos.line, rawInt pos.col, .ref c']) tP
    have freeC' : upd H P (.tbl (ps ++ #[rawInt pos.line, rawInt pos.col, .ref c'])) c' = none := by
      rw [upd_ne fun z => by rw [z, tP] at freeC; cases freeC]; exact freeC
    have gB := Gro.new (o := LamX.CodeO c' (X.env.qual ++ "<lambda>")) freeC'
    have gC := Gro.new (o := Fz (lobj (lamF X params scope c') body ((X.mg "__name__").getD .none) ctv)) free
    have g := gA.trans gB
    have isL : (ps ++ #[rawInt pos.line, rawInt pos.col, .ref c']).toList = ps.toList ++ [rawInt pos.line, rawInt pos.col, .ref c'] := by simp
    have T1 : LamX.Tabs T (upd (upd H P (.tbl (ps ++ #[rawInt pos.line, rawInt pos.col, .ref c']))) c' (LamX.CodeO c' (X.env.qual ++ "<lambda>"))) := by
      intro p hp
      by_cases same : p.1 = P
      · rw [uT p hp same, same]
        refine ⟨ps ++ #[rawInt pos.line, rawInt pos.col, .ref c'], ?_, ?_, ?_⟩
        · rw [upd_ne fun z => by rw [z] at tP; rw [tP] at freeC; cases freeC]; exact upd_same
        · rw [isL]; exact PySem.TriplesOk_snoc _ _ _ _ tO
        · intro p' cv hcv
          rw [isL] at hcv
          rcases LamX.among_app _ tO hcv with old | new
          · obtain ⟨c0, e1, e2⟩ := tC p' cv old
            exact ⟨c0, e1, g.get _ _ e2 rfl⟩
          · exact ⟨c', new, upd_same⟩
      · obtain ⟨qs, a1, a2, a3⟩ := hT p hp
        refine ⟨qs, ?_, a2, fun p' cv hcv => ?_⟩
        · have nc : p.1 ≠ c' := ne_of_none a1 freeC
          rw [upd_ne nc, upd_ne same]; exact a1
        · obtain ⟨c0, e1, e2⟩ := a3 p' cv hcv
          exact ⟨c0, e1, g.get _ _ e2 rfl⟩
    exact k _ c' _ ctv _ _ I2 (g.trans gC) (T1.ext (same_upd free)) upd_same (gC.get _ _ upd_same rfl) (I.hok.fresh (Nat.le_trans lo (Nat.le_of_lt hi))) (.inl freeC)
end
structure Mk (X : Cx) (T : List (Addr × Str)) : Prop where
  ex : ∃ c P, LamX.TabB X.base X.mg c P ∧ X.env.code = .ref c ∧ (P, X.env.qual ++ "<lambda>") ∈ T ∧ ∀ p ∈ T, p.1 = P → p.2 = X.env.qual ++ "<lambda>"
section
variable {X : Cx} {W : WX} {cl : Glb} {params : Arguments} {body e : Expr} {scope : Scope} {lpos : Pos} {es : List Expr} {fa : DE} {g : DA}
def tLamE (X : Cx) (T : List (Addr × Str)) (params : Arguments) (body : Expr) (scope : Scope) : TE := fun _ H Q => LamX.Tabs T H ∧ ∀ (f c' : Addr) (pm ctv : Value) (H1 : Hp), Gro H H1 → LamX.Tabs T H1 → H1 f = some (Fz (lobj (lamF X params scope c') body pm ctv)) → H1 c' = some (LamX.CodeO c' (X.env.qual ++ "<lambda>")) → H f = none → (H c' = none ∨ H c' = some (LamX.CodeO c' (X.env.qual ++ "<lambda>"))) → Q (.ref f) H1
theorem pe_lamE {T : List (Addr × Str)} (mk : Mk X T) (hdef : defaultsOf params X.env = ([], [])) (hfree : ∀ y ∈ scope.names, y.2 = .free → X.env.scope.names.lookup y.1 = some .cell ∨ X.env.scope.names.lookup y.1 = some .free) : PE X (.Lambda params body scope lpos) (tLamE X T params body scope) := by
  obtain ⟨c, P, TB, hc, mT, uT⟩ := mk.ex
  refine ⟨fun pins s σ H Q I h => lam_new I TB hc mT uT h.1 hdef (fun y hy e => ?_) fun f c' pm ctv H1 s' I1 g t1 h1 h2 h3 h4 => ⟨.ref f, H1, I1, rfl, h.2 f c' pm ctv H1 g t1 h1 h2 h3 h4⟩⟩
  rcases hfree y hy e with z | z
  · exact I.ok.has _ (.inl z)
  · exact I.ok.has _ (.inr z)
end
end Sm
namespace Sm
open PySem PySem.Spec L2
section
variable {X : Cx} {W : WX} {cl : Glb} {pos p : Pos} {e : Expr} {es : List Expr} {g : DA} {k n i : Nat} {x : Str} {F : List D → R D} {t : TA}
end
end Sm
namespace Sm
open PySem PySem.Spec L2
def capsD (js : List Nat) (ρ : Env) : List (Option D) := js.map fun j => (ρ[j]?).join
section
variable {X : Cx} {W : WX} {cl : Glb} {params : Arguments} {body e : Expr} {scope : Scope} {pos p : Pos} {es : List Expr} {g : DA} {k kb m : Nat} {x : Str} {gA : Addr} {fr ps : List Str} {js : List Nat} {t : TA} {fb : DE} {FF : (List D → R D) → List D → R D}
def lamB (sc scope : Scope) (ps fr : List Str) : Bool := NdefX.nscB (ps ++ fr) ps fr scope && scope.names.all (fun y => !decide (y.2 = .free) || decide (sc.names.lookup y.1 = some .cell) || decide (sc.names.lookup y.1 = some .free)) && fr.all (fun y => decide ((y, NameKind.free) ∈ scope.names))
theorem lam_free {sc : Scope} (h : lamB sc scope ps fr = true) : ∀ y ∈ scope.names, y.2 = .free → sc.names.lookup y.1 = some .cell ∨ sc.names.lookup y.1 = some .free := fun y hy e => by
  unfold lamB at h
  simp only [Bool.and_eq_true, Bool.or_eq_true, Bool.not_eq_true', List.all_eq_true, decide_eq_true_eq, decide_eq_false_iff_not] at h
  rcases h.1.2 y hy with (z | z) | z
  · exact absurd e z
  · exact .inl z
  · exact .inr z
theorem lam_fr {sc : Scope} (h : lamB sc scope ps fr = true) : ∀ y ∈ fr, (y, NameKind.free) ∈ scope.names := fun y hy => by
  unfold lamB at h
  simp only [Bool.and_eq_true, List.all_eq_true, decide_eq_true_eq] at h
  exact h.2 y hy
theorem lam_sc {sc : Scope} (h : lamB sc scope ps fr = true) : NdefX.NScope (ps ++ fr) ps fr scope := by
  unfold lamB at h
  simp only [Bool.and_eq_true] at h
  exact NdefX.nscope_by h.1.1
abbrev lamX (X : Cx) (params : Arguments) (scope : Scope) (N : List Str) (f c' : Addr) (A : Around) (outer : List PySem.Env) (s : Shared) (H : Hp) (E : XK) : Cx := NdefX.ncx (L2.CX X.prog X.w) X.prog X.w X.K X.mg X.base N (lamF X params scope c') f A outer s H E
end
def lq (x : Str) : Str := (x ++ ".<locals>.") ++ "<lambda>"
structure FunC (K : PySem.W.Frag) (x : Str) (st : Stmt) (f : Addr) (fd : FuncData) (c : Addr) : Prop where
  ex : ∃ (oc : Value) (od : Option Addr) (kV doc pm : Value) (an : Option Addr) (ct : Value) (osl : Array (Option Value)),
    fd = PySem.W.fnOf x x (defArgs st) (defBody st) (defScope st) .none kV doc pm an (.ref c) ct ∧ K.lookup f = some ⟨oc, od, .func fd, osl⟩ ∧ PySem.W.codeIn K (.ref c) x = true
  kp : PySem.W.keepIn K (.ref f) = true
theorem okC {P : Program} {w : World} {K : PySem.W.Frag} {mg : Str → Option Value} {base : Heap} {x : Str} {st : Stmt} {f : Addr} {fd : FuncData} {c : Addr} {N ps : List Str} {k : Nat} {sp : Sp} (F : FunC K x st f fd c) (S : FnScope N ps (defScope st)) (len : ∀ vs H Q E, sp vs H Q E → vs.length = ps.length)
    (h : ∀ (A : Around) (outer : List PySem.Env) (s : Shared) (H : Hp) (vs : List V) (Q : VK) (E : XK), Room k (A.deeper (PyProof.Rows.envOfC x (defScope st) s.heap.objs.size f (.ref c))) → sp vs H Q E →
      ∃ t, PSs (cxOf (L2.CX P w) P w K mg base N x (defScope st) f (.ref c) A outer s H E) (defBody st) t ∧ t { nx := fun _ H' => Q .non H', rt := Q } (start N vs) H) : FnOk P w K mg base (L2.CX P w) (k + 1) f fd ps sp := by
  obtain ⟨oc, od, kV, doc, pm, an, ct, osl, rfl, lk, hcd⟩ := F.ex
  exact fn_of lk hcd S len h
end Sm
namespace Sm
open PySem PySem.Spec L2
structure TabAt (base : Heap) (mg : Str → Option Value) (cl : Glb) (x : Str) (c : Addr) : Prop where
  ex : ∃ P, LamX.TabB base mg c P ∧ (P, lq x) ∈ cl.T ∧ ∀ p ∈ cl.T, p.1 = P → p.2 = lq x
def spT (K : PySem.W.Frag) (cs : List (Addr × Addr)) : Sp := fun vs H Q _ => ∃ (a : Addr) (ns : List Int), vs = [.ref a] ∧ SqL K H a (ns.map V.int) ∧ ns.length ≤ 63 ∧ (∀ p ∈ cs, H p.2 = some (.tbl #[])) ∧ ∀ H', Q (.bl true) H'
abbrev AllTabs (q : Program) (mg : Str → Option Value) (h : Heap) : Prop := ∀ d ∈ PyProof.Rows.recsOf q, ∃ a o fd c P, mg d.name = some (.ref a) ∧ h.get? a = some o ∧ o.data = .func fd ∧ fd.code = .ref c ∧ h.IsCode c P #[] ∧ h.TableAt c P #[]
theorem tab_of {q : Program} {mg : Str → Option Value} {h : Heap} {K : PySem.W.Frag} {x : Str} {f c P : Addr} {oc e : Value} {od dd : Option Addr} {fd : FuncData} {sl sl' : Array (Option Value)} {vs : Array Value} (tabs : AllTabs q mg h) (hrec : ((PyProof.Rows.recsOf q).any fun e => e.name == x) = true) (hm : mg x = some (.ref f)) (KX : K.In h)
    (lk : K.lookup f = some ⟨oc, od, .func fd, sl⟩) (hcd : fd.code = .ref c) (lc : K.lookup c = some ⟨e, dd, .fields vs, sl'⟩) (v11 : vs[11]? = some (.ref P)) : h.get? P = some { cls := .none, data := .fields #[] } ∧ PySem.W.CodeHd h c P := by
  obtain ⟨d, hd, hx⟩ := List.any_eq_true.mp hrec
  have hx : d.name = x := beq_iff_eq.mp hx
  obtain ⟨a, o, fd', c', P', h1, h2, h3, h4, h5, h6⟩ := tabs d hd
  rw [hx, hm] at h1
  cases h1
  rw [KX _ _ lk] at h2
  cases h2
  cases h3
  rw [hcd] at h4
  cases h4
  have hd := PySem.W.CodeHd.of h5 h6
  obtain ⟨⟨o1, v1, g1, _, g3, g4⟩, hP⟩ := h6
  rw [KX _ _ lc] at g1
  cases g1
  cases g3
  rw [v11] at g4
  cases g4
  exact ⟨hP, hd⟩
theorem walk_all {l : PySem.W.OpenLaw} {n k : Nat} {q : Program} {loose : List Str} {XP : (Str → Option Value) → Heap → Prop} {YP : World → Heap → Prop} {d : DefRec} {K : Params → PySem.W.Frag} {CX : World → CXT} {x : Str}
    (hn : l.most = some n) (hn2 : n ≤ sizeLine) (hdf : d.params.defaults = []) (hr : Room k callerA) (hY : ∀ (w : World) (h : Heap), YP w h → (K w.params).In h)
    (F : ∀ (w : World) (mg : Str → Option Value) (fa : Addr) (h : Heap), (K w.params).In h → h.Ns mainGlobals mg → mg d.name = some (.ref fa) → AllTabs q mg h → LamX.LawAtS l w (K w.params) (CX w) k n x mg fa h)
    (hCX : ∀ (w : World) (H : Hp) (s : Shared) (e : Value) (s' : Shared), CX w [] H s (fun _ _ _ => False) e s' → False) : PySem.W.WalkO q loose XP YP l.row.toRowW d [] (fun f vs => PySem.call f vs) := by
  refine Att.attach_callB hn hdf fun w s0 s1 mg mb fa o pm cd doc a vs ns G Y ho hd hcd hmg hobj hints hlen hbits hg => ?_
  have KX := hY w _ Y
  obtain ⟨fd, cs, sp, hT, nT, C, hb, hsp, hF⟩ := F w mg fa _ KX G.T.g hmg G.T.tab
  exact LamX.law_callTs KX G.T.g G.T.b G.T.builtins G.T.nolimit hg hT nT C G.T.bmain hobj hints (Nat.le_trans hlen hn2) hr hF hb
    (fun H hH hS => hsp H a ns hlen hbits hH hS) (fun H e s' => hCX w H s1 e s')
end Sm
namespace Sm
open PySem PySem.Spec L2
structure RoomN (k : Nat) (A : Around) : Prop where
  dp : A.depth + 3 * k + 5 < recursionLimit
  un : A.units + 16 * k + 200 < cLine
theorem RoomN.of {k : Nat} {A : Around} (r : Room k A) : RoomN k A := ⟨r.dp, r.un⟩
theorem RoomN.mono {j k : Nat} {A : Around} (r : RoomN k A) (h : j ≤ k) : RoomN j A := ⟨by have := r.dp; omega, by have := r.un; omega⟩
theorem RoomN.u65 {k : Nat} {A : Around} (r : RoomN k A) : A.units + 65 < cLine := by have := r.un; omega
theorem RoomN.units {k : Nat} {A : Around} (r : RoomN k A) : A.units + 64 < cLine := by have := r.un; omega
theorem RoomN.mark {k : Nat} {A : Around} {v : Option Value} (r : RoomN k A) : RoomN k (A.mark v) := ⟨r.dp, r.un⟩
theorem RoomN.deeper {k : Nat} {A : Around} (r : RoomN (k + 1) A) (env : PySem.Env) : RoomN k (A.deeper env) :=
  ⟨by have := r.dp; show A.depth + 1 + 3 * k + 5 < _; omega, by have := r.un; show A.units + 3 + 16 * k + 200 < _; omega⟩
abbrev cxN (P : Program) (w : World) (K : PySem.W.Frag) (mg : Str → Option Value) (base : Heap) (N : List Str) (x : Str) (scope : Scope) (f : Addr) (cd : Value) (A : Around) (outer : List PySem.Env) (s : Shared) (H : Hp) (E : XK) : Cx :=
  { cxOf (L2.CX P w) P w K mg base N x scope f cd A outer s H E with calm := false }
structure FnN (P : Program) (w : World) (K : PySem.W.Frag) (mg : Str → Option Value) (base : Heap) (cl : Glb) (k : Nat) (x : Str) (n : Nat) (F : List D → R D) : Prop where
  ex : ∃ f fd ps, (∀ (A : Around) (outer : List PySem.Env) (s : Shared) (H : Hp) (as : Args) (us : List Value) (vs : List V) (Q : VK) (E : XK), RoomN k A → Env0 P w K mg base A outer s H → BindsTo s fd as (ps.zip us) → Vals vs us → spF K cl n F vs H Q E →
      codeAny (model P w) A (.call (.ref f) as) (CR (L2.CX P w) outer P w H s Q E) s) ∧ mg x = some (.ref f) ∧ PySem.W.keepIn K (.ref f) = true ∧ Binds K fd ps [] ∧ ps.length = n
theorem fnN_mk {P : Program} {w : World} {K : PySem.W.Frag} {mg : Str → Option Value} {base : Heap} {cl : Glb} {k n m : Nat} {x : Str} {st : Stmt} {f : Addr} {fd : FuncData} {N ps : List Str} {den : DS} {own : List Nat}
    (F : Fun K x x st f fd) (S : FnScope N ps (defScope st)) (hm : mg x = some (.ref f)) (hb : Binds K fd ps []) (hn : ps.length = n) (hN : N.length = m)
    (h : ∀ (cdv : Value) (A : Around) (outer : List PySem.Env) (s : Shared) (H : Hp) (E : XK), RoomN k (A.deeper (PyProof.Rows.envOfC x (defScope st) s.heap.objs.size f cdv)) →
      SSs (cxN P w K mg base N x (defScope st) f cdv A outer s H E) (fun cls d _ H => E cls d H) cl [] own (defBody st) den) :
    FnN P w K mg base cl (k + 1) x n (defD n m den) := by
  refine ⟨f, fd, ps, fun A outer s H as us vs Q E hr e0 bd r hsp => ?_, hm, F.kp, hb, hn⟩
  obtain ⟨oc, od, kV, doc, pm, an, cdv, ct, osl, rfl, lk, hcd⟩ := F.ex
  obtain ⟨hv, Hv, ds, vw, rs, po⟩ := hsp
  have hl : vs.length = ps.length := hv.trans hn.symm
  have KX : K.In s.heap := e0.mod.kin.keeps fun b o e => (e0.bs b o e).1
  have lim : s.heap.NoLimit := e0.mod.nolimit.keeps fun b o e => (e0.bs b o e).1
  have kinds : ∀ y ∈ ps.zip us, (defScope st).names.lookup y.1 = some .local ∨ ((defScope st).names.lookup y.1 = some .cell ∧ ((cellsFrom (s.heap.objs.size + 1) (defScope st).names []).lookup y.1).isSome = true) := fun y hy =>
    (S.par y.1 (List.of_mem_zip hy).1).imp id fun z => ⟨z, PySem.W.cellsFrom_some _ _ _ (.inl z)⟩
  have deep : A.depth < recursionLimit := by have := hr.dp; omega
  refine codeAny_call_function deep (KX _ _ lk) rfl S.co S.gen rfl (PySem.W.codeRec_of KX hcd) (bd _ _ _ _ (wpAny_newFunctionEnv_cells S.kind kinds fun env he s1 x1 => ?_))
  subst he
  refine ⟨lim.keeps x1.toInCall.keep, codeAny_func ?_⟩
  obtain ⟨t, pt, run⟩ := h cdv A outer s H E (hr.deeper _)
  have e1 : Env0 P w K mg base { A with handled := none } outer s H := ⟨e0.frames, e0.mod, e0.bs, e0.bsz, e0.funs, e0.frf, e0.hok, e0.bare⟩
  have J := inv_start (CX := L2.CX P w) (E := E) S rfl e1 hl r x1
  have I : Inv (cxN P w K mg base N x (defScope st) f cdv A outer s H E) [] (start N vs) H s1 := by
    have ok := J.ok
    exact ⟨⟨ok.mod, ok.kind, ok.glob, ok.blt, ok.above, ok.inj, ok.has, ok.cab, fun z => Bool.noConfusion (show false = true from z), Around.frames_deeper e0.frames, ok.stk, ok.exf, ok.bs, ok.bsz, ok.noex, ok.exfs, ok.funs, ok.frf⟩, J.os, J.bare, J.base, J.loc, J.cell, J.free, J.freeC, J.pin, J.hok, J.len⟩
  have hd : ds.length = n := by rw [← rs.length]; exact hv
  have hlen : (args N.length ds).length = (start N vs).length := by
    unfold args L2.start
    rw [List.length_append, List.length_append, List.length_map, List.length_map, List.length_replicate, List.length_replicate, rs.length]
  have rd := run Hv H (args N.length ds) (start N vs) Hv H { nx := fun _ H' => Q .non H', rt := Q } ⟨Ext.refl vw, hlen, fun i d _ e => args_get rs e, fun i hi => absurd hi (by simp), fun i j p hi => absurd hi (by simp)⟩ J.len (by
    unfold defD at po
    rw [if_pos hd] at po
    rw [hN]
    cases q : den (args m ds) with
    | nx ρ =>
      rw [q] at po
      exact fun σ' Hv' H' sr sm hl => po Hv' H' sr.ext .non .non
    | ret d =>
      rw [q] at po
      exact fun v Hv' H' e r' => po Hv' H' e v r'
    | err ρ c =>
      rw [q] at po
      exact fun σ' Hv' H' sr _ hl => po Hv' H' sr.ext
    | bad => rw [q] at po; exact po.elim)
  refine wpAny_mono (pt.run [] s1 (start N vs) H _ I rd) (fun fl s' hs => ?_) fun e s' hs => hs
  cases fl with
  | ret u => obtain ⟨v, σ', H', J', rv, q⟩ := hs; exact ⟨v, H', J'.os, J'.bare, J'.base, J'.hok, rv, q⟩
  | next => obtain ⟨σ', H', J', q⟩ := hs; exact ⟨.non, H', J'.os, J'.bare, J'.base, J'.hok, rfl, q⟩
  | brk => obtain ⟨_, _, _, q⟩ := hs; exact False.elim q
  | cont => obtain ⟨_, _, _, q⟩ := hs; exact False.elim q
section
variable {X : Cx} {W : WX} {cl : Glb} {pos p : Pos} {a e e1 e2 : Expr} {es : List Expr} {g : DA} {k n i : Nat} {x : Str} {F : List D → R D} {fa f1 f2 : DE} {own : List Nat}
theorem se_callN (G : FnN X.prog X.w X.K X.mg X.base cl k x n F) (hr : RoomN k X.A) (tk : Takes X W) (ha : SA X W cl (e :: es) g) (hg : Gl X x := by rfl) (hn : (e :: es).length = n := by rfl) (hdb : (x == ("__debug__" : Str)) = false := by decide)
    (he : starEach (e :: es) X.env = (false, eval e X.env) :: starEach es X.env := by rfl) (hpl : (backTo pos (starEach es X.env)).any (·.1) = false := by rfl) : SE X W cl (.Call (.Name x p) (e :: es) [] pos) (dCall F g) := by
  obtain ⟨f, fd, ps, h1, h2, h3, h4, h5⟩ := G.ex
  obtain ⟨ta, pa, ha, hl⟩ := ha
  refine ⟨fun σ H Q => ta σ H fun vs H1 => spF X.K cl n F vs H1 Q (WE W σ), ⟨fun pins s σ H Q I h => wpAny_Call_Name_kw (ld_glob I hg h2 ?_ hdb)⟩, fun Hv H σ ρ Q vw er pv => ?_⟩
  · refine PySem.W.callWith_K (h₀ := X.base) I.ok.mod.kin h3 (thn (pa.run pos pins s σ H _ I h) fun us s1 ⟨vs, H1, I1, r, q⟩ => ⟨I1.kIn, ?_⟩) he hpl
    have lu : us.length = ps.length := by rw [← r.length, h5]; exact q.1
    have b := h4 s1 us I1.kIn (by rw [List.append_nil]; exact lu)
    rw [List.append_nil] at b
    show wpAny _ _ (call (.ref f) us) _ _ _
    refine wpAny_call (codeAny_mono (h1 X.A X.stack s1 H1 ⟨us, []⟩ us vs Q (WE W σ) hr I1.env0 b r q) fun o s' q' => ?_)
    cases o with
    | error u => exact passAt tk σ pins H1 s1 u s' I1 q'
    | ok fl =>
      cases fl with
      | ret u => exact I1.after q'
      | next => exact False.elim q'
      | brk => exact False.elim q'
      | cont => exact False.elim q'
  · refine ha Hv H σ ρ _ vw er (bindP pv fun ds Hv1 H1 ex e1 pv1 v rv => ⟨?_, Hv1, ds, e1.vh, rv, ?_⟩)
    · rw [rv.length, hl ρ ds ex]; exact hn
    · cases q : F ds with
      | ok d => rw [q] at pv1; exact pv1
      | err c => rw [q] at pv1; exact pv1
      | bad => rw [q] at pv1; exact pv1.elim
theorem ss_setH {p' : Pos} (nd : X.N.Nodup) (ha : SE X W cl a fa) (hi : X.N[i]? = some x := by rfl) (hx : Loc X.env.scope x := by first | exact Or.inl rfl | exact Or.inr rfl) (hs : swapsWith a (some (.Name x p')) pos.line X.env = pure false := by rfl)
    (hf : X.fn x = true ∨ X.env.scope.names.lookup x = some .local := by first | exact .inl rfl | exact .inr rfl | assumption) : SS X W cl own (nots own i) (.Assign [.Name x p'] a pos) (dSet own i fa) := by
  obtain ⟨ta, pa, ha⟩ := ha
  refine ⟨_, ps_set nd hi hx pa hs hf, fun Hv0 H0 ρ σ Hv H Dn sr hl po => ?_⟩
  refine ha Hv H σ _ _ sr.ext.vh sr.er (use_mask sr hl po fun d Hv' H' _ e sr' po' v r => ?_)
  exact po' _ Hv' H' (sr'.set nots_mem r nots_or) (Sam.refl _) (by rw [List.length_set]; exact hl)
end
end Sm
namespace Sm
open PySem PySem.Spec L2
section
variable {X : Cx} {W : WX} {cl : Glb} {pos p : Pos} {a b c e : Expr} {es : List Expr} {fa fb : DE} {g : DA} {own : List Nat}
end
section
variable {K : PySem.W.Frag} {cl : Glb} {Hv0 H0 Hv H Hv' H' : Hp} {own : List Nat} {ρ : Env} {σ : St}
theorem SR.hid {i : Nat} {p : Addr} {o : HO} {d : D} (s : SR K cl Hv0 H0 own ρ σ Hv H) (hp : H p = some o) (hv : Hv p = none) (h0 : H0 p = none) (r : OwnO K cl Hv o d) (hi : i < σ.length) (hq : ∀ j ∈ own, σ[j]? ≠ some (some (.ref p))) :
    SR K cl Hv0 H0 (i :: nots own i) (ρ.set i (some d)) (σ.set i (some (.ref p))) Hv H := by
  have mem : ∀ j, j ∈ i :: nots own i → j ≠ i → j ∈ own := fun j h n => by
    rcases List.mem_cons.mp h with z | z
    · exact absurd z n
    · exact (nots_mem j z).1
  refine ⟨s.ext, ?_, fun j d h1 h2 => ?_, fun j hj => ?_, fun j k q h1 h2 e1 e2 => ?_⟩
  · rw [List.length_set, List.length_set]; exact s.len
  · have hj : j ≠ i := fun z => h1 (by rw [z]; exact List.mem_cons_self)
    rw [List.getElem?_set_ne (Ne.symm hj)] at h2 ⊢
    exact s.sh j d (fun z => h1 (List.mem_cons_of_mem _ ((nots_or j z).resolve_right hj))) h2
  · by_cases hji : j = i
    · subst hji
      exact ⟨p, d, List.getElem?_set_self (by rw [s.len]; exact hi), List.getElem?_set_self hi, hv, h0, o, hp, r⟩
    · rw [List.getElem?_set_ne (Ne.symm hji), List.getElem?_set_ne (Ne.symm hji)]
      exact s.ow j (mem j hj hji)
  · have key : ∀ m, m ∈ i :: nots own i → m ≠ i → (σ.set i (some (.ref p)))[m]? = some (some (.ref p)) → False := fun m hm n e => by
      rw [List.getElem?_set_ne (Ne.symm n)] at e
      exact hq m (mem m hm n) e
    have self : (σ.set i (some (.ref p)))[i]? = some (some (.ref p)) := List.getElem?_set_self hi
    by_cases hj : j = i
    · by_cases hk : k = i
      · rw [hj, hk]
      · rw [hj, self] at e1
        cases e1
        exact (key k h2 hk e2).elim
    · by_cases hk : k = i
      · rw [hk, self] at e2
        cases e2
        exact (key j h1 hj e1).elim
      · rw [List.getElem?_set_ne (Ne.symm hj)] at e1
        rw [List.getElem?_set_ne (Ne.symm hk)] at e2
        exact s.ap j k q (mem j h1 hj) (mem k h2 hk) e1 e2
def RO (K : PySem.W.Frag) (cl : Glb) (Hv H : Hp) : List Bool → Hp → List V → List D → Prop
  | [], _, [], [] => True
  | false :: bs, H0, v :: vs, d :: ds => Rep K cl Hv v d ∧ RO K cl Hv H bs H0 vs ds
  | true :: bs, H0, v :: vs, d :: ds => ∃ p o H1, v = .ref p ∧ H0 p = none ∧ H1 p = some o ∧ (∀ b, H1 b = none → H0 b = none) ∧ Hv p = none ∧ H p = some o ∧ OwnO K cl Hv o d ∧ RO K cl Hv H bs H1 vs ds
  | _, _, _, _ => False
end
section
variable {X : Cx} {W : WX} {cl : Glb} {pos p : Pos} {a b c e : Expr} {es : List Expr} {fa fb : DE} {g g1 : DA} {own : List Nat} {fl : List Bool}
def SAo (X : Cx) (W : WX) (cl : Glb) (es : List Expr) (f : DA) (fl : List Bool) : Prop := ∃ t, PA X es t ∧ ∀ (Hv H : Hp) (σ : St) (ρ : Env) (Q : List V → Hp → Prop), Vw cl Hv H → ER X.K cl Hv ρ σ →
  Pst cl W σ Hv H (fun Hv' H' ds => ∀ vs, RO X.K cl Hv' H' fl H vs ds → Q vs H') (f ρ) → t σ H Q
theorem SAo.len : ∀ {fl : List Bool} {K : PySem.W.Frag} {Hv H H0 : Hp} {vs : List V} {ds : List D}, RO K cl Hv H fl H0 vs ds → vs.length = fl.length ∧ ds.length = fl.length
  | [], _, _, _, _, [], [], _ => ⟨rfl, rfl⟩
  | false :: fl, _, _, _, _, v :: vs, d :: ds, h => by have := SAo.len h.2; simp [this.1, this.2]
  | true :: fl, _, _, _, _, v :: vs, d :: ds, ⟨_, _, _, _, _, _, _, _, _, _, h⟩ => by have := SAo.len h; simp [this.1, this.2]
  | [], _, _, _, _, _ :: _, _, h => h.elim
  | [], _, _, _, _, [], _ :: _, h => h.elim
  | true :: _, _, _, _, _, [], _, h => h.elim
  | true :: _, _, _, _, _, _ :: _, [], h => h.elim
  | false :: _, _, _, _, _, [], _, h => h.elim
  | false :: _, _, _, _, _, _ :: _, [], h => h.elim
end
end Sm
namespace Sm
open PySem PySem.Spec L2
section
variable {K : PySem.W.Frag} {cl : Glb} {H Hv : Hp} {a : Addr} {x y : HO}
end
section
variable {X : Cx} {W : WX} {cl : Glb} {pos p : Pos} {a b c e tg : Expr} {es : List Expr} {fa fb f : DE}
theorem RepsT.length {K : PySem.W.Frag} {H : Hp} : ∀ {kvs : List (List L2.Key × V)} {es : List (D × D)}, RepsT K cl H kvs es → kvs.length = es.length
  | _, _, .nil => rfl
  | _, _, .cons _ t => by rw [List.length_cons, List.length_cons, RepsT.length t]
end
end Sm
namespace Sm
open PySem PySem.Spec L2
section
variable {X : Cx} {W : WX} {cl : Glb} {pos : Pos} {e elt tg iter : Expr} {ifs : List Expr} {scope : Scope} {own : List (Str × Nat)} {pt : Pat} {it : DI} {t : DT} {f : DE} {ow ow1 : List Nat}
end
end Sm
namespace Sm
open PySem PySem.Spec L2
structure Pl where
  own : D
  now : D
  past : List D
  later : List D
abbrev PLS := List Pl
inductive RP (α : Type) where
  | ok (a : α) (ps : PLS) | err (c : Nat) (ps : PLS) | bad
def RP.bind {α β : Type} : RP α → (α → PLS → RP β) → RP β
  | .ok a ps, k => k a ps
  | .err c ps, _ => .err c ps
  | .bad, _ => .bad
def R.up {α : Type} (ps : PLS) : R α → RP α
  | .ok a => .ok a ps
  | .err c => .err c ps
  | .bad => .bad
structure Ft where
  x : Addr
  dx : Addr
  p : Addr
  l : Addr
def Ft.all (f : Ft) : List Addr := [f.x, f.dx, f.p, f.l]
def feet (F : List Ft) : List Addr := F.flatMap Ft.all
def obA (F : List Ft) : Nat → Addr → Prop := fun k a => (F[k]?).map Ft.x = some a
def Glb.at (cl : Glb) (F : List Ft) : Glb := { cl with ob := obA F }
theorem mem_feet {F : List Ft} {b : Addr} : b ∈ feet F ↔ ∃ f ∈ F, b ∈ f.all := by unfold feet; exact List.mem_flatMap
section
variable {K : PySem.W.Frag} {cl : Glb} {F F' : List Ft}
theorem Vw.to {cl' : Glb} {Hv H : Hp} (v : Vw cl Hv H) (h : cl'.T = cl.T) : Vw cl' Hv H := ⟨v.s, v.d, v.t, v.z, by rw [h]; exact v.tab, v.x⟩
theorem Vw.at {Hv H : Hp} (v : Vw cl Hv H) : Vw (cl.at F) Hv H := v.to rfl
theorem Vw.un {Hv H : Hp} (v : Vw (cl.at F) Hv H) : Vw cl Hv H := v.to rfl
mutual
theorem Rep.ob {H : Hp} (h : ∀ k a, obA F k a → obA F' k a) : ∀ {v : V} {d : D}, Rep K (cl.at F) H v d → Rep K (cl.at F') H v d
  | _, _, .non => .non
  | _, _, .bl b => .bl b
  | _, _, .int i => .int i
  | _, _, .str x => .str x
  | _, _, .lst e n r => .lst e n (Reps.ob h r)
  | _, _, .scr e n => .scr e n
  | _, _, .scr0 e n => .scr0 e n
  | _, _, .tup e n r => .tup e n (Reps.ob h r)
  | _, _, .dctK e r => .dctK e (RepsK.ob h r)
  | _, _, .dctT e n r => .dctT e n (RepsT.ob h r)
  | _, _, .exc e => .exc e
  | _, _, .fnv e => .fnv e
  | _, _, .obj e => .obj (h _ _ e)
  | _, _, .dclK e r => .dclK e (RepsK.ob h r)
  | _, _, .dclT e n r => .dclT e n (RepsT.ob h r)
  | _, _, .scr1 e n => .scr1 e n
theorem Reps.ob {H : Hp} (h : ∀ k a, obA F k a → obA F' k a) : ∀ {v : List V} {d : List D}, Reps K (cl.at F) H v d → Reps K (cl.at F') H v d
  | _, _, .nil => .nil
  | _, _, .cons r t => .cons (Rep.ob h r) (Reps.ob h t)
theorem RepsK.ob {H : Hp} (h : ∀ k a, obA F k a → obA F' k a) : ∀ {v : List (L2.Key × V)} {d : List (D × D)}, RepsK K (cl.at F) H v d → RepsK K (cl.at F') H v d
  | _, _, .nil => .nil
  | _, _, .cons r t => .cons (Rep.ob h r) (RepsK.ob h t)
theorem RepsT.ob {H : Hp} (h : ∀ k a, obA F k a → obA F' k a) : ∀ {v : List (List L2.Key × V)} {d : List (D × D)}, RepsT K (cl.at F) H v d → RepsT K (cl.at F') H v d
  | _, _, .nil => .nil
  | _, _, .cons r t => .cons (Rep.ob h r) (RepsT.ob h t)
end
end
structure ExtE (cl : Glb) (F : List Ft) (Hv H : Hp) (F' : List Ft) (Hv' H' : Hp) : Prop where
  hh : ∀ b o, H b = some o → isTbl o = false → b ∉ feet F → H' b = some o
  vv : Sam Hv Hv'
  vh : Vw cl Hv' H'
  old : ∀ b o, H b = some o → Hv b = none → Hv' b = none
  dom : ∀ b, H' b = none → H b = none
  tt : ∀ b ps, H b = some (.tbl ps) → ∃ ps', H' b = some (.tbl ps')
  ob : ∀ k a, obA F k a → obA F' k a
  ft : ∀ b, b ∈ feet F' → b ∈ feet F ∨ H b = none
section
variable {K : PySem.W.Frag} {cl : Glb} {F F1 F2 F' : List Ft} {Hv H Hv1 H1 Hv2 H2 Hv' H' : Hp}
theorem ExtE.refl (v : Vw cl Hv H) : ExtE cl F Hv H F Hv H := ⟨fun _ _ h _ _ => h, Sam.refl _, v, fun _ _ _ h => h, fun _ h => h, fun _ ps h => ⟨ps, h⟩, fun _ _ h => h, fun _ h => .inl h⟩
theorem ExtE.trans (a : ExtE cl F Hv H F1 Hv1 H1) (b : ExtE cl F1 Hv1 H1 F2 Hv2 H2) : ExtE cl F Hv H F2 Hv2 H2 where
  hh := fun c o h n hf => b.hh c o (a.hh c o h n hf) n fun z => (a.ft c z).elim hf fun y => by rw [h] at y; cases y
  vv := a.vv.trans b.vv
  vh := b.vh
  old := fun c o h n => by
    cases q : H1 c with
    | none => rw [a.dom c q] at h; cases h
    | some u => exact b.old c u q (a.old c o h n)
  dom := fun c h => a.dom c (b.dom c h)
  tt := fun c ps h => let ⟨ps', h'⟩ := a.tt c ps h; b.tt c ps' h'
  ob := fun k x h => b.ob k x (a.ob k x h)
  ft := fun c h => by
    rcases b.ft c h with h | h
    · exact a.ft c h
    · exact .inr (a.dom c h)
theorem ExtE.of (e : Ext (cl.at F) Hv H Hv' H') : ExtE cl F Hv H F Hv' H' := ⟨fun b o h n _ => e.hh b o h n, e.vv, e.vh.un, e.old, e.dom, e.tt, fun _ _ h => h, fun _ h => .inl h⟩
theorem Rep.ee {v : V} {d : D} (r : Rep K (cl.at F) Hv v d) (e : ExtE cl F Hv H F' Hv' H') : Rep K (cl.at F') Hv' v d := (r.ob e.ob).mono e.vv
theorem Reps.ee {v : List V} {d : List D} (r : Reps K (cl.at F) Hv v d) (e : ExtE cl F Hv H F' Hv' H') : Reps K (cl.at F') Hv' v d := (r.ob e.ob).mono e.vv
theorem ER.ee {ρ : Env} {σ : St} (r : ER K (cl.at F) Hv ρ σ) (e : ExtE cl F Hv H F' Hv' H') : ER K (cl.at F') Hv' ρ σ := ⟨fun i d h => let ⟨v, h1, h2⟩ := r.get i d h; ⟨v, h1, h2.ee e⟩, r.len⟩
end
structure PlAt (K : PySem.W.Frag) (cl : Glb) (C : Addr) (Hv H : Hp) (f : Ft) (pl : Pl) : Prop where
  ins : ∃ vo vn, H f.x = some (.ins C f.dx [("own", vo), ("now", vn), ("past", .ref f.p), ("later", .ref f.l)]) ∧ Rep K cl Hv vo pl.own ∧ Rep K cl Hv vn pl.now
  own : H f.dx = some (.own f.x)
  past : ∃ vs, H f.p = some (.lst vs) ∧ vs.length ≤ sizeLine ∧ Reps K cl Hv vs pl.past
  later : ∃ vs, H f.l = some (.lst vs) ∧ vs.length ≤ sizeLine ∧ Reps K cl Hv vs pl.later
  hid : ∀ a ∈ f.all, Hv a = none
structure Pls (K : PySem.W.Frag) (cl : Glb) (C : Addr) (F : List Ft) (ps : PLS) (Hv H : Hp) : Prop where
  len : F.length = ps.length
  pl : ∀ (k : Nat) f q, F[k]? = some f → ps[k]? = some q → PlAt K (cl.at F) C Hv H f q
  nd : (feet F).Nodup
  ob0 : ∀ k a, cl.ob k a → obA F k a
section
variable {K : PySem.W.Frag} {cl : Glb} {C : Addr} {F F1 F2 F' : List Ft} {Hv H Hv1 H1 Hv2 H2 Hv' H' : Hp} {ps : PLS}
theorem PlAt.full {f : Ft} {q : Pl} (h : PlAt K cl C Hv H f q) : ∀ a ∈ f.all, ∃ o, H a = some o ∧ isTbl o = false := fun a ha => by
  obtain ⟨vo, vn, h1, _⟩ := h.ins
  obtain ⟨vs, h2, _⟩ := h.past
  obtain ⟨us, h3, _⟩ := h.later
  simp only [Ft.all, List.mem_cons, List.not_mem_nil, or_false] at ha
  rcases ha with rfl | rfl | rfl | rfl
  · exact ⟨_, h1, rfl⟩
  · exact ⟨_, h.own, rfl⟩
  · exact ⟨_, h2, rfl⟩
  · exact ⟨_, h3, rfl⟩
theorem PlAt.mono {f : Ft} {q : Pl} (h : PlAt K cl C Hv H f q) (hs : ∀ a ∈ f.all, ∀ o, H a = some o → isTbl o = false → H' a = some o) (hv : Sam Hv Hv') (hn : ∀ a ∈ f.all, Hv' a = none) : PlAt K cl C Hv' H' f q := by
  obtain ⟨vo, vn, h1, r1, r2⟩ := h.ins
  obtain ⟨vs, h2, z2, r3⟩ := h.past
  obtain ⟨us, h3, z3, r4⟩ := h.later
  exact ⟨⟨vo, vn, hs f.x (by simp [Ft.all]) _ h1 rfl, r1.mono hv, r2.mono hv⟩, hs f.dx (by simp [Ft.all]) _ h.own rfl, ⟨vs, hs f.p (by simp [Ft.all]) _ h2 rfl, z2, r3.mono hv⟩, ⟨us, hs f.l (by simp [Ft.all]) _ h3 rfl, z3, r4.mono hv⟩, hn⟩
theorem Pls.get (h : Pls K cl C F ps Hv H) {k : Nat} {f : Ft} (hf : F[k]? = some f) : ∃ q, ps[k]? = some q ∧ PlAt K (cl.at F) C Hv H f q := by
  have hk := (List.getElem?_eq_some_iff.mp hf).1
  have hk2 : k < ps.length := by rw [← h.len]; exact hk
  have : ps[k]? = some ps[k] := by simp [hk2]
  exact ⟨_, this, h.pl k f _ hf this⟩
theorem Pls.foot (h : Pls K cl C F ps Hv H) {b : Addr} (hb : b ∈ feet F) : Hv b = none ∧ ∃ o, H b = some o ∧ isTbl o = false := by
  obtain ⟨f, hf, hb⟩ := mem_feet.mp hb
  obtain ⟨k, hk⟩ := List.getElem?_of_mem hf
  obtain ⟨q, _, hp⟩ := h.get hk
  exact ⟨hp.hid b hb, hp.full b hb⟩
theorem Pls.ext (h : Pls K cl C F ps Hv H) (e : Ext (cl.at F) Hv H Hv' H') : Pls K cl C F ps Hv' H' := ⟨h.len, fun k f q hf hq => (h.pl k f q hf hq).mono (fun a _ o ha n => e.hh a o ha n) e.vv (fun a ha => by
  obtain ⟨o, ho, _⟩ := (h.pl k f q hf hq).full a ha
  exact e.old a o ho ((h.pl k f q hf hq).hid a ha)), h.nd, h.ob0⟩
theorem Pls.at_obj (h : Pls K cl C F ps Hv H) {k : Nat} {a : Addr} (ho : (cl.at F).ob k a) : ∃ f q, F[k]? = some f ∧ f.x = a ∧ ps[k]? = some q ∧ PlAt K (cl.at F) C Hv H f q := by
  have ho : (F[k]?).map Ft.x = some a := ho
  rw [Option.map_eq_some_iff] at ho
  obtain ⟨f, hf, hx⟩ := ho
  obtain ⟨q, hq, hp⟩ := h.get hf
  exact ⟨f, q, hf, hx, hq, hp⟩
end
section
variable (K : PySem.W.Frag) (cl : Glb) (C : Addr) (W : WX) (σ : St)
def PstE {α : Type} (F : List Ft) (Hv H : Hp) (T : List Ft → Hp → Hp → α → Prop) : RP α → Prop
  | .ok a ps => ∀ F' Hv' H', ExtE cl F Hv H F' Hv' H' → Pls K cl C F' ps Hv' H' → T F' Hv' H' a
  | .err c ps => ∀ F' Hv' H', ExtE cl F Hv H F' Hv' H' → Pls K cl C F' ps Hv' H' → W (.ref (cl.c c)) none σ H'
  | .bad => False
end
section
variable {K : PySem.W.Frag} {cl : Glb} {C : Addr} {W : WX} {σ : St} {F F1 : List Ft} {Hv H Hv1 H1 : Hp} {α β : Type}
theorem PstE.ext {T : List Ft → Hp → Hp → α → Prop} {r : RP α} (h : PstE K cl C W σ F Hv H T r) (e : ExtE cl F Hv H F1 Hv1 H1) : PstE K cl C W σ F1 Hv1 H1 T r := by
  cases r with
  | ok d ps => exact fun F' Hv' H' e' => h F' Hv' H' (e.trans e')
  | err c ps => exact fun F' Hv' H' e' => h F' Hv' H' (e.trans e')
  | bad => exact h
theorem bindE {r : RP α} {k : α → PLS → RP β} {T : List Ft → Hp → Hp → β → Prop} {T1 : List Ft → Hp → Hp → α → Prop} (h : PstE K cl C W σ F Hv H T (r.bind k))
    (hk : ∀ a ps F1 Hv1 H1, r = .ok a ps → ExtE cl F Hv H F1 Hv1 H1 → Pls K cl C F1 ps Hv1 H1 → PstE K cl C W σ F1 Hv1 H1 T (k a ps) → T1 F1 Hv1 H1 a) : PstE K cl C W σ F Hv H T1 r := by
  cases r with
  | ok d ps => exact fun F' Hv' H' e pl => hk d ps F' Hv' H' rfl e pl (PstE.ext (r := k d ps) h e)
  | err c ps => exact h
  | bad => exact h
theorem up_pst {T : List Ft → Hp → Hp → α → Prop} {r : R α} {ps : PLS} (pl : Pls K cl C F ps Hv H) (h : PstE K cl C W σ F Hv H T (r.up ps)) : Pst (cl.at F) W σ Hv H (fun Hv' H' a => T F Hv' H' a) r := by
  cases r with
  | ok d => exact fun Hv' H' e => h F Hv' H' (.of e) (pl.ext e)
  | err c => exact fun Hv' H' e => h F Hv' H' (.of e) (pl.ext e)
  | bad => exact h
end
def TVe (K : PySem.W.Frag) (cl : Glb) (Q : VK) : List Ft → Hp → Hp → D → Prop := fun F Hv H d => ∀ v, Rep K (cl.at F) Hv v d → Q v H
def TVse (K : PySem.W.Frag) (cl : Glb) (Q : List V → Hp → Prop) : List Ft → Hp → Hp → List D → Prop := fun F Hv H d => ∀ v, Reps K (cl.at F) Hv v d → Q v H
def TBe (Q : Bool → Hp → Prop) : List Ft → Hp → Hp → Bool → Prop := fun _ _ H b => Q b H
abbrev EE := Env → PLS → RP D
abbrev EA := Env → PLS → RP (List D)
abbrev ET := Env → PLS → RP Bool
section
variable (X : Cx) (W : WX) (cl : Glb) (C : Addr)
def RunEe (f : EE) (t : TE) : Prop := ∀ (F : List Ft) (Hv H : Hp) (σ : St) (ρ : Env) (ps : PLS) (Q : VK), Vw cl Hv H → Pls X.K cl C F ps Hv H → ER X.K (cl.at F) Hv ρ σ → PstE X.K cl C W σ F Hv H (TVe X.K cl Q) (f ρ ps) → t σ H Q
def RunAe (f : EA) (t : TA) : Prop := ∀ (F : List Ft) (Hv H : Hp) (σ : St) (ρ : Env) (ps : PLS) (Q : List V → Hp → Prop), Vw cl Hv H → Pls X.K cl C F ps Hv H → ER X.K (cl.at F) Hv ρ σ → PstE X.K cl C W σ F Hv H (TVse X.K cl Q) (f ρ ps) → t σ H Q
def RunTe (f : ET) (t : TT) : Prop := ∀ (F : List Ft) (Hv H : Hp) (σ : St) (ρ : Env) (ps : PLS) (Q : Bool → Hp → Prop), Vw cl Hv H → Pls X.K cl C F ps Hv H → ER X.K (cl.at F) Hv ρ σ → PstE X.K cl C W σ F Hv H (TBe Q) (f ρ ps) → t σ H Q
def SEe (e : Expr) (f : EE) : Prop := ∃ t, PE X e t ∧ RunEe X W cl C f t
def SAe (es : List Expr) (f : EA) : Prop := ∃ t, PA X es t ∧ RunAe X W cl C f t ∧ ∀ ρ ps ds ps', f ρ ps = .ok ds ps' → ds.length = es.length
def STe (e : Expr) (f : ET) : Prop := ∃ t, L2.PT X e t ∧ RunTe X W cl C f t
def SWe (e : Expr) (f : ET) : Prop := ∃ t, PW X e t ∧ RunTe X W cl C f t
end
section
variable {X : Cx} {W : WX} {cl : Glb} {C : Addr} {pos p : Pos} {a b c e : Expr} {es : List Expr} {fa fb fc : EE} {g : EA}
def eP (f : DE) : EE := fun ρ ps => (f ρ).up ps
def eT (f : DT) : ET := fun ρ ps => (f ρ).up ps
theorem ee_pure {f : DE} (h : ∀ F, SE X W (cl.at F) e f) : SEe X W cl C e (eP f) :=
  ⟨fun σ H Q => ∃ F, tE X.K (cl.at F) W f σ H Q, ⟨fun pins s σ H Q I ⟨F, q⟩ => (h F).pe.run pins s σ H Q I q⟩, fun F Hv H σ ρ ps Q vw pl er pv => ⟨F, Hv, ρ, vw.at, er, up_pst pl pv⟩⟩
theorem te_pure {f : DT} (h : ∀ F, ST X W (cl.at F) e f) : STe X W cl C e (eT f) := by
  refine ⟨fun σ H Q => ∃ F, tT X.K (cl.at F) W f σ H Q, ⟨fun pins s σ H Q I ⟨F, q⟩ => ?_⟩, fun F Hv H σ ρ ps Q vw pl er pv => ⟨F, Hv, ρ, vw.at, er, up_pst pl pv⟩⟩
  obtain ⟨Hv, ρ, vw, er, pv⟩ := q
  obtain ⟨t, pt, ht⟩ := h F
  exact pt.run pins s σ H Q I (ht Hv H σ ρ Q vw er pv)
def eBin (o : D → D → Option D) (fa fb : EE) : EE := fun ρ ps => (fa ρ ps).bind fun a ps => (fb ρ ps).bind fun b ps => (ofO (o a b)).up ps
theorem opsE {f : Value → Value → Sem Value} {o : D → D → Option D} (ho : ∀ F, OpS X (cl.at F) f o) : ∃ r, OpR X f r ∧ ∀ (F : List Ft) (Hv H : Hp) (x y : V) (a b d : D) (Q : VK), Vw (cl.at F) Hv H → Rep X.K (cl.at F) Hv x a → Rep X.K (cl.at F) Hv y b → o a b = some d →
    (∀ v Hv' H', Ext (cl.at F) Hv H Hv' H' → Rep X.K (cl.at F) Hv' v d → Q v H') → r x y H Q :=
  ⟨fun x y H Q => ∃ F, (ho F).choose x y H Q, fun pins s σ H x y v u Q I rx ry ⟨F, q⟩ => (ho F).choose_spec.1 pins s σ H x y v u Q I rx ry q, fun F Hv H x y a b d Q vw rx ry e q => ⟨F, (ho F).choose_spec.2 Hv H x y a b d Q vw rx ry e q⟩⟩
theorem upO_ok {α : Type} {o : Option α} {K : PySem.W.Frag} {σ : St} {F : List Ft} {ps : PLS} {Hv H : Hp} {T : List Ft → Hp → Hp → α → Prop} (h : PstE K cl C W σ F Hv H T ((ofO o).up ps)) : ∃ a, o = some a ∧ ∀ F' Hv' H', ExtE cl F Hv H F' Hv' H' → Pls K cl C F' ps Hv' H' → T F' Hv' H' a := by
  cases o with
  | none => exact h.elim
  | some a => exact ⟨a, rfl, h⟩
theorem binE_run {o : D → D → Option D} {r : R2} {ta tb : TE} (hs : ∀ (F : List Ft) (Hv H : Hp) (x y : V) (a b d : D) (Q : VK), Vw (cl.at F) Hv H → Rep X.K (cl.at F) Hv x a → Rep X.K (cl.at F) Hv y b → o a b = some d →
      (∀ v Hv' H', Ext (cl.at F) Hv H Hv' H' → Rep X.K (cl.at F) Hv' v d → Q v H') → r x y H Q)
    (ha : RunEe X W cl C fa ta) (hb : RunEe X W cl C fb tb) : RunEe X W cl C (eBin o fa fb) (tOp r ta tb) := by
  intro F Hv H σ ρ ps Q vw pl er pv
  refine ha F Hv H σ ρ ps _ vw pl er (bindE pv fun x ps1 F1 Hv1 H1 _ e1 pl1 pv1 v rv => ?_)
  refine hb F1 Hv1 H1 σ ρ ps1 _ e1.vh pl1 (er.ee e1) (bindE pv1 fun y ps2 F2 Hv2 H2 _ e2 pl2 pv2 u ru => ?_)
  obtain ⟨d, ed, q⟩ := upO_ok pv2
  exact hs F2 Hv2 H2 v u x y d Q e2.vh.at (rv.ee e2) ru ed fun v' Hv' H' e' r' => q F2 Hv' H' (.of e') (pl2.ext e') v' r'
def easB : EE → ET := fun f ρ ps => (f ρ ps).bind fun d ps => match d with | .bl b => .ok b ps | _ => .bad
theorem tTestE_run {ta : TE} (ha : RunEe X W cl C fa ta) : RunTe X W cl C (easB fa) (tTest ta) := by
  intro F Hv H σ ρ ps Q vw pl er pv
  refine ha F Hv H σ ρ ps _ vw pl er (bindE pv fun x ps1 F1 Hv1 H1 _ e1 pl1 pv1 v rv => ?_)
  cases x with
  | bl k =>
    cases rv
    exact ⟨k, rfl, pv1 F1 _ _ (ExtE.refl e1.vh) pl1⟩
  | _ => exact pv1.elim
theorem te_cmp {op : CmpOp} {o : D → D → Option D} (ho : ∀ F, OpS X (cl.at F) (compareOp op) o) (ha : SEe X W cl C a fa) (hb : SEe X W cl C b fb) (hm : behindInMarks op b = false := by rfl) : STe X W cl C (.Compare a [op] [b] pos) (easB (eBin o fa fb)) := by
  obtain ⟨r, hr, hs⟩ := opsE ho
  obtain ⟨ta, pa, ha⟩ := ha
  obtain ⟨tb, pb, hb⟩ := hb
  exact ⟨_, pt_cmpR hr pa pb hm, tTestE_run (binE_run hs ha hb)⟩
def eTru (f : EE) : ET := fun ρ ps => (f ρ ps).bind fun d ps => (ofO (tru d)).up ps
def eNotT (f : ET) : ET := fun ρ ps => (f ρ ps).bind fun b ps => .ok (!b) ps
def eAndT (f g : ET) : ET := fun ρ ps => (f ρ ps).bind fun b ps => match b with | true => g ρ ps | false => .ok false ps
def eOrT (f g : ET) : ET := fun ρ ps => (f ρ ps).bind fun b ps => match b with | true => .ok true ps | false => g ρ ps
theorem we_one {f : ET} {op : BoolOp} (ha : STe X W cl C a f) : SWe X W cl C (.BoolOp op [a] pos) f := by
  obtain ⟨ta, pa, ha⟩ := ha
  cases op with
  | And => exact ⟨_, pw_and1 pa, ha⟩
  | Or => exact ⟨_, pw_or1 pa, ha⟩
theorem we_or {f g : ET} (ha : STe X W cl C a f) (hb : SWe X W cl C (.BoolOp .Or (b :: es) pos) g) : SWe X W cl C (.BoolOp .Or (a :: b :: es) pos) (eOrT f g) := by
  obtain ⟨ta, pa, ha⟩ := ha
  obtain ⟨tb, pb, hb⟩ := hb
  refine ⟨_, pw_or pa pb, fun F Hv H σ ρ ps Q vw pl er pv => ?_⟩
  refine ha F Hv H σ ρ ps _ vw pl er (bindE pv fun x ps1 F1 Hv1 H1 _ e1 pl1 pv1 => ?_)
  show if x = true then Q true H1 else tb σ H1 Q
  cases x with
  | true => rw [if_pos rfl]; exact pv1 F1 _ _ (ExtE.refl e1.vh) pl1
  | false => rw [if_neg Bool.false_ne_true]; exact hb F1 Hv1 H1 σ ρ ps1 Q e1.vh pl1 (er.ee e1) pv1
theorem SWe.st {f : ET} (h : SWe X W cl C e f) : STe X W cl C e f := by
  obtain ⟨t, pt, h⟩ := h
  exact ⟨t, pt.pt, h⟩
def eIf (t : ET) (f g : EE) : EE := fun ρ ps => (t ρ ps).bind fun k ps => match k with | true => f ρ ps | false => g ρ ps
theorem ee_if {t : ET} (hc : STe X W cl C c t) (ha : SEe X W cl C a fa) (hb : SEe X W cl C b fb) : SEe X W cl C (.IfExp c a b pos) (eIf t fa fb) := by
  obtain ⟨tc, pc, hc⟩ := hc
  obtain ⟨ta, pa, ha⟩ := ha
  obtain ⟨tb, pb, hb⟩ := hb
  refine ⟨_, pe_ifExp pc pa pb, fun F Hv H σ ρ ps Q vw pl er pv => ?_⟩
  refine hc F Hv H σ ρ ps _ vw pl er (bindE pv fun x ps1 F1 Hv1 H1 _ e1 pl1 pv1 => ?_)
  show if x = true then ta σ H1 Q else tb σ H1 Q
  cases x with
  | true => rw [if_pos rfl]; exact ha F1 Hv1 H1 σ ρ ps1 Q e1.vh pl1 (er.ee e1) pv1
  | false => rw [if_neg Bool.false_ne_true]; exact hb F1 Hv1 H1 σ ρ ps1 Q e1.vh pl1 (er.ee e1) pv1
def eAnd (f g : EE) : EE := fun ρ ps => (f ρ ps).bind fun x ps => ((ofO (tru x)).up ps).bind fun k ps => match k with | true => g ρ ps | false => .ok x ps
def eNil : EA := fun _ ps => .ok [] ps
def eCons (f : EE) (g : EA) : EA := fun ρ ps => (f ρ ps).bind fun a ps => (g ρ ps).bind fun as ps => .ok (a :: as) ps
theorem ae_nil : SAe X W cl C [] eNil := ⟨_, pa_nil, fun F Hv H σ ρ ps Q vw pl er pv => pv F _ _ (ExtE.refl vw) pl [] .nil, fun ρ ps ds ps' h => by cases h; rfl⟩
theorem ae_cons (ha : SEe X W cl C e fa) (hr : SAe X W cl C es g) (hs : starEach (e :: es) X.env = (false, eval e X.env) :: starEach es X.env := by rfl) : SAe X W cl C (e :: es) (eCons fa g) := by
  obtain ⟨ta, pa, ha⟩ := ha
  obtain ⟨tr, pr, hr, hl⟩ := hr
  refine ⟨_, pa_cons pa pr hs, fun F Hv H σ ρ ps Q vw pl er pv => ?_, fun ρ ps ds ps' h => ?_⟩
  · refine ha F Hv H σ ρ ps _ vw pl er (bindE pv fun x ps1 F1 Hv1 H1 _ e1 pl1 pv1 v rv => ?_)
    refine hr F1 Hv1 H1 σ ρ ps1 _ e1.vh pl1 (er.ee e1) (bindE pv1 fun y ps2 F2 Hv2 H2 _ e2 pl2 pv2 u ru => ?_)
    exact pv2 F2 _ _ (ExtE.refl e2.vh) pl2 _ (.cons (rv.ee e2) ru)
  · unfold eCons at h
    cases h1 : fa ρ ps with
    | ok x ps1 =>
      cases h2 : g ρ ps1 with
      | ok y ps2 =>
        simp only [h1, h2, RP.bind] at h
        cases h
        rw [List.length_cons, List.length_cons, hl ρ ps1 y _ h2]
      | err c ps2 => simp only [h1, h2, RP.bind] at h; cases h
      | bad => simp only [h1, h2, RP.bind] at h; cases h
    | err c ps2 => simp only [h1, RP.bind] at h; cases h
    | bad => simp only [h1, RP.bind] at h; cases h
def eTup (g : EA) : EE := fun ρ ps => (g ρ ps).bind fun ds ps => .ok (.tup ds) ps
def eLst (g : EA) : EE := fun ρ ps => (g ρ ps).bind fun ds ps => .ok (.lst ds) ps
theorem ee_tup {x1 : Nat} (h : SAe X W cl C es g) (hn : decide (es.length ≤ 1000) = true := by rfl) : SEe X W cl C (.Tuple es x1 pos) (eTup g) := by
  obtain ⟨ta, pa, ha, hl⟩ := h
  refine ⟨_, pe_tup pa, fun F Hv H σ ρ ps Q vw pl er pv => ?_⟩
  refine ha F Hv H σ ρ ps _ vw pl er (bindE pv fun x ps1 F1 Hv1 H1 ex e1 pl1 pv1 v rv => ?_)
  have z : v.length ≤ sizeLine := by rw [rv.length, hl ρ ps x ps1 ex]; exact small_line hn
  exact ⟨z, new_tup e1.vh.at rv z fun v' Hv' H' e' r' => pv1 F1 _ _ (.of e') (pl1.ext e') v' r'⟩
end
end Sm
namespace Sm
open PySem PySem.Spec L2
inductive OE where
  | nx (ρ : Env) (ps : PLS) | ret (d : D) (ps : PLS) | err (ρ : Env) (c : Nat) (ps : PLS) | bad
abbrev DSe := Env → PLS → OE
def OE.seq : OE → DSe → OE
  | .nx ρ ps, k => k ρ ps
  | .ret d ps, _ => .ret d ps
  | .err ρ c ps, _ => .err ρ c ps
  | .bad, _ => .bad
def RP.to {α : Type} (ρ : Env) : RP α → (α → PLS → OE) → OE
  | .ok a ps, k => k a ps
  | .err c ps, _ => .err ρ c ps
  | .bad, _ => .bad
def O.up (ps : PLS) : O → OE
  | .nx ρ => .nx ρ ps
  | .ret d => .ret d ps
  | .err ρ c => .err ρ c ps
  | .bad => .bad
structure SRe (K : PySem.W.Frag) (cl : Glb) (C : Addr) (F0 : List Ft) (Hv0 H0 : Hp) (own : List Nat) (ρ : Env) (σ : St) (ps : PLS) (F : List Ft) (Hv H : Hp) : Prop where
  ext : ExtE cl F0 Hv0 H0 F Hv H
  pls : Pls K cl C F ps Hv H
  len : ρ.length = σ.length
  sh : ∀ (i : Nat) d, i ∉ own → ρ[i]? = some (some d) → ∃ v, σ[i]? = some (some v) ∧ Rep K (cl.at F) Hv v d
  ow : ∀ i, i ∈ own → ∃ p d, ρ[i]? = some (some d) ∧ σ[i]? = some (some (.ref p)) ∧ Hv p = none ∧ H0 p = none ∧ p ∉ feet F ∧ OwnR K (cl.at F) Hv H p d
  ap : ∀ (i j : Nat) p, i ∈ own → j ∈ own → σ[i]? = some (some (.ref p)) → σ[j]? = some (some (.ref p)) → i = j
def IsOw (own : List Nat) (σ : St) (b : Addr) : Prop := ∃ i, i ∈ own ∧ σ[i]? = some (some (.ref b))
open Classical in
noncomputable def lessH (own : List Nat) (σ : St) (H : Hp) : Hp := fun b => if IsOw own σ b then none else H b
section
variable {K : PySem.W.Frag} {cl : Glb} {C : Addr} {F0 F F' : List Ft} {Hv0 H0 Hv H Hv' H' : Hp} {own own' : List Nat} {ρ ρ' : Env} {σ σ' : St} {ps ps' : PLS}
theorem less_ow {b : Addr} (h : IsOw own σ b) : lessH own σ H b = none := if_pos h
theorem less_no {b : Addr} (h : ¬ IsOw own σ b) : lessH own σ H b = H b := if_neg h
theorem less_some {b : Addr} {o : HO} (h : lessH own σ H b = some o) : ¬ IsOw own σ b ∧ H b = some o := by
  by_cases z : IsOw own σ b
  · rw [less_ow z] at h; cases h
  · rw [less_no z] at h; exact ⟨z, h⟩
theorem SRe.isOw (s : SRe K cl C F0 Hv0 H0 own ρ σ ps F Hv H) {b : Addr} (h : IsOw own σ b) : Hv b = none ∧ H0 b = none ∧ b ∉ feet F := by
  obtain ⟨i, hi, e⟩ := h
  obtain ⟨p, d, _, e2, e3, e4, e5, _⟩ := s.ow i hi
  rw [e] at e2; cases e2
  exact ⟨e3, e4, e5⟩
theorem SRe.sr (s : SRe K cl C F0 Hv0 H0 own ρ σ ps F Hv H) : SR K (cl.at F) Hv (lessH own σ H) own ρ σ Hv H where
  ext := ⟨fun b o h _ => (less_some h).2, Sam.refl _, s.ext.vh.at, fun b o h n => n, fun b h => by
    by_cases z : IsOw own σ b
    · exact less_ow z
    · rw [less_no z]; exact h, fun b ps h => ⟨ps, (less_some h).2⟩⟩
  len := s.len
  sh := s.sh
  ow := fun i hi => by
    obtain ⟨p, d, e1, e2, e3, e4, e5, e6⟩ := s.ow i hi
    exact ⟨p, d, e1, e2, e3, less_ow ⟨i, hi, e2⟩, e6⟩
  ap := s.ap
theorem SRe.backX (s : SRe K cl C F0 Hv0 H0 own ρ σ ps F Hv H) (e : Ext (cl.at F) Hv (lessH own σ H) Hv' H') : ExtE cl F0 Hv0 H0 F Hv' H' ∧ Pls K cl C F ps Hv' H' := by
  have no : ∀ {b o}, H0 b = some o → ¬ IsOw own σ b := fun {b o} h z => by rw [(s.isOw z).2.1] at h; cases h
  have fo : ∀ {b}, b ∈ feet F → ¬ IsOw own σ b := fun {b} h z => (s.isOw z).2.2 h
  refine ⟨⟨fun b o h n hf => ?_, s.ext.vv.trans e.vv, e.vh.un, fun b o h n => ?_, fun b h => ?_, fun b ps h => ?_, s.ext.ob, s.ext.ft⟩, ⟨s.pls.len, fun k f q hf hq => ?_, s.pls.nd, s.pls.ob0⟩⟩
  · exact e.hh b o (by rw [less_no (no h)]; exact s.ext.hh b o h n hf) n
  · cases q : H b with
    | none => rw [s.ext.dom b q] at h; cases h
    | some u => exact e.old b u (by rw [less_no (no h)]; exact q) (s.ext.old b o h n)
  · have := e.dom b h
    by_cases z : IsOw own σ b
    · exact (s.isOw z).2.1
    · rw [less_no z] at this
      exact s.ext.dom b this
  · obtain ⟨ps', h'⟩ := s.ext.tt b ps h
    exact e.tt b ps' (by rw [less_no (no h)]; exact h')
  · have mf : ∀ a ∈ f.all, a ∈ feet F := fun a ha => mem_feet.mpr ⟨f, List.mem_of_getElem? hf, ha⟩
    refine (s.pls.pl k f q hf hq).mono (fun a ha o h n => e.hh a o (by rw [less_no (fo (mf a ha))]; exact h) n) e.vv fun a ha => ?_
    obtain ⟨hv, o, ho, _⟩ := s.pls.foot (mf a ha)
    exact e.old a o (by rw [less_no (fo (mf a ha))]; exact ho) hv
theorem SRe.back (s : SRe K cl C F0 Hv0 H0 own ρ σ ps F Hv H) (r : SR K (cl.at F) Hv (lessH own σ H) own' ρ' σ' Hv' H') : SRe K cl C F0 Hv0 H0 own' ρ' σ' ps F Hv' H' := by
  obtain ⟨e1, e2⟩ := s.backX r.ext
  refine ⟨e1, e2, r.len, r.sh, fun i hi => ?_, r.ap⟩
  obtain ⟨p, d, a1, a2, a3, a4, a5⟩ := r.ow i hi
  refine ⟨p, d, a1, a2, a3, ?_, fun hf => ?_, a5⟩
  · by_cases z : IsOw own σ p
    · exact (s.isOw z).2.1
    · rw [less_no z] at a4
      exact s.ext.dom p a4
  · obtain ⟨_, o, ho, _⟩ := s.pls.foot hf
    rw [less_no fun z => (s.isOw z).2.2 hf, ho] at a4
    cases a4
theorem SRe.er (s : SRe K cl C F0 Hv0 H0 own ρ σ ps F Hv H) : ER K (cl.at F) Hv (mask own ρ) σ := s.sr.er
theorem SRe.step (s : SRe K cl C F0 Hv0 H0 own ρ σ ps F Hv H) (e : ExtE cl F Hv H F' Hv' H') (pl : Pls K cl C F' ps' Hv' H') : SRe K cl C F0 Hv0 H0 own ρ σ ps' F' Hv' H' where
  ext := s.ext.trans e
  pls := pl
  len := s.len
  sh := fun i d h1 h2 => let ⟨v, h3, h4⟩ := s.sh i d h1 h2; ⟨v, h3, h4.ee e⟩
  ow := fun i hi => by
    obtain ⟨p, d, h1, h2, h3, h4, h5, o, h6, h7⟩ := s.ow i hi
    refine ⟨p, d, h1, h2, e.old p _ h6 h3, h4, fun hf => (e.ft p hf).elim h5 fun z => (by rw [h6] at z; cases z), o, e.hh _ _ h6 h7.tbl h5, ?_⟩
    cases h7 with
    | lst z r => exact .lst z (r.ee e)
    | dct z r => exact .dct z ((r.ob e.ob).mono e.vv)
  ap := s.ap
theorem SRe.freeze (s : SRe K cl C F0 Hv0 H0 own ρ σ ps F Hv H) (hs : ∀ i ∈ own', i ∈ own) : SRe K cl C F0 Hv0 H0 own' ρ σ ps F (thaw own own' σ Hv H) H ∧ Sam Hv (thaw own own' σ Hv H) := by
  obtain ⟨h1, h2⟩ := s.sr.freeze hs
  exact ⟨s.back h1, h2⟩
end
section
variable (X : Cx) (W : WX) (cl : Glb) (C : Addr)
def PSOe (F0 : List Ft) (Hv0 H0 : Hp) (own : List Nat) (F : List Ft) (Hv : Hp) (Dn : Ends) : OE → Prop
  | .nx ρ' ps' => ∀ σ' F' Hv' H', SRe X.K cl C F0 Hv0 H0 own ρ' σ' ps' F' Hv' H' → Sam Hv Hv' → (∀ k a, obA F k a → obA F' k a) → σ'.length = X.N.length → Dn.nx σ' H'
  | .ret d ps' => ∀ v F' Hv' H', ExtE cl F0 Hv0 H0 F' Hv' H' → Pls X.K cl C F' ps' Hv' H' → Rep X.K (cl.at F') Hv' v d → Dn.rt v H'
  | .err ρ' c ps' => ∀ σ' F' Hv' H', SRe X.K cl C F0 Hv0 H0 [] ρ' σ' ps' F' Hv' H' → Sam Hv Hv' → (∀ k a, obA F k a → obA F' k a) → σ'.length = X.N.length → W (.ref (cl.c c)) none σ' H'
  | .bad => False
def RunSe (own own' : List Nat) (f : DSe) (t : TS) : Prop := ∀ (F0 : List Ft) (Hv0 H0 : Hp) (ρ : Env) (σ : St) (ps : PLS) (F : List Ft) (Hv H : Hp) (Dn : Ends), SRe X.K cl C F0 Hv0 H0 own ρ σ ps F Hv H → σ.length = X.N.length → PSOe X W cl C F0 Hv0 H0 own' F Hv Dn (f ρ ps) → t Dn σ H
def SSe (own own' : List Nat) (st : Stmt) (f : DSe) : Prop := ∃ t, PS X st t ∧ RunSe X W cl C own own' f t
def SSes (own own' : List Nat) (st : List Stmt) (f : DSe) : Prop := ∃ t, PSs X st t ∧ RunSe X W cl C own own' f t
end
section
variable {X : Cx} {W : WX} {cl : Glb} {C : Addr} {F0 F F1 : List Ft} {Hv0 H0 Hv Hv1 H : Hp} {own own1 own2 own3 : List Nat} {Dn : Ends} {pos p : Pos} {a b c e tg iter : Expr} {es : List Expr} {fa fb : EE} {g : EA} {st : Stmt} {sts : List Stmt}
theorem PSOe.mono {r : OE} (h : PSOe X W cl C F0 Hv0 H0 own F Hv Dn r) (s : Sam Hv Hv1) (so : ∀ k a, obA F k a → obA F1 k a) : PSOe X W cl C F0 Hv0 H0 own F1 Hv1 Dn r := by
  cases r with
  | nx ρ ps => exact fun σ' F' Hv' H' sr sm ob hl => h σ' F' Hv' H' sr (s.trans sm) (fun k a z => ob k a (so k a z)) hl
  | ret d ps => exact h
  | err ρ c ps => exact fun σ' F' Hv' H' sr sm ob hl => h σ' F' Hv' H' sr (s.trans sm) (fun k a z => ob k a (so k a z)) hl
  | bad => exact h
theorem PSOe.less {r : OE} (h : PSOe X W cl C F0 Hv0 H0 own2 F Hv Dn r) (hs : ∀ i ∈ own2, i ∈ own1) : PSOe X W cl C F0 Hv0 H0 own1 F Hv Dn r := by
  cases r with
  | nx ρ ps =>
    intro σ' F' Hv' H' sr sm ob hl
    obtain ⟨s1, s2⟩ := sr.freeze hs
    exact h σ' F' _ H' s1 (sm.trans s2) ob hl
  | ret d ps => exact h
  | err ρ c ps => exact h
  | bad => exact h
theorem SSe.pre {f : DSe} (h : SSe X W cl C own1 own2 st f) (hs : sub own1 own = true := by rfl) : SSe X W cl C own own2 st f := by
  obtain ⟨t, pt, h⟩ := h
  refine ⟨t, pt, fun F0 Hv0 H0 ρ σ ps F Hv H Dn sr hl po => ?_⟩
  obtain ⟨s1, s2⟩ := sr.freeze (sub_mem hs)
  exact h F0 Hv0 H0 ρ σ ps F _ H Dn s1 hl (po.mono s2 fun _ _ z => z)
theorem SSes.post {f : DSe} (h : SSes X W cl C own own1 sts f) (hs : sub own2 own1 = true := by rfl) : SSes X W cl C own own2 sts f := by
  obtain ⟨t, pt, h⟩ := h
  exact ⟨t, pt, fun F0 Hv0 H0 ρ σ ps F Hv H Dn sr hl po => h F0 Hv0 H0 ρ σ ps F Hv H Dn sr hl (po.less (sub_mem hs))⟩
def sP (f : DS) : DSe := fun ρ ps => (f ρ).up ps
theorem SS.ps {f : DS} (h : SS X W cl own own1 st f) : PS X st (tS X.K X.N W cl own own1 f) := by
  obtain ⟨t, pt, hr⟩ := h
  refine ⟨fun pins s σ H D I ⟨Hv0, H0, ρ, Hv, sr, hl, po⟩ => pt.run pins s σ H D I (hr Hv0 H0 ρ σ Hv H D sr hl ?_)⟩
  cases q : f ρ with
  | nx ρ' => rw [q] at po; exact po
  | ret d => rw [q] at po; exact po
  | err ρ' c => rw [q] at po; exact po
  | bad => rw [q] at po; exact po
theorem es_pure {f : DS} (h : ∀ F, SS X W (cl.at F) own own1 st f) : SSe X W cl C own own1 st (sP f) := by
  refine ⟨fun Dn σ H => ∃ F, tS X.K X.N W (cl.at F) own own1 f Dn σ H, ⟨fun pins s σ H D I ⟨F, q⟩ => (h F).ps.run pins s σ H D I q⟩, fun F0 Hv0 H0 ρ σ ps F Hv H Dn sr hl po => ⟨F, Hv, lessH own σ H, ρ, Hv, sr.sr, hl, ?_⟩⟩
  unfold sP at po
  cases q : f ρ with
  | nx ρ' =>
    rw [q] at po
    exact fun σ' Hv' H' r sm l => po σ' F Hv' H' (sr.back r) sm (fun _ _ z => z) l
  | ret d =>
    rw [q] at po
    exact fun v Hv' H' e r => po v F Hv' H' (sr.backX e).1 (sr.backX e).2 r
  | err ρ' c =>
    rw [q] at po
    exact fun σ' Hv' H' r sm l => po σ' F Hv' H' (sr.back r) sm (fun _ _ z => z) l
  | bad => rw [q] at po; exact po
theorem es_nil : SSes X W cl C own own [] .nx := ⟨_, pss_nil, fun F0 Hv0 H0 ρ σ ps F Hv H Dn sr hl po => po σ F Hv H sr (Sam.refl _) (fun _ _ z => z) hl⟩
def eSeq (f g : DSe) : DSe := fun ρ ps => (f ρ ps).seq g
theorem es_cons {f g : DSe} (h1 : SSe X W cl C own own1 st f) (h2 : SSes X W cl C own2 own3 sts g) (hs : sub own2 own1 = true := by rfl) : SSes X W cl C own own3 (st :: sts) (eSeq f g) := by
  obtain ⟨t, pt, h1⟩ := h1
  obtain ⟨u, pu, h2⟩ := h2
  refine ⟨_, pss_cons pt pu, fun F0 Hv0 H0 ρ σ ps F Hv H Dn sr hl po => ?_⟩
  refine h1 F0 Hv0 H0 ρ σ ps F Hv H _ sr hl ?_
  unfold eSeq at po
  cases q : f ρ ps with
  | nx ρ' ps' =>
    rw [q] at po
    intro σ' F' Hv' H' sr' sm ob hl'
    obtain ⟨s1, s2⟩ := sr'.freeze (sub_mem hs)
    exact h2 F0 Hv0 H0 ρ' σ' ps' F' _ H' Dn s1 hl' (PSOe.mono (r := g ρ' ps') po (sm.trans s2) ob)
  | ret d ps' => rw [q] at po; exact po
  | err ρ c ps' => rw [q] at po; exact po
  | bad => rw [q] at po; exact po
theorem es_one {f : DSe} (h1 : SSe X W cl C own own1 st f) : SSes X W cl C own own1 [st] f := by
  obtain ⟨t, pt, h1⟩ := h1
  exact ⟨_, pss_one pt, h1⟩
theorem use_maskE {α : Type} {ρ : Env} {σ : St} {ps : PLS} {T : List Ft → Hp → Hp → α → Prop} {r : RP α} {k : α → PLS → OE} (sr : SRe X.K cl C F0 Hv0 H0 own ρ σ ps F Hv H) (hl : σ.length = X.N.length) (po : PSOe X W cl C F0 Hv0 H0 own1 F Hv Dn (r.to ρ k))
    (h : ∀ a ps' F' Hv' H', r = .ok a ps' → ExtE cl F Hv H F' Hv' H' → SRe X.K cl C F0 Hv0 H0 own ρ σ ps' F' Hv' H' → PSOe X W cl C F0 Hv0 H0 own1 F' Hv' Dn (k a ps') → T F' Hv' H' a) : PstE X.K cl C W σ F Hv H T r := by
  cases r with
  | ok a ps' => exact fun F' Hv' H' e pl => h a ps' F' Hv' H' rfl e (sr.step e pl) (PSOe.mono (r := k a ps') po e.vv e.ob)
  | err c ps' =>
    intro F' Hv' H' e pl
    obtain ⟨s1, s2⟩ := (sr.step e pl).freeze (own' := []) (by simp)
    exact po σ F' _ H' s1 (e.vv.trans s2) e.ob hl
  | bad => exact po
def eRet (f : EE) : DSe := fun ρ ps => (f ρ ps).to ρ .ret
theorem es_ret (ha : SEe X W cl C a fa) : SSe X W cl C own own1 (.Return (some a) pos) (eRet fa) := by
  obtain ⟨ta, pa, ha⟩ := ha
  refine ⟨_, ps_ret pa, fun F0 Hv0 H0 ρ σ ps F Hv H Dn sr hl po => ?_⟩
  obtain ⟨s1, s2⟩ := sr.freeze (own' := []) (by simp)
  refine ha F _ H σ ρ ps _ s1.ext.vh s1.pls s1.er (use_maskE s1 hl (po.mono s2 fun _ _ z => z) fun d ps' F' Hv' H' _ e sr' po' v r => ?_)
  exact po' v F' Hv' H' sr'.ext sr'.pls r
def eDrop (own : List Nat) (f : EE) : DSe := fun ρ ps => (f (mask own ρ) ps).to ρ fun _ ps => .nx ρ ps
theorem es_expr (ha : SEe X W cl C a fa) (hs : swapsWith a none pos.line X.env = pure false := by rfl) : SSe X W cl C own own (.Expr a pos) (eDrop own fa) := by
  obtain ⟨ta, pa, ha⟩ := ha
  refine ⟨_, ps_expr pa hs, fun F0 Hv0 H0 ρ σ ps F Hv H Dn sr hl po => ?_⟩
  refine ha F Hv H σ _ ps _ sr.ext.vh sr.pls sr.er (use_maskE sr hl po fun d ps' F' Hv' H' _ e sr' po' v r => ?_)
  exact po' σ F' Hv' H' sr' (Sam.refl _) (fun _ _ z => z) hl
def eIfS (own : List Nat) (t : ET) (f g : DSe) : DSe := fun ρ ps => (t (mask own ρ) ps).to ρ fun k ps => match k with | true => f ρ ps | false => g ρ ps
theorem es_if {t : ET} {f g : DSe} {s1 s2 : List Stmt} (hc : STe X W cl C c t) (ha : SSes X W cl C own own1 s1 f) (hb : SSes X W cl C own own1 s2 g) : SSe X W cl C own own1 (.If c s1 s2 pos) (eIfS own t f g) := by
  obtain ⟨tc, pc, hc⟩ := hc
  obtain ⟨ta, pa, ha⟩ := ha
  obtain ⟨tb, pb, hb⟩ := hb
  refine ⟨_, ps_if pc pa pb, fun F0 Hv0 H0 ρ σ ps F Hv H Dn sr hl po => ?_⟩
  refine hc F Hv H σ _ ps _ sr.ext.vh sr.pls sr.er (use_maskE sr hl po fun k ps' F' Hv' H' _ e sr' po' => ?_)
  show if k = true then ta Dn σ H' else tb Dn σ H'
  cases k with
  | true => rw [if_pos rfl]; exact ha F0 Hv0 H0 ρ σ ps' F' Hv' H' Dn sr' hl po'
  | false => rw [if_neg Bool.false_ne_true]; exact hb F0 Hv0 H0 ρ σ ps' F' Hv' H' Dn sr' hl po'
def eSet (own : List Nat) (i : Nat) (f : EE) : DSe := fun ρ ps => (f (mask own ρ) ps).to ρ fun d ps => .nx (ρ.set i (some d)) ps
theorem es_set {i : Nat} {x : Str} {p' : Pos} (gd : Gd X W) (ha : SEe X W cl C a fa) (hi : X.N[i]? = some x := by rfl) (hx : Loc X.env.scope x := by first | exact Or.inl rfl | exact Or.inr rfl) (hs : swapsWith a (some (.Name x p')) pos.line X.env = pure false := by rfl)
    (hf : X.fn x = true ∨ X.env.scope.names.lookup x = some .local := by first | exact .inl rfl | exact .inr rfl | assumption) : SSe X W cl C own (nots own i) (.Assign [.Name x p'] a pos) (eSet own i fa) := by
  obtain ⟨ta, pa, ha⟩ := ha
  refine ⟨_, ps_set gd.nd hi hx pa hs hf, fun F0 Hv0 H0 ρ σ ps F Hv H Dn sr hl po => ?_⟩
  refine ha F Hv H σ _ ps _ sr.ext.vh sr.pls sr.er (use_maskE sr hl po fun d ps' F' Hv' H' _ e sr' po' v r => ?_)
  exact po' _ F' Hv' H' (sr'.back (sr'.sr.set nots_mem r nots_or)) (Sam.refl _) (fun _ _ z => z) (by rw [List.length_set]; exact hl)
theorem sgE {pt : Pat} (h : ∀ F, SG X (cl.at F) tg pt) : ∃ t, PG X tg t ∧ ∀ (F : List Ft) (Hv H : Hp) (v : V) (d : D) (ρ ρ' : Env) (σ : St) (Q : St → Hp → Prop), Vw (cl.at F) Hv H → Rep X.K (cl.at F) Hv v d → bindPat pt d ρ = some ρ' → ρ.length = σ.length →
    (∀ σ', (∀ (own : List Nat) (Hv0 H0 Hv1 H1 : Hp), SR X.K (cl.at F) Hv0 H0 own ρ σ Hv1 H1 → Sam Hv Hv1 → (∀ i ∈ patIx pt, i ∉ own) → SR X.K (cl.at F) Hv0 H0 own ρ' σ' Hv1 H1) → σ'.length = σ.length → (∀ j, j ∉ patIx pt → σ'[j]? = σ[j]?) → Q σ' H) → t v σ H Q :=
  ⟨fun v σ H Q => ∃ F, (h F).choose v σ H Q, ⟨fun pins s σ H v u Q I r ⟨F, q⟩ => (h F).choose_spec.1.run pins s σ H v u Q I r q⟩, fun F Hv H v d ρ ρ' σ Q vw r e hl q => ⟨F, (h F).choose_spec.2 Hv H v d ρ ρ' σ Q vw r e hl fun σ' f1 g1 l1 m1 k1 => q σ' f1 l1 k1⟩⟩
def eAsg (own : List Nat) (pt : Pat) (f : EE) : DSe := fun ρ ps => (f (mask own ρ) ps).to ρ fun d ps => match bindPat pt d ρ with | some ρ' => .nx ρ' ps | none => .bad
theorem es_asg {pt : Pat} (ha : SEe X W cl C a fa) (hg : ∀ F, SG X (cl.at F) tg pt) (hd : disj (patIx pt) own = true := by rfl) (hs : swapsWithSole [tg] a pos.line X.env = pure false := by rfl) (hw : swappedStores [tg] a X.env = pure none := by rfl)
    (h1 : (assignEach [tg] X.env).map (·.2) = [assign tg X.env] := by rfl) : SSe X W cl C own own (.Assign [tg] a pos) (eAsg own pt fa) := by
  obtain ⟨ta, pa, ha⟩ := ha
  obtain ⟨t, pt1, hg⟩ := sgE hg
  refine ⟨_, ps_asg pa pt1 hs hw h1, fun F0 Hv0 H0 ρ σ ps F Hv H Dn sr hl po => ?_⟩
  refine ha F Hv H σ _ ps _ sr.ext.vh sr.pls sr.er (use_maskE sr hl po fun d ps' F' Hv' H' _ e sr' po' v r => ?_)
  cases q : bindPat pt d ρ with
  | none => rw [q] at po'; exact po'.elim
  | some ρ' =>
    rw [q] at po'
    exact hg F' Hv' H' v d ρ ρ' σ _ sr'.ext.vh.at r q sr'.len fun σ' f1 l1 k1 => po' σ' F' Hv' H' (sr'.back (f1 own Hv' _ Hv' H' sr'.sr (Sam.refl _) (disj_mem hd))) (Sam.refl _) (fun _ _ z => z) (l1.trans hl)
def setsE : List Nat → List D → Env → Env
  | i :: is, d :: ds, ρ => setsE is ds (ρ.set i (some d))
  | _, _, ρ => ρ
def ePar (own : List Nat) (is : List Nat) (g : EA) : DSe := fun ρ ps => (g (mask own ρ) ps).to ρ fun ds ps => if ds.length = is.length then .nx (setsE is ds ρ) ps else .bad
theorem es_par {i j : Nat} {x y : Str} {px py pt pt2 : Pos} {kt k2 : Nat} (gd : Gd X W) (ha : SAe X W cl C [a, b] g) (hi : X.N[i]? = some x := by rfl) (hj : X.N[j]? = some y := by rfl) (hij : i ≠ j := by decide)
    (hd : disj [i, j] own = true := by rfl) (hx : X.env.scope.names.lookup x = some .local := by rfl) (hy : X.env.scope.names.lookup y = some .local := by rfl)
    (hw : swappedStores [.Tuple [.Name x px, .Name y py] kt pt] (.Tuple [a, b] k2 pt2) X.env = pure (some [x, y]) := by rfl)
    (hs : swapsWithSole [.Tuple [.Name x px, .Name y py] kt pt] (.Tuple [a, b] k2 pt2) pos.line X.env = pure false := by rfl) :
    SSe X W cl C own own (.Assign [.Tuple [.Name x px, .Name y py] kt pt] (.Tuple [a, b] k2 pt2) pos) (ePar own [i, j] g) := by
  obtain ⟨ta, pa, ha, _⟩ := ha
  refine ⟨_, ps_par gd.calm gd.nd hi hj hij hx hy pa hw hs, fun F0 Hv0 H0 ρ σ ps F Hv H Dn sr hl po => ?_⟩
  refine ha F Hv H σ _ ps _ sr.ext.vh sr.pls sr.er (use_maskE sr hl po fun ds ps' F' Hv' H' _ e sr' po' vs r => ?_)
  have di := disj_mem hd
  split at po'
  · rename_i hlen
    match ds, hlen with
    | [d1, d2], _ =>
      cases r with
      | cons r1 r =>
        cases r with
        | cons r2 r =>
          cases r
          refine ⟨_, _, rfl, po' _ F' Hv' H' (sr'.back ((sr'.sr.set (i := i) (own' := own) (fun k hk => ⟨hk, fun z => di i (by simp) (z ▸ hk)⟩) r1 fun k hk => .inl hk).set (own' := own) (fun k hk => ⟨hk, fun z => di j (by simp) (z ▸ hk)⟩) r2 fun k hk => .inl hk)) (Sam.refl _) (fun _ _ z => z) (by rw [List.length_set, List.length_set]; exact hl)⟩
  · exact po'.elim
end
end Sm
namespace Sm
open PySem PySem.Spec L2
section
variable {X : Cx} {W : WX} {cl : Glb} {C : Addr} {F0 F F1 : List Ft} {Hv0 H0 Hv Hv1 H : Hp} {own own1 own2 own3 : List Nat} {Dn : Ends} {pos p : Pos} {a b c e o tg iter : Expr} {es : List Expr} {fa fb : EE} {g : EA} {st : Stmt} {sts : List Stmt}
def eApp (own : List Nat) (i : Nat) (f : EE) : DSe := fun ρ ps => if lstAt i ρ then (f (mask own ρ) ps).to ρ fun d ps => (putIn i ρ [d]).up ps else .bad
abbrev EI := Env → PLS → RP (List D)
def TJe (K : PySem.W.Frag) (cl : Glb) (Q : It → Hp → Prop) : List Ft → Hp → Hp → List D → Prop := fun F Hv H ds => ds.length ≤ sizeLine → ∀ J, ItOk K (cl.at F) J Hv ds → Q J H
def SIe (X : Cx) (W : WX) (cl : Glb) (C : Addr) (tg iter : Expr) (f : EI) : Prop := ∃ wi, PI X tg iter wi ∧ ∀ (F : List Ft) (Hv H : Hp) (σ : St) (ρ : Env) (ps : PLS) (Q : It → Hp → Prop), Vw cl Hv H → Pls X.K cl C F ps Hv H → ER X.K (cl.at F) Hv ρ σ → PstE X.K cl C W σ F Hv H (TJe X.K cl Q) (f ρ ps) → wi σ H Q
def eI (f : DI) : EI := fun ρ ps => (f ρ).up ps
theorem ie_pure {f : DI} (h : ∀ F, SI X W (cl.at F) tg iter f) : SIe X W cl C tg iter (eI f) :=
  ⟨fun σ H Q => ∃ F, (h F).choose σ H Q, ⟨fun pins s σ H R I ⟨F, q⟩ => (h F).choose_spec.1.run pins s σ H R I q⟩, fun F Hv H σ ρ ps Q vw pl er pv => ⟨F, (h F).choose_spec.2 Hv H σ ρ Q vw.at er (up_pst pl pv)⟩⟩
theorem ItOk.at {K : PySem.W.Frag} {J : It} {ds : List D} (h : ItOk K (cl.at F) J Hv ds) (ho : ∀ k a, obA F k a → obA F1 k a) : ItOk K (cl.at F1) J Hv ds where
  go := fun i Hv' H' sm vw hi => h.go i Hv' H' sm vw.un.at hi
  stop := fun i Hv' H' sm vw hi => h.stop i Hv' H' sm vw.un.at hi
  yld := fun i Hv' H' sm vw d hd x H2 y => by
    obtain ⟨Hv2, e, r⟩ := h.yld i Hv' H' sm vw.un.at d hd x H2 y
    exact ⟨Hv2, ⟨e.hh, e.vv, e.vh.un.at, e.old, e.dom, e.tt⟩, r.ob ho⟩
def forGoE (pt : Pat) (f : DSe) : List D → DSe
  | [], ρ, ps => .nx ρ ps
  | d :: ds, ρ, ps => match bindPat pt d ρ with
    | some ρ' => (f ρ' ps).seq (forGoE pt f ds)
    | none => .bad
def eFor (own : List Nat) (pt : Pat) (it : EI) (f : DSe) : DSe := fun ρ ps => (it (mask own ρ) ps).to ρ fun ds ps => forGoE pt f ds ρ ps
theorem es_for {pt : Pat} {it : EI} {f : DSe} (gd : Gd X W) (hi : SIe X W cl C tg iter it) (hg : ∀ F, SG X (cl.at F) tg pt) (hb : SSes X W cl C own own sts f) (hd : disj (patIx pt) own = true := by rfl) (hs : ∀ x, foldedSetIterable iter X.env x = pure x := by intro _; rfl) :
    SSe X W cl C own own (.For tg iter sts [] pos) (eFor own pt it f) := by
  obtain ⟨wi, pi, hi⟩ := hi
  obtain ⟨tg1, pg, hg⟩ := sgE hg
  obtain ⟨tb, pb, hb⟩ := hb
  refine ⟨_, ps_for gd.po gd.calm pi pg pb hs, fun F0 Hv0 H0 ρ σ ps F Hv H Dn sr hl po => ?_⟩
  refine hi F Hv H σ _ ps _ sr.ext.vh sr.pls sr.er (use_maskE sr hl po fun ds ps' F' Hv' H' _ e sr' po' z J hJ => ?_)
  refine ⟨fun i m σ1 H1 => ∃ ρ1 ps1 F1 Hv1, SRe X.K cl C F0 Hv0 H0 own ρ1 σ1 ps1 F1 Hv1 H1 ∧ σ1.length = X.N.length ∧ Sam Hv' Hv1 ∧ (∀ k a, obA F' k a → obA F1 k a) ∧ m = ds.length - i ∧ i ≤ ds.length ∧ PSOe X W cl C F0 Hv0 H0 own F1 Hv1 Dn (forGoE pt f (ds.drop i) ρ1 ps1),
    ⟨ds.length, ρ, ps', F', Hv', sr', hl, Sam.refl _, fun _ _ z => z, rfl, Nat.zero_le _, po'⟩, ?_⟩
  rintro i m σ1 H1 ⟨ρ1, ps1, F1, Hv1, s1, l1, sm1, ob1, rfl, hi1, p1⟩
  have hJ := hJ.at ob1
  by_cases hlt : i < ds.length
  · rw [List.drop_eq_getElem_cons hlt] at p1
    unfold forGoE at p1
    refine .inr ⟨hJ.go i Hv1 H1 sm1 s1.ext.vh.at hlt, fun σ2 H2 => ∃ ρ2 ps2 F2 Hv2, SRe X.K cl C F0 Hv0 H0 own ρ2 σ2 ps2 F2 Hv2 H2 ∧ σ2.length = X.N.length ∧ Sam Hv' Hv2 ∧ (∀ k a, obA F' k a → obA F2 k a) ∧ PSOe X W cl C F0 Hv0 H0 own F2 Hv2 Dn (forGoE pt f (ds.drop (i + 1)) ρ2 ps2),
      fun σ2 H2 ⟨ρ2, ps2, F2, Hv2, s2, l2, sm2, ob2, p2⟩ => ⟨ds.length - (i + 1), by omega, ρ2, ps2, F2, Hv2, s2, l2, sm2, ob2, rfl, hlt, p2⟩, fun x H2 y => ?_⟩
    obtain ⟨Hv2, e2, r2⟩ := hJ.yld i Hv1 H1 sm1 s1.ext.vh.at ds[i] (by simp [hlt]) x H2 y
    cases q : bindPat pt ds[i] ρ1 with
    | none => rw [q] at p1; exact p1.elim
    | some ρ' =>
      rw [q] at p1
      have s2 := s1.step (ExtE.of e2) (s1.pls.ext e2)
      refine hg F1 Hv2 H2 x ds[i] ρ1 ρ' σ1 _ e2.vh r2 q s1.len fun σ3 f3 l3 k3 => ?_
      have s3 := s2.back (f3 own Hv2 _ Hv2 H2 s2.sr (Sam.refl _) (disj_mem hd))
      refine hb F0 Hv0 H0 ρ' σ3 ps1 F1 Hv2 H2 _ s3 (l3.trans l1) ?_
      have p1' : PSOe X W cl C F0 Hv0 H0 own F1 Hv2 Dn ((f ρ' ps1).seq (forGoE pt f (ds.drop (i + 1)))) := p1.mono e2.vv fun _ _ z => z
      cases w : f ρ' ps1 with
      | nx ρ4 ps4 =>
        rw [w] at p1'
        intro σ4 F4 Hv4 H4 s4 sm4 ob4 l4
        exact ⟨ρ4, ps4, F4, Hv4, s4, l4, (sm1.trans e2.vv).trans sm4, fun k a z => ob4 k a (ob1 k a z), p1'.mono sm4 ob4⟩
      | ret d ps4 => rw [w] at p1'; exact p1'
      | err ρ4 c ps4 => rw [w] at p1'; exact p1'
      | bad => rw [w] at p1'; exact p1'
  · have ei : i = ds.length := by omega
    subst ei
    rw [List.drop_length] at p1
    exact .inl ⟨hJ.stop _ Hv1 H1 sm1 s1.ext.vh.at rfl, p1 σ1 F1 Hv1 H1 s1 (Sam.refl _) (fun _ _ z => z) l1⟩
end
def outE : OE → RP D
  | .nx _ ps => .ok .non ps
  | .ret d ps => .ok d ps
  | .err _ c ps => .err c ps
  | .bad => .bad
def defE (n m : Nat) (f : DSe) : List D → PLS → RP D := fun ds ps => if ds.length = n then outE (f (args m ds) ps) else .bad
def spE (K : PySem.W.Frag) (cl : Glb) (C : Addr) (n : Nat) (Fd : List D → PLS → RP D) : Sp := fun vs H Q E => vs.length = n ∧ ∃ F Hv ds ps, Vw cl Hv H ∧ Pls K cl C F ps Hv H ∧ Reps K (cl.at F) Hv vs ds ∧ PstE K cl C (fun c d _ H => E c d H) [] F Hv H (TVe K cl Q) (Fd ds ps)
section
variable {P : Program} {w : World} {K : PySem.W.Frag} {mg : Str → Option Value} {base : Heap} {cl : Glb} {C : Addr}
theorem fnE_ok {k n m : Nat} {x q : Str} {st : Stmt} {f : Addr} {fd : FuncData} {N ps : List Str} {den : DSe} {own : List Nat}
    (F : Fun K x q st f fd) (S : FnScope N ps (defScope st)) (hn : ps.length = n) (hN : N.length = m)
    (h : ∀ (cdv : Value) (A : Around) (outer : List PySem.Env) (s : Shared) (H : Hp) (E : XK), Gd (cxOf (L2.CX P w) P w K mg base N q (defScope st) f cdv A outer s H E) (fun cls d _ H => E cls d H) →
      Room k (A.deeper (PyProof.Rows.envOfC q (defScope st) s.heap.objs.size f cdv)) → SSes (cxOf (L2.CX P w) P w K mg base N q (defScope st) f cdv A outer s H E) (fun cls d _ H => E cls d H) cl C [] own (defBody st) den) :
    FnOk P w K mg base (L2.CX P w) (k + 1) f fd ps (spE K cl C n (defE n m den)) := by
  refine F.okX S (fun vs H Q E h => h.1.trans hn.symm) (fun cdv A outer s H vs Q E hr hsp => ?_)
  obtain ⟨hv, Ft, Hv, ds, ps0, vw, pl, r, ps'⟩ := hsp
  have gd : Gd (cxOf (L2.CX P w) P w K mg base N q (defScope st) f cdv A outer s H E) (fun cls d _ H => E cls d H) := ⟨rfl, S.nd, takes_of rfl rfl rfl rfl, passes_of rfl⟩
  obtain ⟨t, pt, run⟩ := h cdv A outer s H E gd hr
  refine ⟨t, pt, run Ft Hv H (args N.length ds) (start N vs) ps0 Ft Hv H _ ⟨ExtE.refl vw, pl, ?_, fun i d _ e => args_get r e, fun i hi => absurd hi (by simp), fun i j p hi => absurd hi (by simp)⟩ ?_ ?_⟩
  · unfold args L2.start
    rw [List.length_append, List.length_append, List.length_map, List.length_map, List.length_replicate, List.length_replicate, r.length]
  · unfold L2.start
    have h1 : ps.length ≤ N.length := by have := congrArg List.length S.pre; rw [List.length_take] at this; omega
    show _ = N.length
    rw [List.length_append, List.length_map, List.length_replicate]
    omega
  · have hd : ds.length = n := by rw [← r.length]; exact hv
    unfold defE at ps'
    rw [if_pos hd] at ps'
    rw [hN]
    cases q : den (args m ds) ps0 with
    | nx ρ ps1 =>
      rw [q] at ps'
      exact fun σ' F' Hv' H' sr sm ob hl => ps' F' Hv' H' sr.ext sr.pls .non .non
    | ret d ps1 =>
      rw [q] at ps'
      exact fun v F' Hv' H' e pl r' => ps' F' Hv' H' e pl v r'
    | err ρ c ps1 =>
      rw [q] at ps'
      exact fun σ' F' Hv' H' sr _ _ hl => ps' F' Hv' H' sr.ext sr.pls
    | bad => rw [q] at ps'; exact ps'.elim
end
structure FnA (P : Program) (w : World) (K : PySem.W.Frag) (mg : Str → Option Value) (base : Heap) (cl : Glb) (C : Addr) (k : Nat) (x : Str) (n : Nat) (Fd : List D → PLS → RP D) : Prop where
  ex : ∃ f, FnR P w K mg base (L2.CX P w) k f (spE K cl C n Fd) ∧ mg x = some (.ref f) ∧ PySem.W.keepIn K (.ref f) = true
structure FnM (P : Program) (w : World) (K : PySem.W.Frag) (mg : Str → Option Value) (base : Heap) (cl : Glb) (C : Addr) (k : Nat) (m : Str) (n : Nat) (Fd : List D → PLS → RP D) : Prop where
  ex : ∃ f, FnR P w K mg base (L2.CX P w) k f (spE K cl C n Fd) ∧ Meth K C m f
section
variable {P : Program} {w : World} {K : PySem.W.Frag} {mg : Str → Option Value} {base : Heap} {cl : Glb} {C : Addr} {k n m : Nat} {x q : Str}
theorem FnOk.rawN {f : Addr} {fd : FuncData} {ps : List Str} {sp : Sp} {CX : CXT} (F : FnOk P w K mg base CX k f fd ps sp) (hb : Binds K fd ps []) : FnR P w K mg base CX k f sp := (F.raw hb .nil).imp fun vs H Q E h => by rw [List.append_nil]; exact h
theorem FnA.mono {k' : Nat} {Fd : List D → PLS → RP D} (h : FnA P w K mg base cl C k x n Fd) (hk : k ≤ k') : FnA P w K mg base cl C k' x n Fd := let ⟨f, h1, h2, h3⟩ := h.ex; ⟨f, h1.mono hk, h2, h3⟩
theorem FnM.mono {k' : Nat} {Fd : List D → PLS → RP D} (h : FnM P w K mg base cl C k x n Fd) (hk : k ≤ k') : FnM P w K mg base cl C k' x n Fd := let ⟨f, h1, h2⟩ := h.ex; ⟨f, h1.mono hk, h2⟩
def upF (Fp : List D → R D) : List D → PLS → RP D := fun ds ps => (Fp ds).up ps
theorem FnA.of {Fp : List D → R D} (G : ∀ F, Fn P w K mg base (cl.at F) k x n Fp) : FnA P w K mg base cl C k x n (upF Fp) := by
  obtain ⟨f, fd, ps, h1, h2, h3, h4, h5⟩ := G []
  refine ⟨f, ?_, h2, h3⟩
  intro A outer s H us vs Q E hr e0 r ⟨hl, F, Hv, ds, ps', vw, pl, rs, pv⟩
  obtain ⟨f', fd', ps'', g1, g2, g3, g4, g5⟩ := G F
  rw [h2] at g2; cases g2
  exact FnOk.rawN g1 g4 A outer s H us vs Q E hr e0 r ⟨hl, Hv, ds, vw.at, rs, up_pst pl pv⟩
theorem fnA_mk {st : Stmt} {f : Addr} {fd : FuncData} {N ps : List Str} {den : DSe} {own : List Nat}
    (F : Fun K x x st f fd) (S : FnScope N ps (defScope st)) (hm : mg x = some (.ref f)) (hb : Binds K fd ps []) (hn : ps.length = n) (hN : N.length = m)
    (h : ∀ (cdv : Value) (A : Around) (outer : List PySem.Env) (s : Shared) (H : Hp) (E : XK), Gd (cxOf (L2.CX P w) P w K mg base N x (defScope st) f cdv A outer s H E) (fun cls d _ H => E cls d H) →
      Room k (A.deeper (PyProof.Rows.envOfC x (defScope st) s.heap.objs.size f cdv)) → SSes (cxOf (L2.CX P w) P w K mg base N x (defScope st) f cdv A outer s H E) (fun cls d _ H => E cls d H) cl C [] own (defBody st) den) :
    FnA P w K mg base cl C (k + 1) x n (defE n m den) := ⟨f, FnOk.rawN (fnE_ok F S hn hN h) hb, hm, F.kp⟩
theorem fnM_mk {st : Stmt} {f : Addr} {fd : FuncData} {N ps : List Str} {den : DSe} {own : List Nat}
    (F : Fun K x q st f fd) (S : FnScope N ps (defScope st)) (hm : Meth K C x f) (hb : Binds K fd ps []) (hn : ps.length = n) (hN : N.length = m)
    (h : ∀ (cdv : Value) (A : Around) (outer : List PySem.Env) (s : Shared) (H : Hp) (E : XK), Gd (cxOf (L2.CX P w) P w K mg base N q (defScope st) f cdv A outer s H E) (fun cls d _ H => E cls d H) →
      Room k (A.deeper (PyProof.Rows.envOfC q (defScope st) s.heap.objs.size f cdv)) → SSes (cxOf (L2.CX P w) P w K mg base N q (defScope st) f cdv A outer s H E) (fun cls d _ H => E cls d H) cl C [] own (defBody st) den) :
    FnM P w K mg base cl C (k + 1) x n (defE n m den) := ⟨f, FnOk.rawN (fnE_ok F S hn hN h) hb, hm⟩
end
section
variable {X : Cx} {CX : CXT} {k : Nat} {f C : Addr} {sp : Sp} {E : St → XK} {x m : Str} {p pos apos : Pos} {e o : Expr} {es : List Expr} {ta : TE} {t : TA}
theorem run_fnRS {pins : List (Addr × Obj)} {σ : St} {H : Hp} {s : Shared} {Q : VK} {us : List Value} {vs : List V} (F : FnR X.prog X.w X.K X.mg X.base CX k f sp) (hr : Room k X.A) (hx : PassesAt CX X σ (E σ))
    (I : Inv X pins σ H s) (r : Vals vs us) (h : sp vs H Q (E σ)) : wpAny (model X.prog X.w) X.A (call (.ref f) us) (EP X pins σ Q) X.xe s := by
  refine wpAny_call (codeAny_mono (F X.A X.stack s H us vs Q (E σ) hr I.env0 r h) fun r s' hq => ?_)
  cases r with
  | error e => exact hx pins H s e s' I hq
  | ok fl =>
    cases fl with
    | ret u => exact I.after hq
    | next => exact False.elim hq
    | brk => exact False.elim hq
    | cont => exact False.elim hq
theorem pe_callRS (F : FnR X.prog X.w X.K X.mg X.base CX k f sp) (hr : Room k X.A) (hg : Gl X x) (hm : X.mg x = some (.ref f)) (hk : PySem.W.keepIn X.K (.ref f) = true) (hx : ∀ σ, PassesAt CX X σ (E σ))
    (ha : PA X (e :: es) t) (hdb : (x == ("__debug__" : Str)) = false := by decide) (he : starEach (e :: es) X.env = (false, eval e X.env) :: starEach es X.env := by rfl) (hpl : (backTo pos (starEach es X.env)).any (·.1) = false := by rfl) :
    PE X (.Call (.Name x p) (e :: es) [] pos) (tCallS sp E t) := by
  refine ⟨fun pins s σ H Q I h => ?_⟩
  refine wpAny_Call_Name_kw (ld_glob I hg hm ?_ hdb)
  refine PySem.W.callWith_K (h₀ := X.base) I.ok.mod.kin hk (thn (ha.run pos pins s σ H _ I h) fun us s1 ⟨vs, H1, I1, r, q⟩ => ⟨I1.kIn, ?_⟩) he hpl
  exact run_fnRS F hr (hx σ) I1 r q
def tMethRS (C : Addr) (m : Str) (sp : Sp) (E : St → XK) (ta : TE) (t : TA) : TE := fun σ H Q => ta σ H fun x H1 => ∃ a dx fs, x = .ref a ∧ H1 a = some (.ins C dx fs) ∧ fs.lookup m = none ∧ t σ H1 fun vs H2 => sp (x :: vs) H2 Q (E σ)
theorem pe_methRS {pl : Sem Bool} (he : PE X o ta) (c : Cls X.K C) (hm : Meth X.K C m f)
    (F : FnR X.prog X.w X.K X.mg X.base CX k f sp) (hr : Room k X.A) (hx : ∀ σ, PassesAt CX X σ (E σ)) (ha : PA X (e :: es) t)
    (hst : starEach (e :: es) X.env = (false, eval e X.env) :: starEach es X.env := by rfl) (hpl : (backTo pos (starEach es X.env)).any (·.1) = false := by rfl)
    (ht : eval (.Call (.Attribute o m apos) (e :: es) [] pos) X.env = (do
      let ov ← eval o X.env
      standAt apos.atName
      let (f, first) ← holding [ov] (getMethod ov m pl)
      callWith pos f first (backTo pos (starEach (e :: es) X.env)) (backToKw pos (keywordEach [] X.env))) := by rfl) :
    PE X (.Call (.Attribute o m apos) (e :: es) [] pos) (tMethRS C m sp E ta t) := by
  refine ⟨fun pins s σ H Q I h => ?_⟩
  refine PySem.W.methodCall_KW (pl := pl) (thn (he.run pins s σ H _ I h) fun u s1 ⟨x, H1, I1, rx, a, dx, fs, ex, ea, l, q⟩ => ?_) ht
  subst ex
  obtain rfl : u = Value.ref a := rx
  refine getmeth_ok I1 ea c hm l ?_
  refine PySem.W.callWith_K (first := [.ref a]) (h₀ := X.base) I.ok.mod.kin hm.kp (thn (ha.run pos pins s1 σ H1 _ I1 q) fun us s2 ⟨vs, H2, I2, r, q2⟩ => ⟨I2.kIn, ?_⟩) hst hpl
  exact run_fnRS (us := .ref a :: us) (vs := .ref a :: vs) F hr (hx σ) I2 (.cons rfl r) q2
theorem pe_methRS0 {pl : Sem Bool} (he : PE X o ta) (c : Cls X.K C) (hm : Meth X.K C m f) (F : FnR X.prog X.w X.K X.mg X.base CX k f sp) (hr : Room k X.A) (hx : ∀ σ, PassesAt CX X σ (E σ))
    (ht : eval (.Call (.Attribute o m apos) [] [] pos) X.env = (do
      let ov ← eval o X.env
      standAt apos.atName
      let (f, first) ← holding [ov] (getMethod ov m pl)
      callWith pos f first (backTo pos (starEach [] X.env)) (backToKw pos (keywordEach [] X.env))) := by rfl) :
    PE X (.Call (.Attribute o m apos) [] [] pos) (tMethRS C m sp E ta tNil) := by
  refine ⟨fun pins s σ H Q I h => ?_⟩
  refine PySem.W.methodCall_KW (pl := pl) (thn (he.run pins s σ H _ I h) fun u s1 ⟨x, H1, I1, rx, a, dx, fs, ex, ea, l, q⟩ => ?_) ht
  subst ex
  obtain rfl : u = Value.ref a := rx
  refine getmeth_ok I1 ea c hm l ?_
  exact PySem.W.callWith_K0 (first := [.ref a]) I1.kIn hm.kp (run_fnRS (us := [.ref a]) (vs := [.ref a]) F hr (hx σ) I1 (.cons rfl .nil) q)
end
section
variable {X : Cx} {W : WX} {cl : Glb} {C : Addr} {pos p apos : Pos} {a b c e o : Expr} {es : List Expr} {fa fb : EE} {g : EA}
def eCallA (Fd : List D → PLS → RP D) (g : EA) : EE := fun ρ ps => (g ρ ps).bind Fd
theorem ee_callA {k n : Nat} {x : Str} {Fd : List D → PLS → RP D} (G : FnA X.prog X.w X.K X.mg X.base cl C k x n Fd) (hr : Room k X.A) (tk : Takes X W) (ha : SAe X W cl C (e :: es) g) (hg : Gl X x := by rfl) (hn : (e :: es).length = n := by rfl) (hdb : (x == ("__debug__" : Str)) = false := by decide)
    (he : starEach (e :: es) X.env = (false, eval e X.env) :: starEach es X.env := by rfl) (hpl : (backTo pos (starEach es X.env)).any (·.1) = false := by rfl) :
    SEe X W cl C (.Call (.Name x p) (e :: es) [] pos) (eCallA Fd g) := by
  obtain ⟨f, h1, h2, h3⟩ := G.ex
  obtain ⟨ta, pa, ha, hl⟩ := ha
  refine ⟨_, pe_callRS h1 hr hg h2 h3 (fun σ => passAt tk σ) pa hdb he hpl, fun F Hv H σ ρ ps Q vw pl er pv => ?_⟩
  refine ha F Hv H σ ρ ps _ vw pl er (bindE pv fun ds ps1 F1 Hv1 H1 ex e1 pl1 pv1 vs rv => ?_)
  refine ⟨?_, F1, Hv1, ds, ps1, e1.vh, pl1, rv, ?_⟩
  · rw [rv.length, hl ρ ps ds ps1 ex]; exact hn
  · cases q : Fd ds ps1 with
    | ok d ps2 => rw [q] at pv1; exact pv1
    | err c ps2 => rw [q] at pv1; exact pv1
    | bad => rw [q] at pv1; exact pv1.elim
def eMeth (Fd : List D → PLS → RP D) (fo : EE) (g : EA) : EE := fun ρ ps => (fo ρ ps).bind fun d ps => match d with
  | .obj k => (g ρ ps).bind fun ds ps => Fd (.obj k :: ds) ps
  | _ => .bad
def plNames : List Str := ["own", "now", "past", "later"]
theorem look_no {m : Str} (h : plNames.contains m = false) (vo vn vp vl : V) : ([("own", vo), ("now", vn), ("past", vp), ("later", vl)] : List (Str × V)).lookup m = none := by
  simp only [plNames, List.contains_cons, List.contains_nil, Bool.or_false, Bool.or_eq_false_iff] at h
  obtain ⟨h1, h2, h3, h4⟩ := h
  simp only [List.lookup, h1, h2, h3, h4]
theorem methE_run {n : Nat} {m : Str} {Fd : List D → PLS → RP D} {ta : TE} {t : TA} (hm : plNames.contains m = false) (ha : RunEe X W cl C fa ta) (hg : RunAe X W cl C g t) (hn : ∀ ρ ps ds ps', g ρ ps = .ok ds ps' → ds.length + 1 = n) : RunEe X W cl C (eMeth Fd fa g) (tMethRS C m (spE X.K cl C n Fd) (WE W) ta t) := by
  intro F Hv H σ ρ ps Q vw pl er pv
  refine ha F Hv H σ ρ ps _ vw pl er (bindE pv fun d ps1 F1 Hv1 H1 ex e1 pl1 pv1 v rv => ?_)
  cases d with
  | obj k =>
    cases rv with
    | obj ho =>
      obtain ⟨f, q, hf, hx, hq, hp⟩ := pl1.at_obj ho
      obtain ⟨vo, vn, h1, _⟩ := hp.ins
      rw [hx] at h1
      refine ⟨_, _, _, rfl, h1, look_no hm _ _ _ _, ?_⟩
      refine hg F1 Hv1 H1 σ ρ ps1 _ e1.vh pl1 (er.ee e1) (bindE pv1 fun ds ps2 F2 Hv2 H2 ex2 e2 pl2 pv2 vs rvs => ?_)
      refine ⟨?_, F2, Hv2, .obj k :: ds, ps2, e2.vh, pl2, .cons (.obj (e2.ob _ _ ho)) rvs, ?_⟩
      · rw [List.length_cons, rvs.length]; exact hn ρ ps1 ds ps2 ex2
      · cases w : Fd (.obj k :: ds) ps2 with
        | ok d ps3 => rw [w] at pv2; exact pv2
        | err c ps3 => rw [w] at pv2; exact pv2
        | bad => rw [w] at pv2; exact pv2.elim
  | _ => exact pv1.elim
theorem ee_meth {pl : Sem Bool} {k n : Nat} {m : Str} {Fd : List D → PLS → RP D} (c : Cls X.K C) (G : FnM X.prog X.w X.K X.mg X.base cl C k m n Fd) (hr : Room k X.A) (tk : Takes X W) (ho : SEe X W cl C o fa) (ha : SAe X W cl C (e :: es) g) (hm : plNames.contains m = false := by decide) (hn : (e :: es).length + 1 = n := by rfl)
    (hst : starEach (e :: es) X.env = (false, eval e X.env) :: starEach es X.env := by rfl) (hpl : (backTo pos (starEach es X.env)).any (·.1) = false := by rfl)
    (ht : eval (.Call (.Attribute o m apos) (e :: es) [] pos) X.env = (do
      let ov ← eval o X.env
      standAt apos.atName
      let (f, first) ← holding [ov] (getMethod ov m pl)
      callWith pos f first (backTo pos (starEach (e :: es) X.env)) (backToKw pos (keywordEach [] X.env))) := by rfl) :
    SEe X W cl C (.Call (.Attribute o m apos) (e :: es) [] pos) (eMeth Fd fa g) := by
  obtain ⟨f, h1, h2⟩ := G.ex
  obtain ⟨ta, pa, ha⟩ := ha
  obtain ⟨to, po, ho⟩ := ho
  exact ⟨_, pe_methRS (pl := pl) po c h2 h1 hr (fun σ => passAt tk σ) pa hst hpl ht, methE_run hm ho ha.1 fun ρ ps ds ps' h => by rw [ha.2 ρ ps ds ps' h]; exact hn⟩
theorem ee_meth0 {pl : Sem Bool} {k : Nat} {m : Str} {Fd : List D → PLS → RP D} (c : Cls X.K C) (G : FnM X.prog X.w X.K X.mg X.base cl C k m 1 Fd) (hr : Room k X.A) (tk : Takes X W) (ho : SEe X W cl C o fa) (hm : plNames.contains m = false := by decide)
    (ht : eval (.Call (.Attribute o m apos) [] [] pos) X.env = (do
      let ov ← eval o X.env
      standAt apos.atName
      let (f, first) ← holding [ov] (getMethod ov m pl)
      callWith pos f first (backTo pos (starEach [] X.env)) (backToKw pos (keywordEach [] X.env))) := by rfl) :
    SEe X W cl C (.Call (.Attribute o m apos) [] [] pos) (eMeth Fd fa eNil) := by
  obtain ⟨f, h1, h2⟩ := G.ex
  obtain ⟨to, po, ho⟩ := ho
  exact ⟨_, pe_methRS0 (pl := pl) po c h2 h1 hr (fun σ => passAt tk σ) ht, methE_run hm ho (fun F Hv H σ ρ ps Q vw pl er pv => pv F _ _ (ExtE.refl vw) pl [] .nil) fun ρ ps ds ps' h => by cases h; rfl⟩
def eB (o : List D → Option D) (g : EA) : EE := fun ρ ps => (g ρ ps).bind fun ds ps => (ofO (o ds)).up ps
end
end Sm
namespace Sm
open PySem PySem.Spec L2
def Pl.get (q : Pl) : Bool → List D | true => q.past | false => q.later
def Pl.put (q : Pl) : Bool → List D → Pl | true, ds => { q with past := ds } | false, ds => { q with later := ds }
def Ft.at (f : Ft) : Bool → Addr | true => f.p | false => f.l
def Ft.move (f : Ft) : Bool → Addr → Ft | true, a => { f with p := a } | false, a => { f with l := a }
def fldN : Bool → Str | true => "past" | false => "later"
abbrev flds (vo vn : V) (f : Ft) : List (Str × V) := [("own", vo), ("now", vn), ("past", .ref f.p), ("later", .ref f.l)]
section
variable {K : PySem.W.Frag} {cl : Glb} {C : Addr} {F F' : List Ft} {Hv H Hv' H' : Hp} {ps : PLS}
theorem PlAt.lst {f : Ft} {q : Pl} (h : PlAt K cl C Hv H f q) (b : Bool) : ∃ vs, H (f.at b) = some (.lst vs) ∧ vs.length ≤ sizeLine ∧ Reps K cl Hv vs (q.get b) := by
  cases b
  · exact h.later
  · exact h.past
theorem Ft.at_mem (f : Ft) (b : Bool) : f.at b ∈ f.all := by cases b <;> simp [Ft.at, Ft.all]
def Soft : HO → Prop
  | .lst _ => True
  | .ins _ _ _ => True
  | _ => False
theorem vw_soft {a : Addr} {y y' : HO} (vw : Vw cl Hv H) (hv : Hv a = none) (ha : H a = some y) (sy : Soft y) (sy' : Soft y') : Vw cl Hv (upd H a y') := by
  refine ⟨fun b o h n => ?_, fun b h => vw.d b (upd_none h).2, fun b xs h => ?_, fun b o u h => ?_, fun q hq => ?_, fun b φ h => ?_⟩
  · rw [upd_ne fun z => by subst z; rw [hv] at h; cases h]; exact vw.s b o h n
  · by_cases z : b = a
    · subst z; rw [upd_same] at h; cases h; exact sy'.elim
    · rw [upd_ne z] at h; exact vw.t b xs h
  · by_cases z : b = a
    · subst z; rw [upd_same] at h; cases h; exact sy'.elim
    · rw [upd_ne z] at h; exact vw.z b o u h
  · obtain ⟨ps, g1, g2, g3⟩ := vw.tab q hq
    refine ⟨ps, ?_, g2, fun pos cv hc => ?_⟩
    · rw [upd_ne fun z => by rw [z, ha] at g1; cases g1; exact sy]; exact g1
    · obtain ⟨c, ec, hc'⟩ := g3 pos cv hc
      exact ⟨c, ec, by rw [upd_ne fun z => by subst z; rw [ha] at hc'; cases hc'; exact sy]; exact hc'⟩
  · by_cases z : b = a
    · subst z; rw [upd_same] at h; cases h; exact sy'.elim
    · rw [upd_ne z] at h; exact vw.x b φ h
theorem ext_soft {a : Addr} {y y' : HO} (vw : Vw cl Hv H) (hf : a ∈ feet F) (hv : Hv a = none) (ha : H a = some y) (sy : Soft y) (sy' : Soft y') : ExtE cl F Hv H F Hv (upd H a y') :=
  ⟨fun b o h n hb => by rw [upd_ne (show b ≠ a from fun z => hb (by rw [z]; exact hf))]; exact h, Sam.refl _, vw_soft vw hv ha sy sy', fun _ _ _ h => h, fun b h => (upd_none h).2, fun b ps h => ⟨ps, by rw [upd_ne fun z => by subst z; rw [ha] at h; cases h; exact sy]; exact h⟩, fun _ _ h => h, fun _ h => .inl h⟩
theorem feet_apart (nd : (feet F).Nodup) : ∀ {j k : Nat} {f g : Ft} {a : Addr}, F[j]? = some f → F[k]? = some g → a ∈ f.all → a ∈ g.all → j = k := by
  induction F with
  | nil => intro j k f g a h; simp at h
  | cons x F ih =>
    intro j k f g a h1 h2 m1 m2
    unfold feet at nd
    rw [List.flatMap_cons, List.nodup_append] at nd
    have nf : ∀ {i : Nat} {f : Ft}, F[i]? = some f → a ∈ f.all → a ∈ F.flatMap Ft.all := fun h m => List.mem_flatMap.mpr ⟨_, List.mem_of_getElem? h, m⟩
    cases j with
    | zero =>
      cases k with
      | zero => rfl
      | succ k =>
        simp only [List.getElem?_cons_zero, List.getElem?_cons_succ] at h1 h2
        cases h1
        exact absurd rfl (nd.2.2 a m1 a (nf h2 m2))
    | succ j =>
      cases k with
      | zero =>
        simp only [List.getElem?_cons_zero, List.getElem?_cons_succ] at h1 h2
        cases h2
        exact absurd rfl (nd.2.2 a m2 a (nf h1 m1))
      | succ k =>
        simp only [List.getElem?_cons_succ] at h1 h2
        rw [ih nd.2.1 h1 h2 m1 m2]
theorem all_nodup (nd : (feet F).Nodup) : ∀ {j : Nat} {f : Ft}, F[j]? = some f → f.all.Nodup := by
  induction F with
  | nil => intro j f h; simp at h
  | cons x F ih =>
    intro j f h
    unfold feet at nd
    rw [List.flatMap_cons, List.nodup_append] at nd
    cases j with
    | zero => cases h; exact nd.1
    | succ j => exact ih nd.2.1 (by simpa using h)
theorem foot_ne (nd : (feet F).Nodup) {j k : Nat} {f g : Ft} {a b : Addr} (h1 : F[j]? = some f) (h2 : F[k]? = some g) (hjk : j ≠ k) (ha : a ∈ f.all) (hb : b ∈ g.all) : a ≠ b := fun z => hjk (feet_apart nd h1 h2 ha (z ▸ hb))
theorem PlAt.off {f : Ft} {q : Pl} {a : Addr} {o : HO} (h : PlAt K cl C Hv H f q) (ha : a ∉ f.all) : PlAt K cl C Hv (upd H a o) f q := h.mono (fun b hb u hu _ => by rw [upd_ne (show b ≠ a from fun z => ha (by rw [← z]; exact hb))]; exact hu) (Sam.refl _) h.hid
theorem Pls.set (h : Pls K cl C F ps Hv H) {k : Nat} {f : Ft} {q : Pl} (hf : F[k]? = some f) (hs : ∀ (j : Nat) g u, j ≠ k → F[j]? = some g → PlAt K (cl.at F) C Hv H g u → PlAt K (cl.at F) C Hv H' g u) (hp : PlAt K (cl.at F) C Hv H' f q) : Pls K cl C F (ps.set k q) Hv H' := by
  refine ⟨by rw [List.length_set]; exact h.len, fun j g u hg hu => ?_, h.nd, h.ob0⟩
  by_cases z : j = k
  · subst z
    rw [hf] at hg; cases hg
    have : j < ps.length := by rw [← h.len]; exact (List.getElem?_eq_some_iff.mp hf).1
    rw [List.getElem?_set_self this] at hu; cases hu
    exact hp
  · rw [List.getElem?_set_ne (Ne.symm z)] at hu
    exact hs j g u z hg (h.pl j g u hg hu)
theorem pl_now (vw : Vw cl Hv H) (h : Pls K cl C F ps Hv H) {k : Nat} {f : Ft} {q : Pl} {vo vn v : V} {d : D} (hf : F[k]? = some f) (hq : ps[k]? = some q) (hi : H f.x = some (.ins C f.dx (flds vo vn f))) (r : Rep K (cl.at F) Hv v d) :
    ExtE cl F Hv H F Hv (upd H f.x (.ins C f.dx (flds vo v f))) ∧ Pls K cl C F (ps.set k { q with now := d }) Hv (upd H f.x (.ins C f.dx (flds vo v f))) := by
  have hp := h.pl k f q hf hq
  have mx : f.x ∈ f.all := by simp [Ft.all]
  have nd := all_nodup h.nd hf
  simp only [Ft.all, List.nodup_cons, List.mem_cons, List.not_mem_nil, or_false, not_or] at nd
  refine ⟨ext_soft vw (mem_feet.mpr ⟨f, List.mem_of_getElem? hf, mx⟩) (hp.hid _ mx) hi trivial trivial, h.set hf (fun j g u hj hg hp' => hp'.off fun z => foot_ne h.nd hg hf hj z mx rfl) ?_⟩
  obtain ⟨vo', vn', h1, r1, r2⟩ := hp.ins
  rw [hi] at h1; cases h1
  obtain ⟨vs, h2, z2, r3⟩ := hp.past
  obtain ⟨us, h3, z3, r4⟩ := hp.later
  exact ⟨⟨vo, v, upd_same, r1, r⟩, by rw [upd_ne (Ne.symm nd.1.1)]; exact hp.own, ⟨vs, by rw [upd_ne (Ne.symm nd.1.2.1)]; exact h2, z2, r3⟩, ⟨us, by rw [upd_ne (Ne.symm nd.1.2.2)]; exact h3, z3, r4⟩, hp.hid⟩
theorem pl_list (vw : Vw cl Hv H) (h : Pls K cl C F ps Hv H) {k : Nat} {f : Ft} {q : Pl} {vs : List V} {ds : List D} (b : Bool) (hf : F[k]? = some f) (hq : ps[k]? = some q) (hz : vs.length ≤ sizeLine) (r : Reps K (cl.at F) Hv vs ds) :
    ExtE cl F Hv H F Hv (upd H (f.at b) (.lst vs)) ∧ Pls K cl C F (ps.set k (q.put b ds)) Hv (upd H (f.at b) (.lst vs)) := by
  have hp := h.pl k f q hf hq
  have mx := f.at_mem b
  have nd := all_nodup h.nd hf
  simp only [Ft.all, List.nodup_cons, List.mem_cons, List.not_mem_nil, or_false, not_or] at nd
  obtain ⟨us, hu, _, _⟩ := hp.lst b
  refine ⟨ext_soft vw (mem_feet.mpr ⟨f, List.mem_of_getElem? hf, mx⟩) (hp.hid _ mx) hu trivial trivial, h.set hf (fun j g u hj hg hp' => hp'.off fun z => foot_ne h.nd hg hf hj z mx rfl) ?_⟩
  obtain ⟨vo, vn, h1, r1, r2⟩ := hp.ins
  obtain ⟨vp, h2, z2, r3⟩ := hp.past
  obtain ⟨vl, h3, z3, r4⟩ := hp.later
  cases b
  · exact ⟨⟨vo, vn, by rw [upd_ne (show f.x ≠ f.at false from nd.1.2.2)]; exact h1, r1, r2⟩, by rw [upd_ne (show f.dx ≠ f.at false from nd.2.1.2)]; exact hp.own, ⟨vp, by rw [upd_ne (show f.p ≠ f.at false from nd.2.2.1)]; exact h2, z2, r3⟩, ⟨vs, upd_same, hz, r⟩, hp.hid⟩
  · exact ⟨⟨vo, vn, by rw [upd_ne (show f.x ≠ f.at true from nd.1.2.1)]; exact h1, r1, r2⟩, by rw [upd_ne (show f.dx ≠ f.at true from nd.2.1.1)]; exact hp.own, ⟨vs, upd_same, hz, r⟩, ⟨vl, by rw [upd_ne (show f.l ≠ f.at true from Ne.symm nd.2.2.1)]; exact h3, z3, r4⟩, hp.hid⟩
theorem PlAt.ob {f : Ft} {q : Pl} (h : PlAt K (cl.at F) C Hv H f q) (ho : ∀ k a, obA F k a → obA F' k a) : PlAt K (cl.at F') C Hv H f q := by
  obtain ⟨vo, vn, h1, r1, r2⟩ := h.ins
  obtain ⟨vp, h2, z2, r3⟩ := h.past
  obtain ⟨vl, h3, z3, r4⟩ := h.later
  exact ⟨⟨vo, vn, h1, r1.ob ho, r2.ob ho⟩, h.own, ⟨vp, h2, z2, r3.ob ho⟩, ⟨vl, h3, z3, r4.ob ho⟩, h.hid⟩
theorem feet_set (nd : (feet F).Nodup) {k : Nat} {f : Ft} (hf : F[k]? = some f) (b : Bool) {n : Addr} (hn : n ∉ feet F) : (feet (F.set k (f.move b n))).Nodup ∧ ∀ a, a ∈ feet (F.set k (f.move b n)) → a ∈ feet F ∨ a = n := by
  induction F generalizing k with
  | nil => simp at hf
  | cons x F ih =>
    unfold feet at nd hn ⊢
    rw [List.flatMap_cons] at nd hn
    rw [List.nodup_append] at nd
    simp only [List.mem_append, not_or] at hn
    cases k with
    | zero =>
      cases hf
      simp only [List.set_cons_zero, List.flatMap_cons]
      have hx := nd.1
      simp only [Ft.all, List.nodup_cons, List.mem_cons, List.not_mem_nil, or_false, not_or] at hx hn
      refine ⟨List.nodup_append.mpr ⟨?_, nd.2.1, fun a ha c hc => ?_⟩, fun a ha => ?_⟩
      · cases b <;> simp only [Ft.move, Ft.all, List.nodup_cons, List.mem_cons, List.not_mem_nil, or_false, not_or, not_false_eq_true, List.nodup_nil, and_true] <;> grind
      · have : a ∈ f.all ∨ a = n := by cases b <;> simp only [Ft.move, Ft.all, List.mem_cons, List.not_mem_nil, or_false] at ha ⊢ <;> grind
        rcases this with h | h
        · exact nd.2.2 a h c hc
        · rw [h]; exact fun z => hn.2 (z ▸ hc)
      · rw [List.mem_append] at ha ⊢
        rcases ha with ha | ha
        · have : a ∈ f.all ∨ a = n := by cases b <;> simp only [Ft.move, Ft.all, List.mem_cons, List.not_mem_nil, or_false] at ha ⊢ <;> grind
          exact this.imp .inl id
        · exact .inl (.inr ha)
    | succ k =>
      simp only [List.set_cons_succ, List.flatMap_cons]
      obtain ⟨i1, i2⟩ := ih nd.2.1 (by simpa using hf) hn.2
      unfold feet at i1 i2
      refine ⟨List.nodup_append.mpr ⟨nd.1, i1, fun a ha c hc => ?_⟩, fun a ha => ?_⟩
      · rcases i2 c hc with h | h
        · exact nd.2.2 a ha c h
        · rw [h]; exact fun z => hn.1 (z ▸ ha)
      · rw [List.mem_append] at ha ⊢
        rcases ha with ha | ha
        · exact .inl (.inl ha)
        · exact (i2 a ha).imp .inr id
theorem ob_move {k : Nat} {f : Ft} (hf : F[k]? = some f) (b : Bool) (n : Addr) : ∀ j a, obA F j a ↔ obA (F.set k (f.move b n)) j a := by
  intro j a
  unfold obA
  by_cases z : j = k
  · subst z
    rw [List.getElem?_set_self (List.getElem?_eq_some_iff.mp hf).1, hf]
    cases b <;> rfl
  · rw [List.getElem?_set_ne (Ne.symm z)]
theorem vw_hide {n : Addr} {vs : List V} (vw : Vw cl Hv H) (hn : H n = none) : Vw cl Hv (upd H n (.lst vs)) := by
  refine ⟨vw.s.trans (.of (same_upd hn)), fun b h => vw.d b (upd_none h).2, fun b xs h => ?_, fun b o u h => ?_, vw.tab.ext (same_upd hn), fun b φ h => ?_⟩
  · by_cases z : b = n
    · subst z; rw [upd_same] at h; cases h
    · rw [upd_ne z] at h; exact vw.t b xs h
  · by_cases z : b = n
    · subst z; rw [upd_same] at h; cases h
    · rw [upd_ne z] at h; exact vw.z b o u h
  · by_cases z : b = n
    · subst z; rw [upd_same] at h; cases h
    · rw [upd_ne z] at h; exact vw.x b φ h
theorem pl_move (vw : Vw cl Hv H) (h : Pls K cl C F ps Hv H) {k : Nat} {f : Ft} {q : Pl} {vs : List V} {ds : List D} {vo vn : V} {n : Addr} (b : Bool) (hf : F[k]? = some f) (hq : ps[k]? = some q) (hi : H f.x = some (.ins C f.dx (flds vo vn f))) (hz : vs.length ≤ sizeLine) (r : Reps K (cl.at F) Hv vs ds) (hn : H n = none) :
    ExtE cl F Hv H (F.set k (f.move b n)) Hv (upd (upd H n (.lst vs)) f.x (.ins C f.dx (flds vo vn (f.move b n)))) ∧ Pls K cl C (F.set k (f.move b n)) (ps.set k (q.put b ds)) Hv (upd (upd H n (.lst vs)) f.x (.ins C f.dx (flds vo vn (f.move b n)))) := by
  have hp := h.pl k f q hf hq
  have mx : f.x ∈ f.all := by simp [Ft.all]
  have nd := all_nodup h.nd hf
  simp only [Ft.all, List.nodup_cons, List.mem_cons, List.not_mem_nil, or_false, not_or] at nd
  have nf : n ∉ feet F := fun z => by obtain ⟨_, o, ho, _⟩ := h.foot z; rw [hn] at ho; cases ho
  have nx : f.x ≠ n := fun z => by rw [z, hn] at hi; cases hi
  have hi' : upd H n (.lst vs) f.x = some (.ins C f.dx (flds vo vn f)) := by rw [upd_ne nx]; exact hi
  have vw1 := vw_hide (vs := vs) vw hn
  have hvx := hp.hid _ mx
  have vw2 : Vw cl Hv (upd (upd H n (.lst vs)) f.x (.ins C f.dx (flds vo vn (f.move b n)))) := vw_soft vw1 hvx hi' trivial trivial
  obtain ⟨fn1, fn2⟩ := feet_set h.nd hf b nf
  have ob := ob_move hf b n
  have fx : f.x ∈ feet F := mem_feet.mpr ⟨f, List.mem_of_getElem? hf, mx⟩
  refine ⟨⟨fun a o ha n' hb => ?_, Sam.refl _, vw2, fun _ _ _ h => h, fun a ha => ?_, fun a ps ha => ⟨ps, ?_⟩, fun j a => (ob j a).mp, fun a ha => ?_⟩, ?_⟩
  · rw [upd_ne (show a ≠ f.x from fun z => hb (by rw [z]; exact fx)), upd_ne (show a ≠ n from fun z => by subst z; rw [hn] at ha; cases ha)]; exact ha
  · exact (upd_none (upd_none ha).2).2
  · rw [upd_ne (show a ≠ f.x from fun z => by rw [z, hi] at ha; cases ha), upd_ne (show a ≠ n from fun z => by rw [z, hn] at ha; cases ha)]; exact ha
  · rcases fn2 a ha with z | z
    · exact .inl z
    · exact .inr (z ▸ hn)
  refine ⟨by rw [List.length_set, List.length_set]; exact h.len, fun j g u hg hu => ?_, fn1, fun k a z => (ob k a).mp (h.ob0 k a z)⟩
  by_cases z : j = k
  · subst z
    rw [List.getElem?_set_self (List.getElem?_eq_some_iff.mp hf).1] at hg
    cases hg
    have : j < ps.length := by rw [← h.len]; exact (List.getElem?_eq_some_iff.mp hf).1
    rw [List.getElem?_set_self this] at hu; cases hu
    obtain ⟨vo', vn', h1, r1, r2⟩ := hp.ins
    rw [hi] at h1; cases h1
    obtain ⟨vp, h2, z2, r3⟩ := hp.past
    obtain ⟨vl, h3, z3, r4⟩ := hp.later
    have om := fun k a => (ob k a).mp
    have hvn : Hv n = none := vw.d n hn
    have at_ : ∀ {a : Addr} {o : HO}, H a = some o → a ≠ f.x → upd (upd H n (.lst vs)) f.x (.ins C f.dx (flds vo vn (f.move b n))) a = some o := fun {a o} ha hx => by
      rw [upd_ne hx, upd_ne fun z => by subst z; rw [hn] at ha; cases ha]; exact ha
    have new : upd (upd H n (.lst vs)) f.x (.ins C f.dx (flds vo vn (f.move b n))) n = some (.lst vs) := by rw [upd_ne (Ne.symm nx), upd_same]
    cases b
    · exact ⟨⟨vo, vn, upd_same, r1.ob om, r2.ob om⟩, at_ hp.own (Ne.symm nd.1.1), ⟨vp, at_ h2 (Ne.symm nd.1.2.1), z2, r3.ob om⟩, ⟨vs, new, hz, r.ob om⟩, fun a ha => by
        simp only [Ft.move, Ft.all, List.mem_cons, List.not_mem_nil, or_false] at ha
        rcases ha with rfl | rfl | rfl | rfl
        · exact hvx
        · exact hp.hid _ (by simp [Ft.all])
        · exact hp.hid _ (by simp [Ft.all])
        · exact hvn⟩
    · exact ⟨⟨vo, vn, upd_same, r1.ob om, r2.ob om⟩, at_ hp.own (Ne.symm nd.1.1), ⟨vs, new, hz, r.ob om⟩, ⟨vl, at_ h3 (Ne.symm nd.1.2.2), z3, r4.ob om⟩, fun a ha => by
        simp only [Ft.move, Ft.all, List.mem_cons, List.not_mem_nil, or_false] at ha
        rcases ha with rfl | rfl | rfl | rfl
        · exact hvx
        · exact hp.hid _ (by simp [Ft.all])
        · exact hvn
        · exact hp.hid _ (by simp [Ft.all])⟩
  · rw [List.getElem?_set_ne (Ne.symm z)] at hg hu
    have hp' := h.pl j g u hg hu
    refine ((hp'.off (a := n) fun zz => nf (mem_feet.mpr ⟨g, List.mem_of_getElem? hg, zz⟩)).off fun zz => foot_ne h.nd hg hf z zz mx rfl).ob fun k a => (ob k a).mp
end
end Sm
namespace Sm
open PySem PySem.Spec L2
structure PlC (K : PySem.W.Frag) (C : Addr) : Prop where
  cls : Cls K C
  na : ∀ x ∈ plNames, NoAttr K C x
theorem fldN_in (b : Bool) : fldN b ∈ plNames := by cases b <;> simp [fldN, plNames]
def objAt (i : Nat) (ρ : Env) : Option Nat := match ρ[i]? with | some (some (.obj k)) => some k | _ => none
def plAt (i : Nat) (ρ : Env) (ps : PLS) : Option (Nat × Pl) := match objAt i ρ with | some k => (ps[k]?).map fun q => (k, q) | none => none
section
variable {X : Cx} {W : WX} {cl : Glb} {C : Addr} {F0 F F1 : List Ft} {Hv0 H0 Hv Hv1 H : Hp} {own own1 own2 own3 : List Nat} {Dn : Ends} {pos pos' p p1 p2 p3 p4 apos : Pos} {a b c e o tg iter : Expr} {es : List Expr} {fa fb : EE} {g : EA} {st : Stmt} {sts : List Stmt} {ρ : Env} {σ : St} {ps : PLS}
theorem plAt_ok {i k : Nat} {q : Pl} (er : ER X.K (cl.at F) Hv ρ σ) (pl : Pls X.K cl C F ps Hv H) (h : plAt i ρ ps = some (k, q)) :
    ∃ f vo vn, F[k]? = some f ∧ σ[i]? = some (some (.ref f.x)) ∧ ps[k]? = some q ∧ PlAt X.K (cl.at F) C Hv H f q ∧ H f.x = some (.ins C f.dx (flds vo vn f)) ∧ Rep X.K (cl.at F) Hv vo q.own ∧ Rep X.K (cl.at F) Hv vn q.now := by
  unfold plAt at h
  cases ho : objAt i ρ with
  | none => rw [ho] at h; cases h
  | some k' =>
    rw [ho] at h
    simp only [Option.map_eq_some_iff, Prod.mk.injEq] at h
    obtain ⟨q', hq, rfl, rfl⟩ := h
    unfold objAt at ho
    split at ho
    · rename_i k'' hi
      cases ho
      obtain ⟨v, hs, rv⟩ := er.get i _ hi
      cases rv with
      | obj hob =>
        obtain ⟨f, q2, hf, hx, hq2, hp⟩ := pl.at_obj hob
        rw [hq] at hq2; cases hq2
        obtain ⟨vo, vn, h1, r1, r2⟩ := hp.ins
        exact ⟨f, vo, vn, hf, by rw [hx]; exact hs, hq, hp, h1, r1, r2⟩
    · cases ho
def eNow (i : Nat) : EE := fun ρ ps => match plAt i ρ ps with | some (_, q) => .ok q.now ps | none => .bad
def eOwn (i : Nat) : EE := fun ρ ps => match plAt i ρ ps with | some (_, q) => .ok q.own ps | none => .bad
theorem ee_now {x : Str} (i : Nat) (T : PlC X.K C) (hN : X.N[i]? = some x := by rfl) (hv : Vis X.env.scope x := by first | exact Or.inl rfl | exact Or.inr (Or.inl rfl) | exact Or.inr (Or.inr rfl)) (hd : (x == ("__debug__" : Str)) = false := by decide)
    (hcd : (x == ("__classdict__" : Str)) = false := by decide) (hb : attributeBase (.Name x p) "now" X.env (eval (.Name x p) X.env) = eval (.Name x p) X.env := by rfl) : SEe X W cl C (.Attribute (.Name x p) "now" pos) (eNow i) := by
  refine ⟨_, pe_fld (pe_var hN hv hd hcd) hb, fun F Hv H σ ρ ps Q vw pl er pv => ?_⟩
  unfold eNow at pv
  split at pv
  · rename_i k q h
    obtain ⟨f, vo, vn, hf, hs, hq, hp, h1, r1, r2⟩ := plAt_ok er pl h
    exact ⟨_, hs, _, _, _, _, vn, rfl, h1, T.cls, T.na _ (by simp [plNames]), rfl, pv F _ _ (ExtE.refl vw) pl vn r2⟩
  · exact pv.elim
theorem ee_own {x : Str} (i : Nat) (T : PlC X.K C) (hN : X.N[i]? = some x := by rfl) (hv : Vis X.env.scope x := by first | exact Or.inl rfl | exact Or.inr (Or.inl rfl) | exact Or.inr (Or.inr rfl)) (hd : (x == ("__debug__" : Str)) = false := by decide)
    (hcd : (x == ("__classdict__" : Str)) = false := by decide) (hb : attributeBase (.Name x p) "own" X.env (eval (.Name x p) X.env) = eval (.Name x p) X.env := by rfl) : SEe X W cl C (.Attribute (.Name x p) "own" pos) (eOwn i) := by
  refine ⟨_, pe_fld (pe_var hN hv hd hcd) hb, fun F Hv H σ ρ ps Q vw pl er pv => ?_⟩
  unfold eOwn at pv
  split at pv
  · rename_i k q h
    obtain ⟨f, vo, vn, hf, hs, hq, hp, h1, r1, r2⟩ := plAt_ok er pl h
    exact ⟨_, hs, _, _, _, _, vo, rfl, h1, T.cls, T.na _ (by simp [plNames]), rfl, pv F _ _ (ExtE.refl vw) pl vo r1⟩
  · exact pv.elim
def eSetNow (own : List Nat) (i : Nat) (f : EE) : DSe := fun ρ ps => (f (mask own ρ) ps).to ρ fun d ps => match plAt i (mask own ρ) ps with | some (k, q) => .nx ρ (ps.set k { q with now := d }) | none => .bad
theorem es_setNow {x : Str} (i : Nat) (T : PlC X.K C) (ha : SEe X W cl C a fa) (hN : X.N[i]? = some x := by rfl) (hv : Vis X.env.scope x := by first | exact Or.inl rfl | exact Or.inr (Or.inl rfl) | exact Or.inr (Or.inr rfl)) (hd : (x == ("__debug__" : Str)) = false := by decide)
    (hcd : (x == ("__classdict__" : Str)) = false := by decide) (hs : swapsWith a (some (.Attribute (.Name x p) "now" pos')) pos.line X.env = pure false := by rfl) : SSe X W cl C own own (.Assign [.Attribute (.Name x p) "now" pos'] a pos) (eSetNow own i fa) := by
  obtain ⟨ta, pa, ha⟩ := ha
  refine ⟨_, ps_fld (pe_var hN hv hd hcd) pa hs, fun F0 Hv0 H0 ρ σ ps F Hv H Dn sr hl po => ?_⟩
  refine ha F Hv H σ _ ps _ sr.ext.vh sr.pls sr.er (use_maskE sr hl po fun d ps' F' Hv' H' _ e sr' po' v r => ?_)
  split at po'
  · rename_i k q h
    obtain ⟨f, vo, vn, hf, hσ, hq, hp, h1, r1, r2⟩ := plAt_ok sr'.er sr'.pls h
    obtain ⟨e2, p2⟩ := pl_now sr'.ext.vh sr'.pls hf hq h1 r
    exact ⟨_, hσ, _, _, _, _, rfl, h1, T.cls, T.na _ (by simp [plNames]), by simp, po' σ F' Hv' _ (sr'.step e2 p2) (Sam.refl _) (fun _ _ z => z) hl⟩
  · exact po'.elim
theorem putF_list (b : Bool) (n : Addr) (vo vn : V) (f : Ft) : putF (fldN b) (.ref n) (flds vo vn f) = flds vo vn (f.move b n) := by cases b <;> rfl
theorem look_list (b : Bool) (vo vn : V) (f : Ft) : (flds vo vn f).lookup (fldN b) = some (.ref (f.at b)) := by cases b <;> rfl
def eSetNil (own : List Nat) (i : Nat) (b : Bool) : DSe := fun ρ ps => match plAt i (mask own ρ) ps with | some (k, q) => .nx ρ (ps.set k (q.put b [])) | none => .bad
theorem es_setNil {x : Str} (i : Nat) (bb : Bool) (T : PlC X.K C) (hN : X.N[i]? = some x := by rfl) (hv : Vis X.env.scope x := by first | exact Or.inl rfl | exact Or.inr (Or.inl rfl) | exact Or.inr (Or.inr rfl)) (hd : (x == ("__debug__" : Str)) = false := by decide)
    (hcd : (x == ("__classdict__" : Str)) = false := by decide) (hs : swapsWith (.List [] p2) (some (.Attribute (.Name x p) (fldN bb) pos')) pos.line X.env = pure false := by rfl) : SSe X W cl C own own (.Assign [.Attribute (.Name x p) (fldN bb) pos'] (.List [] p2) pos) (eSetNil own i bb) := by
  refine ⟨_, ps_fld (pe_var hN hv hd hcd) (pe_lst pa_nil) hs, fun F0 Hv0 H0 ρ σ ps F Hv H Dn sr hl po => ?_⟩
  unfold eSetNil at po
  split at po
  · rename_i k q h
    obtain ⟨f, vo, vn, hf, hσ, hq, hp, h1, r1, r2⟩ := plAt_ok sr.er sr.pls h
    refine ⟨Nat.zero_le _, fun n hn => ?_⟩
    obtain ⟨e2, p2⟩ := pl_move sr.ext.vh sr.pls bb hf hq h1 (vs := []) (ds := []) (Nat.zero_le _) .nil hn
    refine ⟨_, hσ, _, _, _, _, rfl, by rw [upd_ne fun z => by rw [z, hn] at h1; cases h1]; exact h1, T.cls, T.na _ (fldN_in bb), by simp, ?_⟩
    rw [putF_list]
    exact po σ _ Hv _ (sr.step e2 p2) (Sam.refl _) e2.ob hl
  · exact po.elim
def eCopy (own : List Nat) (i j : Nat) (b : Bool) : DSe := fun ρ ps => match plAt i (mask own ρ) ps, plAt j (mask own ρ) ps with | some (k, q), some (_, u) => .nx ρ (ps.set k (q.put b (u.get b))) | _, _ => .bad
theorem es_copy {x y : Str} (i j : Nat) (bb : Bool) (T : PlC X.K C) (hml : X.mg "list" = none) (hg : Gl X "list" := by rfl) (hN : X.N[i]? = some x := by rfl) (hv : Vis X.env.scope x := by first | exact Or.inl rfl | exact Or.inr (Or.inl rfl) | exact Or.inr (Or.inr rfl)) (hd : (x == ("__debug__" : Str)) = false := by decide)
    (hcd : (x == ("__classdict__" : Str)) = false := by decide) (hN2 : X.N[j]? = some y := by rfl) (hv2 : Vis X.env.scope y := by first | exact Or.inl rfl | exact Or.inr (Or.inl rfl) | exact Or.inr (Or.inr rfl)) (hd2 : (y == ("__debug__" : Str)) = false := by decide)
    (hcd2 : (y == ("__classdict__" : Str)) = false := by decide) (hb : attributeBase (.Name y p3) (fldN bb) X.env (eval (.Name y p3) X.env) = eval (.Name y p3) X.env := by rfl)
    (he : starEach [.Attribute (.Name y p3) (fldN bb) p4] X.env = (false, eval (.Attribute (.Name y p3) (fldN bb) p4) X.env) :: starEach [] X.env := by rfl) (hpl : (backTo p2 (starEach [] X.env)).any (·.1) = false := by rfl)
    (hs : swapsWith (.Call (.Name ("list" : Str) p1) [.Attribute (.Name y p3) (fldN bb) p4] [] p2) (some (.Attribute (.Name x p) (fldN bb) pos')) pos.line X.env = pure false := by rfl) :
    SSe X W cl C own own (.Assign [.Attribute (.Name x p) (fldN bb) pos'] (.Call (.Name ("list" : Str) p1) [.Attribute (.Name y p3) (fldN bb) p4] [] p2) pos) (eCopy own i j bb) := by
  refine ⟨_, ps_fld (pe_var hN hv hd hcd) (pe_callTy call_list_of hg hml (by decide +kernel) (pa_cons (pe_fld (pe_var hN2 hv2 hd2 hcd2) hb) pa_nil he) (by decide) (by decide) he hpl) hs, fun F0 Hv0 H0 ρ σ ps F Hv H Dn sr hl po => ?_⟩
  unfold eCopy at po
  split at po
  · rename_i k q m u h h'
    obtain ⟨f, vo, vn, hf, hσ, hq, hp, h1, r1, r2⟩ := plAt_ok sr.er sr.pls h
    obtain ⟨f', vo', vn', hf', hσ', hq', hp', h1', r1', r2'⟩ := plAt_ok sr.er sr.pls h'
    obtain ⟨vs, hl', hz, rs⟩ := hp'.lst bb
    refine ⟨_, hσ', _, _, _, _, _, rfl, h1', T.cls, T.na _ (fldN_in bb), look_list bb _ _ _, _, vs, rfl, .inl (.inl (.inl hl')), fun n hn => ?_⟩
    obtain ⟨e2, p2⟩ := pl_move sr.ext.vh sr.pls bb hf hq h1 hz rs hn
    refine ⟨_, hσ, _, _, _, _, rfl, by rw [upd_ne fun z => by rw [z, hn] at h1; cases h1]; exact h1, T.cls, T.na _ (fldN_in bb), by simp, ?_⟩
    rw [putF_list]
    exact po σ _ Hv _ (sr.step e2 p2) (Sam.refl _) e2.ob hl
  · exact po.elim
theorem peE {f : DE} (h : ∀ F, SE X W (cl.at F) a f) : PE X a (fun σ H Q => ∃ F, tE X.K (cl.at F) W f σ H Q) := ⟨fun pins s σ H Q I ⟨F, q⟩ => (h F).pe.run pins s σ H Q I q⟩
def ePush (own : List Nat) (i : Nat) (b : Bool) (f : DE) : DSe := fun ρ ps => match plAt i (mask own ρ) ps with
  | some (k, q) => ((f (mask own ρ)).up ps).to ρ fun d ps => if (q.get b).length < sizeLine then .nx ρ (ps.set k (q.put b (q.get b ++ [.tup [d, q.now]]))) else .bad
  | none => .bad
theorem es_push {x : Str} {kt : Nat} {pt pc : Pos} (i : Nat) (bb : Bool) (T : PlC X.K C) {f : DE} (h : ∀ F, SE X W (cl.at F) a f) (hN : X.N[i]? = some x := by rfl) (hv : Vis X.env.scope x := by first | exact Or.inl rfl | exact Or.inr (Or.inl rfl) | exact Or.inr (Or.inr rfl)) (hd : (x == ("__debug__" : Str)) = false := by decide)
    (hcd : (x == ("__classdict__" : Str)) = false := by decide) (hb : attributeBase (.Name x p1) (fldN bb) X.env (eval (.Name x p1) X.env) = eval (.Name x p1) X.env := by rfl) (hb2 : attributeBase (.Name x p3) "now" X.env (eval (.Name x p3) X.env) = eval (.Name x p3) X.env := by rfl)
    (hs0 : starEach [a, .Attribute (.Name x p3) "now" p4] X.env = (false, eval a X.env) :: starEach [.Attribute (.Name x p3) "now" p4] X.env := by rfl) (hs2 : starEach [.Attribute (.Name x p3) "now" p4] X.env = (false, eval (.Attribute (.Name x p3) "now" p4) X.env) :: starEach [] X.env := by rfl)
    (hline : (apos.endLine == pc.line) = true := by rfl) (hs1 : starEach [.Tuple [a, .Attribute (.Name x p3) "now" p4] kt pt] X.env = [(false, eval (.Tuple [a, .Attribute (.Name x p3) "now" p4] kt pt) X.env)] := by rfl)
    (hfew : ((backTo pc (starEach [.Tuple [a, .Attribute (.Name x p3) "now" p4] kt pt] X.env)).all (fun x => !x.1) && (backToKw pc (keywordEach [] X.env)).all (fun x => x.1.isSome) && decide ([Expr.Tuple [a, .Attribute (.Name x p3) "now" p4] kt pt].length + ([] : List Keyword).length + (if ([] : List Keyword).isEmpty then 0 else 1) < 30)) = true := by rfl)
    (hb3 : attributeBase (.Attribute (.Name x p1) (fldN bb) p2) "append" X.env (eval (.Attribute (.Name x p1) (fldN bb) p2) X.env) = eval (.Attribute (.Name x p1) (fldN bb) p2) X.env := by rfl)
    (hs : swapsWith (.Call (.Attribute (.Attribute (.Name x p1) (fldN bb) p2) "append" apos) [.Tuple [a, .Attribute (.Name x p3) "now" p4] kt pt] [] pc) none pos.line X.env = pure false := by rfl) :
    SSe X W cl C own own (.Expr (.Call (.Attribute (.Attribute (.Name x p1) (fldN bb) p2) "append" apos) [.Tuple [a, .Attribute (.Name x p3) "now" p4] kt pt] [] pc) pos) (ePush own i bb f) := by
  refine ⟨_, ps_expr (pe_bm PySem.F.plainAttrs_list PySem.F.slot_list_append PySem.F.type_list_append mt_append (pe_fld (pe_var hN hv hd hcd) hb) (pa_cons (pe_tup (pa_cons (peE h) (pa_cons (pe_fld (pe_var hN hv hd hcd) hb2) pa_nil hs2) hs0)) pa_nil hs1) hb3 hfew hline hs1 rfl) hs, fun F0 Hv0 H0 ρ σ ps F Hv H Dn sr hl po => ?_⟩
  unfold ePush at po
  split at po
  · rename_i k q hk
    obtain ⟨g, vo, vn, hf, hσ, hq, hp, h1, r1, r2⟩ := plAt_ok sr.er sr.pls hk
    obtain ⟨vs, hl', hz, rs⟩ := hp.lst bb
    refine ⟨_, hσ, _, _, _, _, _, rfl, h1, T.cls, T.na _ (fldN_in bb), look_list bb _ _ _, .inl ⟨rfl, vs, .inl (.inl hl')⟩, F, Hv, mask own ρ, sr.ext.vh.at, sr.er, ?_⟩
    cases q1 : f (mask own ρ) with
    | bad => rw [q1] at po; exact po.elim
    | err cc =>
      rw [q1] at po
      intro Hv' H' e1
      obtain ⟨s1, s2⟩ := (sr.step (ExtE.of e1) (sr.pls.ext e1)).freeze (own' := []) (by simp)
      exact po σ F _ H' s1 (e1.vv.trans s2) (fun _ _ z => z) hl
    | ok d =>
      rw [q1] at po
      intro Hv1 H1 e1 v rv
      have sr1 := sr.step (ExtE.of e1) (sr.pls.ext e1)
      obtain ⟨g1, vo1, vn1, hf1, hσ1, hq1, hp1, h11, r11, r12⟩ := plAt_ok sr1.er sr1.pls hk
      rw [hf] at hf1; cases hf1
      refine ⟨_, hσ1, _, _, _, _, vn1, rfl, h11, T.cls, T.na _ (by simp [plNames]), rfl, small_line (n := 2) rfl, fun t ht => ?_⟩
      have e2 := Ext.new (o := .tup [v, vn1]) sr1.ext.vh.at ht (cl := cl.at F)
      have sr2 := sr1.step (ExtE.of e2) (sr1.pls.ext e2)
      obtain ⟨g2, vo2, vn2, hf2, hσ2, hq2, hp2, h12, r21, r22⟩ := plAt_ok sr2.er sr2.pls hk
      rw [hf] at hf2; cases hf2
      obtain ⟨vs2, hl2, hz2, rs2⟩ := hp2.lst bb
      have po : PSOe X W cl C F0 Hv0 H0 own F Hv Dn (if (q.get bb).length < sizeLine then .nx ρ (ps.set k (q.put bb (q.get bb ++ [.tup [d, q.now]]))) else .bad) := po
      split at po
      · rename_i hlt
        have z2 : vs2.length < sizeLine := by rw [rs2.length]; exact hlt
        have rt : Rep X.K (cl.at F) (upd Hv1 t (.tup [v, vn1])) (.ref t) (.tup [d, q.now]) := .tup upd_same (small_line (n := 2) rfl) (.cons (rv.mono e2.vv) (.cons (r12.mono e2.vv) .nil))
        obtain ⟨e3, p3⟩ := pl_list sr2.ext.vh sr2.pls bb hf hq2 (vs := vs2 ++ [.ref t]) (ds := q.get bb ++ [.tup [d, q.now]]) (by rw [List.length_append]; exact z2) (rs2.append (.cons rt .nil))
        exact ⟨_, vs2, _, rfl, rfl, hl2, z2, po σ F _ _ (sr2.step e3 p3) (e1.vv.trans e2.vv) (fun _ _ z => z) hl⟩
      · exact po.elim
  · exact po.elim
end
end Sm
namespace Sm
open PySem PySem.Spec L2
section
variable {X : Cx} {W : WX} {cl : Glb} {C : Addr} {F0 F F1 : List Ft} {Hv0 H0 Hv Hv1 H : Hp} {own own1 own2 own3 : List Nat} {Dn : Ends} {pos pos' p p1 p2 p3 p4 apos : Pos} {a b c e o tg iter : Expr} {es : List Expr} {fa fb : EE} {g : EA} {st : Stmt} {sts : List Stmt} {ρ : Env} {σ : St} {ps : PLS}
def ePop (own : List Nat) (i : Nat) (b : Bool) (pt : Pat) : DSe := fun ρ ps => match plAt i (mask own ρ) ps with
  | some (k, q) => match (q.get b).getLast? with
    | some d => match bindPat pt d ρ with
      | some ρ' => .nx ρ' (ps.set k (q.put b (q.get b).dropLast))
      | none => .bad
    | none => .bad
  | none => .bad
theorem es_pop {x : Str} {pc : Pos} {pt : Pat} (i : Nat) (bb : Bool) (T : PlC X.K C) (hg : ∀ F, SG X (cl.at F) tg pt) (hdj : disj (patIx pt) own = true := by rfl) (hN : X.N[i]? = some x := by rfl) (hv : Vis X.env.scope x := by first | exact Or.inl rfl | exact Or.inr (Or.inl rfl) | exact Or.inr (Or.inr rfl)) (hd : (x == ("__debug__" : Str)) = false := by decide)
    (hcd : (x == ("__classdict__" : Str)) = false := by decide) (hb : attributeBase (.Name x p1) (fldN bb) X.env (eval (.Name x p1) X.env) = eval (.Name x p1) X.env := by rfl)
    (hline : (apos.endLine == pc.line) = true := by rfl)
    (hbase : attributeBase (.Attribute (.Name x p1) (fldN bb) p2) "pop" X.env (eval (.Attribute (.Name x p1) (fldN bb) p2) X.env) = eval (.Attribute (.Name x p1) (fldN bb) p2) X.env := by rfl)
    (hs : swapsWithSole [tg] (.Call (.Attribute (.Attribute (.Name x p1) (fldN bb) p2) "pop" apos) [] [] pc) pos.line X.env = pure false := by rfl) (hw : swappedStores [tg] (.Call (.Attribute (.Attribute (.Name x p1) (fldN bb) p2) "pop" apos) [] [] pc) X.env = pure none := by rfl)
    (h1 : (assignEach [tg] X.env).map (·.2) = [assign tg X.env] := by rfl) : SSe X W cl C own own (.Assign [tg] (.Call (.Attribute (.Attribute (.Name x p1) (fldN bb) p2) "pop" apos) [] [] pc) pos) (ePop own i bb pt) := by
  obtain ⟨t, pt1, hg⟩ := sgE hg
  refine ⟨_, ps_asg (pe_bm0 PySem.F.plainAttrs_list PySem.F.slot_list_pop PySem.F.type_list_pop mt_pop (pe_fld (pe_var hN hv hd hcd) hb) hbase hline) pt1 hs hw h1, fun F0 Hv0 H0 ρ σ ps F Hv H Dn sr hl po => ?_⟩
  unfold ePop at po
  split at po
  · rename_i k q hk
    obtain ⟨f, vo, vn, hf, hσ, hq, hp, h1, r1, r2⟩ := plAt_ok sr.er sr.pls hk
    obtain ⟨vs, hl', hz, rs⟩ := hp.lst bb
    split at po
    · rename_i d hd
      split at po
      · rename_i ρ' hbp
        rw [List.getLast?_eq_getElem?] at hd
        obtain ⟨v, hv1, hv2⟩ := rs.get hd
        refine ⟨_, hσ, _, _, _, _, _, rfl, h1, T.cls, T.na _ (fldN_in bb), look_list bb _ _ _, .inl ⟨rfl, vs, .inl (.inl hl')⟩, _, vs, v, rfl, rfl, hl', by rw [rs.length]; exact hv1, ?_⟩
        obtain ⟨e2, p2⟩ := pl_list sr.ext.vh sr.pls bb hf hq (vs := vs.dropLast) (ds := (q.get bb).dropLast) (by rw [List.length_dropLast]; omega) (reps_dropLast rs)
        have sr2 := sr.step e2 p2
        exact hg F Hv _ v d ρ ρ' σ _ sr2.ext.vh.at hv2 hbp sr2.len fun σ' f1 l1 k1 => po σ' F Hv _ (sr2.back (f1 own Hv _ Hv _ sr2.sr (Sam.refl _) (disj_mem hdj))) (Sam.refl _) (fun _ _ z => z) (l1.trans hl)
      · exact po.elim
    · exact po.elim
  · exact po.elim
theorem eq_empty {K : PySem.W.Frag} {f : Ft} {q : Pl} (hp : PlAt K (cl.at F) C Hv H f q) (vw : Vw cl Hv H) (b : Bool) : Rep K (cl.at F) H (.ref (f.at b)) (.lst (q.get b)) := by
  obtain ⟨vs, hl', hz, rs⟩ := hp.lst b
  exact .lst hl' hz (rs.mono vw.s)
def eEmp (i : Nat) (b : Bool) : ET := fun ρ ps => match plAt i ρ ps with
  | some (_, q) => match oEq (.lst (q.get b)) (.lst []) with | some (.bl k) => .ok k ps | _ => .bad
  | none => .bad
theorem te_emp {x : Str} (i : Nat) (bb : Bool) (T : PlC X.K C) (ho : ∀ F, OpS X (cl.at F) (compareOp .Eq) oEq) (hN : X.N[i]? = some x := by rfl) (hv : Vis X.env.scope x := by first | exact Or.inl rfl | exact Or.inr (Or.inl rfl) | exact Or.inr (Or.inr rfl)) (hd : (x == ("__debug__" : Str)) = false := by decide)
    (hcd : (x == ("__classdict__" : Str)) = false := by decide) (hb : attributeBase (.Name x p1) (fldN bb) X.env (eval (.Name x p1) X.env) = eval (.Name x p1) X.env := by rfl) (hm : behindInMarks .Eq (.List [] p3) = false := by rfl) :
    STe X W cl C (.Compare (.Attribute (.Name x p1) (fldN bb) p2) [.Eq] [.List [] p3] pos) (eEmp i bb) := by
  obtain ⟨r, hr, hs⟩ := opsE ho
  refine ⟨_, pt_cmpR hr (pe_fld (pe_var hN hv hd hcd) hb) (pe_lst pa_nil) hm, fun F Hv H σ ρ ps Q vw pl er pv => ?_⟩
  unfold eEmp at pv
  split at pv
  · rename_i k q hk
    obtain ⟨f, vo, vn, hf, hσ, hq, hp, h1, r1, r2⟩ := plAt_ok er pl hk
    split at pv
    · rename_i kb he
      refine ⟨_, hσ, _, _, _, _, _, rfl, h1, T.cls, T.na _ (fldN_in bb), look_list bb _ _ _, Nat.zero_le _, fun l hl => ?_⟩
      have e1 := Ext.new (o := .lst []) vw.at hl (cl := cl.at F)
      have hp1 := (pl.ext e1).pl k f q hf hq
      refine hs F (upd H l (.lst [])) (upd H l (.lst [])) (.ref (f.at bb)) (.ref l) (.lst (q.get bb)) (.lst []) (.bl kb) _ (Vw.refl e1.vh.tab) (eq_empty hp1 e1.vh.un bb) (.lst upd_same (Nat.zero_le _) .nil) he fun v Hv' H' ex rv => ?_
      cases rv
      have e2 := e1.trans (ext_lift e1.vh ex)
      exact ⟨kb, rfl, pv F _ H' (ExtE.of e2) (pl.ext e2)⟩
    · exact pv.elim
  · exact pv.elim
def eLen (i : Nat) (b : Bool) : EE := fun ρ ps => match plAt i ρ ps with | some (_, q) => .ok (.int (q.get b).length) ps | none => .bad
theorem ee_len {x : Str} (i : Nat) (bb : Bool) (T : PlC X.K C) (hml : X.mg "len" = none) (hg : Gl X "len" := by rfl) (hN : X.N[i]? = some x := by rfl) (hv : Vis X.env.scope x := by first | exact Or.inl rfl | exact Or.inr (Or.inl rfl) | exact Or.inr (Or.inr rfl)) (hd : (x == ("__debug__" : Str)) = false := by decide)
    (hcd : (x == ("__classdict__" : Str)) = false := by decide) (hb : attributeBase (.Name x p1) (fldN bb) X.env (eval (.Name x p1) X.env) = eval (.Name x p1) X.env := by rfl)
    (he : starEach [.Attribute (.Name x p1) (fldN bb) p2] X.env = (false, eval (.Attribute (.Name x p1) (fldN bb) p2) X.env) :: starEach [] X.env := by rfl) (hpl : (backTo pos (starEach [] X.env)).any (·.1) = false := by rfl) :
    SEe X W cl C (.Call (.Name ("len" : Str) p) [.Attribute (.Name x p1) (fldN bb) p2] [] pos) (eLen i bb) := by
  refine ⟨_, pe_callB call_len hg hml (by decide +kernel) (pa_cons (pe_fld (pe_var hN hv hd hcd) hb) pa_nil he) (by decide) (by decide) he hpl, fun F Hv H σ ρ ps Q vw pl er pv => ?_⟩
  unfold eLen at pv
  split at pv
  · rename_i k q hk
    obtain ⟨f, vo, vn, hf, hσ, hq, hp, h1, r1, r2⟩ := plAt_ok er pl hk
    obtain ⟨vs, hl', hz, rs⟩ := hp.lst bb
    refine ⟨_, hσ, _, _, _, _, _, rfl, h1, T.cls, T.na _ (fldN_in bb), look_list bb _ _ _, _, _, rfl, .inl ⟨vs, .inl (.inl hl'), rfl⟩, ?_⟩
    rw [rs.length]
    exact pv F _ _ (ExtE.refl vw) pl _ (.int _)
  · exact pv.elim
theorem sgE2 {tg : Expr} {pt : Pat} (h : ∀ F, SG X (cl.at F) tg pt) : PG X tg (fun v σ H Q => ∃ F, tG X.K (cl.at F) pt v σ H Q) := ⟨fun pins s σ H v u Q I r ⟨F, q⟩ => (h F).pg.run pins s σ H v u Q I r q⟩
theorem stsE {ifs : List Expr} {t : DT} {W0 : WX} (h : ∀ F, STs X W0 (cl.at F) ifs t) : PTs X ifs (fun σ H Q => ∃ F, tT X.K (cl.at F) W0 t σ H Q) := ⟨fun pins s σ H Q I ⟨F, q⟩ => (h F).pts.run pins s σ H Q I q⟩
theorem peE0 {f : DE} {W0 : WX} (h : ∀ F, SE X W0 (cl.at F) a f) : PE X a (fun σ H Q => ∃ F, tE X.K (cl.at F) W0 f σ H Q) := ⟨fun pins s σ H Q I ⟨F, q⟩ => (h F).pe.run pins s σ H Q I q⟩
def eLcH (i : Nat) (b : Bool) (vs : List Nat) (pt : Pat) (t : DT) (f : DE) : EE := fun ρ ps => match plAt i ρ ps with
  | some (_, q) => match lcGo pt t f (q.get b) (mask vs ρ) with
    | .ok ys => if pures ys then .ok (.lst ys) ps else .bad
    | _ => .bad
  | none => .bad
theorem ee_lcH {x : Str} {elt tg : Expr} {ifs : List Expr} {scope : Scope} {ow : List (Str × Nat)} {pt : Pat} {t : DT} {f : DE} (i : Nat) (bb : Bool) (T : PlC X.K C) (gd : Gd X W) (ok : BlkOk X.N X.env.scope scope ow)
    (hg : ∀ F (s : Shared) (H : Hp) (C' : Addr) (cs : List (Str × Addr)) (fp : List Addr), SG (X.blk s H scope (compEnvC scope cs C' X.env) fp) (cl.at F) tg pt)
    (ht : ∀ F (s : Shared) (H : Hp) (C' : Addr) (cs : List (Str × Addr)) (fp : List Addr), STs (X.blk s H scope (compEnvC scope cs C' X.env) fp) W0 (cl.at F) ifs t)
    (he : ∀ F (s : Shared) (H : Hp) (C' : Addr) (cs : List (Str × Addr)) (fp : List Addr), SE (X.blk s H scope (compEnvC scope cs C' X.env) fp) W0 (cl.at F) elt f)
    (hN : X.N[i]? = some x := by rfl) (hv : Vis X.env.scope x := by first | exact Or.inl rfl | exact Or.inr (Or.inl rfl) | exact Or.inr (Or.inr rfl)) (hd : (x == ("__debug__" : Str)) = false := by decide)
    (hcd : (x == ("__classdict__" : Str)) = false := by decide) (hb : attributeBase (.Name x p1) (fldN bb) X.env (eval (.Name x p1) X.env) = eval (.Name x p1) X.env := by rfl)
    (hp : sub (patIx pt) (ow.map (·.2)) = true := by rfl) (hs : ∀ y, foldedSetIterable (.Attribute (.Name x p1) (fldN bb) p2) X.env y = pure y := by intro _; rfl) :
    SEe X W cl C (.ListComp elt [⟨tg, .Attribute (.Name x p1) (fldN bb) p2, ifs, 0⟩] scope pos) (eLcH i bb (ow.map (·.2)) pt t f) := by
  refine ⟨_, pe_lc (te := fun σ H Q => ∃ F, tE X.K (cl.at F) W0 f σ H Q) (tt := fun σ H Q => ∃ F, tT X.K (cl.at F) W0 t σ H Q) (g := fun v σ H Q => ∃ F, tG X.K (cl.at F) pt v σ H Q) gd.calm gd.nd (pi_list (pe_fld (pe_var hN hv hd hcd) hb)) ok (fun s H C' cs fp => sgE2 (X := X.blk s H scope (compEnvC scope cs C' X.env) fp) fun F => hg F s H C' cs fp) (fun s H C' cs fp => stsE (X := X.blk s H scope (compEnvC scope cs C' X.env) fp) fun F => ht F s H C' cs fp) (fun s H C' cs fp => peE0 (X := X.blk s H scope (compEnvC scope cs C' X.env) fp) fun F => he F s H C' cs fp) hs, fun F Hv H σ ρ ps Q vw pl er pv => ?_⟩
  unfold eLcH at pv
  split at pv
  · rename_i k q hk
    obtain ⟨f', vo, vn, hf, hσ, hq, hp', h1, r1, r2⟩ := plAt_ok er pl hk
    obtain ⟨vs, hl', hz, rs⟩ := hp'.lst bb
    split at pv
    · rename_i ys hy
      split at pv
      · rename_i hpu
        refine lc_run1 (cl := cl.at F) (W := W) (it := fun _ => .ok (q.get bb)) (fun Hv H v d ρ ρ' σ Q vw r e hl q => ⟨F, Hv, d, ρ, ρ', vw, r, e, hl, q⟩) (fun Hv H σ ρ Q vw er pv => ⟨F, Hv, ρ, vw, er, pv⟩) (fun Hv H σ ρ Q vw er pv => ⟨F, Hv, ρ, vw, er, pv⟩) hp H H σ ρ Q ?_ (Vw.refl vw.at.tab) ⟨fun j d hj => let ⟨v, g1, g2⟩ := er.get j d hj; ⟨v, g1, g2.mono vw.s⟩, er.len⟩ ?_
        · intro Q' pv'
          exact ⟨_, hσ, _, _, _, _, _, rfl, h1, T.cls, T.na _ (fldN_in bb), look_list bb _ _ _, _, rfl, ⟨vs, .inl (.inl hl')⟩, pv' H H (Ext.refl (Vw.refl vw.at.tab)) (by rw [← rs.length]; exact hz) _ (it_list (.inl (.inl hl')) (rs.mono vw.s))⟩
        · unfold dLcs
          simp only [R.bind, hy]
          intro Hv' H' ex n us hn hz' ru
          have ex2 : Ext (cl.at F) Hv H (lift Hv H H') H' := ext_lift vw.at ⟨ex.hh, ex.hh.trans (Sam.refl _), Vw.refl ex.vh.tab, fun b o h n => (by rw [h] at n; cases n), ex.dom, ex.tt⟩
          have ru2 : Reps X.K (cl.at F) (lift Hv H H') us ys := pures_hide (H := H') (fun b xs e => ex2.vh.t b xs e) (fun b o u e => ex2.vh.z b o u e) (ru.mono ex.vh.s) hpu
          have e3 := ex2.trans (Ext.new (o := .lst us) ex2.vh hn)
          exact pv F _ _ (ExtE.of e3) (pl.ext e3) _ (.lst upd_same hz' (ru2.mono (Ext.new (o := .lst us) ex2.vh hn).vv))
      · exact pv.elim
    · exact pv.elim
  · exact pv.elim
def oIxT : D → D → Option D
  | .lst ds, .int i => atI ds i
  | .tup ds, .int i => atI ds i
  | _, _ => none
theorem ixT_sem (F : List Ft) (Hv H : Hp) (x y : V) (a b d : D) (Q : VK) (vw : Vw (cl.at F) Hv H) (rx : Rep X.K (cl.at F) Hv x a) (ry : Rep X.K (cl.at F) Hv y b) (e : oIxT a b = some d) (q : ∀ v Hv' H', Ext (cl.at F) Hv H Hv' H' → Rep X.K (cl.at F) Hv' v d → Q v H') : rIx X.K x y H Q := by
  cases b with
  | int i =>
    cases ry
    cases rx with
    | lst s z r =>
      obtain ⟨v, h1, h2⟩ := reps_atI r e
      exact .inl ⟨_, _, i, v, rfl, rfl, .inl (.inl (vw.s _ _ s rfl)), h1, q _ _ _ (Ext.refl vw) h2⟩
    | tup s z r =>
      obtain ⟨v, h1, h2⟩ := reps_atI r e
      exact .inr (.inl ⟨_, _, i, v, rfl, rfl, vw.s.sqU s, h1, q _ _ _ (Ext.refl vw) h2⟩)
    | _ => cases e
  | _ => cases a <;> cases e
theorem ee_ix (ha : SEe X W cl C a fa) (hb : SEe X W cl C b fb) (hs : PlainIx b := by intro _ _; rfl) : SEe X W cl C (.Subscript a b pos) (eBin oIxT fa fb) := by
  obtain ⟨ta, pa, ha⟩ := ha
  obtain ⟨tb, pb, hb⟩ := hb
  exact ⟨_, pe_ix ix_seq pa pb hs, binE_run (fun F Hv H x y a b d Q vw rx ry e q => ixT_sem F Hv H x y a b d Q vw rx ry e q) ha hb⟩
end
end Sm
namespace Sm
open PySem PySem.Spec L2
def mkPl (d : D) : Pl := ⟨d, .tup [.tup [], .int 0, .int 0], [], []⟩
def makeR (Lk : List D → R D) (d : D) (ps : PLS) : RP D := ((Lk [d]).up ps).bind fun _ ps => .ok (D.obj ps.length) (ps ++ [mkPl d])
def spI (K : PySem.W.Frag) (cl : Glb) (C : Addr) (Lk : List D → R D) : Sp := fun vs H Q E => ∃ x dx v F Hv d ps H1, vs = [.ref x, v] ∧ H1 x = none ∧ H1 dx = none ∧ dx ≠ x ∧ H = upd (upd H1 dx (.own x)) x (.ins C dx []) ∧ Vw cl Hv H1 ∧ Pls K cl C F ps Hv H1 ∧ Rep K (cl.at F) Hv v d ∧
  PstE K cl C (fun c d _ H => E c d H) [] F Hv H1 (fun F' _ H' _ => obA F' ps.length x → Q .non H') (makeR Lk d ps)
def eMake (Lk : List D → R D) (f : EE) : EE := fun ρ ps => (f ρ ps).bind fun d ps => makeR Lk d ps
def tMakeRS (C : Addr) (sp : Sp) (E : St → XK) (t : TA) : TE := fun σ H Q => t σ H fun vs H1 => ∀ x dx, H1 x = none → H1 dx = none → dx ≠ x → sp (.ref x :: vs) (upd (upd H1 dx (.own x)) x (.ins C dx [])) (fun v H2 => v = .non ∧ Q (.ref x) H2) (E σ)
section
variable {X : Cx} {CX : CXT} {k i : Nat} {f C : Addr} {sp : Sp} {E : St → XK} {x : Str} {e fe : Expr} {es : List Expr} {te tf : TE} {t : TA} {p pos : Pos}
theorem run_makeRS {pins : List (Addr × Obj)} {σ : L2.St} {H : Hp} {s : Shared} {Q : VK} {us : List Value} {vs : List V} (M : L2.Mk X.K C f) (F : FnR X.prog X.w X.K X.mg X.base CX k f sp) (hr : Room (k + 1) X.A) (hx : PassesAt CX X σ (E σ)) (I : Inv X pins σ H s) (r : Vals vs us)
    (h : ∀ x dx, H x = none → H dx = none → dx ≠ x → sp (V.ref x :: vs) (upd (upd H dx (.own x)) x (.ins C dx [])) (fun v H2 => v = .non ∧ Q (.ref x) H2) (E σ)) :
    wpAny (model X.prog X.w) X.A (call (.ref C) us) (EP X pins σ Q) X.xe s := by
  have hq := h (s.heap.objs.size + 1) s.heap.objs.size (I.hok.fresh (Nat.le_succ _)) (I.hok.fresh (Nat.le_refl _)) (Nat.ne_of_lt (Nat.lt_succ_self _))
  have I2 := Inv.made (C := C) I
  have r2 : Vals (V.ref (s.heap.objs.size + 1) :: vs) (Value.ref (s.heap.objs.size + 1) :: us) := .cons rfl r
  refine wpAny_call (make_map (f := f) I.kIn M.makes M.init (beq_iff_eq.mp M.fn) (codeAny_mono (F _ X.stack _ _ (Value.ref (s.heap.objs.size + 1) :: us) _ _ (E σ) (hr.make C us []) (I2.env0.make C us []) r2 hq) fun r s' hq' => ?_))
  cases r with
  | error e => exact hx pins _ _ e s' I2 hq'
  | ok fl =>
    cases fl with
    | ret u =>
      obtain ⟨v, H', I3, rv, ev, q3⟩ := I2.after hq'
      subst ev
      exact ⟨rv, ⟨V.ref (s.heap.objs.size + 1), H', I3, rfl, q3⟩⟩
    | next => exact False.elim hq'
    | brk => exact False.elim hq'
    | cont => exact False.elim hq'
theorem pe_makeRS (M : L2.Mk X.K C f) (F : FnR X.prog X.w X.K X.mg X.base CX k f sp) (hr : Room (k + 1) X.A) (hg : Gl X x) (hm : X.mg x = some (.ref C)) (hx : ∀ σ, PassesAt CX X σ (E σ)) (ha : PA X (e :: es) t) (hdb : (x == ("__debug__" : Str)) = false := by decide)
    (he : starEach (e :: es) X.env = (false, eval e X.env) :: starEach es X.env := by rfl) (hpl : (backTo pos (starEach es X.env)).any (·.1) = false := by rfl) : PE X (.Call (.Name x p) (e :: es) [] pos) (tMakeRS C sp E t) := by
  refine ⟨fun pins s σ H Q I h => ?_⟩
  refine wpAny_Call_Name_kw (ld_glob I hg hm ?_ hdb)
  refine PySem.W.callWith_K (h₀ := X.base) I.ok.mod.kin M.kp (thn (ha.run pos pins s σ H _ I h) fun us s1 ⟨vs, H1, I1, r, q⟩ => ⟨I1.kIn, ?_⟩) he hpl
  exact run_makeRS M F hr (hx σ) I1 r q
end
structure FnI (P : Program) (w : World) (K : PySem.W.Frag) (mg : Str → Option Value) (base : Heap) (cl : Glb) (C : Addr) (k : Nat) (x : Str) (Lk : List D → R D) : Prop where
  ex : ∃ f, L2.Mk K C f ∧ FnR P w K mg base (L2.CX P w) k f (spI K cl C Lk) ∧ mg x = some (.ref C)
section
variable {X : Cx} {W : WX} {cl : Glb} {C : Addr} {pos p : Pos} {e : Expr} {fa : EE}
theorem ee_make {k : Nat} {x : Str} {Lk : List D → R D} (G : FnI X.prog X.w X.K X.mg X.base cl C k x Lk) (hr : Room (k + 1) X.A) (tk : Takes X W) (ha : SEe X W cl C e fa) (hg : Gl X x := by rfl) (hdb : (x == ("__debug__" : Str)) = false := by decide)
    (he : starEach [e] X.env = (false, eval e X.env) :: starEach [] X.env := by rfl) (hpl : (backTo pos (starEach [] X.env)).any (·.1) = false := by rfl) : SEe X W cl C (.Call (.Name x p) [e] [] pos) (eMake Lk fa) := by
  obtain ⟨f, M, hF, hm⟩ := G.ex
  obtain ⟨ta, pa, ha⟩ := ha
  refine ⟨_, pe_makeRS M hF hr hg hm (fun σ => passAt tk σ) (pa_cons pa pa_nil he) hdb he hpl, fun F Hv H σ ρ ps Q vw pl er pv => ?_⟩
  refine ha F Hv H σ ρ ps _ vw pl er (bindE pv fun d ps1 F1 Hv1 H1 ex e1 pl1 pv1 v rv => ?_)
  intro x dx nx ndx hne
  refine ⟨x, dx, v, F1, Hv1, d, ps1, H1, rfl, nx, ndx, hne, rfl, e1.vh, pl1, rv, ?_⟩
  unfold makeR at pv1 ⊢
  cases q : Lk [d] with
  | ok u =>
    rw [q] at pv1
    exact fun F' Hv' H' e' pl' hob => ⟨rfl, pv1 F' Hv' H' e' pl' _ (.obj hob)⟩
  | err c => rw [q] at pv1; exact pv1
  | bad => rw [q] at pv1; exact pv1.elim
end
section
variable {K : PySem.W.Frag} {cl : Glb} {C : Addr} {F0 F : List Ft} {Hv0 H0 Hv H H' : Hp} {ps : PLS}
theorem pl_new2 (E0 : ExtE cl F0 Hv0 H0 F Hv H) (h : Pls K cl C F ps Hv H) {f : Ft} {vo vn : V} {q : Pl} (nd : f.all.Nodup) (n0 : ∀ a ∈ f.all, H0 a = none) (nf : ∀ a ∈ f.all, a ∉ feet F) (hv : ∀ a ∈ f.all, Hv a = none) (ro : Rep K (cl.at F) Hv vo q.own) (rn : Rep K (cl.at F) Hv vn q.now) (hp : q.past = []) (hl : q.later = [])
    (hH : H' f.x = some (.ins C f.dx (flds vo vn f)) ∧ H' f.dx = some (.own f.x) ∧ H' f.p = some (.lst []) ∧ H' f.l = some (.lst [])) (hs : ∀ a, a ∉ f.all → H' a = H a) (vw' : Vw cl Hv H') :
    ExtE cl F0 Hv0 H0 (F ++ [f]) Hv H' ∧ Pls K cl C (F ++ [f]) (ps ++ [q]) Hv H' := by
  have ob : ∀ k a, obA F k a → obA (F ++ [f]) k a := fun k a z => by
    unfold obA at z ⊢
    rw [Option.map_eq_some_iff] at z
    obtain ⟨g, hg, e⟩ := z
    rw [List.getElem?_append_left (List.getElem?_eq_some_iff.mp hg).1, hg]
    exact congrArg some e
  have ff : feet (F ++ [f]) = feet F ++ f.all := by simp [feet]
  have no : ∀ {a : Addr} {o : HO}, H0 a = some o → a ∉ f.all := fun {a o} ha z => by rw [n0 a z] at ha; cases ha
  refine ⟨⟨fun a o ha n hb => by rw [hs a (no ha)]; exact E0.hh a o ha n hb, E0.vv, vw', E0.old, fun a ha => ?_, fun a ps ha => ?_, fun k a z => ob k a (E0.ob k a z), fun a ha => ?_⟩, ⟨by rw [List.length_append, List.length_append, h.len]; rfl, fun j g u hg hu => ?_, ?_, fun k a z => ob k a (h.ob0 k a z)⟩⟩
  · by_cases z : a ∈ f.all
    · exact n0 a z
    · rw [hs a z] at ha; exact E0.dom a ha
  · obtain ⟨ps', h'⟩ := E0.tt a ps ha
    exact ⟨ps', by rw [hs a (no ha)]; exact h'⟩
  · rw [ff, List.mem_append] at ha
    rcases ha with ha | ha
    · exact E0.ft a ha
    · exact .inr (n0 a ha)
  · by_cases z : j < F.length
    · rw [List.getElem?_append_left z] at hg
      rw [List.getElem?_append_left (by rw [← h.len]; exact z)] at hu
      have hp' := h.pl j g u hg hu
      exact (hp'.mono (fun a ha o ho _ => by rw [hs a fun y => nf a y (mem_feet.mpr ⟨g, List.mem_of_getElem? hg, ha⟩)]; exact ho) (Sam.refl _) hp'.hid).ob ob
    · have ej : j = F.length := by
        have := (List.getElem?_eq_some_iff.mp hg).1
        rw [List.length_append, List.length_singleton] at this
        omega
      subst ej
      rw [List.getElem?_append_right (Nat.le_refl _), Nat.sub_self] at hg
      rw [List.getElem?_append_right (Nat.le_of_eq h.len.symm), ← h.len, Nat.sub_self] at hu
      cases hg
      cases hu
      exact ⟨⟨vo, vn, hH.1, ro.ob ob, rn.ob ob⟩, hH.2.1, ⟨[], hH.2.2.1, Nat.zero_le _, by rw [hp]; exact .nil⟩, ⟨[], hH.2.2.2, Nat.zero_le _, by rw [hl]; exact .nil⟩, hv⟩
  · rw [ff, List.nodup_append]
    exact ⟨h.nd, nd, fun a ha b hb z => nf b hb (z ▸ ha)⟩
theorem vw_ins {x dx : Addr} {fs : List (Str × V)} (vw : Vw cl Hv H) (hx : H x = none) (hdx : H dx = none) (hne : dx ≠ x) : Vw cl Hv (upd (upd H dx (.own x)) x (.ins C dx fs)) := by
  have hx' : upd H dx (.own x) x = none := by rw [upd_ne (Ne.symm hne)]; exact hx
  have sm : Same H (upd (upd H dx (.own x)) x (.ins C dx fs)) := fun b o e => same_upd hx' b o (same_upd hdx b o e)
  have two : ∀ {b o}, upd (upd H dx (.own x)) x (.ins C dx fs) b = some o → (∀ y, o ≠ .own y) → (∀ a b c, o ≠ .ins a b c) → H b = some o := fun {b o} h n1 n2 => by
    by_cases z : b = x
    · subst z; rw [upd_same] at h; cases h; exact absurd rfl (n2 _ _ _)
    · rw [upd_ne z] at h
      by_cases y : b = dx
      · subst y; rw [upd_same] at h; cases h; exact absurd rfl (n1 _)
      · rw [upd_ne y] at h; exact h
  exact ⟨vw.s.trans (.of sm), fun b h => vw.d b (upd_none (upd_none h).2).2, fun b xs h => vw.t b xs (two h (fun _ z => nomatch z) (fun _ _ _ z => nomatch z)), fun b o u h => vw.z b o u (two h (fun _ z => nomatch z) (fun _ _ _ z => nomatch z)), vw.tab.ext sm, fun b φ h => vw.x b φ (two h (fun _ z => nomatch z) (fun _ _ _ z => nomatch z))⟩
theorem ext_ins {x dx : Addr} {fs : List (Str × V)} (vw : Vw cl Hv H) (hx : H x = none) (hdx : H dx = none) (hne : dx ≠ x) : ExtE cl F Hv H F Hv (upd (upd H dx (.own x)) x (.ins C dx fs)) := by
  have hx' : upd H dx (.own x) x = none := by rw [upd_ne (Ne.symm hne)]; exact hx
  have sm : Same H (upd (upd H dx (.own x)) x (.ins C dx fs)) := fun b o e => same_upd hx' b o (same_upd hdx b o e)
  exact ⟨fun b o h _ _ => sm b o h, Sam.refl _, vw_ins vw hx hdx hne, fun _ _ _ h => h, fun b h => (upd_none (upd_none h).2).2, fun b ps h => ⟨ps, sm b _ h⟩, fun _ _ h => h, fun _ h => .inl h⟩
theorem pls_same (h : Pls K cl C F ps Hv H) (sm : ∀ a ∈ feet F, H' a = H a) : Pls K cl C F ps Hv H' := ⟨h.len, fun k f q hf hq => (h.pl k f q hf hq).mono (fun a ha o ho _ => by rw [sm a (mem_feet.mpr ⟨f, List.mem_of_getElem? hf, ha⟩)]; exact ho) (Sam.refl _) (h.pl k f q hf hq).hid, h.nd, h.ob0⟩
end
end Sm
namespace Sm
open PySem PySem.Spec L2
def SInit (X : Cx) (W : WX) (cl : Glb) (C : Addr) (Lk : List D → R D) (body : List Stmt) : Prop := ∃ t, PSs X body t ∧ ∀ (x dx : Addr) (v : V) (F : List Ft) (Hv : Hp) (d : D) (ps : PLS) (H1 : Hp) (Dn : Ends), H1 x = none → H1 dx = none → dx ≠ x → Vw cl Hv H1 → Pls X.K cl C F ps Hv H1 → Rep X.K (cl.at F) Hv v d →
  PstE X.K cl C W [some (.ref x), some v] F Hv H1 (fun F' _ H' _ => obA F' ps.length x → Dn.nx [some (.ref x), some v] H') (makeR Lk d ps) → t Dn [some (.ref x), some v] (upd (upd H1 dx (.own x)) x (.ins C dx []))
theorem ext_fresh {cl : Glb} {F F' : List Ft} {Hv H1 Hv' H2 : Hp} {x : Addr} {y y' : HO} (E : ExtE cl F Hv H1 F' Hv' H2) (hx : H1 x = none) (hv : Hv' x = none) (h : H2 x = some y) (sy : Soft y) (sy' : Soft y') : ExtE cl F Hv H1 F' Hv' (upd H2 x y') :=
  ⟨fun b o hb n hf => by rw [upd_ne (show b ≠ x from fun z => by rw [z, hx] at hb; cases hb)]; exact E.hh b o hb n hf, E.vv, vw_soft E.vh hv h sy sy', E.old, fun b hb => E.dom b (upd_none hb).2, fun b ps hb => by
    obtain ⟨ps', h'⟩ := E.tt b ps hb
    exact ⟨ps', by rw [upd_ne (show b ≠ x from fun z => by rw [z, hx] at hb; cases hb)]; exact h'⟩, E.ob, E.ft⟩
section
variable {X : Cx} {W : WX} {cl : Glb} {C : Addr} {pos p : Pos}
set_option maxHeartbeats 1000000 in
theorem si_block {k : Nat} {Lk : List D → R D} {p1 p2 p3 p4 p5 p6 p7 p8 p9 p10 p11 p12 p13 p14 p15 p16 p17 p18 p19 p20 p21 p22 p23 : Pos} {k1 k2 k3 k4 : Nat} (T : PlC X.K C) (G : FnA X.prog X.w X.K X.mg X.base cl C k "look_game" 1 (upF Lk)) (hr : Room k X.A) (tk : Takes X W)
    (hN0 : X.N[0]? = some ("self" : Str) := by rfl) (hv0 : Vis X.env.scope "self" := by first | exact Or.inl rfl | exact Or.inr (Or.inl rfl)) (hN1 : X.N[1]? = some ("game" : Str) := by rfl) (hv1 : Vis X.env.scope "game" := by first | exact Or.inl rfl | exact Or.inr (Or.inl rfl)) (hg : Gl X "look_game" := by rfl)
    (he : starEach [.Name "game" p2] X.env = (false, eval (.Name "game" p2) X.env) :: starEach [] X.env := by rfl) (hpl : (backTo p3 (starEach [] X.env)).any (·.1) = false := by rfl)
    (hs1 : swapsWith (.Call (.Name "look_game" p1) [.Name "game" p2] [] p3) none p4.line X.env = pure false := by rfl)
    (hs2 : swapsWith (.Name "game" p7) (some (.Attribute (.Name "self" p5) "own" p6)) p8.line X.env = pure false := by rfl)
    (hs3 : swapsWith (.Tuple [.Tuple [] k1 p11, .Constant (.int 0) k2 p12, .Constant (.int 0) k3 p13] k4 p14) (some (.Attribute (.Name "self" p9) "now" p10)) p15.line X.env = pure false := by rfl)
    (hs4 : swapsWith (.List [] p18) (some (.Attribute (.Name "self" p16) "past" p17)) p19.line X.env = pure false := by rfl)
    (hs5 : swapsWith (.List [] p22) (some (.Attribute (.Name "self" p20) "later" p21)) p23.line X.env = pure false := by rfl)
    (ht1 : starEach [.Tuple [] k1 p11, .Constant (.int 0) k2 p12, .Constant (.int 0) k3 p13] X.env = (false, eval (.Tuple [] k1 p11) X.env) :: starEach [.Constant (.int 0) k2 p12, .Constant (.int 0) k3 p13] X.env := by rfl)
    (ht2 : starEach [.Constant (.int 0) k2 p12, .Constant (.int 0) k3 p13] X.env = (false, eval (.Constant (.int 0) k2 p12) X.env) :: starEach [.Constant (.int 0) k3 p13] X.env := by rfl)
    (ht3 : starEach [.Constant (.int 0) k3 p13] X.env = (false, eval (.Constant (.int 0) k3 p13) X.env) :: starEach [] X.env := by rfl) :
    SInit X W cl C Lk [.Expr (.Call (.Name "look_game" p1) [.Name "game" p2] [] p3) p4,
   .Assign [.Attribute (.Name "self" p5) "own" p6] (.Name "game" p7) p8,
   .Assign [.Attribute (.Name "self" p9) "now" p10] (.Tuple [.Tuple [] k1 p11, .Constant (.int 0) k2 p12, .Constant (.int 0) k3 p13] k4 p14) p15,
   .Assign [.Attribute (.Name "self" p16) "past" p17] (.List [] p18) p19,
   .Assign [.Attribute (.Name "self" p20) "later" p21] (.List [] p22) p23] := by
  obtain ⟨fl, h1, h2, h3⟩ := G.ex
  have v0 : ∀ q, PE X (.Name "self" q) (tVar 0) := fun q => pe_var hN0 hv0 (by decide) (by decide)
  have v1 : ∀ q, PE X (.Name "game" q) (tVar 1) := fun q => pe_var hN1 hv1 (by decide) (by decide)
  refine ⟨_, pss_cons (ps_expr (pe_callRS h1 hr hg h2 h3 (fun σ => passAt tk σ) (pa_cons (v1 p2) pa_nil he) (by decide) he hpl) hs1) (pss_cons (ps_fld (v0 p5) (v1 p7) hs2) (pss_cons (ps_fld (v0 p9) (pe_tup (pa_cons (pe_tup pa_nil) (pa_cons pe_int (pa_cons pe_int pa_nil ht3) ht2) ht1)) hs3) (pss_cons (ps_fld (v0 p16) (pe_lst pa_nil) hs4) (pss_one (ps_fld (v0 p20) (pe_lst pa_nil) hs5))))), fun x dx v F Hv d ps H1 Dn hx hdx hne vw pl rv pv => ?_⟩
  have vwI := vw_ins (C := C) (fs := []) vw hx hdx hne
  have eI := ext_ins (F := F) (C := C) (fs := []) vw hx hdx hne
  have fx : ∀ a ∈ feet F, a ≠ x ∧ a ≠ dx := fun a ha => by
    obtain ⟨_, o, ho, _⟩ := pl.foot ha
    exact ⟨fun z => (by rw [z, hx] at ho; cases ho), fun z => (by rw [z, hdx] at ho; cases ho)⟩
  have plI : Pls X.K cl C F ps Hv (upd (upd H1 dx (.own x)) x (.ins C dx [])) := pls_same pl fun a ha => by rw [upd_ne (fx a ha).1, upd_ne (fx a ha).2]
  refine ⟨_, rfl, rfl, F, Hv, [d], ps, vwI, plI, .cons rv .nil, ?_⟩
  unfold upF
  unfold makeR at pv
  cases q : Lk [d] with
  | bad => rw [q] at pv; exact pv.elim
  | err c =>
    rw [q] at pv
    exact fun F' Hv' H' e' pl' => pv F' Hv' H' (eI.trans e') pl'
  | ok u =>
    rw [q] at pv
    intro F' Hv' H2 e2 pl2 r rr
    have nfx : x ∉ feet F := fun z => (fx x z).1 rfl
    have nfd : dx ∉ feet F := fun z => (fx dx z).2 rfl
    have x2 : H2 x = some (.ins C dx []) := e2.hh x _ upd_same rfl nfx
    have d2 : H2 dx = some (.own x) := e2.hh dx _ (by rw [upd_ne hne, upd_same]) rfl nfd
    have vx0 : Hv x = none := vw.d x hx
    have vd0 : Hv dx = none := vw.d dx hdx
    have vx2 : Hv' x = none := e2.old x _ upd_same vx0
    have vd2 : Hv' dx = none := e2.old dx (.own x) (by rw [upd_ne hne, upd_same]) vd0
    have nfx2 : x ∉ feet F' := fun z => (e2.ft x z).elim nfx fun y => by rw [upd_same] at y; cases y
    have nfd2 : dx ∉ feet F' := fun z => (e2.ft dx z).elim nfd fun y => by rw [upd_ne hne, upd_same] at y; cases y
    have rv2 := rv.ee (eI.trans e2)
    -- self.own = game
    refine ⟨_, rfl, _, rfl, _, _, _, _, rfl, x2, T.cls, T.na _ (by simp [plNames]), by simp, ?_⟩
    have vw3 : Vw cl Hv' (upd H2 x (.ins C dx [("own", v)])) := vw_soft e2.vh vx2 x2 trivial trivial
    -- the tuples
    refine ⟨Nat.zero_le _, fun t1 ht1' => ⟨small_line (n := 3) rfl, fun t2 ht2' => ?_⟩⟩
    have eT1 := Ext.new (cl := cl.at F') (o := .tup []) vw3.at ht1'
    have eT2 := Ext.new (cl := cl.at F') (o := .tup [.ref t1, .int 0, .int 0]) eT1.vh ht2'
    have tx : t1 ≠ x := fun z => by rw [z, upd_same] at ht1'; cases ht1'
    have tx2 : t2 ≠ x := fun z => by rw [z, upd_ne (Ne.symm tx), upd_same] at ht2'; cases ht2'
    have td : t1 ≠ dx := fun z => by rw [z, upd_ne hne, d2] at ht1'; cases ht1'
    have t21 : t2 ≠ t1 := fun z => by rw [z, upd_same] at ht2'; cases ht2'
    have td2 : t2 ≠ dx := fun z => by rw [z, upd_ne (Ne.symm td), upd_ne hne, d2] at ht2'; cases ht2'
    have xT : upd (upd (upd H2 x (.ins C dx [("own", v)])) t1 (.tup [])) t2 (.tup [.ref t1, .int 0, .int 0]) x = some (.ins C dx [("own", v)]) := by rw [upd_ne (Ne.symm tx2), upd_ne (Ne.symm tx), upd_same]
    refine ⟨_, rfl, _, _, _, _, rfl, xT, T.cls, T.na _ (by simp [plNames]), by simp, ?_⟩
    -- the lists
    refine ⟨Nat.zero_le _, fun n1 hn1 => ?_⟩
    have nx1 : n1 ≠ x := fun z => by rw [z, upd_same] at hn1; cases hn1
    have e3 : upd (upd (upd (upd (upd H2 x (.ins C dx [("own", v)])) t1 (.tup [])) t2 (.tup [.ref t1, .int 0, .int 0])) x (.ins C dx (putF "now" (.ref t2) [("own", v)]))) n1 (.lst []) x = some (.ins C dx [("own", v), ("now", .ref t2)]) := by
      rw [upd_ne (Ne.symm nx1), upd_same]; rfl
    refine ⟨_, rfl, _, _, _, _, rfl, e3, T.cls, T.na _ (by simp [plNames]), by simp, ?_⟩
    refine ⟨Nat.zero_le _, fun n2 hn2 => ?_⟩
    have nx2 : n2 ≠ x := fun z => by rw [z, upd_same] at hn2; cases hn2
    have e4 : upd (upd (upd (upd (upd (upd (upd H2 x (.ins C dx [("own", v)])) t1 (.tup [])) t2 (.tup [.ref t1, .int 0, .int 0])) x (.ins C dx (putF "now" (.ref t2) [("own", v)]))) n1 (.lst [])) x (.ins C dx (putF "past" (.ref n1) [("own", v), ("now", .ref t2)]))) n2 (.lst []) x = some (.ins C dx [("own", v), ("now", .ref t2), ("past", .ref n1)]) := by
      rw [upd_ne (Ne.symm nx2), upd_same]; rfl
    refine ⟨_, rfl, _, _, _, _, rfl, e4, T.cls, T.na _ (by simp [plNames]), by simp, ?_⟩
    have E0 := ((ext_fresh (y' := .ins C dx [("own", v)]) (eI.trans e2) hx vx2 x2 trivial trivial).trans (ExtE.of eT1)).trans (ExtE.of eT2)
    have P0 := ((pls_same (H' := upd H2 x (.ins C dx [("own", v)])) pl2 fun a ha => by rw [upd_ne (show a ≠ x from fun z => nfx2 (by rw [← z]; exact ha))]).ext eT1).ext eT2
    have n1H : H2 n1 = none := (upd_none (upd_none (upd_none (upd_none hn1).2).2).2).2
    have n1T : upd (upd (upd H2 x (.ins C dx [("own", v)])) t1 (.tup [])) t2 (.tup [.ref t1, .int 0, .int 0]) n1 = none := (upd_none hn1).2
    have hn2' := upd_none hn2
    have hn2'' := upd_none hn2'.2
    have n21 : n2 ≠ n1 := hn2''.1
    have n2T : upd (upd (upd H2 x (.ins C dx [("own", v)])) t1 (.tup [])) t2 (.tup [.ref t1, .int 0, .int 0]) n2 = none := (upd_none hn2''.2).2
    have n2H : H2 n2 = none := (upd_none (upd_none (upd_none n2T).2).2).2
    have h1n : ∀ a, H2 a = none → H1 a = none := fun a ha => (eI.trans e2).dom a ha
    have nd1 : n1 ≠ dx := fun z => by rw [z, d2] at n1H; cases n1H
    have nd2 : n2 ≠ dx := fun z => by rw [z, d2] at n2H; cases n2H
    have n1t1 : n1 ≠ t1 := (upd_none (upd_none n1T).2).1
    have n1t2 : n1 ≠ t2 := (upd_none n1T).1
    have n2t1 : n2 ≠ t1 := (upd_none (upd_none n2T).2).1
    have n2t2 : n2 ≠ t2 := (upd_none n2T).1
    have rt2 : Rep X.K (cl.at F') (upd (upd Hv' t1 (.tup [])) t2 (.tup [.ref t1, .int 0, .int 0])) (.ref t2) (.tup [.tup [], .int 0, .int 0]) := .tup upd_same (small_line (n := 3) rfl) (.cons (.tup (by rw [upd_ne (Ne.symm t21), upd_same]) (Nat.zero_le _) .nil) (.cons (.int 0) (.cons (.int 0) .nil)))
    have hvT : ∀ a, Hv' a = none → a ≠ t1 → a ≠ t2 → upd (upd Hv' t1 (.tup [])) t2 (.tup [.ref t1, .int 0, .int 0]) a = none := fun a ha z1 z2 => by rw [upd_ne z2, upd_ne z1]; exact ha
    have vn1 : Hv' n1 = none := e2.vh.d n1 n1H
    have vn2 : Hv' n2 = none := e2.vh.d n2 n2H
    have vwT := eT2.vh.un
    have hvx := hvT x vx2 (Ne.symm tx) (Ne.symm tx2)
    have vwA := vw_soft (y' := .ins C dx (putF "now" (.ref t2) [("own", v)])) vwT hvx xT trivial trivial
    have vwB := vw_hide (vs := []) vwA hn1
    have vwC := vw_soft (y' := .ins C dx (putF "past" (.ref n1) [("own", v), ("now", .ref t2)])) vwB hvx e3 trivial trivial
    have vwD := vw_hide (vs := []) vwC hn2
    have vwE := vw_soft (y' := .ins C dx (putF "later" (.ref n2) [("own", v), ("now", .ref t2), ("past", .ref n1)])) vwD hvx e4 trivial trivial
    have nf : ∀ a, H2 a = none → a ∉ feet F' := fun a ha z => by obtain ⟨_, o, ho, _⟩ := pl2.foot z; rw [ha] at ho; cases ho
    obtain ⟨E9, P9⟩ := pl_new2 (f := ⟨x, dx, n1, n2⟩) (vo := v) (vn := .ref t2) (q := mkPl d) E0 P0 (by
        simp only [Ft.all, List.nodup_cons, List.mem_cons, List.not_mem_nil, or_false, not_or, not_false_eq_true, List.nodup_nil, and_true]
        exact ⟨⟨Ne.symm hne, Ne.symm nx1, Ne.symm nx2⟩, ⟨Ne.symm nd1, Ne.symm nd2⟩, Ne.symm n21⟩) (fun a ha => by
        simp only [Ft.all, List.mem_cons, List.not_mem_nil, or_false] at ha
        rcases ha with rfl | rfl | rfl | rfl
        · exact hx
        · exact hdx
        · exact h1n _ n1H
        · exact h1n _ n2H) (fun a ha => by
        simp only [Ft.all, List.mem_cons, List.not_mem_nil, or_false] at ha
        rcases ha with rfl | rfl | rfl | rfl
        · exact nfx2
        · exact nfd2
        · exact nf _ n1H
        · exact nf _ n2H) (fun a ha => by
        simp only [Ft.all, List.mem_cons, List.not_mem_nil, or_false] at ha
        rcases ha with rfl | rfl | rfl | rfl
        · exact hvx
        · exact hvT _ vd2 (Ne.symm td) (Ne.symm td2)
        · exact hvT _ vn1 n1t1 n1t2
        · exact hvT _ vn2 n2t1 n2t2) ((rv2.ee (ExtE.of eT1)).ee (ExtE.of eT2)) rt2 rfl rfl ⟨upd_same, by rw [upd_ne hne, upd_ne (Ne.symm nd2), upd_ne hne, upd_ne (Ne.symm nd1), upd_ne hne, upd_ne (Ne.symm td2), upd_ne (Ne.symm td), upd_ne hne]; exact d2, by rw [upd_ne nx1, upd_ne (Ne.symm n21), upd_ne nx1, upd_same], by rw [upd_ne nx2, upd_same]⟩ (fun a ha => by
        simp only [Ft.all, List.mem_cons, List.not_mem_nil, or_false, not_or] at ha
        rw [upd_ne ha.1, upd_ne ha.2.2.2, upd_ne ha.1, upd_ne ha.2.2.1, upd_ne ha.1]) vwE
    refine pv _ _ _ E9 P9 ?_
    show ((F' ++ [⟨x, dx, n1, n2⟩])[ps.length]?).map Ft.x = some x
    rw [← pl2.len, List.getElem?_append_right (Nat.le_refl _), Nat.sub_self]
    rfl
end
theorem fnI_mk {P : Program} {w : World} {K : PySem.W.Frag} {mg : Str → Option Value} {base : Heap} {cl : Glb} {C : Addr} {k : Nat} {st : Stmt} {f : Addr} {fd : FuncData} {Lk : List D → R D} (Fu : Fun K "__init__" "Play.__init__" st f fd) (S : FnScope ["self", "game"] ["self", "game"] (defScope st)) (hb : Binds K fd ["self", "game"] []) (M : L2.Mk K C f) (hm : mg "Play" = some (.ref C))
    (h : ∀ (cdv : Value) (A : Around) (outer : List PySem.Env) (s : Shared) (H : Hp) (E : XK), Gd (cxOf (L2.CX P w) P w K mg base ["self", "game"] "Play.__init__" (defScope st) f cdv A outer s H E) (fun cls d _ H => E cls d H) →
      Room k (A.deeper (PyProof.Rows.envOfC "Play.__init__" (defScope st) s.heap.objs.size f cdv)) → SInit (cxOf (L2.CX P w) P w K mg base ["self", "game"] "Play.__init__" (defScope st) f cdv A outer s H E) (fun cls d _ H => E cls d H) cl C Lk (defBody st)) : FnI P w K mg base cl C (k + 1) "Play" Lk := by
  refine ⟨f, M, FnOk.rawN (Fu.okX S (fun vs H Q E h => ?_) fun cdv A outer s H vs Q E hr hsp => ?_) hb, hm⟩
  · obtain ⟨x, dx, v, F, Hv, d, ps, H1, e, _⟩ := h
    rw [e]; rfl
  · obtain ⟨x, dx, v, F, Hv, d, ps, H1, rfl, hx, hdx, hne, rfl, vw, pl, rv, pv⟩ := hsp
    obtain ⟨t, pt, run⟩ := h cdv A outer s _ E ⟨rfl, S.nd, takes_of rfl rfl rfl rfl, passes_of rfl⟩ hr
    refine ⟨t, pt, run x dx v F Hv d ps H1 _ hx hdx hne vw pl rv ?_⟩
    unfold makeR at pv ⊢
    cases q : Lk [d] with
    | ok u => rw [q] at pv; exact pv
    | err c => rw [q] at pv; exact pv
    | bad => rw [q] at pv; exact pv.elim
end Sm
namespace Sm
open PySem PySem.Spec L2
def okPl (q : Pl) : Bool := noFn q.own && noFn q.now && noFns q.past && noFns q.later
def okPS (ps : PLS) : Bool := ps.all okPl
section
variable {Z : Zf} {K : PySem.W.Frag} {cl cl' : Glb} {C : Addr} {F F' : List Ft} {Hv H Hv' H' : Hp} {ps : PLS}
theorem okPS_get (h : okPS ps = true) {k : Nat} {q : Pl} (hq : ps[k]? = some q) : noFn q.own = true ∧ noFn q.now = true ∧ noFns q.past = true ∧ noFns q.later = true := by
  have := List.all_eq_true.mp h q (List.mem_of_getElem? hq)
  simp only [okPl, Bool.and_eq_true] at this
  exact ⟨this.1.1.1, this.1.1.2, this.1.2, this.2⟩
theorem exte_back (vw : Vw cl Hv H) (f : Fre Z H) (hT : cl'.T = cl.T) (e : ExtE cl' F (trk Z Hv) (trk Z H) F' Hv' H') : ExtE cl F Hv H F' (utr Z Hv') (utr Z H') := by
  have fv : Fre Z Hv := fun b o z => vw.d b (f b o z)
  have hv : Hld Z Hv' := hld_trk.mono e.vv
  refine ⟨fun b o h n nf => ?_, fun b o h n => ?_, vw_utr e.vh hv hT, fun b o h n => ?_, fun b h => ?_, fun b ps h => ?_, e.ob, fun b h => ?_⟩
  · have z := f.out h
    rw [utr_out z]; exact e.hh b o (by rw [trk_out z]; exact h) n nf
  · have z := fv.out h
    rw [utr_out z]; exact e.vv b o (by rw [trk_out z]; exact h) n
  · have z := f.out h
    rw [utr_out z]; exact e.old b o (by rw [trk_out z]; exact h) (by rw [trk_out z]; exact n)
  · cases z : Z b with
    | none =>
      rw [utr_out z] at h
      have := e.dom b h
      rw [trk_out z] at this; exact this
    | some o' => exact f b o' z
  · have z := f.out h
    rw [utr_out z]; exact e.tt b ps (by rw [trk_out z]; exact h)
  · exact (e.ft b h).imp id fun z => (trk_none z).2
theorem exte_on (vw : Vw cl' Hv H) (f : Hld Z Hv) (f' : Fre Z H') (hT : cl'.T = cl.T) (e : ExtE cl F (utr Z Hv) (utr Z H) F' Hv' H') (pl : Pls K cl C F' ps Hv' H') : ExtE cl' F Hv H F' (trk Z Hv') (trk Z H') := by
  have fH := f.mono vw.s
  refine ⟨fun b o h n nf => ?_, fun b o h n => ?_, vw_trk e.vh f' hT, fun b o h n => ?_, fun b h => ?_, fun b ps h => ?_, e.ob, fun b h => ?_⟩
  · cases z : Z b with
    | none => rw [trk_out z]; exact e.hh b o (by rw [utr_out z]; exact h) n nf
    | some o' => rw [trk_in z, ← fH b o' z]; exact h
  · cases z : Z b with
    | none => rw [trk_out z]; exact e.vv b o (by rw [utr_out z]; exact h) n
    | some o' => rw [trk_in z, ← f b o' z]; exact h
  · cases z : Z b with
    | none => rw [trk_out z]; exact e.old b o (by rw [utr_out z]; exact h) (by rw [utr_out z]; exact n)
    | some o' => rw [f b o' z] at n; cases n
  · obtain ⟨z, h⟩ := trk_none h
    have := e.dom b h
    rw [utr_out z] at this; exact this
  · have z := fH.out h fun o z => by cases z
    rw [trk_out z]; exact e.tt b ps (by rw [utr_out z]; exact h)
  · refine (e.ft b h).imp id fun z => ?_
    obtain ⟨_, o, ho, _⟩ := pl.foot h
    have zb := f'.out ho
    rw [utr_out zb] at z; exact z
theorem pls_trk (vw : Vw cl Hv H) (h : Pls K cl C F ps Hv H) (f : Fre Z H) (hq : okPS ps = true) (hc : cl'.c = cl.c) (hn : cl'.ns = cl.ns) (ob0 : ∀ k a, cl'.ob k a → obA F k a) : Pls K cl' C F ps (trk Z Hv) (trk Z H) := by
  have fv : Fre Z Hv := fun b o z => vw.d b (f b o z)
  refine ⟨h.len, fun k g q hg hk => ?_, h.nd, ob0⟩
  have hp := h.pl k g q hg hk
  obtain ⟨n1, n2, n3, n4⟩ := okPS_get hq hk
  obtain ⟨vo, vn, h1, r1, r2⟩ := hp.ins
  obtain ⟨vs, h2, z2, r3⟩ := hp.past
  obtain ⟨us, h3, z3, r4⟩ := hp.later
  have up : ∀ {b : Addr} {o : HO}, H b = some o → trk Z H b = some o := fun hb => by rw [trk_out (f.out hb)]; exact hb
  have tr : ∀ {v : V} {d : D}, Rep K (cl.at F) Hv v d → noFn d = true → Rep K (cl'.at F) (trk Z Hv) v d := fun r hd => rep_cl (cl := cl'.at F) (cl' := cl.at F) hc.symm hn.symm rfl (r.mono (sam_trk fv)) hd
  have trs : ∀ {v : List V} {d : List D}, Reps K (cl.at F) Hv v d → noFns d = true → Reps K (cl'.at F) (trk Z Hv) v d := fun r hd => reps_cl (cl := cl'.at F) (cl' := cl.at F) hc.symm hn.symm rfl (r.mono (sam_trk fv)) hd
  refine ⟨⟨vo, vn, up h1, tr r1 n1, tr r2 n2⟩, up hp.own, ⟨vs, up h2, z2, trs r3 n3⟩, ⟨us, up h3, z3, trs r4 n4⟩, fun a ha => ?_⟩
  obtain ⟨o, ho, _⟩ := hp.full a ha
  rw [trk_out (f.out ho)]; exact hp.hid a ha
theorem pls_utr (vw : Vw cl' Hv H) (h : Pls K cl' C F ps Hv H) (f : Hld Z Hv) (hq : okPS ps = true) (hc : cl'.c = cl.c) (hn : cl'.ns = cl.ns) (ob0 : ∀ k a, cl.ob k a → obA F k a) : Pls K cl C F ps (utr Z Hv) (utr Z H) := by
  have fH := f.mono vw.s
  refine ⟨h.len, fun k g q hg hk => ?_, h.nd, ob0⟩
  have hp := h.pl k g q hg hk
  obtain ⟨n1, n2, n3, n4⟩ := okPS_get hq hk
  obtain ⟨vo, vn, h1, r1, r2⟩ := hp.ins
  obtain ⟨vs, h2, z2, r3⟩ := hp.past
  obtain ⟨us, h3, z3, r4⟩ := hp.later
  have up : ∀ {b : Addr} {o : HO}, H b = some o → (∀ u, o ≠ Fz u) → utr Z H b = some o := fun hb hn => by rw [utr_out (fH.out hb hn)]; exact hb
  have tr : ∀ {v : V} {d : D}, Rep K (cl'.at F) Hv v d → noFn d = true → Rep K (cl.at F) (utr Z Hv) v d := fun r hd => rep_utr (cl := cl.at F) (cl' := cl'.at F) f hc hn rfl r hd
  have trs : ∀ {v : List V} {d : List D}, Reps K (cl'.at F) Hv v d → noFns d = true → Reps K (cl.at F) (utr Z Hv) v d := fun r hd => reps_utr (cl := cl.at F) (cl' := cl'.at F) f hc hn rfl r hd
  refine ⟨⟨vo, vn, up h1 (fun _ z => nomatch z), tr r1 n1, tr r2 n2⟩, up hp.own (fun _ z => nomatch z), ⟨vs, up h2 (fun _ z => nomatch z), z2, trs r3 n3⟩, ⟨us, up h3 (fun _ z => nomatch z), z3, trs r4 n4⟩, fun a ha => ?_⟩
  cases z : Z a with
  | none => rw [utr_out z]; exact hp.hid a ha
  | some o => exact utr_in z
end
structure FnVe (P : Program) (w : World) (K : PySem.W.Frag) (mg : Str → Option Value) (base : Heap) (cl : Glb) (C : Addr) (k : Nat) (Fd : PLS → RP D) : Prop where
  isF : ∀ (Hv H : Hp) (h : Heap) (f : Addr), Vw cl Hv H → HOk P w H h → cl.fn Hv f → PySem.W.FnAt f h
  run : ∀ (A : Around) (outer : List PySem.Env) (s : Shared) (H : Hp) (F : List Ft) (Hv : Hp) (f : Addr) (ps : PLS) (Q : VK) (E : XK), Room k A → Env0 P w K mg base A outer s H → Vw cl Hv H → Pls K cl C F ps Hv H → cl.fn Hv f →
    PstE K cl C (fun c d _ H => E c d H) [] F Hv H (TVe K cl Q) (Fd ps) → codeAny (model P w) A (.call (.ref f) ⟨[], []⟩) (CR (L2.CX P w) outer P w H s Q E) s
section
variable {X : Cx} {W : WX} {cl : Glb} {C : Addr} {pos p : Pos} {k i : Nat} {x : Str} {Fd : PLS → RP D}
def eCallF (i : Nat) (Fd : PLS → RP D) : EE := fun ρ ps => match ρ[i]? with
  | some (some .fnv) => Fd ps
  | _ => .bad
theorem ee_callF0 (i : Nat) (V : FnVe X.prog X.w X.K X.mg X.base cl C k Fd) (hr : Room k X.A) (tk : Takes X W) (hN : X.N[i]? = some x := by rfl)
    (hv : Vis X.env.scope x := by first | exact Or.inl rfl | exact Or.inr (Or.inl rfl) | exact Or.inr (Or.inr rfl)) (hd : (x == ("__debug__" : Str)) = false := by decide) (hcd : (x == ("__classdict__" : Str)) = false := by decide) : SEe X W cl C (.Call (.Name x p) [] [] pos) (eCallF i Fd) := by
  refine ⟨fun σ H Q => ∃ f Hv F ps, σ[i]? = some (some (.ref f)) ∧ Vw cl Hv H ∧ Pls X.K cl C F ps Hv H ∧ cl.fn Hv f ∧ PstE X.K cl C (fun c d _ H => W c d σ H) [] F Hv H (TVe X.K cl Q) (Fd ps), ⟨fun pins s σ H Q I h => ?_⟩, fun F Hv H σ ρ ps Q vw pl er pv => ?_⟩
  · obtain ⟨f, Hv, F, ps, hs, vw, pl, hf, pv⟩ := h
    have first := (pe_var (pos := p) hN hv hd hcd).run pins s σ H (fun v H1 => v = .ref f ∧ H1 = H) I ⟨.ref f, hs, rfl, rfl⟩
    refine wpAny_Call_Name_kw (thn first fun u s1 ⟨v, H1, I1, r1, ev, eH⟩ => ?_)
    subst ev
    rw [eH] at I1
    cases (show u = Value.ref f from r1)
    refine PySem.W.callWith_F0 (first := []) (V.isF Hv H s1.heap f vw I1.hok hf) ?_
    refine wpAny_call (codeAny_mono (V.run X.A X.stack s1 H F Hv f ps Q (WE W σ) hr I1.env0 vw pl hf pv) fun o s' q => ?_)
    cases o with
    | error u => exact passAt tk σ pins H s1 u s' I1 q
    | ok fl =>
      cases fl with
      | ret u => exact I1.after q
      | next => exact False.elim q
      | brk => exact False.elim q
      | cont => exact False.elim q
  · unfold eCallF at pv
    split at pv
    · rename_i hi
      obtain ⟨v, h1, h2⟩ := er.get i _ hi
      cases h2 with
      | fnv hf =>
        refine ⟨_, Hv, F, ps, h1, vw, pl, hf, ?_⟩
        cases q : Fd ps with
        | ok d ps' => rw [q] at pv; exact pv
        | err c ps' => rw [q] at pv; exact pv
        | bad => rw [q] at pv; exact pv.elim
    · exact pv.elim
end
def gdE : RP D → RP D
  | .ok d ps => if noFn d && okPS ps then .ok d ps else .bad
  | .err c ps => if okPS ps then .err c ps else .bad
  | .bad => .bad
def lamE (fb : EE) (cs : List (Option D)) : PLS → RP D := fun ps => if okPS ps then gdE (fb cs ps) else .bad
theorem fnve_lam {P : Program} {w : World} {K : PySem.W.Frag} {mg : Str → Option Value} {base : Heap} {cl cl' : Glb} {C : Addr} {Z : Zf} {f : Addr} {F : NdefX.NF} {body : Expr} {pm ctv : Value} {fr : List Str} {ws : List (Option V)} {cs : List (Option D)} {F0 : List Ft} {Hv0 : Hp} {fb : EE} {k : Nat}
    (hT : cl'.T = cl.T) (hc : cl'.c = cl.c) (hn : cl'.ns = cl.ns) (ho : cl'.ob = obA F0) (ho0 : ∀ k a, cl.ob k a → obA F0 k a)
    (hfn : ∀ Hv f', cl'.fn Hv f' → f' = f ∧ Hld Z Hv ∧ Hv f = some (Fz (lobj F body pm ctv)) ∧ Hv F.c = some (LamX.CodeO F.c F.qual) ∧ Sam Hv0 (utr Z Hv))
    (S : NdefX.NScope fr [] fr F.scope) (hb : bindArgs (PySem.W.kla_fn F.name F.qual F.params body F.scope F.cl pm (.ref F.c) ctv) ⟨[], []⟩ = pure [])
    (hC : ∀ (h : Heap) (H : Hp), (∀ b o, Z b = some o → h.get? b = some o) → Fre Z H → NdefX.CellsAt F.cl fr ws h H) (hcs : cs.length = fr.length)
    (hcap : ∀ (i : Nat) d, cs[i]? = some (some d) → ∃ v, ws[i]? = some (some v) ∧ Rep K (cl.at F0) Hv0 v d)
    (hbody : ∀ (A : Around) (outer : List PySem.Env) (s : Shared) (H : Hp) (E : XK), Room k (A.deeper (NdefX.envF F f s.heap.objs.size)) → SEe (NdefX.ncx (L2.CX P w) P w K mg base fr F f A outer s H E) (fun c d _ H => E c d H) cl C body fb) :
    FnVe P w K mg base cl' C (k + 1) (lamE fb cs) := by
  refine ⟨fun Hv H h f' vw hok hf => ?_, fun A outer s H Fx Hv f' ps Q E hr e0 vw pl hf pv => ?_⟩
  · obtain ⟨rfl, _, h1, _⟩ := hfn Hv f' hf
    exact ⟨_, _, _, _, (hok f' _ (vw.s _ _ h1 rfl)).1⟩
  · obtain ⟨rfl, hh, h1, h2, h3⟩ := hfn Hv f' hf
    have hH : Hld Z H := hh.mono vw.s
    have hz : ∀ b o, Z b = some o → s.heap.get? b = some o := fun b o z => (e0.hok b _ (hH b o z)).1
    have gf : s.heap.get? f' = some (lobj F body pm ctv) := (e0.hok f' _ (vw.s _ _ h1 rfl)).1
    have gc : s.heap.CodeRec (.ref F.c) F.qual := NdefX.codeO_at e0.hok (vw.s _ _ h2 rfl)
    have lim : s.heap.NoLimit := e0.mod.nolimit.keeps fun b o e => (e0.bs b o e).1
    have C1 := hC s.heap (utr Z H) hz fre_utr
    have e1 := env0_utr e0 hH
    have oF : ∀ k a, obA F0 k a → obA Fx k a := fun k a z => pl.ob0 k a (by rw [ho]; exact z)
    unfold lamE at pv
    by_cases hq : okPS ps = true
    · rw [if_pos hq] at pv
      refine codeAny_mono (R := CR (L2.CX P w) outer P w (utr Z H) s (fun v H' => Fre Z H' → Q v (trk Z H')) (fun c d H' => Fre Z H' → E c d (trk Z H'))) ?_ fun o s' q => cr_trk q hH e0.hok e0.frf (fun v H' fz q => q fz) (fun c d H' fz q => q fz)
      refine PySem.W.kla_callFunE hr.depth gf rfl S.co S.gen rfl gc ?_
      rw [hb]
      refine wpAny_pure (wpAny_newFunctionEnv S.nocell (fun y hy => nomatch hy) (fun h₁ hns hsb => ⟨lim.fresh _ hsb, ?_⟩) S.kind)
      show codeAny _ _ (.expr body (NdefX.envF F f' s.heap.objs.size)) _ _
      have kp : ∀ b o, s.heap.get? b = some o → h₁.get? b = some o := fun b o e => hsb.extBut b o (Nat.ne_of_lt (Heap.lt_size e)) (Heap.get?_push_of_some _ e)
      obtain ⟨tb, pb, rb⟩ := hbody A outer s (utr Z H) (fun c d H' => Fre Z H' → E c d (trk Z H')) (hr.deeper _)
      have J := NdefX.inv_startN (CX := L2.CX P w) (E := fun c d H' => Fre Z H' → E c d (trk Z H')) (f := f') (tk := s.toks + (([] : List Str).zip ([] : List Value)).length) (vs := []) S hr.hd e1 rfl .nil C1 hns kp
      refine PySem.W.kla_codeExpr (wpAny_mono (pb.run [] _ _ (utr Z H) (fun v H' => Fre Z H' → Q v (trk Z H')) J (rb Fx (utr Z Hv) (utr Z H) _ cs ps _ (vw_utr vw hh hT) (pls_utr vw pl hh hq hc hn fun k a z => oF k a (ho0 k a z)) ⟨fun i d hi => ?_, ?_⟩ ?_)) (fun u s' ⟨v, H', J', rv, q⟩ => ?_) fun u s' q => q)
      · have lw := C1.len
        unfold NdefX.startF
        obtain ⟨v, g1, g2⟩ := hcap _ d hi
        have hlt : i < ws.length := (List.getElem?_eq_some_iff.mp g1).1
        exact ⟨v, by rw [List.map_nil, List.nil_append, List.getElem?_append_left hlt, g1], (g2.ob oF).mono h3⟩
      · have lw := C1.len
        unfold NdefX.startF
        rw [List.length_append, List.length_append, List.length_map, List.length_replicate]
        simp only [List.length_nil]
        omega
      · cases qb : fb cs ps with
        | bad => rw [qb] at pv; exact pv.elim
        | err c ps1 =>
          rw [qb] at pv
          unfold gdE at pv
          by_cases hp : okPS ps1 = true
          · simp only [hp, if_true] at pv
            intro F' Hv' H' ex pl' fz
            rw [← hc]
            have fv : Fre Z Hv' := fun b o z => ex.vh.d b (fz b o z)
            exact pv F' _ _ (exte_on vw hh fz hT ex pl') (pls_trk ex.vh pl' fz hp hc hn fun k a z => ex.ob k a (pl.ob0 k a z))
          · simp only [hp] at pv
            exact pv.elim
        | ok d ps1 =>
          rw [qb] at pv
          unfold gdE at pv
          by_cases hd : (noFn d && okPS ps1) = true
          · simp only [hd, if_true] at pv
            rw [Bool.and_eq_true] at hd
            intro F' Hv' H' ex pl' v rv fz
            have fv : Fre Z Hv' := fun b o z => ex.vh.d b (fz b o z)
            exact pv F' _ _ (exte_on vw hh fz hT ex pl') (pls_trk ex.vh pl' fz hd.2 hc hn fun k a z => ex.ob k a (pl.ob0 k a z)) v (rep_cl (cl := cl'.at F') (cl' := cl.at F') hc.symm hn.symm rfl (rv.mono (sam_trk fv)) hd.1)
          · simp only [hd] at pv
            exact pv.elim
      · exact ⟨v, H', J'.os, J'.bare, J'.base, J'.hok, rv, q⟩
    · rw [if_neg hq] at pv
      exact pv.elim
end Sm
namespace Sm
open PySem PySem.Spec L2
def eLam (FF : (PLS → RP D) → List D → PLS → RP D) (js : List Nat) (fb : EE) : EE := fun ρ ps => if okPS ps then gdE (FF (lamE fb (capsD js ρ)) [.fnv] ps) else .bad
def tLR (X : Cx) (W : WX) (k : Nat) (gA : Addr) (clo : List (Str × Addr)) (fr : List Str) (js : List Nat) (t : TA) : TE := fun σ H Q => t σ H fun vs H1 => ∀ Z : Zf, Fre Z H1 →
  (∀ (h : Heap) (H : Hp), (∀ b o, Z b = some o → h.get? b = some o) → Fre Z H → NdefX.CellsAt clo fr (js.map (NdefX.slotAt σ)) h H) →
  ∃ (sp : Sp) (Q' : VK) (E' : XK), FnR X.prog X.w X.K X.mg X.base (L2.CX X.prog X.w) k gA sp ∧ sp vs (trk Z H1) Q' E' ∧ (∀ v H', Hld Z H' → Q' v H' → Q v (utr Z H')) ∧ (∀ c d H', Hld Z H' → E' c d H' → WE W σ c d (utr Z H'))
section
variable {X : Cx} {W : WX} {cl : Glb} {C : Addr} {params : Arguments} {body e : Expr} {scope : Scope} {pos p lpos : Pos} {es : List Expr} {k kb m : Nat} {x : Str} {gA : Addr} {fr : List Str} {js : List Nat} {t : TA} {fb : EE} {FF : (PLS → RP D) → List D → PLS → RP D}
open Classical in
theorem pe_lamR (hg : Gl X x) (hm : X.mg x = some (.ref gA)) (hk : PySem.W.keepIn X.K (.ref gA) = true) (hr : Room k X.A) (tk : Takes X W) (pa : PA X (e :: es) t) (hfn : ∀ y, X.fn y = true) (hstk : X.stack = X.env :: X.outer) (hfrm : X.env.frame = some X.env.locals)
    (hfree : ∀ y ∈ scope.names, y.2 = .free → X.env.scope.names.lookup y.1 = some .cell ∨ X.env.scope.names.lookup y.1 = some .free) (hfr : ∀ y ∈ fr, (y, NameKind.free) ∈ scope.names) (hjs : js.map (fun j => X.N[j]?) = fr.map some) (hdb : (x == ("__debug__" : Str)) = false)
    (he : starEach (e :: es) X.env = (false, eval e X.env) :: starEach es X.env) (hpl : (backTo pos (starEach es X.env)).any (·.1) = false) :
    PE X (.Call (.Name x p) (e :: es) [] pos) (tLR X W k gA (cloFrom X.env.cells scope.names []) fr js t) := by
  refine ⟨fun pins s σ H Q I h => wpAny_Call_Name_kw (ld_glob I hg hm ?_ hdb)⟩
  refine PySem.W.callWith_K (h₀ := X.base) I.ok.mod.kin hk (thn (pa.run pos pins s σ H _ I h) fun us s1 ⟨vs, H1, I1, r, q⟩ => ⟨I1.kIn, ?_⟩) he hpl
  have cap := NdefX.Caps.made (fr := fr) (js := js) I1.ok hfree hfr hjs
  have CA := NdefX.cells_of I1 cap
  have hx : ∀ y c, (cloFrom X.env.cells scope.names []).lookup y = some c → X.env.cells.lookup y = some c := cap.sub
  let Z : Zf := fun b => if ∃ y, (cloFrom X.env.cells scope.names []).lookup y = some b then s1.heap.get? b else none
  have hz : ∀ b o, Z b = some o → (∃ y, (cloFrom X.env.cells scope.names []).lookup y = some b) ∧ s1.heap.get? b = some o := fun b o z => by
    have z : (if ∃ y, (cloFrom X.env.cells scope.names []).lookup y = some b then s1.heap.get? b else none) = some o := z
    split at z
    · exact ⟨by assumption, z⟩
    · cases z
  have zin : ∀ y c o, (cloFrom X.env.cells scope.names []).lookup y = some c → s1.heap.get? c = some o → Z c = some o := fun y c o hy ho => (if_pos ⟨y, hy⟩).trans ho
  have fZ : Fre Z H1 := fun b o z => by
    obtain ⟨⟨y, hy⟩, _⟩ := hz b o z
    exact (CA.all y b hy).1
  have ab : ∀ b o, Z b = some o → X.s_0.heap.objs.size ≤ b := fun b o z => by
    obtain ⟨⟨y, hy⟩, _⟩ := hz b o z
    exact I1.ok.cab y b (hfn y) (hx y b hy)
  have nf : ∀ b o, Z b = some o → b ∉ frs X.stack := fun b o z hb => by
    obtain ⟨⟨y, hy⟩, _⟩ := hz b o z
    rw [hstk] at hb
    have hb : b ∈ List.filterMap (·.frame) (X.env :: X.outer) := hb
    rw [List.filterMap_cons, hfrm] at hb
    rcases List.mem_cons.mp hb with e1 | e1
    · exact I1.cne y b (hx y b hy) e1
    · obtain ⟨_, o', ho', _⟩ := I1.ok.funs.mem e1
      exact absurd (Heap.lt_size ho') (Nat.not_lt.mpr (ab b o z))
  have nb : ∀ b o, Z b = some o → X.base.get? b = none := fun b o z => by
    cases q : X.base.get? b with
    | none => rfl
    | some o' => exact absurd (Heap.lt_size (I1.ok.bs b o' q).1) (Nat.not_lt.mpr (ab b o z))
  obtain ⟨sp, Q', E', F, hsp, hq, hE⟩ := q Z fZ fun h H2 hh f2 => by
    refine ⟨CA.len, fun y c e1 => ?_, CA.inj, fun i y e1 => ?_⟩
    · obtain ⟨_, v, o, ho, hd⟩ := CA.all y c e1
      exact ⟨f2 c o (zin y c o e1 ho), v, o, hh c o (zin y c o e1 ho), hd⟩
    · obtain ⟨c, e2, e3⟩ := CA.has i y e1
      refine ⟨c, e2, fun v hv => ?_⟩
      obtain ⟨u, ru, o, ho, hd⟩ := e3 v hv
      exact ⟨u, ru, o, hh c o (zin y c o e2 ho), hd⟩
  have hz' : ∀ b o, Z b = some o → s1.heap.get? b = some o := fun b o z => (hz b o z).2
  show wpAny _ _ (call (.ref gA) us) _ _ _
  refine wpAny_call (codeAny_mono (F X.A X.stack s1 (trk Z H1) us vs Q' E' hr (env0_trk I1.env0 fZ hz' nf nb) r hsp) fun o s' q' => ?_)
  have q2 : CR (L2.CX X.prog X.w) X.stack X.prog X.w H1 s1 Q (WE W σ) o s' := cr_utr q' fZ hz' nf hq hE
  cases o with
  | error u => exact passAt tk σ pins H1 s1 u s' I1 q2
  | ok fl =>
    cases fl with
    | ret u => exact I1.after q2
    | next => exact False.elim q2
    | brk => exact False.elim q2
    | cont => exact False.elim q2
theorem ee_lamC (fr : List Str) (js : List Nat) (mk : Mk X cl.T) (hm : X.mg x = some (.ref gA)) (hk : PySem.W.keepIn X.K (.ref gA) = true)
    (G : ∀ (cl' : Glb) (Fb : PLS → RP D), cl'.c = cl.c → cl'.ns = cl.ns → cl'.T = cl.T → FnVe X.prog X.w X.K X.mg X.base cl' C (kb + 1) Fb → FnA X.prog X.w X.K X.mg X.base cl' C k x 1 (FF Fb))
    (hr : Room k X.A) (tk : Takes X W)
    (hbody : ∀ (f c' : Addr) (A : Around) (outer : List PySem.Env) (s : Shared) (H : Hp) (E : XK), Gd (lamX X params scope fr f c' A outer s H E) (fun c d _ H => E c d H) → Room kb (lamX X params scope fr f c' A outer s H E).A → SEe (lamX X params scope fr f c' A outer s H E) (fun c d _ H => E c d H) cl C body fb)
    (hB : lamB X.env.scope scope [] fr = true) (hjs : js.map (fun j => X.N[j]?) = fr.map some := by rfl) (hb : ∀ (q : Str) (clo : List (Str × Addr)) (pm cv ctv : Value), bindArgs (PySem.W.kla_fn "<lambda>" q params body scope clo pm cv ctv) ⟨[], []⟩ = pure [] := by intros; rfl)
    (hdef : defaultsOf params X.env = ([], []) := by rfl)
    (hfn : ∀ y, X.fn y = true := by intro _; rfl) (hstk : X.stack = X.env :: X.outer := by rfl) (hfrm : X.env.frame = some X.env.locals := by rfl)
    (hg : Gl X x := by rfl) (hdb : (x == ("__debug__" : Str)) = false := by decide)
    (he : starEach [.Lambda params body scope lpos] X.env = [(false, eval (.Lambda params body scope lpos) X.env)] := by rfl) (hpl : (backTo pos (starEach [] X.env)).any (·.1) = false := by rfl) :
    SEe X W cl C (.Call (.Name x p) [.Lambda params body scope lpos] [] pos) (eLam FF js fb) := by
  have S := lam_sc hB
  refine ⟨_, pe_lamR hg hm hk hr tk (pa_cons (pe_lamE mk hdef (lam_free hB)) pa_nil he) hfn hstk hfrm (lam_free hB) (lam_fr hB) hjs hdb he hpl, fun F Hv H σ ρ ps Q vw pl er pv => ⟨vw.tab, fun f c' pm ctv H1 g t1 h1 h2 h3 h4 => ?_⟩⟩
  have ex := g.ext vw.at (cl := cl.at F) t1
  have hf : (lift Hv H H1) f = some (Fz (lobj (lamF X params scope c') body pm ctv)) := by rw [lift_new h3]; exact h1
  have hcd : (lift Hv H H1) c' = some (LamX.CodeO c' (X.env.qual ++ "<lambda>")) := by
    rcases h4 with h4 | h4
    · rw [lift_new h4]; exact h2
    · rw [lift_old (vw.x _ _ h4)]; exact h2
  generalize lift Hv H H1 = Hv1 at ex hf hcd
  have e1 : ExtE cl F Hv H F Hv1 H1 := .of ex
  have pl1 := pl.ext ex
  have er1 := er.ee e1
  have pv1 := PstE.ext pv e1
  intro Z fZ hC
  have fv : Fre Z Hv1 := fun b o z => e1.vh.d b (fZ b o z)
  unfold eLam at pv1
  by_cases hq : okPS ps = true
  · rw [if_pos hq] at pv1
    let cl' : Glb := { cl with fn := fun Hv f' => f' = f ∧ Hld Z Hv ∧ Hv f = some (Fz (lobj (lamF X params scope c') body pm ctv)) ∧ Hv c' = some (LamX.CodeO c' (X.env.qual ++ "<lambda>")) ∧ Sam Hv1 (utr Z Hv), fnM := fun Ha Hb f' sm ⟨a1, a2, a3, a4, a5⟩ => ⟨a1, a2.mono sm, sm _ _ a3 rfl, sm _ _ a4 rfl, a5.trans (sam_utr sm)⟩, ob := obA F }
    have V : FnVe X.prog X.w X.K X.mg X.base cl' C (kb + 1) (lamE fb (capsD js ρ)) := by
      refine fnve_lam (cl := cl) (Z := Z) (F := lamF X params scope c') (ws := js.map (NdefX.slotAt σ)) (F0 := F) (Hv0 := Hv1) rfl rfl rfl rfl pl1.ob0 (fun Hv f' h => h) S (hb _ _ _ _ _) hC ?_ (fun i d hi => ?_) fun A outer s H E hr2 => hbody f c' A outer s H E ⟨rfl, S.nd, takes_of rfl rfl rfl rfl, passes_of rfl⟩ hr2
      · have q := congrArg List.length hjs
        rw [List.length_map, List.length_map] at q
        unfold capsD
        rw [List.length_map]; exact q
      · unfold capsD at hi
        rw [List.getElem?_map] at hi ⊢
        cases ej : js[i]? with
        | none => rw [ej] at hi; cases hi
        | some j =>
          rw [ej] at hi
          have hi : (ρ[j]?).join = some d := Option.some.inj hi
          have hj : ρ[j]? = some (some d) := by
            cases z : ρ[j]? with
            | none => rw [z] at hi; cases hi
            | some u => rw [z] at hi; exact congrArg some hi
          obtain ⟨v, g1, g2⟩ := er1.get j d hj
          exact ⟨v, congrArg some (NdefX.slotAt_of g1), g2⟩
    obtain ⟨fA, ok, hm', hk'⟩ := (G cl' _ rfl rfl rfl V).ex
    rw [hm] at hm'
    cases hm'
    refine ⟨_, fun v H' => Hld Z H' → Q v (utr Z H'), fun c d H' => Hld Z H' → W c d σ (utr Z H'), ok, ⟨rfl, F, trk Z Hv1, [.fnv], ps, vw_trk e1.vh fZ rfl, pls_trk e1.vh pl1 fZ hq rfl rfl fun _ _ z => z, ?_, ?_⟩, fun v H' hl q => q hl, fun c d H' hl q => q hl⟩
    · refine .cons (.fnv ⟨rfl, hld_trk, ?_, ?_, ?_⟩) .nil
      · rw [trk_out (fv.out hf)]; exact hf
      · rw [trk_out (fv.out hcd)]; exact hcd
      · rw [utr_trk fv]; exact Sam.refl _
    · cases qF : FF (lamE fb (capsD js ρ)) [.fnv] ps with
      | bad => rw [qF] at pv1; exact pv1.elim
      | err c ps1 =>
        rw [qF] at pv1
        unfold gdE at pv1
        by_cases hp : okPS ps1 = true
        · simp only [hp, if_true] at pv1
          intro F' Hv' H' ex2 pl2 hl
          exact pv1 F' _ _ (exte_back (cl' := cl') e1.vh fZ rfl ex2) (pls_utr (cl' := cl') ex2.vh pl2 (hld_trk.mono ex2.vv) hp rfl rfl fun k a z => ex2.ob k a (pl1.ob0 k a z))
        · simp only [hp] at pv1
          exact pv1.elim
      | ok d ps1 =>
        rw [qF] at pv1
        unfold gdE at pv1
        by_cases hd : (noFn d && okPS ps1) = true
        · simp only [hd, if_true] at pv1
          rw [Bool.and_eq_true] at hd
          intro F' Hv' H' ex2 pl2 v rv hl
          exact pv1 F' _ _ (exte_back (cl' := cl') e1.vh fZ rfl ex2) (pls_utr (cl' := cl') ex2.vh pl2 (hld_trk.mono ex2.vv) hd.2 rfl rfl fun k a z => ex2.ob k a (pl1.ob0 k a z)) v (rep_utr (cl := cl.at F') (cl' := cl'.at F') (hld_trk.mono ex2.vv) rfl rfl rfl rv hd.1)
        · simp only [hd] at pv1
          exact pv1.elim
  · rw [if_neg hq] at pv1
    exact pv1.elim
end
section
variable {X : Cx} {W : WX} {cl : Glb} {C : Addr} {pos p : Pos} {a e e1 e2 : Expr} {es : List Expr} {k n i : Nat} {x : Str} {own : List Nat}
def eTryR (codes : List Nat) (j : Nat) (f1 : EE) (f2 : DE) : DSe := fun ρ ps => match f1 ρ ps with
  | .ok d ps' => .ret d ps'
  | .bad => .bad
  | .err c ps' => if codes.contains c then (match f2 (ρ.set j (some (.exc c))) with | .ok d => .ret d ps' | _ => .bad) else .bad
def tEe (K : PySem.W.Frag) (cl : Glb) (C : Addr) (W : WX) (f : EE) : TE := fun σ H Q => ∃ F Hv ρ ps, Vw cl Hv H ∧ Pls K cl C F ps Hv H ∧ ER K (cl.at F) Hv ρ σ ∧ PstE K cl C W σ F Hv H (TVe K cl Q) (f ρ ps)
theorem SEe.pe {f : EE} (h : SEe X W cl C e f) : PE X e (tEe X.K cl C W f) := by
  obtain ⟨t, pt, h⟩ := h
  exact ⟨fun pins s σ H Q I ⟨F, Hv, ρ, ps, vw, pl, er, pv⟩ => pt.run pins s σ H Q I (h F Hv H σ ρ ps Q vw pl er pv)⟩
theorem es_tryR {codes : List Nat} {j : Nat} {n : Str} {CS : Addr} {np pos' p2 p3 : Pos} {f1 : EE} {f2 : DE} (gd : Gd X W) (hs : X.stack = X.env :: X.outer) (hf : X.env.frame = some X.env.locals) (hx : X.ex = []) (hm : X.mg x = some (.ref CS))
    (hsub : ∀ c ∈ codes, PySem.W.exmOne X.K (.ref (cl.c c)) (.ref CS) = some true)
    (h1 : ∀ (W' : WX) (pn : List (Addr × Obj)) (xe : Value → Shared → Prop), Gd (X.tr pn xe) W' → SEe (X.tr pn xe) W' cl C e1 f1) (h2 : ∀ (F : List Ft) (a : Addr) (pn : List (Addr × Obj)), SE (cxS X a pn) W0 (cl.at F) e2 f2)
    (hj : X.N[j]? = some n := by rfl) (hln : X.env.kindOf n = some .local := by rfl) (hg : Gl X x := by rfl) (hdb : (x == ("__debug__" : Str)) = false := by decide) :
    SSe X W cl C [] [] (.Try [.Return (some e1) p2] [.ExceptHandler (some (.Name x np)) (some n) [.Return (some e2) p3] pos'] [] [] pos) (eTryR codes j f1 f2) := by
  have h2' : ∀ a pn, PE (cxS X a pn) e2 (fun σ H Q => ∃ F, tE X.K (cl.at F) W0 f2 σ H Q) := fun a pn => ⟨fun pins s σ H Q I ⟨F, q⟩ => (h2 F a pn).pe.run pins s σ H Q I q⟩
  refine ⟨_, ps_try_x (i := j) (ts := fun a D σ H => ∃ F, tE X.K (cl.at F) W0 f2 σ H D.rt) (tb := fun W' D σ H => tEe X.K cl C W' f1 σ H D.rt) hs hf hx gd.nd hj hln ⟨hg, hdb, .inl hm⟩ gd.tk
    (fun W' pn xe tk po => pss_one (ps_ret (h1 W' pn xe ⟨gd.calm, gd.nd, tk, po⟩).pe)) (fun a pn => pss_one (ps_ret (h2' a pn))), fun F0 Hv0 H0 ρ σ ps F Hv H Dn sr hl po => ?_⟩
  have em0 : mask [] ρ = ρ := rfl
  refine ⟨F, Hv, ρ, ps, sr.ext.vh, sr.pls, sr.er, ?_⟩
  unfold eTryR at po
  cases q : f1 ρ ps with
  | bad => rw [q] at po; exact po.elim
  | ok d ps' => rw [q] at po; exact fun F' Hv' H' ex pl v rv => po v F' Hv' H' (sr.ext.trans ex) pl rv
  | err c ps' =>
    rw [q] at po
    simp only at po
    split at po
    · rename_i hc
      intro F' Hv' H' ex pl
      refine ⟨true, hsub c (by simpa using hc), fun _ => ⟨_, rfl, rfl, fun a na => ?_⟩, fun z => nomatch z⟩
      have ex2 := Ext.new (cl := cl.at F') (o := ExcO a (cl.c c)) ex.vh.at na
      have s1 := sr.step ex pl
      have s2 := s1.step (.of ex2) (pl.ext ex2)
      have s3 := s2.back (s2.sr.set (own' := []) (i := j) (v := .ref a) (d := .exc c) (by simp) (.exc upd_same) (by simp))
      refine ⟨F', _, _, s3.ext.vh.at, s3.er, ?_⟩
      have em : mask [] (ρ.set j (some (.exc c))) = ρ.set j (some (.exc c)) := rfl
      rw [em]
      cases q2 : f2 (ρ.set j (some (.exc c))) with
      | ok d => rw [q2] at po; exact fun Hv3 H3 ex3 v rv => po v F' Hv3 H3 (s3.ext.trans (.of ex3)) (s3.pls.ext ex3) rv
      | err c' => rw [q2] at po; exact po.elim
      | bad => rw [q2] at po; exact po.elim
    · exact po.elim
end
end Sm
namespace Sm
open PySem PySem.Spec L2
theorem fnE_okC {P : Program} {w : World} {K : PySem.W.Frag} {mg : Str → Option Value} {base : Heap} {cl : Glb} {C : Addr} {k n m : Nat} {x : Str} {st : Stmt} {f c : Addr} {fd : FuncData} {N ps : List Str} {den : DSe} {own : List Nat}
    (F : FunC K x st f fd c) (tb : TabAt base mg cl x c) (S : FnScope N ps (defScope st)) (hn : ps.length = n) (hN : N.length = m)
    (h : ∀ (A : Around) (outer : List PySem.Env) (s : Shared) (H : Hp) (E : XK), Gd (cxOf (L2.CX P w) P w K mg base N x (defScope st) f (.ref c) A outer s H E) (fun cls d _ H => E cls d H) → Mk (cxOf (L2.CX P w) P w K mg base N x (defScope st) f (.ref c) A outer s H E) cl.T →
      Room k (A.deeper (PyProof.Rows.envOfC x (defScope st) s.heap.objs.size f (.ref c))) → SSes (cxOf (L2.CX P w) P w K mg base N x (defScope st) f (.ref c) A outer s H E) (fun cls d _ H => E cls d H) cl C [] own (defBody st) den) :
    FnOk P w K mg base (L2.CX P w) (k + 1) f fd ps (spE K cl C n (defE n m den)) := by
  refine okC F S (fun vs H Q E h => h.1.trans hn.symm) fun A outer s H vs Q E hr hsp => ?_
  obtain ⟨hv, Ft, Hv, ds, ps0, vw, pl, r, ps'⟩ := hsp
  obtain ⟨PT, t1, t2, t3⟩ := tb.ex
  have gd : Gd (cxOf (L2.CX P w) P w K mg base N x (defScope st) f (.ref c) A outer s H E) (fun cls d _ H => E cls d H) := ⟨rfl, S.nd, takes_of rfl rfl rfl rfl, passes_of rfl⟩
  obtain ⟨t, pt, run⟩ := h A outer s H E gd ⟨c, PT, t1, rfl, t2, t3⟩ hr
  refine ⟨t, pt, run Ft Hv H (args N.length ds) (start N vs) ps0 Ft Hv H _ ⟨ExtE.refl vw, pl, ?_, fun i d _ e => args_get r e, fun i hi => absurd hi (by simp), fun i j p hi => absurd hi (by simp)⟩ ?_ ?_⟩
  · unfold args L2.start
    rw [List.length_append, List.length_append, List.length_map, List.length_map, List.length_replicate, List.length_replicate, r.length]
  · unfold L2.start
    have h1 : ps.length ≤ N.length := by have := congrArg List.length S.pre; rw [List.length_take] at this; omega
    show _ = N.length
    rw [List.length_append, List.length_map, List.length_replicate]
    omega
  · have hd : ds.length = n := by rw [← r.length]; exact hv
    unfold defE at ps'
    rw [if_pos hd] at ps'
    rw [hN]
    cases q : den (args m ds) ps0 with
    | nx ρ ps1 =>
      rw [q] at ps'
      exact fun σ' F' Hv' H' sr sm ob hl => ps' F' Hv' H' sr.ext sr.pls .non .non
    | ret d ps1 =>
      rw [q] at ps'
      exact fun v F' Hv' H' e pl r' => ps' F' Hv' H' e pl v r'
    | err ρ c ps1 =>
      rw [q] at ps'
      exact fun σ' F' Hv' H' sr _ _ hl => ps' F' Hv' H' sr.ext sr.pls
    | bad => rw [q] at ps'; exact ps'.elim
theorem fnA_mkC {P : Program} {w : World} {K : PySem.W.Frag} {mg : Str → Option Value} {base : Heap} {cl : Glb} {C : Addr} {k n m : Nat} {x : Str} {st : Stmt} {f c : Addr} {fd : FuncData} {N ps : List Str} {den : DSe} {own : List Nat}
    (F : FunC K x st f fd c) (tb : TabAt base mg cl x c) (S : FnScope N ps (defScope st)) (hm : mg x = some (.ref f)) (hb : Binds K fd ps []) (hn : ps.length = n) (hN : N.length = m)
    (h : ∀ (A : Around) (outer : List PySem.Env) (s : Shared) (H : Hp) (E : XK), Gd (cxOf (L2.CX P w) P w K mg base N x (defScope st) f (.ref c) A outer s H E) (fun cls d _ H => E cls d H) → Mk (cxOf (L2.CX P w) P w K mg base N x (defScope st) f (.ref c) A outer s H E) cl.T →
      Room k (A.deeper (PyProof.Rows.envOfC x (defScope st) s.heap.objs.size f (.ref c))) → SSes (cxOf (L2.CX P w) P w K mg base N x (defScope st) f (.ref c) A outer s H E) (fun cls d _ H => E cls d H) cl C [] own (defBody st) den) :
    FnA P w K mg base cl C (k + 1) x n (defE n m den) := ⟨f, FnOk.rawN (fnE_okC F tb S hn hN h) hb, hm, F.kp⟩
theorem pls0 {K : PySem.W.Frag} {c : Nat → Addr} {ns : List Int} {T : List (Addr × Str)} {C : Addr} {Hv H : Hp} : Pls K (Glb.of c ns T) C [] [] Hv H :=
  ⟨rfl, fun k f q h => (by simp at h), (by simp [feet]), fun _ _ z => z.elim⟩
theorem law_byTE {P : Program} {w : World} {K : PySem.W.Frag} {mg : Str → Option Value} {base : Heap} {k : Nat} {f : Addr} {fd : FuncData} {ps : List Str} (hp : ps.length = 1) (c : Nat → Addr) (C : Addr) (T : List (Addr × Str)) (cs : List (Addr × Addr)) (hT : T.map (·.1) = cs.map (·.2))
    (h : ∀ ns : List Int, ns.length ≤ 63 → ∃ Fd : List D → PLS → RP D, (∃ qs, Fd [.scr0] [] = .ok (.bl true) qs) ∧ FnOk P w K mg base (L2.CX P w) k f fd ps (spE K (Glb.of c ns T) C 1 Fd)) : FnOk P w K mg base (L2.CX P w) k f fd ps (spT K cs) := by
  refine ⟨fun vs H Q E ⟨a, ns, e, _⟩ => by rw [e, hp]; rfl, fun A outer s H args us vs Q E hr e0 hb hv hs => ?_⟩
  obtain ⟨a, ns, rfl, hq, hl, ht, q⟩ := hs
  obtain ⟨Fd, ⟨qs, hF⟩, ok⟩ := h ns hl
  have tb : LamX.Tabs T H := fun p hp => by
    have : p.1 ∈ cs.map (·.2) := by rw [← hT]; exact List.mem_map.mpr ⟨p, hp, rfl⟩
    obtain ⟨c, hc, e⟩ := List.mem_map.mp this
    exact LamX.TabS.nil (by rw [← e]; exact ht c hc)
  refine ok.run A outer s H args us _ Q E hr e0 hb hv ⟨rfl, [], H, [.scr0], [], Vw.refl tb, pls0, .cons (.scr0 (cl := (Glb.of c ns T).at []) hq (Nat.le_trans hl (by decide))) .nil, ?_⟩
  rw [hF]
  intro F' Hv' H' e pl v r
  cases r
  exact q H'
section
variable {X : Cx} {W : WX} {cl : Glb} {C : Addr} {F0 F F1 : List Ft} {Hv0 H0 Hv Hv1 H : Hp} {own own1 own2 own3 : List Nat} {Dn : Ends} {pos pos' p lp : Pos} {a b c e : Expr} {es : List Expr} {fa fb : EE} {g : EA} {st : Stmt} {sts : List Stmt}
end
end Sm
namespace Sm
open PySem PySem.Spec L2
theorem oAdd_ii (i j : Int) : oAdd (.int i) (.int j) = some (.int (i + j)) := rfl
theorem oNe_int (i j : Int) : oNe (.int i) (.int j) = some (.bl (!(i == j))) := by simp [oNe, pln, deq]
theorem oEq_int (i j : Int) : oEq (.int i) (.int j) = some (.bl (i == j)) := by simp [oEq, pln, deq]
def Sz (n : Nat) (q : Rat) : Prop := q.num.natAbs < 2 ^ n ∧ q.den < 2 ^ n
theorem divInt_sz {u d : Int} {m n : Nat} (hd : d ≠ 0) (hu : u.natAbs < 2 ^ m) (h : d.natAbs < 2 ^ n) : (Rat.divInt u d).num.natAbs < 2 ^ m ∧ (Rat.divInt u d).den < 2 ^ n := by
  rw [Rat.num_divInt, Rat.den_divInt, if_neg hd]
  constructor
  · refine Nat.lt_of_le_of_lt ?_ hu
    rw [Int.natAbs_ediv_of_dvd (Int.dvd_mul_of_dvd_right (Int.gcd_dvd_right ..)), Int.natAbs_mul]
    refine Nat.le_trans (Nat.div_le_self ..) ?_
    rw [Int.natAbs_sign_of_ne_zero hd]; omega
  · exact Nat.lt_of_le_of_lt (Nat.div_le_self ..) h
theorem oMul_ok {i j : Int} (h : mulOk i j = true) : oMul (.int i) (.int j) = some (.int (i * j)) := by simp only [oMul, h, if_true]
theorem two_pow_mul {x y m n : Nat} (hx : x < 2 ^ m) (hy : y < 2 ^ n) : x * y < 2 ^ (m + n) := by
  rw [Nat.pow_add]
  exact Nat.mul_lt_mul'' hx hy
theorem abs_mul_lt {x y : Int} {m n : Nat} (hx : x.natAbs < 2 ^ m) (hy : y.natAbs < 2 ^ n) : (x * y).natAbs < 2 ^ (m + n) := by
  rw [Int.natAbs_mul]
  exact two_pow_mul hx hy
theorem abs_sub_lt {x y : Int} {n : Nat} (hx : x.natAbs < 2 ^ n) (hy : y.natAbs < 2 ^ n) : (x - y).natAbs < 2 ^ (n + 1) := by
  rw [Nat.pow_succ]; omega
theorem den_nat {q : Rat} {n : Nat} (h : Sz n q) : ((q.den : Nat) : Int).natAbs < 2 ^ n := by rw [Int.natAbs_natCast]; exact h.2
theorem den_ne (a b : Rat) : ((a.den : Nat) : Int) * (b.den : Nat) ≠ 0 := by
  have := a.den_pos
  have := b.den_pos
  exact Int.mul_ne_zero (by omega) (by omega)
theorem Sz.mono {m n : Nat} {q : Rat} (h : Sz m q) (hm : m ≤ n) : Sz n q :=
  ⟨Nat.lt_of_lt_of_le h.1 (Nat.pow_le_pow_right (by omega) hm), Nat.lt_of_lt_of_le h.2 (Nat.pow_le_pow_right (by omega) hm)⟩
theorem sub_q (a b : Rat) : Rat.divInt (a.num * (b.den : Nat) - b.num * (a.den : Nat)) ((a.den : Nat) * (b.den : Nat)) = a - b := by
  rw [Rat.sub_def', ← Rat.divInt_ofNat, Int.natCast_mul]
theorem Sz.sub {m n : Nat} {a b : Rat} (ha : Sz m a) (hb : Sz n b) : Sz (m + n + 1) (a - b) := by
  rw [← sub_q]
  have h1 := abs_mul_lt ha.1 (den_nat hb)
  have h2 := abs_mul_lt hb.1 (den_nat ha)
  rw [Nat.add_comm n m] at h2
  obtain ⟨g1, g2⟩ := divInt_sz (den_ne a b) (abs_sub_lt h1 h2) (abs_mul_lt (den_nat ha) (den_nat hb))
  exact ⟨g1, Nat.lt_trans g2 (Nat.pow_lt_pow_right (by omega) (Nat.lt_succ_self _))⟩
theorem Sz.int {n : Nat} {i : Int} (h : i.natAbs < 2 ^ n) (hn : 0 < n) : Sz n (i : Rat) := ⟨by rw [Rat.num_intCast]; exact h, by rw [Rat.den_intCast]; exact Nat.one_lt_two_pow (by omega)⟩
def qsum : List Rat → Rat
  | [] => 0
  | q :: qs => q + qsum qs
def cellI (ns : List Int) (k : Nat) : Int := if k < ns.length then ns.getD k 0 else if ns = [] then 0 else ns.getD (k % ns.length) 0 * 31 + k
def drawI (ns : List Int) (k : Nat) : Int := (cellI ns k + 6151 * ((k : Int) + 1)) * 40692 % 2147483399
def pickI (ns : List Int) (k : Nat) (m : Int) : Int := (drawI ns k * drawI ns k + drawI ns k / 31) % 2147483629 % m
theorem pickI_nonneg (ns : List Int) (k : Nat) {m : Int} (h : 0 < m) : 0 ≤ pickI ns k m := Int.emod_nonneg _ (by omega)
theorem pickI_lt (ns : List Int) (k : Nat) {m : Int} (h : 0 < m) : pickI ns k m < m := Int.emod_lt_of_pos _ h
theorem atI_nat' {α : Type} {xs : List α} {k : Nat} (h : k < xs.length) : atI xs (k : Int) = xs[k]? := by
  obtain ⟨x, e⟩ : ∃ x, xs[k]? = some x := ⟨xs[k], by simp [h]⟩
  rw [e]; exact atI_nat e
theorem ns_at {ns : List Int} {k : Nat} (h : k < ns.length) : ns[k]? = some (ns.getD k 0) := by simp [h]
theorem mulOk_r {i j : Int} (h : -(2 ^ 64) < j ∧ j < 2 ^ 64) : mulOk i j = true := by unfold mulOk; rw [decide_eq_true h, Bool.or_true]
theorem mulOk_l {i j : Int} (h : -(2 ^ 64) < i ∧ i < 2 ^ 64) : mulOk i j = true := by unfold mulOk; rw [decide_eq_true h, Bool.or_true, Bool.true_or]
end Sm
namespace Kx
open PySem PySem.Spec L2 Sm
def b_is_whole : DS :=
  (dRet (dAnd (dUn oIsInt (dVar 0)) (dAnd (dNot (dUn oIsBool (dVar 0))) (dChain oLe oLe (dVar 1) (dVar 0) (dVar 2)))))
def d_is_whole : List D → R D := defD 3 3 (b_is_whole)
def b_is_game_in (self : List D → R D) : DS :=
  (dSeq (dIfS (dOrT (asB (dBin oEq (dVar 1) (dC (.int 0)))) (dOrT (dNotT (dTru (dUn oIsTup (dVar 0)))) (dOrT (dNotT (dTru (dVar 0))) (dNotT (dTru (dCall d_is_whole (dCons (dBin oIx (dVar 0) (dC (.int 0))) (dCons (dBin oSubI (dC (.int 0)) (dC (.int 20))) (dCons (dC (.int 20)) dNil))))))))) (dRet (dC (.bl false))) .nx)
    (dSeq (dIfS (asB (dBin oEq (dB oLen (dCons (dVar 0) dNil)) (dC (.int 1)))) (dRet (dC (.bl true))) .nx)
    (dSeq (dIfS (dOrT (asB (dBin oNe (dB oLen (dCons (dVar 0) dNil)) (dC (.int 2)))) (dOrT (dNotT (dTru (dUn oIsTup (dBin oIx (dVar 0) (dC (.int 1)))))) (dNotT (asB (dChain oLe oLe (dC (.int 1)) (dB oLen (dCons (dBin oIx (dVar 0) (dC (.int 1))) dNil)) (dC (.int 3))))))) (dRet (dC (.bl false))) .nx)
    (dSeq (dFor [] (.v 2) (dItems (dBin oIx (dVar 0) (dC (.int 1)))) (dIfS (dOrT (dNotT (dTru (dUn oIsTup (dVar 2)))) (dOrT (asB (dBin oNe (dB oLen (dCons (dVar 2) dNil)) (dC (.int 2)))) (dNotT (dTru (dCall d_is_whole (dCons (dBin oIx (dVar 2) (dC (.int 0))) (dCons (dC (.int 1)) (dCons (dC (.int 9)) dNil)))))))) (dRet (dC (.bl false))) .nx))
    (dRet (dB oAll (dCons (dLc [2] (.v 2) (dItems (dBin oIx (dVar 0) (dC (.int 1)))) dYes (dCall self (dCons (dBin oIx (dVar 2) (dC (.int 1))) (dCons (dBin oSubI (dVar 1) (dC (.int 1))) dNil)))) dNil)))))))
def d_is_game_in : Nat → List D → R D
  | 0 => fun _ => .bad
  | n + 1 => defD 2 3 (b_is_game_in (d_is_game_in n))
def b_is_game : DS :=
  (dRet (dCall (d_is_game_in 8) (dCons (dVar 0) (dCons (dC (.int 4)) dNil))))
def d_is_game : List D → R D := defD 1 1 (b_is_game)
def b_look_game : DS :=
  (dIfS (dNotT (dTru (dCall d_is_game (dCons (dVar 0) dNil)))) (dRaise 1) .nx)
def d_look_game : List D → R D := defD 1 1 (b_look_game)
def b_ways_of : DS :=
  (dRet (dIf (asB (dBin oEq (dB oLen (dCons (dVar 0) dNil)) (dC (.int 2)))) (dBin oIx (dVar 0) (dC (.int 1))) (dTup dNil)))
def d_ways_of : List D → R D := defD 1 1 (b_ways_of)
def be_Play_do : DSe :=
  (eSeq (ePush [] 0 true (dVar 1))
    (eSeq (eSetNil [] 0 false)
    (eSetNow [] 0 (eP (dVar 2)))))
def e_Play_do : List D → PLS → RP D := defE 3 3 (be_Play_do)
def be_Play_bet : DSe :=
  (eSeq (sP (dIfS (dNotT (dTru (dCall d_is_whole (dCons (dVar 1) (dCons (dBin oSubI (dC (.int 0)) (dC (.int 99))) (dCons (dC (.int 99)) dNil)))))) (dRaise 4) .nx))
    (eSeq (eAsg [] (.t [(.v 2), (.v 3), (.v 4)]) (eNow 0))
    (eSeq (eDrop [] (eMeth e_Play_do (eP (dVar 0)) (eCons (eP (dTup (dCons (dC (.str "bet")) (dCons (dVar 1) dNil)))) (eCons (eP (dTup (dCons (dVar 2) (dCons (dVar 1) (dCons (dVar 4) dNil))))) eNil))))
    (sP (dRet (dVar 3))))))
def e_Play_bet : List D → PLS → RP D := defE 2 5 (be_Play_bet)
def be_Play_path : DSe :=
  (eRet (eBin oIxT (eNow 0) (eP (dC (.int 0)))))
def e_Play_path : List D → PLS → RP D := defE 1 1 (be_Play_path)
def be_Play_purse : DSe :=
  (eRet (eBin oIxT (eNow 0) (eP (dC (.int 2)))))
def e_Play_purse : List D → PLS → RP D := defE 1 1 (be_Play_purse)
def be_Play_steps : DSe :=
  (eRet (eLcH 0 true [1, 2] (.t [(.v 1), (.v 2)]) dYes (dVar 1)))
def e_Play_steps : List D → PLS → RP D := defE 1 3 (be_Play_steps)
def be_Play_back : DSe :=
  (eSeq (eIfS [] (eEmp 0 true) (sP (dRaise 7)) .nx)
    (eSeq (ePop [] 0 true (.t [(.v 1), (.v 2)]))
    (eSeq (ePush [] 0 false (dVar 1))
    (eSeq (eSetNow [] 0 (eP (dVar 2)))
    (sP (dRet (dBin oIx (dVar 1) (dC (.int 0)))))))))
def e_Play_back : List D → PLS → RP D := defE 1 3 (be_Play_back)
def be_Play_forth : DSe :=
  (eSeq (eIfS [] (eEmp 0 false) (sP (dRaise 7)) .nx)
    (eSeq (ePop [] 0 false (.t [(.v 1), (.v 2)]))
    (eSeq (ePush [] 0 true (dVar 1))
    (eSeq (eSetNow [] 0 (eP (dVar 2)))
    (sP (dRet (dBin oIx (dVar 1) (dC (.int 0)))))))))
def e_Play_forth : List D → PLS → RP D := defE 1 3 (be_Play_forth)
def be_Play_counts : DSe :=
  (eRet (eTup (eCons (eLen 0 true) (eCons (eLen 0 false) eNil))))
def e_Play_counts : List D → PLS → RP D := defE 1 1 (be_Play_counts)
def be_Play_twin : DSe :=
  (eSeq (eSet [] 1 (eMake d_look_game (eOwn 0)))
    (eSeq (eSetNow [] 1 (eNow 0))
    (eSeq (eCopy [] 1 0 true)
    (eSeq (eCopy [] 1 0 false)
    (sP (dRet (dVar 1)))))))
def e_Play_twin : List D → PLS → RP D := defE 1 2 (be_Play_twin)
def b__law_cell : DS :=
  (dSeq (dIfS (asB (dBin oLt (dVar 1) (dB oLen (dCons (dVar 0) dNil)))) (dRet (dBin oIx (dVar 0) (dVar 1))) .nx)
    (dSeq (dIfS (asB (dBin oEq (dVar 0) (dLst dNil))) (dRet (dC (.int 0))) .nx)
    (dRet (dBin oAdd (dBin oMul (dBin oIx (dVar 0) (dBin oModI (dVar 1) (dB oLen (dCons (dVar 0) dNil)))) (dC (.int 31))) (dVar 1)))))
def d__law_cell : List D → R D := defD 2 2 (b__law_cell)
def b__law_pick : DS :=
  (dSeq (dSet [] 3 (dBin oModI (dBin oMul (dBin oAdd (dCall d__law_cell (dCons (dVar 0) (dCons (dVar 1) dNil))) (dBin oMul (dC (.int 6151)) (dBin oAdd (dVar 1) (dC (.int 1))))) (dC (.int 40692))) (dC (.int 2147483399))))
    (dRet (dBin oModI (dBin oModI (dBin oAdd (dBin oMul (dVar 3) (dVar 3)) (dBin oDivI (dVar 3) (dC (.int 31)))) (dC (.int 2147483629))) (dVar 2))))
def d__law_pick : List D → R D := defD 3 4 (b__law_pick)
def b__law_game (pk : Nat → Int → Int) (self : List D → R D) : DS :=
  (dSeq (dSet [] 5 (dBin oMul (dC (.int 20)) (dVar 1)))
    (dSeq (dSet [] 6 (dBin oIx (dLst (dCons (dC (.int 0)) (dCons (dC (.int 1)) (dCons (dC (.int 2)) (dCons (dC (.int 2)) (dCons (dC (.int 3)) dNil)))))) (dCall (dPick pk) (dCons (dVar 0) (dCons (dVar 5) (dCons (dC (.int 5)) dNil))))))
    (dSeq (dIfS (asB (dBin oEq (dVar 1) (dC (.int 1)))) (dSet [] 6 (dB oMax2 (dCons (dC (.int 1)) (dCons (dVar 6) dNil)))) .nx)
    (dSeq (dIfS (dOrT (asB (dBin oEq (dVar 3) (dC (.int 1)))) (asB (dBin oEq (dVar 6) (dC (.int 0))))) (dRet (dTup (dCons (dVar 2) dNil))) .nx)
    (dSeq (dSetN [] 7 dNil)
    (dSeq (dIfS (dTru (dVar 4)) (dSeq (dPar [7] 12 13 (dCons (dBin oAdd (dC (.int 1)) (dCall (dPick pk) (dCons (dVar 0) (dCons (dBin oAdd (dVar 5) (dC (.int 1))) (dCons (dC (.int 3)) dNil))))) (dCons (dBin oAdd (dC (.int 1)) (dCall (dPick pk) (dCons (dVar 0) (dCons (dBin oAdd (dVar 5) (dC (.int 2))) (dCons (dC (.int 3)) dNil))))) dNil)))
    (dSeq (dSetN [7] 7 (dCons (dTup (dCons (dVar 13) (dCons (dVar 12) dNil))) (dCons (dTup (dCons (dVar 12) (dCons (dBin oSubI (dC (.int 0)) (dVar 13)) dNil))) (dCons (dTup (dCons (dBin oAdd (dC (.int 1)) (dCall (dPick pk) (dCons (dVar 0) (dCons (dBin oAdd (dVar 5) (dC (.int 3))) (dCons (dC (.int 9)) dNil))))) (dCons (dC (.int 0)) dNil))) dNil))))
    (dSet [] 7 (dIf (asB (dBin oEq (dVar 6) (dC (.int 1)))) (dSl (dVar 7) (dSo (dC (.int 2))) dNo) (dSl (dVar 7) dNo (dSo (dVar 6))))))) (dFor [7] (.v 9) (dRng rng1 (dCons (dVar 6) dNil)) (dApp [7] 7 (dTup (dCons (dBin oAdd (dC (.int 1)) (dCall (dPick pk) (dCons (dVar 0) (dCons (dBin oAdd (dBin oAdd (dVar 5) (dC (.int 5))) (dVar 9)) (dCons (dC (.int 9)) dNil))))) (dCons (dBin oSubI (dCall (dPick pk) (dCons (dVar 0) (dCons (dBin oAdd (dBin oAdd (dVar 5) (dC (.int 8))) (dVar 9)) (dCons (dC (.int 7)) dNil)))) (dC (.int 3))) dNil))))))
    (dSeq (dIfS (asB (dBin oEq (dCall (dPick pk) (dCons (dVar 0) (dCons (dBin oAdd (dVar 5) (dC (.int 4))) (dCons (dC (.int 2)) dNil)))) (dC (.int 0)))) (dSet [] 7 (dUn oRevA (dVar 7))) .nx)
    (dSeq (dSetN [] 8 dNil)
    (dSeq (dFor [8] (.t [(.v 9), (.t [(.v 10), (.v 11)])]) (dRng enumD (dCons (dVar 7) dNil)) (dApp [8] 8 (dTup (dCons (dVar 10) (dCons (dCall self (dCons (dVar 0) (dCons (dBin oAdd (dBin oAdd (dBin oMul (dC (.int 4)) (dVar 1)) (dC (.int 1))) (dVar 9)) (dCons (dBin oAdd (dVar 2) (dVar 11)) (dCons (dBin oSubI (dVar 3) (dC (.int 1))) (dCons (dVar 4) dNil)))))) dNil)))))
    (dRet (dTup (dCons (dVar 2) (dCons (dB oTuple (dCons (dVar 8) dNil)) dNil)))))))))))))
def d__law_game (pk : Nat → Int → Int) : Nat → List D → R D
  | 0 => fun _ => .bad
  | n + 1 => defD 5 14 (b__law_game pk (d__law_game pk n))
def b__law_drawn (pk : Nat → Int → Int) : DS :=
  (dRet (dCall (d__law_game pk 8) (dCons (dVar 0) (dCons (dC (.int 1)) (dCons (dBin oSubI (dCall (dPick pk) (dCons (dVar 0) (dCons (dC (.int 0)) (dCons (dC (.int 13)) dNil)))) (dC (.int 6))) (dCons (dVar 1) (dCons (dBin oEq (dCall (dPick pk) (dCons (dVar 0) (dCons (dC (.int 1)) (dCons (dC (.int 2)) dNil)))) (dC (.int 0))) dNil)))))))
def d__law_drawn (pk : Nat → Int → Int) : List D → R D := defD 2 2 (b__law_drawn pk)
def b_part_of : DS :=
  (dSeq (dFor [] (.v 2) (dItems (dVar 1)) (dSet [] 0 (dBin oIx (dBin oIx (dCall d_ways_of (dCons (dVar 0) dNil)) (dVar 2)) (dC (.int 1)))))
    (dRet (dVar 0)))
def d_part_of : List D → R D := defD 2 3 (b_part_of)
def be_Play_go : DSe :=
  (eSeq (eAsg [] (.t [(.v 2), (.v 3), (.v 4)]) (eNow 0))
    (eSeq (eSet [] 5 (eCallA (upF d_part_of) (eCons (eOwn 0) (eCons (eP (dVar 2)) eNil))))
    (eSeq (sP (dIfS (dNotT (dTru (dCall d_is_whole (dCons (dVar 1) (dCons (dC (.int 0)) (dCons (dBin oSubI (dB oLen (dCons (dCall d_ways_of (dCons (dVar 5) dNil)) dNil)) (dC (.int 1))) dNil)))))) (dRaise 2) .nx))
    (eSeq (sP (dSet [] 6 (dBin oMul (dVar 3) (dBin oSubI (dBin oIx (dBin oIx (dBin oIx (dCall d_ways_of (dCons (dVar 5) dNil)) (dVar 1)) (dC (.int 1))) (dC (.int 0))) (dBin oIx (dVar 5) (dC (.int 0)))))))
    (eSeq (eDrop [] (eMeth e_Play_do (eP (dVar 0)) (eCons (eP (dTup (dCons (dC (.str "go")) (dCons (dVar 1) dNil)))) (eCons (eP (dTup (dCons (dBin oAdd (dVar 2) (dTup (dCons (dVar 1) dNil))) (dCons (dVar 3) (dCons (dBin oAdd (dVar 4) (dVar 6)) dNil))))) eNil))))
    (sP (dRet (dVar 6))))))))
def e_Play_go : List D → PLS → RP D := defE 2 7 (be_Play_go)
def b_most_along : DS :=
  (dRet (dB oMax (dCons (dLc [2] (.v 2) (dRng rng1 (dCons (dBin oAdd (dB oLen (dCons (dVar 1) dNil)) (dC (.int 1))) dNil)) dYes (dBin oIx (dCall d_part_of (dCons (dVar 0) (dCons (dSl (dVar 1) dNo (dSo (dVar 2))) dNil))) (dC (.int 0)))) dNil)))
def d_most_along : List D → R D := defD 2 3 (b_most_along)
def b__law_class : DS :=
  (dSeq (dSet [] 1 (dLst (dCons (dUn (oIsX [1, 2, 3, 4, 5, 6, 7] (fun k => k == 7)) (dVar 0)) (dCons (dUn (oIsX [1, 2, 3, 4, 5, 6, 7] (fun k => k == 4)) (dVar 0)) (dCons (dUn (oIsX [1, 2, 3, 4, 5, 6, 7] (fun k => k == 1)) (dVar 0)) (dCons (dUn (oIsX [1, 2, 3, 4, 5, 6, 7] (fun k => k == 2)) (dVar 0)) dNil))))))
    (dSeq (dSet [] 1 (dBin oAdd (dVar 1) (dLst (dCons (dUn (oIsX [1, 2, 3, 4, 5, 6, 7] (fun k => k == 3)) (dVar 0)) (dCons (dUn (oIsX [1, 2, 3, 4, 5, 6, 7] (fun k => k == 6)) (dVar 0)) (dCons (dUn (oIsX [1, 2, 3, 4, 5, 6, 7] (fun k => k == 5)) (dVar 0)) dNil))))))
    (dSeq (dIfS (dOrT (asB (dBin oNe (dMeth oCount (dVar 1) (dC (.bl true))) (dC (.int 1)))) (dNotT (dTru (dUn (oIsX [1, 2, 3, 4, 5, 6, 7] (fun _ => true)) (dVar 0))))) (dRet (dC (.str "wrong"))) .nx)
    (dRet (dBin oIx (dLst (dCons (dC (.str "no back")) (dCons (dC (.str "no bets")) (dCons (dC (.str "no game")) (dCons (dC (.str "no path")) (dCons (dC (.str "no rule")) (dCons (dC (.str "no text")) (dCons (dC (.str "unpaid")) dNil)))))))) (dMeth oIndex (dVar 1) (dC (.bl true))))))))
def d__law_class : List D → R D := defD 1 2 (b__law_class)
def be__law_told (lf : PLS → RP D) : DSe :=
  (eTryR [1, 2, 3, 4, 5, 6, 7] 1 (eCallF 0 lf) (dCall d__law_class (dCons (dVar 1) dNil)))
def e__law_told (lf : PLS → RP D) : List D → PLS → RP D := defE 1 2 (be__law_told lf)
def b__law_deed (pk : Nat → Int → Int) : DS :=
  (dSeq (dSet [] 3 (dCall (dPick pk) (dCons (dVar 0) (dCons (dVar 1) (dCons (dC (.int 5)) dNil)))))
    (dSeq (dIfS (asB (dBin oLt (dVar 3) (dC (.int 2)))) (dRet (dTup (dCons (dC (.str "bet")) (dCons (dBin oSubI (dCall (dPick pk) (dCons (dVar 0) (dCons (dBin oAdd (dVar 1) (dC (.int 1))) (dCons (dC (.int 13)) dNil)))) (dC (.int 6))) dNil)))) .nx)
    (dRet (dTup (dCons (dC (.str "go")) (dCons (dCall (dPick pk) (dCons (dVar 0) (dCons (dBin oAdd (dVar 1) (dC (.int 1))) (dCons (dIf (asB (dBin oEq (dB oLen (dCons (dVar 2) dNil)) (dC (.int 2)))) (dBin oAdd (dB oLen (dCons (dBin oIx (dVar 2) (dC (.int 1))) dNil)) (dB oInt (dCons (dBin oEq (dVar 3) (dC (.int 4))) dNil))) (dC (.int 2))) dNil)))) dNil))))))
def d__law_deed (pk : Nat → Int → Int) : List D → R D := defD 3 4 (b__law_deed pk)
def b__law_there : DS :=
  (dSeq (dFor [] (.v 2) (dItems (dVar 1)) (dSet [] 0 (dBin oIx (dBin oIx (dBin oIx (dVar 0) (dC (.int 1))) (dVar 2)) (dC (.int 1)))))
    (dRet (dVar 0)))
def d__law_there : List D → R D := defD 2 3 (b__law_there)
def b__law_behind : DS :=
  (dSeq (dAsg [] (.t [(.v 3), (.v 4), (.v 5)]) (dVar 1))
    (dSeq (dIfS (asB (dBin oEq (dBin oIx (dVar 2) (dC (.int 0))) (dC (.str "bet")))) (dRet (dTup (dCons (dTup (dCons (dVar 3) (dCons (dBin oIx (dVar 2) (dC (.int 1))) (dCons (dVar 5) dNil)))) (dCons (dVar 4) dNil)))) .nx)
    (dSeq (dSet [] 6 (dCall d__law_there (dCons (dVar 0) (dCons (dVar 3) dNil))))
    (dSeq (dIfS (dOrT (asB (dBin oEq (dB oLen (dCons (dVar 6) dNil)) (dC (.int 1)))) (asB (dBin oGe (dBin oIx (dVar 2) (dC (.int 1))) (dB oLen (dCons (dBin oIx (dVar 6) (dC (.int 1))) dNil))))) (dRet (dTup (dCons (dVar 1) (dCons (dC (.str "no path")) dNil)))) .nx)
    (dSeq (dSet [] 7 (dBin oMul (dVar 4) (dBin oSubI (dBin oIx (dBin oIx (dBin oIx (dBin oIx (dVar 6) (dC (.int 1))) (dBin oIx (dVar 2) (dC (.int 1)))) (dC (.int 1))) (dC (.int 0))) (dBin oIx (dVar 6) (dC (.int 0))))))
    (dRet (dTup (dCons (dTup (dCons (dBin oAdd (dVar 3) (dTup (dCons (dBin oIx (dVar 2) (dC (.int 1))) dNil))) (dCons (dVar 4) (dCons (dBin oAdd (dVar 5) (dVar 7)) dNil)))) (dCons (dVar 7) dNil)))))))))
def d__law_behind : List D → R D := defD 3 8 (b__law_behind)
def be__law_did : DSe :=
  (eRet (eLam e__law_told [1, 0] (eIf (eT (asB (dBin oEq (dBin oIx (dVar 0) (dC (.int 0))) (dC (.str "bet"))))) (eMeth e_Play_bet (eP (dVar 1)) (eCons (eP (dBin oIx (dVar 0) (dC (.int 1)))) eNil)) (eMeth e_Play_go (eP (dVar 1)) (eCons (eP (dBin oIx (dVar 0) (dC (.int 1)))) eNil)))))
def e__law_did : List D → PLS → RP D := defE 2 2 (be__law_did)
end Kx
namespace Kx
open PySem PySem.Spec L2 Sm
theorem cell_ok (ns : List Int) (k : Nat) : d__law_cell [.scr ns, .int k] = .ok (.int (cellI ns k)) := by
  by_cases h : k < ns.length
  · have h' : ((k : Int) < (ns.length : Int)) := by omega
    simp only [d__law_cell, b__law_cell, oLen, decide_eq_true h', oIx, atI_nat' h, ns_at h, cellI, if_pos h, defD, args, dSeq, dSet, dSetP, dSetN, lstAt, dApp, dAppP, dAsg, dPar, dDrop, dWhile, dIfS, dRet, dB, dCall, dCons, dNil, dVar, dC, dBin, dChain, asB, dTru, dNotT, dAndT, dOrT, dAnd, dOr, dNot, dIf, dUn, dTup, dLst, dItems, dYes, R.bind, R.to, O.seq, outR, ofO, noErr, mask, Sm.putIn, bindPat, bindPats, itemsOf, tru, List.foldr_cons, List.foldr_nil, List.length_cons, List.length_nil, List.map_cons, List.map_nil, List.cons_append, List.nil_append, Nat.sub_self, List.replicate_zero, List.replicate_succ, List.getElem?_cons_succ, List.getElem?_cons_zero, List.set_cons_zero, List.set_cons_succ, Nat.reduceAdd, Nat.reduceSub, ↓reduceIte, Bool.not_true, Bool.not_false, Bool.and_true, Bool.true_and, Bool.false_and, Bool.and_false, if_true, if_false, Bool.false_eq_true, oNeg, oAddI, oSubI, oAdd_ii, oLt, oLe, oGt, oGe, Option.bind_some, Option.map_some, dFor, dRng, dLc, dLcs]
  · have h' : ¬ ((k : Int) < (ns.length : Int)) := by omega
    cases ns with
    | nil =>
      have h0 : ¬ ((k : Int) < ((0 : Nat) : Int)) := by omega
      have h1 : ¬ (k < 0) := by omega
      simp only [d__law_cell, b__law_cell, oLen, decide_eq_false h0, cellI, if_neg h1, oEq, pln, plns, deq, deqIs, defD, args, dSeq, dSet, dSetP, dSetN, lstAt, dApp, dAppP, dAsg, dPar, dDrop, dWhile, dIfS, dRet, dB, dCall, dCons, dNil, dVar, dC, dBin, dChain, asB, dTru, dNotT, dAndT, dOrT, dAnd, dOr, dNot, dIf, dUn, dTup, dLst, dItems, dYes, R.bind, R.to, O.seq, outR, ofO, noErr, mask, Sm.putIn, bindPat, bindPats, itemsOf, tru, List.foldr_cons, List.foldr_nil, List.length_cons, List.length_nil, List.map_cons, List.map_nil, List.cons_append, List.nil_append, Nat.sub_self, List.replicate_zero, List.replicate_succ, List.getElem?_cons_succ, List.getElem?_cons_zero, List.set_cons_zero, List.set_cons_succ, Nat.reduceAdd, Nat.reduceSub, ↓reduceIte, Bool.not_true, Bool.not_false, Bool.and_true, Bool.true_and, Bool.false_and, Bool.and_false, if_true, if_false, Bool.false_eq_true, oNeg, oAddI, oSubI, oAdd_ii, oLt, oLe, oGt, oGe, Option.bind_some, Option.map_some, dFor, dRng, dLc, dLcs]
    | cons a r =>
      have hl : (0 : Nat) < (a :: r).length := by simp
      have hm : k % (a :: r).length < (a :: r).length := Nat.mod_lt _ hl
      have e1 : (k : Int).fmod ((a :: r).length : Nat) = ((k % (a :: r).length : Nat) : Int) := by
        rw [Int.fmod_eq_emod_of_nonneg _ (by omega)]; rfl
      have hne : (((a :: r).length : Nat) : Int) ≠ 0 := by omega
      have hc : a :: r ≠ [] := by simp
      simp only [List.length_cons] at e1 hne hm h h'
      simp only [d__law_cell, b__law_cell, oLen, decide_eq_false h', cellI, if_neg h, if_neg hc, oEq, pln, plns, deq, deqIs, oModI, if_pos hne, e1, oIx, List.length_cons, atI_nat' (xs := a :: r) (k := k % (r.length + 1)) hm, ns_at (ns := a :: r) (k := k % (r.length + 1)) hm, oMul_ok (mulOk_r (i := (a :: r).getD (k % (r.length + 1)) 0) (j := 31) (by decide)), defD, args, dSeq, dSet, dSetP, dSetN, lstAt, dApp, dAppP, dAsg, dPar, dDrop, dWhile, dIfS, dRet, dB, dCall, dCons, dNil, dVar, dC, dBin, dChain, asB, dTru, dNotT, dAndT, dOrT, dAnd, dOr, dNot, dIf, dUn, dTup, dLst, dItems, dYes, R.bind, R.to, O.seq, outR, ofO, noErr, mask, Sm.putIn, bindPat, bindPats, itemsOf, tru, List.foldr_cons, List.foldr_nil, List.length_cons, List.length_nil, List.map_cons, List.map_nil, List.cons_append, List.nil_append, Nat.sub_self, List.replicate_zero, List.replicate_succ, List.getElem?_cons_succ, List.getElem?_cons_zero, List.set_cons_zero, List.set_cons_succ, Nat.reduceAdd, Nat.reduceSub, ↓reduceIte, Bool.not_true, Bool.not_false, Bool.and_true, Bool.true_and, Bool.false_and, Bool.and_false, if_true, if_false, Bool.false_eq_true, oNeg, oAddI, oSubI, oAdd_ii, oLt, oLe, oGt, oGe, Option.bind_some, Option.map_some, dFor, dRng, dLc, dLcs]
theorem pick_ok (ns : List Int) (k : Nat) {m : Int} (hm : 0 < m) : d__law_pick [.scr ns, .int k, .int m] = .ok (.int (pickI ns k m)) := by
  have f1 : ∀ a b : Int, 0 < b → a.fmod b = a % b := fun a b h => Int.fmod_eq_emod_of_nonneg _ (by omega)
  have f2 : ∀ a b : Int, 0 < b → a.fdiv b = a / b := fun a b h => Int.fdiv_eq_ediv_of_nonneg _ (by omega)
  have hd : 0 ≤ drawI ns k ∧ drawI ns k < 2147483399 := ⟨Int.emod_nonneg _ (by decide), Int.emod_lt_of_pos _ (by decide)⟩
  have ed : (cellI ns k + 6151 * ((k : Int) + 1)) * 40692 % 2147483399 = drawI ns k := rfl
  have o1 : oMul (.int 6151) (.int ((k : Int) + 1)) = some (.int (6151 * ((k : Int) + 1))) := oMul_ok (mulOk_l (by decide))
  have o2 : oMul (.int (cellI ns k + 6151 * ((k : Int) + 1))) (.int 40692) = some (.int ((cellI ns k + 6151 * ((k : Int) + 1)) * 40692)) := oMul_ok (mulOk_r (by decide))
  have o3 : oMul (.int (drawI ns k)) (.int (drawI ns k)) = some (.int (drawI ns k * drawI ns k)) := oMul_ok (mulOk_l (by omega))
  have c1 : (31 : Int) ≠ 0 ∧ (31 : Int).natAbs.log2 < 9000 := ⟨by decide, by decide⟩
  simp only [d__law_pick, b__law_pick, cell_ok, o1, o2, o3, oModI, oDivI, f1 _ 2147483399 (by decide), f1 _ 2147483629 (by decide), f2 _ 31 (by decide), f1 _ m hm, ed, if_pos c1, if_pos (show (2147483399 : Int) ≠ 0 by decide), if_pos (show (2147483629 : Int) ≠ 0 by decide), if_pos (show m ≠ 0 by omega), pickI, defD, args, dSeq, dSet, dSetP, dSetN, lstAt, dApp, dAppP, dAsg, dPar, dDrop, dWhile, dIfS, dRet, dB, dCall, dCons, dNil, dVar, dC, dBin, dChain, asB, dTru, dNotT, dAndT, dOrT, dAnd, dOr, dNot, dIf, dUn, dTup, dLst, dItems, dYes, R.bind, R.to, O.seq, outR, ofO, noErr, mask, Sm.putIn, bindPat, bindPats, itemsOf, tru, List.foldr_cons, List.foldr_nil, List.length_cons, List.length_nil, List.map_cons, List.map_nil, List.cons_append, List.nil_append, Nat.sub_self, List.replicate_zero, List.replicate_succ, List.getElem?_cons_succ, List.getElem?_cons_zero, List.set_cons_zero, List.set_cons_succ, Nat.reduceAdd, Nat.reduceSub, ↓reduceIte, Bool.not_true, Bool.not_false, Bool.and_true, Bool.true_and, Bool.false_and, Bool.and_false, if_true, if_false, Bool.false_eq_true, oNeg, oAddI, oSubI, oAdd_ii, oLt, oLe, oGt, oGe, Option.bind_some, Option.map_some, dFor, dRng, dLc, dLcs]
def PkOk (pk : Nat → Int → Int) : Prop := ∀ k m, 0 < m → 0 ≤ pk k m ∧ pk k m < m
theorem pickI_ok (ns : List Int) : PkOk (pickI ns) := fun k _ h => ⟨pickI_nonneg ns k h, pickI_lt ns k h⟩
def pickJ (ns : List Int) (k : Nat) (m : Int) : Int := if 0 < m then pickI ns k m else pickI (ns.map (· + 1)) k (-m)
theorem pickJ_ok (ns : List Int) : PkOk (pickJ ns) := fun k m h => by unfold pickJ; rw [if_pos h]; exact pickI_ok ns k m h
theorem pick_fn {P : Program} {w : World} {K : PySem.W.Frag} {mg : Str → Option Value} {base : Heap} {cl : Glb} {k : Nat} (h : Fn P w K mg base cl k "_law_pick" 3 d__law_pick) : Fn P w K mg base cl k "_law_pick" 3 (dPick (pickJ cl.ns)) := by
  refine h.imp fun ds => ?_
  by_cases hd1 : ∃ i m, ds = [.scr1, .int i, .int m] ∧ 0 ≤ i ∧ 0 < m
  · obtain ⟨i, m, rfl, h1, h2⟩ := hd1
    refine .inr ⟨[.scr (cl.ns.map (· + 1)), .int i, .int m], ?_, fun H vs r => ?_⟩
    · have := pick_ok (cl.ns.map (· + 1)) i.toNat h2
      rw [Int.toNat_of_nonneg h1] at this
      rw [this]
      have e : pickJ cl.ns i.toNat (-m) = pickI (cl.ns.map (· + 1)) i.toNat m := by
        unfold pickJ; rw [if_neg (by omega), Int.neg_neg]
      simp only [dPick, if_pos (And.intro h1 h2), e]
      rw [if_pos (pickI_ok _ _ _ h2)]
    · cases r with
      | cons r t =>
        cases r with
        | scr1 a b => exact .cons (.scr a (by rw [List.length_map]; exact b)) t
  by_cases hd : ∃ i m, ds = [.scr0, .int i, .int m] ∧ 0 ≤ i ∧ 0 < m
  · obtain ⟨i, m, rfl, h1, h2⟩ := hd
    refine .inr ⟨[.scr cl.ns, .int i, .int m], ?_, fun H vs r => ?_⟩
    · have := pick_ok cl.ns i.toNat h2
      rw [Int.toNat_of_nonneg h1] at this
      rw [this]
      simp only [dPick, if_pos (And.intro h1 h2), pickJ, if_pos h2]
    · cases r with
      | cons r t =>
        cases r with
        | scr0 a b => exact .cons (.scr a b) t
  · refine .inl ?_
    unfold dPick
    split
    · split
      · rename_i z; exact (hd ⟨_, _, rfl, z⟩).elim
      · rfl
    · split
      · rename_i z; exact (hd1 ⟨_, _, rfl, z⟩).elim
      · rfl
    · rfl
end Kx
namespace Sm
open PySem PySem.Spec L2
section
variable {α β : Type} {pt : Pat} {f g : DS} {ρ ρ1 : Env} {r : R D} {t : DT} {fe : DE}
theorem forGo_all (I : Env → Prop) : ∀ (ds : List D) (ρ : Env), I ρ → (∀ d ρ, d ∈ ds → I ρ → ∃ ρ1 ρ2, bindPat pt d ρ = some ρ1 ∧ f ρ1 = .nx ρ2 ∧ I ρ2) → ∃ ρ', forGo pt f ds ρ = .nx ρ' ∧ I ρ'
  | [], ρ, h, _ => ⟨ρ, rfl, h⟩
  | d :: ds, ρ, h, hs => by
    obtain ⟨ρ1, ρ2, e1, e2, e3⟩ := hs d ρ (by simp) h
    obtain ⟨ρ', e4, e5⟩ := forGo_all I ds ρ2 e3 fun d ρ hy => hs d ρ (by simp [hy])
    refine ⟨ρ', ?_, e5⟩
    simp only [forGo, e1, e2, O.seq]
    exact e4
theorem lcGo_map (enc : α → D) (p : α → Bool) (g : α → D) : ∀ (xs : List α), (∀ x ∈ xs, ∃ ρ1, bindPat pt (enc x) ρ = some ρ1 ∧ t ρ1 = .ok (p x) ∧ (p x = true → fe ρ1 = .ok (g x))) → lcGo pt t fe (xs.map enc) ρ = .ok ((xs.filter p).map g)
  | [], _ => rfl
  | x :: xs, h => by
    obtain ⟨ρ1, e1, e2, e3⟩ := h x (by simp)
    have ih := lcGo_map enc p g xs fun y hy => h y (by simp [hy])
    rw [List.map_cons]
    unfold lcGo
    rw [e1]
    simp only [e2, noErr, R.bind]
    cases q : p x with
    | true => simp only [e3 q, noErr, R.bind, ih, List.filter_cons_of_pos q, List.map_cons]
    | false => rw [List.filter_cons_of_neg (by simp [q])]; exact ih
theorem lcGo_all (enc : α → D) (g : α → D) (xs : List α) (h : ∀ x ∈ xs, ∃ ρ1, bindPat pt (enc x) ρ = some ρ1 ∧ fe ρ1 = .ok (g x)) : lcGo pt dYes fe (xs.map enc) ρ = .ok (xs.map g) := by
  have := lcGo_map (pt := pt) (ρ := ρ) (t := dYes) (fe := fe) enc (fun _ => true) g xs fun x hx => let ⟨ρ1, e1, e2⟩ := h x hx; ⟨ρ1, e1, rfl, fun _ => e2⟩
  rw [List.filter_eq_self.mpr (by simp)] at this
  exact this
theorem out_seq (h1 : f ρ = .nx ρ1) (h2 : outR (g ρ1) = r) : outR (dSeq f g ρ) = r := by
  unfold dSeq; rw [h1]; exact h2
theorem out_seqR {d : D} (h1 : f ρ = .ret d) : outR (dSeq f g ρ) = .ok d := by
  unfold dSeq; rw [h1]; rfl
end
theorem defD_eq {n m : Nat} {f : DS} {ds : List D} {r : R D} (h : ds.length = n) (h2 : outR (f (args m ds)) = r) : defD n m f ds = r := by
  unfold defD; rw [if_pos h]; exact h2
section
variable {α β : Type} {own : List Nat} {pt : Pat} {it : DI} {f g : DS} {ρ ρ1 : Env} {r : R D} {o : O}
theorem for_nx {ds : List D} (I : Env → Prop) (hit : it (mask own ρ) = .ok ds) (h0 : I ρ) (st : ∀ d ρ, d ∈ ds → I ρ → ∃ ρ1 ρ2, bindPat pt d ρ = some ρ1 ∧ f ρ1 = .nx ρ2 ∧ I ρ2) : ∃ ρ', dFor own pt it f ρ = .nx ρ' ∧ I ρ' := by
  obtain ⟨ρ', e1, e2⟩ := forGo_all (pt := pt) (f := f) I ds ρ h0 st
  refine ⟨ρ', ?_, e2⟩
  unfold dFor
  rw [hit]; exact e1
theorem for_out {ds : List D} (I : Env → Prop) (hit : it (mask own ρ) = .ok ds) (h0 : I ρ) (st : ∀ d ρ, d ∈ ds → I ρ → ∃ ρ1 ρ2, bindPat pt d ρ = some ρ1 ∧ f ρ1 = .nx ρ2 ∧ I ρ2) (hk : ∀ ρ', I ρ' → outR (g ρ') = r) : outR (dSeq (dFor own pt it f) g ρ) = r := by
  obtain ⟨ρ', e1, e2⟩ := for_nx (own := own) (pt := pt) (f := f) I hit h0 st
  exact out_seq e1 (hk ρ' e2)
theorem lc_ok1 {vs : List Nat} {xs : List α} {enc : α → D} {fe : DE} (g : α → D) (hit : it ρ = .ok (xs.map enc)) (h : ∀ x ∈ xs, ∃ ρ1, bindPat pt (enc x) (mask vs ρ) = some ρ1 ∧ fe ρ1 = .ok (g x)) :
    dLcs vs pt it dYes fe ρ = .ok (xs.map g) := by
  unfold dLcs; rw [hit]; exact lcGo_all enc g xs h
end
theorem rngD0 (n : Nat) : rngD 0 n = (List.range n).map fun i => D.int ((i : Nat) : Int) := by simp [rngD]
theorem rng1_ok {n : Nat} (h : n ≤ 16777216) : rng1 [.int (n : Int)] = some ((List.range n).map fun i => D.int ((i : Nat) : Int)) := by
  simp only [rng1]
  rw [if_pos ⟨by omega, by omega⟩, ← rngD0]
  rfl
theorem rng1_it {g : DA} {ρ : Env} {n : Nat} (hg : g ρ = .ok [.int (n : Int)]) (h : n ≤ 16777216) : dRng rng1 g ρ = .ok ((List.range n).map fun i => D.int ((i : Nat) : Int)) := by
  unfold dRng; rw [hg]
  show ofO (rng1 [.int (n : Int)]) = _
  rw [rng1_ok h]; rfl
theorem ret_of {f : DE} {ρ : Env} {r : R D} (h : f ρ = r) : outR (dRet f ρ) = r := by
  unfold dRet; rw [h]; cases r <;> rfl
theorem ifs_t {t : DT} {f g : DS} {ρ : Env} {o : O} (h : t ρ = .ok true) (hf : f ρ = o) : dIfS t f g ρ = o := by
  unfold dIfS; rw [h]; exact hf
theorem ifs_f {t : DT} {f g : DS} {ρ : Env} {o : O} (h : t ρ = .ok false) (hf : g ρ = o) : dIfS t f g ρ = o := by
  unfold dIfS; rw [h]; exact hf
mutual
def pl : Nat → D → Bool
  | _, .non => true
  | _, .bl _ => true
  | _, .int _ => true
  | _, .str x => PySem.PyData.strOk x
  | n + 1, .tup xs => pls n xs
  | n + 1, .lst xs => pls n xs
  | _, _ => false
def pls : Nat → List D → Bool
  | _, [] => true
  | n, x :: xs => pl n x && pls n xs
end
mutual
theorem pl_pln : ∀ (d : D) (n : Nat), pl n d = true → pln n d = true
  | .non, _, _ => by simp [pln]
  | .bl _, _, _ => by simp [pln]
  | .int _, _, _ => by simp [pln]
  | .str _, _, h => by simpa [pln, pl] using h
  | .tup xs, 0, h => by simp [pl] at h
  | .tup xs, n + 1, h => by simp only [pl] at h; simp only [pln]; exact pls_plns xs n h
  | .lst xs, 0, h => by simp [pl] at h
  | .lst xs, n + 1, h => by simp only [pl] at h; simp only [pln]; exact pls_plns xs n h
  | .dct _, n, h => by cases n <;> simp [pl] at h
  | .exc _, n, h => by cases n <;> simp [pl] at h
  | .scr _, n, h => by cases n <;> simp [pl] at h
  | .scr0, n, h => by cases n <;> simp [pl] at h
  | .fnv, n, h => by cases n <;> simp [pl] at h
  | .obj _, n, h => by cases n <;> simp [pl] at h
  | .dcl _, n, h => by cases n <;> simp [pl] at h
  | .scr1, n, h => by cases n <;> simp [pl] at h
theorem pls_plns : ∀ (ds : List D) (n : Nat), pls n ds = true → plns n ds = true
  | [], _, _ => by simp [plns]
  | d :: ds, n, h => by
    simp only [pls, Bool.and_eq_true] at h
    simp only [plns, Bool.and_eq_true]
    exact ⟨pl_pln d n h.1, pls_plns ds n h.2⟩
end
mutual
theorem deq_self : ∀ (d : D) (n : Nat), pl n d = true → deq d d = true
  | .non, _, _ => by simp [deq]
  | .bl _, _, _ => by simp [deq]
  | .int _, _, _ => by simp [deq]
  | .str _, _, h => by simp [deq]
  | .tup xs, 0, h => by simp [pl] at h
  | .tup xs, n + 1, h => by simp only [pl] at h; simp only [deq]; exact deqs_self xs n h
  | .lst xs, 0, h => by simp [pl] at h
  | .lst xs, n + 1, h => by simp only [pl] at h; simp only [deq]; exact deqs_self xs n h
  | .dct _, n, h => by cases n <;> simp [pl] at h
  | .exc _, n, h => by cases n <;> simp [pl] at h
  | .scr _, n, h => by cases n <;> simp [pl] at h
  | .scr0, n, h => by cases n <;> simp [pl] at h
  | .fnv, n, h => by cases n <;> simp [pl] at h
  | .obj _, n, h => by cases n <;> simp [pl] at h
  | .dcl _, n, h => by cases n <;> simp [pl] at h
  | .scr1, n, h => by cases n <;> simp [pl] at h
theorem deqs_self : ∀ (ds : List D) (n : Nat), pls n ds = true → deqs ds ds = true
  | [], _, _ => by simp [deqs]
  | d :: ds, n, h => by
    simp only [pls, Bool.and_eq_true] at h
    simp only [deqs, Bool.and_eq_true]
    exact ⟨deq_self d n h.1, deqs_self ds n h.2⟩
end
theorem oNe_self {d : D} (h : pl 64 d = true) : oNe d d = some (.bl false) := by
  unfold oNe; rw [pl_pln d 64 h, deq_self d 64 h]; rfl
theorem oIx_t0 (a : D) (as : List D) : oIx (.tup (a :: as)) (.int 0) = some a := by
  simp [oIx, atI, ixN]
theorem oIx_t1 (a b : D) (as : List D) : oIx (.tup (a :: b :: as)) (.int 1) = some b := by
  show atI (a :: b :: as) ((1 : Nat) : Int) = _
  rw [atI_nat' (by simp)]; rfl
theorem dPick_ok (pk : Nat → Int → Int) (k : Nat) {m : Int} (hm : 0 < m) : dPick pk [.scr0, .int (k : Int), .int m] = .ok (.int (pk k m)) := by
  simp only [dPick]
  rw [if_pos ⟨by omega, hm⟩]
  rfl
theorem atI_neg1 {α : Type} {xs : List α} (h : xs ≠ []) : atI xs (-1) = xs.getLast? := by
  have hp := List.length_pos_iff.mpr h
  unfold atI
  have : ixN xs.length (-1) = some (xs.length - 1) := by
    unfold ixN
    first
      | rw [if_neg (by omega), if_pos (by omega)]; congr 1; omega
      | (simp; omega)
  rw [this]
  rw [List.getLast?_eq_getElem?]
  rfl
end Sm
namespace Kx
open PySem PySem.Spec L2 Sm
def be_law (pk : Nat → Int → Int) : DSe :=
  (eSeq (sP (dSet [] 1 (dCall (d__law_drawn pk) (dCons (dVar 0) (dCons (dC (.int 4)) dNil)))))
    (eSeq (ePar [] [2, 3] (eCons (eMake d_look_game (eP (dVar 1))) (eCons (eP (dLst (dCons (dTup (dCons (dTup dNil) (dCons (dC (.int 0)) (dCons (dC (.int 0)) dNil)))) (dCons (dTup (dCons (dTup dNil) (dCons (dC (.int 3)) (dCons (dC (.int 0)) dNil)))) dNil)))) eNil)))
    (eSeq (eDrop [] (eMeth e_Play_bet (eP (dVar 2)) (eCons (eP (dC (.int 3))) eNil)))
    (eSeq (eFor [] (.v 4) (eI (dRng rng1 (dCons (dC (.int 8)) dNil))) (eSeq (sP (dSet [] 10 (dCall (d__law_deed pk) (dCons (dVar 0) (dCons (dBin oAdd (dC (.int 600)) (dBin oMul (dC (.int 10)) (dVar 4))) (dCons (dCall d__law_there (dCons (dVar 1) (dCons (dBin oIx (dBin oIx (dVar 3) (dUn oNeg (dC (.int 1)))) (dC (.int 0))) dNil))) dNil))))))
    (eSeq (sP (dAsg [] (.t [(.v 11), (.v 12)]) (dCall d__law_behind (dCons (dVar 1) (dCons (dBin oIx (dVar 3) (dUn oNeg (dC (.int 1)))) (dCons (dVar 10) dNil))))))
    (eSeq (eDrop [] (eCallA e__law_did (eCons (eP (dVar 2)) (eCons (eP (dVar 10)) eNil))))
    (sP (dSet [] 3 (dBin oAdd (dVar 3) (dBin oMul (dLst (dCons (dVar 11) dNil)) (dB oInt (dCons (dBin oNe (dVar 12) (dC (.str "no path"))) dNil))))))))))
    (eSeq (sP (dSet [] 5 (dBin oSubI (dB oLen (dCons (dVar 3) dNil)) (dC (.int 1)))))
    (eSeq (eDrop [] (eMeth e_Play_back (eP (dVar 2)) eNil))
    (eSeq (eSet [] 6 (eMeth e_Play_twin (eP (dVar 2)) eNil))
    (eSeq (eIfS [] (eOrT (easB (eBin oNe (eMeth e_Play_counts (eP (dVar 6)) eNil) (eP (dTup (dCons (dBin oSubI (dVar 5) (dC (.int 1))) (dCons (dC (.int 1)) dNil)))))) (eOrT (easB (eBin oNe (eMeth e_Play_path (eP (dVar 6)) eNil) (eP (dBin oIx (dBin oIx (dVar 3) (dUn oNeg (dC (.int 2)))) (dC (.int 0)))))) (easB (eBin oNe (eMeth e_Play_steps (eP (dVar 6)) eNil) (eMeth e_Play_steps (eP (dVar 2)) eNil))))) (sP (dRet (dC (.bl false)))) .nx)
    (eSeq (sP (dSet [] 7 (dLst (dCons (dTup (dCons (dVar 2) (dCons (dC (.int 1000)) dNil))) (dCons (dTup (dCons (dVar 6) (dCons (dC (.int 2000)) dNil))) dNil)))))
    (eSeq (eFor [] (.t [(.v 8), (.v 9)]) (eI (dItems (dIf (asB (dBin oEq (dCall (dPick pk) (dCons (dVar 0) (dCons (dC (.int 5)) (dCons (dC (.int 2)) dNil)))) (dC (.int 0)))) (dVar 7) (dUn oRevA (dVar 7))))) (eSeq (eDrop [] (eMeth e_Play_forth (eP (dVar 8)) eNil))
    (eSeq (sP (dPar [] 13 14 (dCons (dBin oIx (dVar 3) (dUn oNeg (dC (.int 1)))) (dCons (dVar 5) dNil))))
    (eSeq (eIfS [] (eOrT (easB (eBin oNe (eMeth e_Play_path (eP (dVar 8)) eNil) (eP (dBin oIx (dVar 13) (dC (.int 0)))))) (easB (eBin oNe (eMeth e_Play_purse (eP (dVar 8)) eNil) (eP (dBin oIx (dVar 13) (dC (.int 2))))))) (sP (dRet (dC (.bl false)))) .nx)
    (eSeq (eFor [] (.v 4) (eI (dRng rng1 (dCons (dC (.int 3)) dNil))) (eSeq (sP (dSet [] 10 (dCall (d__law_deed pk) (dCons (dVar 0) (dCons (dBin oAdd (dVar 9) (dBin oMul (dC (.int 10)) (dVar 4))) (dCons (dCall d__law_there (dCons (dVar 1) (dCons (dBin oIx (dVar 13) (dC (.int 0))) dNil))) dNil))))))
    (eSeq (sP (dAsg [] (.t [(.v 13), (.v 12)]) (dCall d__law_behind (dCons (dVar 1) (dCons (dVar 13) (dCons (dVar 10) dNil))))))
    (eSeq (eIfS [] (easB (eBin oNe (eCallA e__law_did (eCons (eP (dVar 8)) (eCons (eP (dVar 10)) eNil))) (eP (dVar 12)))) (sP (dRet (dC (.bl false)))) .nx)
    (sP (dSet [] 14 (dBin oAdd (dVar 14) (dB oInt (dCons (dBin oNe (dVar 12) (dC (.str "no path"))) dNil)))))))))
    (eSeq (eFor [] (.v 4) (eI (dRng rng1 (dCons (dVar 14) dNil))) (eDrop [] (eMeth e_Play_back (eP (dVar 8)) eNil)))
    (eSeq (eIfS [] (eOrT (easB (eBin oNe (eTup (eCons (eMeth e_Play_path (eP (dVar 8)) eNil) (eCons (eMeth e_Play_purse (eP (dVar 8)) eNil) (eCons (eMeth e_Play_steps (eP (dVar 8)) eNil) eNil)))) (eP (dTup (dCons (dTup dNil) (dCons (dC (.int 0)) (dCons (dLst dNil) dNil))))))) (easB (eBin oNe (eLam e__law_told [8] (eMeth e_Play_back (eP (dVar 0)) eNil)) (eP (dC (.str "no back")))))) (sP (dRet (dC (.bl false)))) .nx)
    (eSeq (eFor [] (.v 4) (eI (dRng rng1 (dCons (dVar 14) dNil))) (eDrop [] (eMeth e_Play_forth (eP (dVar 8)) eNil)))
    (eIfS [] (eOrT (easB (eBin oNe (eTup (eCons (eMeth e_Play_path (eP (dVar 8)) eNil) (eCons (eMeth e_Play_purse (eP (dVar 8)) eNil) eNil))) (eP (dTup (dCons (dBin oIx (dVar 13) (dC (.int 0))) (dCons (dBin oIx (dVar 13) (dC (.int 2))) dNil)))))) (easB (eBin oNe (eMeth e_Play_counts (eP (dVar 8)) eNil) (eP (dTup (dCons (dVar 14) (dCons (dC (.int 0)) dNil))))))) (sP (dRet (dC (.bl false)))) .nx)))))))))
    (sP (dRet (dC (.bl true))))))))))))))
def e_law (pk : Nat → Int → Int) : List D → PLS → RP D := defE 1 15 (be_law pk)
end Kx
namespace Sm
open PySem PySem.Spec L2
inductive Game where
  | node (w : Int) (ws : List (Int × Game))
namespace Game
def worth : Game → Int | .node w _ => w
def ways : Game → List (Int × Game) | .node _ ws => ws
theorem lt_of_mem {w : Int} {ws : List (Int × Game)} {p : Int × Game} (h : p ∈ ws) : sizeOf p.2 < sizeOf (Game.node w ws) := by
  have h1 := List.sizeOf_lt_of_mem h
  obtain ⟨a, b⟩ := p
  simp at h1 ⊢
  omega
theorem ind {P : Game → Prop} (h : ∀ w ws, (∀ p ∈ ws, P p.2) → P (.node w ws)) : ∀ g, P g
  | .node w ws => h w ws fun p hp => ind h p.2
termination_by g => sizeOf g
decreasing_by exact lt_of_mem hp
def enc : Game → D
  | .node w ws => if ws = [] then .tup [.int w] else .tup [.int w, .tup (ws.map fun p => .tup [.int p.1, p.2.enc])]
termination_by g => sizeOf g
decreasing_by exact lt_of_mem ‹_›
def Ok : Nat → Game → Prop
  | 0, _ => False
  | n + 1, .node w ws => (-20 ≤ w ∧ w ≤ 20) ∧ ws.length ≤ 3 ∧ ∀ p ∈ ws, (1 ≤ p.1 ∧ p.1 ≤ 9) ∧ Ok n p.2
theorem Ok.mono : ∀ {n m : Nat} {g : Game}, Ok n g → n ≤ m → Ok m g
  | 0, _, _, h, _ => h.elim
  | n + 1, 0, _, _, h => by omega
  | n + 1, m + 1, .node w ws, h, hm => ⟨h.1, h.2.1, fun p hp => ⟨(h.2.2 p hp).1, (h.2.2 p hp).2.mono (by omega)⟩⟩
def idxs : Nat → List (List (List Nat)) → List (List Nat)
  | _, [] => []
  | k, ps :: r => ps.map (k :: ·) ++ idxs (k + 1) r
def paths : Game → List (List Nat)
  | .node _ ws => [] :: idxs 0 (ws.map fun p => p.2.paths)
termination_by g => sizeOf g
decreasing_by exact lt_of_mem ‹_›
def part : Game → List Nat → Game
  | g, [] => g
  | g, i :: p => match g.ways[i]? with
    | some x => part x.2 p
    | none => g
def IsPath : Game → List Nat → Prop
  | _, [] => True
  | g, i :: p => match g.ways[i]? with
    | some x => IsPath x.2 p
    | none => False
def put : Game → List Nat → Game → Game
  | _, [], o => o
  | .node w ws, i :: p, o => match ws[i]? with
    | some x => .node w (ws.set i (x.1, put x.2 p o))
    | none => .node w ws
theorem mem_idxs {p : List Nat} : ∀ {l : List (List (List Nat))} {k : Nat}, p ∈ idxs k l ↔ ∃ i q, p = (k + i) :: q ∧ ∃ ps, l[i]? = some ps ∧ q ∈ ps
  | [], k => by simp [idxs]
  | ps :: r, k => by
    rw [idxs, List.mem_append, mem_idxs (l := r) (k := k + 1)]
    constructor
    · rintro (h | ⟨i, q, rfl, ps', h1, h2⟩)
      · obtain ⟨q, hq, rfl⟩ := List.mem_map.mp h
        exact ⟨0, q, rfl, ps, rfl, hq⟩
      · exact ⟨i + 1, q, by rw [show k + 1 + i = k + (i + 1) by omega], ps', h1, h2⟩
    · rintro ⟨i, q, rfl, ps', h1, h2⟩
      cases i with
      | zero =>
        cases h1
        exact .inl (List.mem_map.mpr ⟨q, h2, rfl⟩)
      | succ i => exact .inr ⟨i, q, by rw [show k + 1 + i = k + (i + 1) by omega], ps', h1, h2⟩
def most : Nat → Nat
  | 0 => 0
  | n + 1 => 1 + 3 * most n
theorem part_ok : ∀ {n : Nat} {g : Game} {p : List Nat}, Ok n g → IsPath g p → Ok (n - p.length) (part g p) ∧ p.length < n
  | 0, _, _, h, _ => h.elim
  | n + 1, g, [], h, _ => ⟨h, by simp⟩
  | n + 1, .node w ws, i :: p, h, hp => by
    simp only [IsPath, ways] at hp
    simp only [part, ways]
    cases hx : ws[i]? with
    | none => rw [hx] at hp; exact hp.elim
    | some x =>
      rw [hx] at hp
      have := part_ok (h.2.2 x (List.mem_of_getElem? hx)).2 hp
      rw [List.length_cons]
      exact ⟨by rw [show n + 1 - (p.length + 1) = n - p.length by omega]; exact this.1, by omega⟩
def total (g : Game) : Int := (g.ways.map (·.1)).sum
def chance : Game → List Nat → Rat
  | _, [] => 1
  | g, i :: p => match g.ways[i]? with
    | some x => Rat.divInt x.1 g.total * chance x.2 p
    | none => 0
end Game
end Sm
namespace Kx
open PySem PySem.Spec L2 Sm
theorem enc_end (w : Int) : (Game.node w []).enc = .tup [.int w] := by rw [Game.enc]; simp
theorem enc_go (w : Int) (x : Int × Game) (ws : List (Int × Game)) : (Game.node w (x :: ws)).enc = .tup [.int w, .tup ((x :: ws).map fun p => .tup [.int p.1, p.2.enc])] := by rw [Game.enc]; simp
def encW (ws : List (Int × Game)) : List D := ws.map fun p => .tup [.int p.1, p.2.enc]
def encP (p : List Nat) : D := .tup (p.map fun i : Nat => .int (i : Int))
theorem whole_ok (i lo hi : Int) : d_is_whole [.int i, .int lo, .int hi] = .ok (.bl (decide (lo ≤ i) && decide (i ≤ hi))) := by
  by_cases h : lo ≤ i
  · simp only [d_is_whole, b_is_whole, oIsInt, oIsBool, oLe, decide_eq_true h, defD, args, dSeq, dSet, dSetP, dSetN, lstAt, dApp, dAppP, dAsg, dPar, dDrop, dWhile, dIfS, dRet, dB, dCall, dCons, dNil, dVar, dC, dBin, dChain, asB, dTru, dNotT, dAndT, dOrT, dAnd, dOr, dNot, dIf, dUn, dTup, dLst, dItems, dYes, R.bind, R.to, O.seq, outR, ofO, noErr, mask, Sm.putIn, bindPat, bindPats, itemsOf, tru, List.foldr_cons, List.foldr_nil, List.length_cons, List.length_nil, List.map_cons, List.map_nil, List.cons_append, List.nil_append, Nat.sub_self, List.replicate_zero, List.replicate_succ, List.getElem?_cons_succ, List.getElem?_cons_zero, List.set_cons_zero, List.set_cons_succ, Nat.reduceAdd, Nat.reduceSub, ↓reduceIte, Bool.not_true, Bool.not_false, Bool.and_true, Bool.true_and, Bool.false_and, Bool.and_false, if_true, if_false, Bool.false_eq_true, oNeg, oAddI, oSubI, oAdd_ii, oLt, oLe, oGt, oGe, Option.bind_some, Option.map_some]
  · simp only [d_is_whole, b_is_whole, oIsInt, oIsBool, oLe, decide_eq_false h, defD, args, dSeq, dSet, dSetP, dSetN, lstAt, dApp, dAppP, dAsg, dPar, dDrop, dWhile, dIfS, dRet, dB, dCall, dCons, dNil, dVar, dC, dBin, dChain, asB, dTru, dNotT, dAndT, dOrT, dAnd, dOr, dNot, dIf, dUn, dTup, dLst, dItems, dYes, R.bind, R.to, O.seq, outR, ofO, noErr, mask, Sm.putIn, bindPat, bindPats, itemsOf, tru, List.foldr_cons, List.foldr_nil, List.length_cons, List.length_nil, List.map_cons, List.map_nil, List.cons_append, List.nil_append, Nat.sub_self, List.replicate_zero, List.replicate_succ, List.getElem?_cons_succ, List.getElem?_cons_zero, List.set_cons_zero, List.set_cons_succ, Nat.reduceAdd, Nat.reduceSub, ↓reduceIte, Bool.not_true, Bool.not_false, Bool.and_true, Bool.true_and, Bool.false_and, Bool.and_false, if_true, if_false, Bool.false_eq_true, oNeg, oAddI, oSubI, oAdd_ii, oLt, oLe, oGt, oGe, Option.bind_some, Option.map_some]
theorem ways_ok (g : Game) : d_ways_of [g.enc] = .ok (.tup (encW g.ways)) := by
  cases g with
  | node w ws =>
    cases ws with
    | nil =>
      rw [enc_end]
      simp only [d_ways_of, b_ways_of, oLen, oEq_int, Game.ways, encW, defD, args, dSeq, dSet, dSetP, dSetN, lstAt, dApp, dAppP, dAsg, dPar, dDrop, dWhile, dIfS, dRet, dB, dCall, dCons, dNil, dVar, dC, dBin, dChain, asB, dTru, dNotT, dAndT, dOrT, dAnd, dOr, dNot, dIf, dUn, dTup, dLst, dItems, dYes, R.bind, R.to, O.seq, outR, ofO, noErr, mask, Sm.putIn, bindPat, bindPats, itemsOf, tru, List.foldr_cons, List.foldr_nil, List.length_cons, List.length_nil, List.map_cons, List.map_nil, List.cons_append, List.nil_append, Nat.sub_self, List.replicate_zero, List.replicate_succ, List.getElem?_cons_succ, List.getElem?_cons_zero, List.set_cons_zero, List.set_cons_succ, Nat.reduceAdd, Nat.reduceSub, ↓reduceIte, Bool.not_true, Bool.not_false, Bool.and_true, Bool.true_and, Bool.false_and, Bool.and_false, if_true, if_false, Bool.false_eq_true, oNeg, oAddI, oSubI, oAdd_ii, oLt, oLe, oGt, oGe, Option.bind_some, Option.map_some]
      rfl
    | cons x ws =>
      rw [enc_go]
      simp only [d_ways_of, b_ways_of, oLen, oEq_int, Game.ways, encW, oIx_t1, defD, args, dSeq, dSet, dSetP, dSetN, lstAt, dApp, dAppP, dAsg, dPar, dDrop, dWhile, dIfS, dRet, dB, dCall, dCons, dNil, dVar, dC, dBin, dChain, asB, dTru, dNotT, dAndT, dOrT, dAnd, dOr, dNot, dIf, dUn, dTup, dLst, dItems, dYes, R.bind, R.to, O.seq, outR, ofO, noErr, mask, Sm.putIn, bindPat, bindPats, itemsOf, tru, List.foldr_cons, List.foldr_nil, List.length_cons, List.length_nil, List.map_cons, List.map_nil, List.cons_append, List.nil_append, Nat.sub_self, List.replicate_zero, List.replicate_succ, List.getElem?_cons_succ, List.getElem?_cons_zero, List.set_cons_zero, List.set_cons_succ, Nat.reduceAdd, Nat.reduceSub, ↓reduceIte, Bool.not_true, Bool.not_false, Bool.and_true, Bool.true_and, Bool.false_and, Bool.and_false, if_true, if_false, Bool.false_eq_true, oNeg, oAddI, oSubI, oAdd_ii, oLt, oLe, oGt, oGe, Option.bind_some, Option.map_some]
      rfl
theorem ix0_ok (g : Game) : oIx g.enc (.int 0) = some (.int g.worth) := by
  cases g with
  | node w ws =>
    cases ws with
    | nil => rw [enc_end]; exact oIx_t0 _ _
    | cons x ws => rw [enc_go]; exact oIx_t0 _ _
theorem encW_at {ws : List (Int × Game)} {i : Nat} {x : Int × Game} (h : ws[i]? = some x) : oIx (.tup (encW ws)) (.int (i : Int)) = some (.tup [.int x.1, x.2.enc]) := by
  have hl : i < (encW ws).length := by
    unfold encW; rw [List.length_map]; exact (List.getElem?_eq_some_iff.mp h).1
  show atI (encW ws) (i : Int) = _
  rw [atI_nat' hl]
  unfold encW
  rw [List.getElem?_map, h]; rfl
theorem all_true {α : Type} (l : List α) : oAll [.lst (l.map fun _ => D.bl true)] = some (.bl true) := by
  have bo : boolsOf (l.map fun _ => D.bl true) = some (l.map fun _ => true) := by
    induction l with
    | nil => rfl
    | cons a l ih => simp only [List.map_cons, boolsOf, ih, Option.map_some]
  simp only [oAll, bo, Option.map_some]
  simp
theorem game_in_ok : ∀ (n : Nat) (g : Game) (deep : Nat), deep < n → g.Ok deep → d_is_game_in n [g.enc, .int (deep : Int)] = .ok (.bl true)
  | 0, _, _, h, _ => by omega
  | n + 1, .node w ws, 0, _, h => h.elim
  | n + 1, .node w ws, deep + 1, hn, h => by
    have d0 : (((deep + 1 : Nat) : Int) == 0) = false := by simp; omega
    have wh := whole_ok w (0 - 20) 20
    rw [decide_eq_true (show 0 - 20 ≤ w by have := h.1.1; omega), decide_eq_true h.1.2] at wh
    refine defD_eq rfl ?_
    unfold b_is_game_in
    cases ws with
    | nil =>
      rw [enc_end]
      simp only [oEq_int, d0, oIsTup, oIx_t0, wh, oLen, List.isEmpty, defD, args, dSeq, dSet, dSetP, dSetN, lstAt, dApp, dAppP, dAsg, dPar, dDrop, dWhile, dIfS, dRet, dB, dCall, dCons, dNil, dVar, dC, dBin, dChain, asB, dTru, dNotT, dAndT, dOrT, dAnd, dOr, dNot, dIf, dUn, dTup, dLst, dItems, dYes, R.bind, R.to, O.seq, outR, ofO, noErr, mask, Sm.putIn, bindPat, bindPats, itemsOf, tru, List.foldr_cons, List.foldr_nil, List.length_cons, List.length_nil, List.map_cons, List.map_nil, List.cons_append, List.nil_append, Nat.sub_self, List.replicate_zero, List.replicate_succ, List.getElem?_cons_succ, List.getElem?_cons_zero, List.set_cons_zero, List.set_cons_succ, Nat.reduceAdd, Nat.reduceSub, ↓reduceIte, Bool.not_true, Bool.not_false, Bool.and_true, Bool.true_and, Bool.false_and, Bool.and_false, if_true, if_false, Bool.false_eq_true, oNeg, oAddI, oSubI, oAdd_ii, oLt, oLe, oGt, oGe, Option.bind_some, Option.map_some]
      simp
    | cons x ws =>
      rw [enc_go]
      have hl : (x :: ws).length ≤ 3 := h.2.1
      have hlen : ((x :: ws).map fun p => D.tup [.int p.1, p.2.enc]).length = (x :: ws).length := List.length_map ..
      generalize hE : ((x :: ws).map fun p => D.tup [.int p.1, p.2.enc]) = E at *
      refine out_seq (ρ1 := [some (.tup [.int w, .tup E]), some (.int ((deep + 1 : Nat) : Int)), none]) ?_ ?_
      · simp only [oEq_int, d0, oIsTup, oIx_t0, wh, oLen, List.isEmpty, defD, args, dSeq, dSet, dSetP, dSetN, lstAt, dApp, dAppP, dAsg, dPar, dDrop, dWhile, dIfS, dRet, dB, dCall, dCons, dNil, dVar, dC, dBin, dChain, asB, dTru, dNotT, dAndT, dOrT, dAnd, dOr, dNot, dIf, dUn, dTup, dLst, dItems, dYes, R.bind, R.to, O.seq, outR, ofO, noErr, mask, Sm.putIn, bindPat, bindPats, itemsOf, tru, List.foldr_cons, List.foldr_nil, List.length_cons, List.length_nil, List.map_cons, List.map_nil, List.cons_append, List.nil_append, Nat.sub_self, List.replicate_zero, List.replicate_succ, List.getElem?_cons_succ, List.getElem?_cons_zero, List.set_cons_zero, List.set_cons_succ, Nat.reduceAdd, Nat.reduceSub, ↓reduceIte, Bool.not_true, Bool.not_false, Bool.and_true, Bool.true_and, Bool.false_and, Bool.and_false, if_true, if_false, Bool.false_eq_true, oNeg, oAddI, oSubI, oAdd_ii, oLt, oLe, oGt, oGe, Option.bind_some, Option.map_some]
      refine out_seq (ρ1 := [some (.tup [.int w, .tup E]), some (.int ((deep + 1 : Nat) : Int)), none]) ?_ ?_
      · simp only [oEq_int, oLen, show ((((2 : Nat) : Int)) == 1) = false by decide, defD, args, dSeq, dSet, dSetP, dSetN, lstAt, dApp, dAppP, dAsg, dPar, dDrop, dWhile, dIfS, dRet, dB, dCall, dCons, dNil, dVar, dC, dBin, dChain, asB, dTru, dNotT, dAndT, dOrT, dAnd, dOr, dNot, dIf, dUn, dTup, dLst, dItems, dYes, R.bind, R.to, O.seq, outR, ofO, noErr, mask, Sm.putIn, bindPat, bindPats, itemsOf, tru, List.foldr_cons, List.foldr_nil, List.length_cons, List.length_nil, List.map_cons, List.map_nil, List.cons_append, List.nil_append, Nat.sub_self, List.replicate_zero, List.replicate_succ, List.getElem?_cons_succ, List.getElem?_cons_zero, List.set_cons_zero, List.set_cons_succ, Nat.reduceAdd, Nat.reduceSub, ↓reduceIte, Bool.not_true, Bool.not_false, Bool.and_true, Bool.true_and, Bool.false_and, Bool.and_false, if_true, if_false, Bool.false_eq_true, oNeg, oAddI, oSubI, oAdd_ii, oLt, oLe, oGt, oGe, Option.bind_some, Option.map_some]
      refine out_seq (ρ1 := [some (.tup [.int w, .tup E]), some (.int ((deep + 1 : Nat) : Int)), none]) ?_ ?_
      · have l1 : (1 : Int) ≤ (E.length : Int) := by rw [hlen]; simp; omega
        have l3 : (E.length : Int) ≤ 3 := by omega
        simp only [oNe_int, oLen, oIx_t1, oIsTup, show ((((2 : Nat) : Int)) == 2) = true by decide, decide_eq_true l1, decide_eq_true l3, defD, args, dSeq, dSet, dSetP, dSetN, lstAt, dApp, dAppP, dAsg, dPar, dDrop, dWhile, dIfS, dRet, dB, dCall, dCons, dNil, dVar, dC, dBin, dChain, asB, dTru, dNotT, dAndT, dOrT, dAnd, dOr, dNot, dIf, dUn, dTup, dLst, dItems, dYes, R.bind, R.to, O.seq, outR, ofO, noErr, mask, Sm.putIn, bindPat, bindPats, itemsOf, tru, List.foldr_cons, List.foldr_nil, List.length_cons, List.length_nil, List.map_cons, List.map_nil, List.cons_append, List.nil_append, Nat.sub_self, List.replicate_zero, List.replicate_succ, List.getElem?_cons_succ, List.getElem?_cons_zero, List.set_cons_zero, List.set_cons_succ, Nat.reduceAdd, Nat.reduceSub, ↓reduceIte, Bool.not_true, Bool.not_false, Bool.and_true, Bool.true_and, Bool.false_and, Bool.and_false, if_true, if_false, Bool.false_eq_true, oNeg, oAddI, oSubI, oAdd_ii, oLt, oLe, oGt, oGe, Option.bind_some, Option.map_some]
      refine for_out (ds := E) (fun ρ => ∃ y, ρ = [some (.tup [.int w, .tup E]), some (.int ((deep + 1 : Nat) : Int)), y]) ?_ ⟨none, rfl⟩ ?_ ?_
      · simp only [oIx_t1, defD, args, dSeq, dSet, dSetP, dSetN, lstAt, dApp, dAppP, dAsg, dPar, dDrop, dWhile, dIfS, dRet, dB, dCall, dCons, dNil, dVar, dC, dBin, dChain, asB, dTru, dNotT, dAndT, dOrT, dAnd, dOr, dNot, dIf, dUn, dTup, dLst, dItems, dYes, R.bind, R.to, O.seq, outR, ofO, noErr, mask, Sm.putIn, bindPat, bindPats, itemsOf, tru, List.foldr_cons, List.foldr_nil, List.length_cons, List.length_nil, List.map_cons, List.map_nil, List.cons_append, List.nil_append, Nat.sub_self, List.replicate_zero, List.replicate_succ, List.getElem?_cons_succ, List.getElem?_cons_zero, List.set_cons_zero, List.set_cons_succ, Nat.reduceAdd, Nat.reduceSub, ↓reduceIte, Bool.not_true, Bool.not_false, Bool.and_true, Bool.true_and, Bool.false_and, Bool.and_false, if_true, if_false, Bool.false_eq_true, oNeg, oAddI, oSubI, oAdd_ii, oLt, oLe, oGt, oGe, Option.bind_some, Option.map_some]
      · rintro d ρ hd ⟨y, rfl⟩
        rw [← hE] at hd
        obtain ⟨p, hp, rfl⟩ := List.mem_map.mp hd
        have wk := whole_ok p.1 1 9
        rw [decide_eq_true (h.2.2 p hp).1.1, decide_eq_true (h.2.2 p hp).1.2] at wk
        refine ⟨_, _, rfl, ?_, some (.tup [.int p.1, p.2.enc]), rfl⟩
        simp only [oIsTup, oNe_int, oLen, oIx_t0, wk, show ((((2 : Nat) : Int)) == 2) = true by decide, defD, args, dSeq, dSet, dSetP, dSetN, lstAt, dApp, dAppP, dAsg, dPar, dDrop, dWhile, dIfS, dRet, dB, dCall, dCons, dNil, dVar, dC, dBin, dChain, asB, dTru, dNotT, dAndT, dOrT, dAnd, dOr, dNot, dIf, dUn, dTup, dLst, dItems, dYes, R.bind, R.to, O.seq, outR, ofO, noErr, mask, Sm.putIn, bindPat, bindPats, itemsOf, tru, List.foldr_cons, List.foldr_nil, List.length_cons, List.length_nil, List.map_cons, List.map_nil, List.cons_append, List.nil_append, Nat.sub_self, List.replicate_zero, List.replicate_succ, List.getElem?_cons_succ, List.getElem?_cons_zero, List.set_cons_zero, List.set_cons_succ, Nat.reduceAdd, Nat.reduceSub, ↓reduceIte, Bool.not_true, Bool.not_false, Bool.and_true, Bool.true_and, Bool.false_and, Bool.and_false, if_true, if_false, Bool.false_eq_true, oNeg, oAddI, oSubI, oAdd_ii, oLt, oLe, oGt, oGe, Option.bind_some, Option.map_some]
      · rintro ρ' ⟨y, rfl⟩
        have lc : dLcs [2] (.v 2) (dItems (dBin oIx (dVar 0) (dC (.int 1)))) dYes (dCall (d_is_game_in n) (dCons (dBin oIx (dVar 2) (dC (.int 1))) (dCons (dBin oSubI (dVar 1) (dC (.int 1))) dNil))) [some (.tup [.int w, .tup E]), some (.int ((deep + 1 : Nat) : Int)), y] = .ok ((x :: ws).map fun _ => D.bl true) := by
          refine lc_ok1 (enc := fun p : Int × Game => D.tup [.int p.1, p.2.enc]) _ ?_ fun p hp => ⟨_, rfl, ?_⟩
          · simp only [oIx_t1, hE, defD, args, dSeq, dSet, dSetP, dSetN, lstAt, dApp, dAppP, dAsg, dPar, dDrop, dWhile, dIfS, dRet, dB, dCall, dCons, dNil, dVar, dC, dBin, dChain, asB, dTru, dNotT, dAndT, dOrT, dAnd, dOr, dNot, dIf, dUn, dTup, dLst, dItems, dYes, R.bind, R.to, O.seq, outR, ofO, noErr, mask, Sm.putIn, bindPat, bindPats, itemsOf, tru, List.foldr_cons, List.foldr_nil, List.length_cons, List.length_nil, List.map_cons, List.map_nil, List.cons_append, List.nil_append, Nat.sub_self, List.replicate_zero, List.replicate_succ, List.getElem?_cons_succ, List.getElem?_cons_zero, List.set_cons_zero, List.set_cons_succ, Nat.reduceAdd, Nat.reduceSub, ↓reduceIte, Bool.not_true, Bool.not_false, Bool.and_true, Bool.true_and, Bool.false_and, Bool.and_false, if_true, if_false, Bool.false_eq_true, oNeg, oAddI, oSubI, oAdd_ii, oLt, oLe, oGt, oGe, Option.bind_some, Option.map_some]
          · have ih := game_in_ok n p.2 deep (by omega) (h.2.2 p hp).2
            simp only [oIx_t1, show ((deep + 1 : Nat) : Int) - 1 = (deep : Int) by omega, ih, defD, args, dSeq, dSet, dSetP, dSetN, lstAt, dApp, dAppP, dAsg, dPar, dDrop, dWhile, dIfS, dRet, dB, dCall, dCons, dNil, dVar, dC, dBin, dChain, asB, dTru, dNotT, dAndT, dOrT, dAnd, dOr, dNot, dIf, dUn, dTup, dLst, dItems, dYes, R.bind, R.to, O.seq, outR, ofO, noErr, mask, Sm.putIn, bindPat, bindPats, itemsOf, tru, List.foldr_cons, List.foldr_nil, List.length_cons, List.length_nil, List.map_cons, List.map_nil, List.cons_append, List.nil_append, Nat.sub_self, List.replicate_zero, List.replicate_succ, List.getElem?_cons_succ, List.getElem?_cons_zero, List.set_cons_zero, List.set_cons_succ, Nat.reduceAdd, Nat.reduceSub, ↓reduceIte, Bool.not_true, Bool.not_false, Bool.and_true, Bool.true_and, Bool.false_and, Bool.and_false, if_true, if_false, Bool.false_eq_true, oNeg, oAddI, oSubI, oAdd_ii, oLt, oLe, oGt, oGe, Option.bind_some, Option.map_some]
        have al := all_true (x :: ws)
        generalize ((x :: ws).map fun _ => D.bl true) = L at *
        simp only [dLc, lc, al, defD, args, dSeq, dSet, dSetP, dSetN, lstAt, dApp, dAppP, dAsg, dPar, dDrop, dWhile, dIfS, dRet, dB, dCall, dCons, dNil, dVar, dC, dBin, dChain, asB, dTru, dNotT, dAndT, dOrT, dAnd, dOr, dNot, dIf, dUn, dTup, dLst, dItems, dYes, R.bind, R.to, O.seq, outR, ofO, noErr, mask, Sm.putIn, bindPat, bindPats, itemsOf, tru, List.foldr_cons, List.foldr_nil, List.length_cons, List.length_nil, List.map_cons, List.map_nil, List.cons_append, List.nil_append, Nat.sub_self, List.replicate_zero, List.replicate_succ, List.getElem?_cons_succ, List.getElem?_cons_zero, List.set_cons_zero, List.set_cons_succ, Nat.reduceAdd, Nat.reduceSub, ↓reduceIte, Bool.not_true, Bool.not_false, Bool.and_true, Bool.true_and, Bool.false_and, Bool.and_false, if_true, if_false, Bool.false_eq_true, oNeg, oAddI, oSubI, oAdd_ii, oLt, oLe, oGt, oGe, Option.bind_some, Option.map_some]
theorem game_ok {g : Game} (h : g.Ok 4) : d_is_game [g.enc] = .ok (.bl true) := by
  have := game_in_ok 8 g 4 (by decide) h
  simp only [d_is_game, b_is_game, show d_is_game_in 8 [g.enc, .int 4] = _ from this, defD, args, dSeq, dSet, dSetP, dSetN, lstAt, dApp, dAppP, dAsg, dPar, dDrop, dWhile, dIfS, dRet, dB, dCall, dCons, dNil, dVar, dC, dBin, dChain, asB, dTru, dNotT, dAndT, dOrT, dAnd, dOr, dNot, dIf, dUn, dTup, dLst, dItems, dYes, R.bind, R.to, O.seq, outR, ofO, noErr, mask, Sm.putIn, bindPat, bindPats, itemsOf, tru, List.foldr_cons, List.foldr_nil, List.length_cons, List.length_nil, List.map_cons, List.map_nil, List.cons_append, List.nil_append, Nat.sub_self, List.replicate_zero, List.replicate_succ, List.getElem?_cons_succ, List.getElem?_cons_zero, List.set_cons_zero, List.set_cons_succ, Nat.reduceAdd, Nat.reduceSub, ↓reduceIte, Bool.not_true, Bool.not_false, Bool.and_true, Bool.true_and, Bool.false_and, Bool.and_false, if_true, if_false, Bool.false_eq_true, oNeg, oAddI, oSubI, oAdd_ii, oLt, oLe, oGt, oGe, Option.bind_some, Option.map_some]
theorem look_ok {g : Game} (h : g.Ok 4) : d_look_game [g.enc] = .ok .non := by
  simp only [d_look_game, b_look_game, game_ok h, defD, args, dSeq, dSet, dSetP, dSetN, lstAt, dApp, dAppP, dAsg, dPar, dDrop, dWhile, dIfS, dRet, dB, dCall, dCons, dNil, dVar, dC, dBin, dChain, asB, dTru, dNotT, dAndT, dOrT, dAnd, dOr, dNot, dIf, dUn, dTup, dLst, dItems, dYes, R.bind, R.to, O.seq, outR, ofO, noErr, mask, Sm.putIn, bindPat, bindPats, itemsOf, tru, List.foldr_cons, List.foldr_nil, List.length_cons, List.length_nil, List.map_cons, List.map_nil, List.cons_append, List.nil_append, Nat.sub_self, List.replicate_zero, List.replicate_succ, List.getElem?_cons_succ, List.getElem?_cons_zero, List.set_cons_zero, List.set_cons_succ, Nat.reduceAdd, Nat.reduceSub, ↓reduceIte, Bool.not_true, Bool.not_false, Bool.and_true, Bool.true_and, Bool.false_and, Bool.and_false, if_true, if_false, Bool.false_eq_true, oNeg, oAddI, oSubI, oAdd_ii, oLt, oLe, oGt, oGe, Option.bind_some, Option.map_some]
theorem part_ok1 : ∀ (p : List Nat) (g : Game) (x1 x2 : Option D), g.IsPath p → ∃ y, forGo (.v 2) (dSet [] 0 (dBin oIx (dBin oIx (dCall d_ways_of (dCons (dVar 0) dNil)) (dVar 2)) (dC (.int 1)))) (p.map fun i : Nat => D.int (i : Int)) [some g.enc, x1, x2] = .nx [some (g.part p).enc, x1, y]
  | [], g, x1, x2, _ => ⟨x2, rfl⟩
  | i :: p, g, x1, x2, h => by
    simp only [Game.IsPath] at h
    simp only [Game.part]
    cases hx : g.ways[i]? with
    | none => rw [hx] at h; exact h.elim
    | some x =>
      rw [hx] at h
      obtain ⟨y, e⟩ := part_ok1 p x.2 x1 (some (.int (i : Int))) h
      refine ⟨y, ?_⟩
      simp only [forGo, ways_ok, encW_at hx, oIx_t1, defD, args, dSeq, dSet, dSetP, dSetN, lstAt, dApp, dAppP, dAsg, dPar, dDrop, dWhile, dIfS, dRet, dB, dCall, dCons, dNil, dVar, dC, dBin, dChain, asB, dTru, dNotT, dAndT, dOrT, dAnd, dOr, dNot, dIf, dUn, dTup, dLst, dItems, dYes, R.bind, R.to, O.seq, outR, ofO, noErr, mask, Sm.putIn, bindPat, bindPats, itemsOf, tru, List.foldr_cons, List.foldr_nil, List.length_cons, List.length_nil, List.map_cons, List.map_nil, List.cons_append, List.nil_append, Nat.sub_self, List.replicate_zero, List.replicate_succ, List.getElem?_cons_succ, List.getElem?_cons_zero, List.set_cons_zero, List.set_cons_succ, Nat.reduceAdd, Nat.reduceSub, ↓reduceIte, Bool.not_true, Bool.not_false, Bool.and_true, Bool.true_and, Bool.false_and, Bool.and_false, if_true, if_false, Bool.false_eq_true, oNeg, oAddI, oSubI, oAdd_ii, oLt, oLe, oGt, oGe, Option.bind_some, Option.map_some]
      exact e
theorem part_of_ok {g : Game} {p : List Nat} (h : g.IsPath p) : d_part_of [g.enc, encP p] = .ok (g.part p).enc := by
  obtain ⟨y, e⟩ := part_ok1 p g (some (encP p)) none h
  refine defD_eq rfl ?_
  unfold b_part_of
  refine out_seq (ρ1 := [some (g.part p).enc, some (encP p), y]) ?_ (ret_of ?_)
  · unfold dFor
    simp only [encP, defD, args, dSeq, dSet, dSetP, dSetN, lstAt, dApp, dAppP, dAsg, dPar, dDrop, dWhile, dIfS, dRet, dB, dCall, dCons, dNil, dVar, dC, dBin, dChain, asB, dTru, dNotT, dAndT, dOrT, dAnd, dOr, dNot, dIf, dUn, dTup, dLst, dItems, dYes, R.bind, R.to, O.seq, outR, ofO, noErr, mask, Sm.putIn, bindPat, bindPats, itemsOf, tru, List.foldr_cons, List.foldr_nil, List.length_cons, List.length_nil, List.map_cons, List.map_nil, List.cons_append, List.nil_append, Nat.sub_self, List.replicate_zero, List.replicate_succ, List.getElem?_cons_succ, List.getElem?_cons_zero, List.set_cons_zero, List.set_cons_succ, Nat.reduceAdd, Nat.reduceSub, ↓reduceIte, Bool.not_true, Bool.not_false, Bool.and_true, Bool.true_and, Bool.false_and, Bool.and_false, if_true, if_false, Bool.false_eq_true, oNeg, oAddI, oSubI, oAdd_ii, oLt, oLe, oGt, oGe, Option.bind_some, Option.map_some]
    exact e
  · simp only [defD, args, dSeq, dSet, dSetP, dSetN, lstAt, dApp, dAppP, dAsg, dPar, dDrop, dWhile, dIfS, dRet, dB, dCall, dCons, dNil, dVar, dC, dBin, dChain, asB, dTru, dNotT, dAndT, dOrT, dAnd, dOr, dNot, dIf, dUn, dTup, dLst, dItems, dYes, R.bind, R.to, O.seq, outR, ofO, noErr, mask, Sm.putIn, bindPat, bindPats, itemsOf, tru, List.foldr_cons, List.foldr_nil, List.length_cons, List.length_nil, List.map_cons, List.map_nil, List.cons_append, List.nil_append, Nat.sub_self, List.replicate_zero, List.replicate_succ, List.getElem?_cons_succ, List.getElem?_cons_zero, List.set_cons_zero, List.set_cons_succ, Nat.reduceAdd, Nat.reduceSub, ↓reduceIte, Bool.not_true, Bool.not_false, Bool.and_true, Bool.true_and, Bool.false_and, Bool.and_false, if_true, if_false, Bool.false_eq_true, oNeg, oAddI, oSubI, oAdd_ii, oLt, oLe, oGt, oGe, Option.bind_some, Option.map_some]
theorem enum_itL {g : DA} {ρ : Sm.Env} {ds : List D} (hg : g ρ = .ok [.lst ds]) : dRng enumD g ρ = .ok (enumFrom 0 ds) := by
  unfold dRng; rw [hg]; rfl
theorem sizeLine_big : (100000 : Nat) ≤ sizeLine := by decide
end Kx
namespace Kx
open PySem PySem.Spec L2 Sm
end Kx
namespace Sm
def Game.Fair : Nat → Game → Prop
  | 0, _ => True
  | n + 1, .node w ws => (ws.map fun p => p.1 * (p.2.worth - w)).sum = 0 ∧ ∀ p ∈ ws, Game.Fair n p.2
def Game.Steps : Nat → Game → Prop
  | 0, _ => True
  | n + 1, .node w ws => ∀ p ∈ ws, (-3 ≤ p.2.worth - w ∧ p.2.worth - w ≤ 3) ∧ Game.Steps n p.2
end Sm
namespace Kx
open PySem PySem.Spec L2 Sm
def prD (x : Int × Int) : D := .tup [.int x.1, .int x.2]
theorem pickD {pk : Nat → Int → Int} (ok : PkOk pk) {i m : Int} (hi : 0 ≤ i) (hm : 0 < m) : ∃ r, dPick pk [.scr0, .int i, .int m] = .ok (.int r) ∧ 0 ≤ r ∧ r < m := by
  refine ⟨pk i.toNat m, ?_, (ok _ _ hm).1, (ok _ _ hm).2⟩
  simp only [dPick]
  rw [if_pos ⟨hi, hm⟩]
theorem many_ok {p : Int} (h : 0 ≤ p ∧ p < 5) : ∃ m : Nat, m ≤ 3 ∧ oIx (.lst [.int 0, .int 1, .int 2, .int 2, .int 3]) (.int p) = some (.int (m : Int)) := by
  have : p = 0 ∨ p = 1 ∨ p = 2 ∨ p = 3 ∨ p = 4 := by omega
  rcases this with rfl | rfl | rfl | rfl | rfl
  · exact ⟨0, by omega, rfl⟩
  · exact ⟨1, by omega, rfl⟩
  · exact ⟨2, by omega, rfl⟩
  · exact ⟨2, by omega, rfl⟩
  · exact ⟨3, by omega, rfl⟩
structure Rows (m : Nat) (even : Bool) (rs : List (Int × Int)) : Prop where
  len : rs.length = m
  bd : ∀ x ∈ rs, (1 ≤ x.1 ∧ x.1 ≤ 9) ∧ (-3 ≤ x.2 ∧ x.2 ≤ 3)
  fair : even = true → (rs.map fun x => x.1 * x.2).sum = 0
theorem Rows.rev {m : Nat} {even : Bool} {rs : List (Int × Int)} (h : Rows m even rs) : Rows m even rs.reverse where
  len := by rw [List.length_reverse]; exact h.len
  bd := fun x hx => h.bd x (List.mem_reverse.mp hx)
  fair := fun e => by
    rw [List.map_reverse, List.sum_reverse]; exact h.fair e
def rowsS (pk : Nat → Int → Int) : DS := (dIfS (dTru (dVar 4)) (dSeq (dPar [7] 12 13 (dCons (dBin oAdd (dC (.int 1)) (dCall (dPick pk) (dCons (dVar 0) (dCons (dBin oAdd (dVar 5) (dC (.int 1))) (dCons (dC (.int 3)) dNil))))) (dCons (dBin oAdd (dC (.int 1)) (dCall (dPick pk) (dCons (dVar 0) (dCons (dBin oAdd (dVar 5) (dC (.int 2))) (dCons (dC (.int 3)) dNil))))) dNil)))
    (dSeq (dSetN [7] 7 (dCons (dTup (dCons (dVar 13) (dCons (dVar 12) dNil))) (dCons (dTup (dCons (dVar 12) (dCons (dBin oSubI (dC (.int 0)) (dVar 13)) dNil))) (dCons (dTup (dCons (dBin oAdd (dC (.int 1)) (dCall (dPick pk) (dCons (dVar 0) (dCons (dBin oAdd (dVar 5) (dC (.int 3))) (dCons (dC (.int 9)) dNil))))) (dCons (dC (.int 0)) dNil))) dNil))))
    (dSet [] 7 (dIf (asB (dBin oEq (dVar 6) (dC (.int 1)))) (dSl (dVar 7) (dSo (dC (.int 2))) dNo) (dSl (dVar 7) dNo (dSo (dVar 6))))))) (dFor [7] (.v 9) (dRng rng1 (dCons (dVar 6) dNil)) (dApp [7] 7 (dTup (dCons (dBin oAdd (dC (.int 1)) (dCall (dPick pk) (dCons (dVar 0) (dCons (dBin oAdd (dBin oAdd (dVar 5) (dC (.int 5))) (dVar 9)) (dCons (dC (.int 9)) dNil))))) (dCons (dBin oSubI (dCall (dPick pk) (dCons (dVar 0) (dCons (dBin oAdd (dBin oAdd (dVar 5) (dC (.int 8))) (dVar 9)) (dCons (dC (.int 7)) dNil)))) (dC (.int 3))) dNil))))))
def PickS (pk : Nat → Int → Int) (S : D) : Prop := ∀ {i m : Int}, 0 ≤ i → 0 < m → ∃ r, dPick pk [S, .int i, .int m] = .ok (.int r) ∧ 0 ≤ r ∧ r < m
theorem pickS0 {pk : Nat → Int → Int} (ok : PkOk pk) : PickS pk .scr0 := fun hi hm => pickD ok hi hm
theorem rows_okS {pk : Nat → Int → Int} {S : D} (ok : PickS pk S) (x1 x2 x3 : Option D) (even : Bool) {base : Int} (hb : 0 ≤ base) {m : Nat} (hm : 1 ≤ m ∧ m ≤ 3) :
    ∃ rs y9 y12 y13, Rows m even rs ∧ rowsS pk [some S, x1, x2, x3, some (.bl even), some (.int base), some (.int (m : Int)), some (.lst []), none, none, none, none, none, none] = .nx [some S, x1, x2, x3, some (.bl even), some (.int base), some (.int (m : Int)), some (.lst (rs.map prD)), none, y9, none, none, y12, y13] := by
  cases even with
  | true =>
    obtain ⟨a, ea, a1, a2⟩ := ok (i := base + 1) (m := 3) (by omega) (by decide)
    obtain ⟨b, eb, b1, b2⟩ := ok (i := base + 2) (m := 3) (by omega) (by decide)
    obtain ⟨c, ec, c1, c2⟩ := ok (i := base + 3) (m := 9) (by omega) (by decide)
    have : m = 1 ∨ m = 2 ∨ m = 3 := by omega
    rcases this with rfl | rfl | rfl
    · refine ⟨[(1 + c, 0)], none, some (.int (1 + a)), some (.int (1 + b)), ⟨rfl, by simp; omega, fun _ => by simp⟩, ?_⟩
      simp only [rowsS, ea, eb, ec, oEq_int, dSl, dSo, dNo, oSl, defD, args, dSeq, dSet, dSetP, dSetN, lstAt, dApp, dAppP, dAsg, dPar, dDrop, dWhile, dIfS, dRet, dB, dCall, dCons, dNil, dVar, dC, dBin, dChain, asB, dTru, dNotT, dAndT, dOrT, dAnd, dOr, dNot, dIf, dUn, dTup, dLst, dItems, dYes, R.bind, R.to, O.seq, outR, ofO, noErr, mask, Sm.putIn, bindPat, bindPats, itemsOf, tru, List.foldr_cons, List.foldr_nil, List.length_cons, List.length_nil, List.map_cons, List.map_nil, List.cons_append, List.nil_append, Nat.sub_self, List.replicate_zero, List.replicate_succ, List.getElem?_cons_succ, List.getElem?_cons_zero, List.set_cons_zero, List.set_cons_succ, Nat.reduceAdd, Nat.reduceSub, ↓reduceIte, Bool.not_true, Bool.not_false, Bool.and_true, Bool.true_and, Bool.false_and, Bool.and_false, if_true, if_false, Bool.false_eq_true, oNeg, oAddI, oSubI, oAdd_ii, oLt, oLe, oGt, oGe, Option.bind_some, Option.map_some]
      rfl
    · refine ⟨[(1 + b, 1 + a), (1 + a, 0 - (1 + b))], none, some (.int (1 + a)), some (.int (1 + b)), ⟨rfl, by simp; omega, fun _ => by simp; grind⟩, ?_⟩
      simp only [rowsS, ea, eb, ec, oEq_int, dSl, dSo, dNo, oSl, defD, args, dSeq, dSet, dSetP, dSetN, lstAt, dApp, dAppP, dAsg, dPar, dDrop, dWhile, dIfS, dRet, dB, dCall, dCons, dNil, dVar, dC, dBin, dChain, asB, dTru, dNotT, dAndT, dOrT, dAnd, dOr, dNot, dIf, dUn, dTup, dLst, dItems, dYes, R.bind, R.to, O.seq, outR, ofO, noErr, mask, Sm.putIn, bindPat, bindPats, itemsOf, tru, List.foldr_cons, List.foldr_nil, List.length_cons, List.length_nil, List.map_cons, List.map_nil, List.cons_append, List.nil_append, Nat.sub_self, List.replicate_zero, List.replicate_succ, List.getElem?_cons_succ, List.getElem?_cons_zero, List.set_cons_zero, List.set_cons_succ, Nat.reduceAdd, Nat.reduceSub, ↓reduceIte, Bool.not_true, Bool.not_false, Bool.and_true, Bool.true_and, Bool.false_and, Bool.and_false, if_true, if_false, Bool.false_eq_true, oNeg, oAddI, oSubI, oAdd_ii, oLt, oLe, oGt, oGe, Option.bind_some, Option.map_some]
      rfl
    · refine ⟨[(1 + b, 1 + a), (1 + a, 0 - (1 + b)), (1 + c, 0)], none, some (.int (1 + a)), some (.int (1 + b)), ⟨rfl, by simp; omega, fun _ => by simp; grind⟩, ?_⟩
      simp only [rowsS, ea, eb, ec, oEq_int, dSl, dSo, dNo, oSl, defD, args, dSeq, dSet, dSetP, dSetN, lstAt, dApp, dAppP, dAsg, dPar, dDrop, dWhile, dIfS, dRet, dB, dCall, dCons, dNil, dVar, dC, dBin, dChain, asB, dTru, dNotT, dAndT, dOrT, dAnd, dOr, dNot, dIf, dUn, dTup, dLst, dItems, dYes, R.bind, R.to, O.seq, outR, ofO, noErr, mask, Sm.putIn, bindPat, bindPats, itemsOf, tru, List.foldr_cons, List.foldr_nil, List.length_cons, List.length_nil, List.map_cons, List.map_nil, List.cons_append, List.nil_append, Nat.sub_self, List.replicate_zero, List.replicate_succ, List.getElem?_cons_succ, List.getElem?_cons_zero, List.set_cons_zero, List.set_cons_succ, Nat.reduceAdd, Nat.reduceSub, ↓reduceIte, Bool.not_true, Bool.not_false, Bool.and_true, Bool.true_and, Bool.false_and, Bool.and_false, if_true, if_false, Bool.false_eq_true, oNeg, oAddI, oSubI, oAdd_ii, oLt, oLe, oGt, oGe, Option.bind_some, Option.map_some]
      rfl
  | false =>
    have lp : ∀ (l : List Nat) (acc : List (Int × Int)) (x9 : Option D), acc.length + l.length ≤ 10 → (∀ x ∈ acc, (1 ≤ x.1 ∧ x.1 ≤ 9) ∧ (-3 ≤ x.2 ∧ x.2 ≤ 3)) →
        ∃ (rs : List (Int × Int)) (y9 : Option D), rs.length = acc.length + l.length ∧ (∀ x ∈ rs, (1 ≤ x.1 ∧ x.1 ≤ 9) ∧ (-3 ≤ x.2 ∧ x.2 ≤ 3)) ∧ forGo (.v 9) (dApp [7] 7 (dTup (dCons (dBin oAdd (dC (.int 1)) (dCall (dPick pk) (dCons (dVar 0) (dCons (dBin oAdd (dBin oAdd (dVar 5) (dC (.int 5))) (dVar 9)) (dCons (dC (.int 9)) dNil))))) (dCons (dBin oSubI (dCall (dPick pk) (dCons (dVar 0) (dCons (dBin oAdd (dBin oAdd (dVar 5) (dC (.int 8))) (dVar 9)) (dCons (dC (.int 7)) dNil)))) (dC (.int 3))) dNil)))) (l.map fun i => D.int ((i : Nat) : Int)) [some S, x1, x2, x3, some (.bl false), some (.int base), some (.int (m : Int)), some (.lst (acc.map prD)), none, x9, none, none, none, none]
          = .nx [some S, x1, x2, x3, some (.bl false), some (.int base), some (.int (m : Int)), some (.lst (rs.map prD)), none, y9, none, none, none, none] := by
      intro l
      induction l with
      | nil => intro acc x9 _ h; exact ⟨acc, x9, by simp, h, rfl⟩
      | cons i l ih =>
        intro acc x9 hl h
        rw [List.length_cons] at hl
        obtain ⟨a, ea, a1, a2⟩ := ok (i := base + 5 + (i : Int)) (m := 9) (by omega) (by decide)
        obtain ⟨b, eb, b1, b2⟩ := ok (i := base + 8 + (i : Int)) (m := 7) (by omega) (by decide)
        obtain ⟨rs, y9, r1, r2, r3⟩ := ih (acc ++ [(1 + a, b - 3)]) (some (.int (i : Int))) (by simp; omega) (by
          intro x hx
          rcases List.mem_append.mp hx with hx | hx
          · exact h x hx
          · simp at hx; subst hx; simp; omega)
        refine ⟨rs, y9, by rw [r1]; simp; omega, r2, ?_⟩
        have hz : (acc.map prD).length + 1 ≤ sizeLine := by rw [List.length_map]; exact Nat.le_trans (by omega) sizeLine_big
        rw [List.map_append] at r3
        simp only [List.map_cons, forGo, ea, eb, if_pos hz, defD, args, dSeq, dSet, dSetP, dSetN, lstAt, dApp, dAppP, dAsg, dPar, dDrop, dWhile, dIfS, dRet, dB, dCall, dCons, dNil, dVar, dC, dBin, dChain, asB, dTru, dNotT, dAndT, dOrT, dAnd, dOr, dNot, dIf, dUn, dTup, dLst, dItems, dYes, R.bind, R.to, O.seq, outR, ofO, noErr, mask, Sm.putIn, bindPat, bindPats, itemsOf, tru, List.foldr_cons, List.foldr_nil, List.length_cons, List.length_nil, List.map_cons, List.map_nil, List.cons_append, List.nil_append, Nat.sub_self, List.replicate_zero, List.replicate_succ, List.getElem?_cons_succ, List.getElem?_cons_zero, List.set_cons_zero, List.set_cons_succ, Nat.reduceAdd, Nat.reduceSub, ↓reduceIte, Bool.not_true, Bool.not_false, Bool.and_true, Bool.true_and, Bool.false_and, Bool.and_false, if_true, if_false, Bool.false_eq_true, oNeg, oAddI, oSubI, oAdd_ii, oLt, oLe, oGt, oGe, Option.bind_some, Option.map_some]
        exact r3
    obtain ⟨rs, y9, r1, r2, r3⟩ := lp (List.range m) [] none (by simp; omega) (by simp)
    refine ⟨rs, y9, none, none, ⟨by simpa using r1, r2, fun h => nomatch h⟩, ?_⟩
    refine ifs_f (by simp only [defD, args, dSeq, dSet, dSetP, dSetN, lstAt, dApp, dAppP, dAsg, dPar, dDrop, dWhile, dIfS, dRet, dB, dCall, dCons, dNil, dVar, dC, dBin, dChain, asB, dTru, dNotT, dAndT, dOrT, dAnd, dOr, dNot, dIf, dUn, dTup, dLst, dItems, dYes, R.bind, R.to, O.seq, outR, ofO, noErr, mask, Sm.putIn, bindPat, bindPats, itemsOf, tru, List.foldr_cons, List.foldr_nil, List.length_cons, List.length_nil, List.map_cons, List.map_nil, List.cons_append, List.nil_append, Nat.sub_self, List.replicate_zero, List.replicate_succ, List.getElem?_cons_succ, List.getElem?_cons_zero, List.set_cons_zero, List.set_cons_succ, Nat.reduceAdd, Nat.reduceSub, ↓reduceIte, Bool.not_true, Bool.not_false, Bool.and_true, Bool.true_and, Bool.false_and, Bool.and_false, if_true, if_false, Bool.false_eq_true, oNeg, oAddI, oSubI, oAdd_ii, oLt, oLe, oGt, oGe, Option.bind_some, Option.map_some]) ?_
    unfold dFor
    rw [rng1_it (n := m) (by simp only [defD, args, dSeq, dSet, dSetP, dSetN, lstAt, dApp, dAppP, dAsg, dPar, dDrop, dWhile, dIfS, dRet, dB, dCall, dCons, dNil, dVar, dC, dBin, dChain, asB, dTru, dNotT, dAndT, dOrT, dAnd, dOr, dNot, dIf, dUn, dTup, dLst, dItems, dYes, R.bind, R.to, O.seq, outR, ofO, noErr, mask, Sm.putIn, bindPat, bindPats, itemsOf, tru, List.foldr_cons, List.foldr_nil, List.length_cons, List.length_nil, List.map_cons, List.map_nil, List.cons_append, List.nil_append, Nat.sub_self, List.replicate_zero, List.replicate_succ, List.getElem?_cons_succ, List.getElem?_cons_zero, List.set_cons_zero, List.set_cons_succ, Nat.reduceAdd, Nat.reduceSub, ↓reduceIte, Bool.not_true, Bool.not_false, Bool.and_true, Bool.true_and, Bool.false_and, Bool.and_false, if_true, if_false, Bool.false_eq_true, oNeg, oAddI, oSubI, oAdd_ii, oLt, oLe, oGt, oGe, Option.bind_some, Option.map_some]) (by omega)]
    exact r3
def subsS (self : List D → R D) : DS := (dApp [8] 8 (dTup (dCons (dVar 10) (dCons (dCall self (dCons (dVar 0) (dCons (dBin oAdd (dBin oAdd (dBin oMul (dC (.int 4)) (dVar 1)) (dC (.int 1))) (dVar 9)) (dCons (dBin oAdd (dVar 2) (dVar 11)) (dCons (dBin oSubI (dVar 3) (dC (.int 1))) (dCons (dVar 4) dNil)))))) dNil))))
structure Drawn (deep : Nat) (top : Int) (even : Bool) (g : Game) : Prop where
  ok : g.Ok deep
  worth : g.worth = top
  fair : even = true → g.Fair deep
  steps : g.Steps deep
theorem subs_okS {pk : Nat → Int → Int} {S : D} {n deep : Nat} {at_ : Nat} {top : Int} {even : Bool} (x5 x6 x7 x12 x13 : Option D)
    (ih : ∀ (k : Nat) (t : Int), 2 ≤ k → (t.natAbs : Int) + 3 * ((deep : Int) - 1) ≤ 20 → ∃ g, d__law_game pk n [S, .int (k : Int), .int t, .int (deep : Int), .bl even] = .ok g.enc ∧ Drawn deep t even g) (hat : 1 ≤ at_) (ht : (top.natAbs : Int) + 3 * (deep : Int) ≤ 20) :
    ∀ (rs : List (Int × Int)) (k : Nat) (acc : List (Int × Game)) (x9 x10 x11 : Option D), (∀ x ∈ rs, (1 ≤ x.1 ∧ x.1 ≤ 9) ∧ (-3 ≤ x.2 ∧ x.2 ≤ 3)) → acc.length + rs.length ≤ 10 →
    ∃ (ws : List (Int × Game)) (y9 y10 y11 : Option D), ws.map (fun p => (p.1, p.2.worth - top)) = rs ∧ (∀ p ∈ ws, Drawn deep p.2.worth even p.2) ∧
      forGo (.t [(.v 9), (.t [(.v 10), (.v 11)])]) (subsS (d__law_game pk n)) (enumFrom k (rs.map prD)) [some S, some (.int (at_ : Int)), some (.int top), some (.int ((deep : Int) + 1)), some (.bl even), x5, x6, x7, some (.lst (encW acc)), x9, x10, x11, x12, x13]
        = .nx [some S, some (.int (at_ : Int)), some (.int top), some (.int ((deep : Int) + 1)), some (.bl even), x5, x6, x7, some (.lst (encW (acc ++ ws))), y9, y10, y11, x12, x13]
  | [], k, acc, x9, x10, x11, _, _ => ⟨[], x9, x10, x11, rfl, by simp, by simp [enumFrom, forGo]⟩
  | x :: rs, k, acc, x9, x10, x11, hb, hl => by
    rw [List.length_cons] at hl
    have hx := hb x (by simp)
    obtain ⟨g, eg, dg⟩ := ih (4 * at_ + 1 + k) (top + x.2) (by omega) (by omega)
    obtain ⟨ws, y9, y10, y11, e1, e2, e3⟩ := subs_okS x5 x6 x7 x12 x13 ih hat ht rs (k + 1) (acc ++ [(x.1, g)]) (some (.int (k : Int))) (some (.int x.1)) (some (.int x.2)) (fun y hy => hb y (by simp [hy])) (by simp; omega)
    refine ⟨(x.1, g) :: ws, y9, y10, y11, ?_, ?_, ?_⟩
    · rw [List.map_cons, e1, dg.worth]
      rw [show top + x.2 - top = x.2 by omega]
    · intro p hp
      rcases List.mem_cons.mp hp with rfl | hp
      · show Drawn deep g.worth even g
        rw [dg.worth]; exact dg
      · exact e2 p hp
    · rw [show enumFrom k ((x :: rs).map prD) = .tup [.int (k : Int), .tup [.int x.1, .int x.2]] :: enumFrom (k + 1) (rs.map prD) from rfl]
      unfold forGo
      rw [show bindPat (.t [(.v 9), (.t [(.v 10), (.v 11)])]) (.tup [.int (k : Int), .tup [.int x.1, .int x.2]]) [some S, some (.int (at_ : Int)), some (.int top), some (.int ((deep : Int) + 1)), some (.bl even), x5, x6, x7, some (.lst (encW acc)), x9, x10, x11, x12, x13]
        = some [some S, some (.int (at_ : Int)), some (.int top), some (.int ((deep : Int) + 1)), some (.bl even), x5, x6, x7, some (.lst (encW acc)), some (.int (k : Int)), some (.int x.1), some (.int x.2), x12, x13] from rfl]
      have m1 : oMul (.int 4) (.int (at_ : Int)) = some (.int (4 * (at_ : Int))) := oMul_ok (mulOk_l (by decide))
      have hz : (encW acc).length + 1 ≤ sizeLine := by unfold encW; rw [List.length_map]; exact Nat.le_trans (by omega) sizeLine_big
      rw [show ((4 * at_ + 1 + k : Nat) : Int) = 4 * (at_ : Int) + 1 + (k : Int) by omega] at eg
      have st : subsS (d__law_game pk n) [some S, some (.int (at_ : Int)), some (.int top), some (.int ((deep : Int) + 1)), some (.bl even), x5, x6, x7, some (.lst (encW acc)), some (.int (k : Int)), some (.int x.1), some (.int x.2), x12, x13]
          = .nx [some S, some (.int (at_ : Int)), some (.int top), some (.int ((deep : Int) + 1)), some (.bl even), x5, x6, x7, some (.lst (encW (acc ++ [(x.1, g)]))), some (.int (k : Int)), some (.int x.1), some (.int x.2), x12, x13] := by
        rw [show encW (acc ++ [(x.1, g)]) = encW acc ++ [.tup [.int x.1, g.enc]] by simp [encW]]
        simp only [subsS, m1, show (deep : Int) + 1 - 1 = (deep : Int) by omega, eg, if_pos hz, defD, args, dSeq, dSet, dSetP, dSetN, lstAt, dApp, dAppP, dAsg, dPar, dDrop, dWhile, dIfS, dRet, dB, dCall, dCons, dNil, dVar, dC, dBin, dChain, asB, dTru, dNotT, dAndT, dOrT, dAnd, dOr, dNot, dIf, dUn, dTup, dLst, dItems, dYes, R.bind, R.to, O.seq, outR, ofO, noErr, mask, Sm.putIn, bindPat, bindPats, itemsOf, tru, List.foldr_cons, List.foldr_nil, List.length_cons, List.length_nil, List.map_cons, List.map_nil, List.cons_append, List.nil_append, Nat.sub_self, List.replicate_zero, List.replicate_succ, List.getElem?_cons_succ, List.getElem?_cons_zero, List.set_cons_zero, List.set_cons_succ, Nat.reduceAdd, Nat.reduceSub, ↓reduceIte, Bool.not_true, Bool.not_false, Bool.and_true, Bool.true_and, Bool.false_and, Bool.and_false, if_true, if_false, Bool.false_eq_true, oNeg, oAddI, oSubI, oAdd_ii, oLt, oLe, oGt, oGe, Option.bind_some, Option.map_some]
      simp only [st, O.seq]
      rw [e3, List.append_assoc]
      rfl
theorem game_drawnS {pk : Nat → Int → Int} {S : D} (ok : PickS pk S) (even : Bool) : ∀ (deep n : Nat) (at_ : Nat) (top : Int), 1 ≤ deep → deep ≤ n → 1 ≤ at_ → (top.natAbs : Int) + 3 * ((deep : Int) - 1) ≤ 20 →
    ∃ g, d__law_game pk n [S, .int (at_ : Int), .int top, .int (deep : Int), .bl even] = .ok g.enc ∧ Drawn deep top even g ∧ (at_ = 1 → 2 ≤ deep → g.ways ≠ [])
  | 0, _, _, _, h, _, _, _ => by omega
  | deep + 1, 0, _, _, _, h, _, _ => by omega
  | deep + 1, n + 1, at_, top, _, hn, hat, ht => by
    obtain ⟨p, ep, p1, p2⟩ := ok (i := 20 * (at_ : Int)) (m := 5) (by omega) (by decide)
    obtain ⟨m0, hm0, e0⟩ := many_ok ⟨p1, p2⟩
    have m1 : oMul (.int 20) (.int (at_ : Int)) = some (.int (20 * (at_ : Int))) := oMul_ok (mulOk_l (by decide))
    obtain ⟨m, hm, hm1, st3⟩ : ∃ m : Nat, m ≤ 3 ∧ (at_ = 1 → 1 ≤ m) ∧ dIfS (asB (dBin oEq (dVar 1) (dC (.int 1)))) (dSet [] 6 (dB oMax2 (dCons (dC (.int 1)) (dCons (dVar 6) dNil)))) .nx [some S, some (.int (at_ : Int)), some (.int top), some (.int ((deep + 1 : Nat) : Int)), some (.bl even), some (.int (20 * (at_ : Int))), some (.int (m0 : Int)), none, none, none, none, none, none, none]
        = .nx [some S, some (.int (at_ : Int)), some (.int top), some (.int ((deep + 1 : Nat) : Int)), some (.bl even), some (.int (20 * (at_ : Int))), some (.int (m : Int)), none, none, none, none, none, none, none] := by
      by_cases ha : at_ = 1
      · have hb : ((at_ : Int) == 1) = true := by simp; omega
        refine ⟨max 1 m0, by omega, fun _ => by omega, ?_⟩
        have : (if (m0 : Int) > 1 then (m0 : Int) else 1) = ((max 1 m0 : Nat) : Int) := by split <;> omega
        simp only [oEq_int, hb, oMax2, this, defD, args, dSeq, dSet, dSetP, dSetN, lstAt, dApp, dAppP, dAsg, dPar, dDrop, dWhile, dIfS, dRet, dB, dCall, dCons, dNil, dVar, dC, dBin, dChain, asB, dTru, dNotT, dAndT, dOrT, dAnd, dOr, dNot, dIf, dUn, dTup, dLst, dItems, dYes, R.bind, R.to, O.seq, outR, ofO, noErr, mask, Sm.putIn, bindPat, bindPats, itemsOf, tru, List.foldr_cons, List.foldr_nil, List.length_cons, List.length_nil, List.map_cons, List.map_nil, List.cons_append, List.nil_append, Nat.sub_self, List.replicate_zero, List.replicate_succ, List.getElem?_cons_succ, List.getElem?_cons_zero, List.set_cons_zero, List.set_cons_succ, Nat.reduceAdd, Nat.reduceSub, ↓reduceIte, Bool.not_true, Bool.not_false, Bool.and_true, Bool.true_and, Bool.false_and, Bool.and_false, if_true, if_false, Bool.false_eq_true, oNeg, oAddI, oSubI, oAdd_ii, oLt, oLe, oGt, oGe, Option.bind_some, Option.map_some]
      · have hb : ((at_ : Int) == 1) = false := by simp; omega
        exact ⟨m0, hm0, fun h => absurd h ha, by simp only [oEq_int, hb, defD, args, dSeq, dSet, dSetP, dSetN, lstAt, dApp, dAppP, dAsg, dPar, dDrop, dWhile, dIfS, dRet, dB, dCall, dCons, dNil, dVar, dC, dBin, dChain, asB, dTru, dNotT, dAndT, dOrT, dAnd, dOr, dNot, dIf, dUn, dTup, dLst, dItems, dYes, R.bind, R.to, O.seq, outR, ofO, noErr, mask, Sm.putIn, bindPat, bindPats, itemsOf, tru, List.foldr_cons, List.foldr_nil, List.length_cons, List.length_nil, List.map_cons, List.map_nil, List.cons_append, List.nil_append, Nat.sub_self, List.replicate_zero, List.replicate_succ, List.getElem?_cons_succ, List.getElem?_cons_zero, List.set_cons_zero, List.set_cons_succ, Nat.reduceAdd, Nat.reduceSub, ↓reduceIte, Bool.not_true, Bool.not_false, Bool.and_true, Bool.true_and, Bool.false_and, Bool.and_false, if_true, if_false, Bool.false_eq_true, oNeg, oAddI, oSubI, oAdd_ii, oLt, oLe, oGt, oGe, Option.bind_some, Option.map_some]⟩
    have d1 : ((((deep + 1 : Nat) : Int)) == 1) = decide (deep = 0) := by
      by_cases h : deep = 0
      · subst h; rfl
      · rw [decide_eq_false h]; simp; omega
    have z1 : (((m : Nat) : Int) == 0) = decide (m = 0) := by
      by_cases h : m = 0
      · subst h; rfl
      · rw [decide_eq_false h]; simp; omega
    by_cases hend : deep = 0 ∨ m = 0
    · refine ⟨.node top [], ?_, ⟨⟨by omega, by simp, by simp⟩, rfl, fun _ => ⟨by simp, by simp⟩, fun p hp => nomatch hp⟩, fun h1 h2 => ?_⟩
      · refine defD_eq rfl ?_
        unfold b__law_game
        refine out_seq (ρ1 := [some S, some (.int (at_ : Int)), some (.int top), some (.int ((deep + 1 : Nat) : Int)), some (.bl even), some (.int (20 * (at_ : Int))), none, none, none, none, none, none, none, none]) ?_ ?_
        · simp only [m1, defD, args, dSeq, dSet, dSetP, dSetN, lstAt, dApp, dAppP, dAsg, dPar, dDrop, dWhile, dIfS, dRet, dB, dCall, dCons, dNil, dVar, dC, dBin, dChain, asB, dTru, dNotT, dAndT, dOrT, dAnd, dOr, dNot, dIf, dUn, dTup, dLst, dItems, dYes, R.bind, R.to, O.seq, outR, ofO, noErr, mask, Sm.putIn, bindPat, bindPats, itemsOf, tru, List.foldr_cons, List.foldr_nil, List.length_cons, List.length_nil, List.map_cons, List.map_nil, List.cons_append, List.nil_append, Nat.sub_self, List.replicate_zero, List.replicate_succ, List.getElem?_cons_succ, List.getElem?_cons_zero, List.set_cons_zero, List.set_cons_succ, Nat.reduceAdd, Nat.reduceSub, ↓reduceIte, Bool.not_true, Bool.not_false, Bool.and_true, Bool.true_and, Bool.false_and, Bool.and_false, if_true, if_false, Bool.false_eq_true, oNeg, oAddI, oSubI, oAdd_ii, oLt, oLe, oGt, oGe, Option.bind_some, Option.map_some]
        refine out_seq (ρ1 := [some S, some (.int (at_ : Int)), some (.int top), some (.int ((deep + 1 : Nat) : Int)), some (.bl even), some (.int (20 * (at_ : Int))), some (.int (m0 : Int)), none, none, none, none, none, none, none]) ?_ ?_
        · simp only [ep, e0, defD, args, dSeq, dSet, dSetP, dSetN, lstAt, dApp, dAppP, dAsg, dPar, dDrop, dWhile, dIfS, dRet, dB, dCall, dCons, dNil, dVar, dC, dBin, dChain, asB, dTru, dNotT, dAndT, dOrT, dAnd, dOr, dNot, dIf, dUn, dTup, dLst, dItems, dYes, R.bind, R.to, O.seq, outR, ofO, noErr, mask, Sm.putIn, bindPat, bindPats, itemsOf, tru, List.foldr_cons, List.foldr_nil, List.length_cons, List.length_nil, List.map_cons, List.map_nil, List.cons_append, List.nil_append, Nat.sub_self, List.replicate_zero, List.replicate_succ, List.getElem?_cons_succ, List.getElem?_cons_zero, List.set_cons_zero, List.set_cons_succ, Nat.reduceAdd, Nat.reduceSub, ↓reduceIte, Bool.not_true, Bool.not_false, Bool.and_true, Bool.true_and, Bool.false_and, Bool.and_false, if_true, if_false, Bool.false_eq_true, oNeg, oAddI, oSubI, oAdd_ii, oLt, oLe, oGt, oGe, Option.bind_some, Option.map_some]
        refine out_seq st3 (out_seqR ?_)
        rw [enc_end]
        by_cases h2 : deep = 0
        · rw [decide_eq_true h2] at d1
          simp only [oEq_int, d1, defD, args, dSeq, dSet, dSetP, dSetN, lstAt, dApp, dAppP, dAsg, dPar, dDrop, dWhile, dIfS, dRet, dB, dCall, dCons, dNil, dVar, dC, dBin, dChain, asB, dTru, dNotT, dAndT, dOrT, dAnd, dOr, dNot, dIf, dUn, dTup, dLst, dItems, dYes, R.bind, R.to, O.seq, outR, ofO, noErr, mask, Sm.putIn, bindPat, bindPats, itemsOf, tru, List.foldr_cons, List.foldr_nil, List.length_cons, List.length_nil, List.map_cons, List.map_nil, List.cons_append, List.nil_append, Nat.sub_self, List.replicate_zero, List.replicate_succ, List.getElem?_cons_succ, List.getElem?_cons_zero, List.set_cons_zero, List.set_cons_succ, Nat.reduceAdd, Nat.reduceSub, ↓reduceIte, Bool.not_true, Bool.not_false, Bool.and_true, Bool.true_and, Bool.false_and, Bool.and_false, if_true, if_false, Bool.false_eq_true, oNeg, oAddI, oSubI, oAdd_ii, oLt, oLe, oGt, oGe, Option.bind_some, Option.map_some]
        · have h : m = 0 := hend.resolve_left h2
          rw [decide_eq_false h2] at d1
          rw [decide_eq_true h] at z1
          simp only [oEq_int, d1, z1, defD, args, dSeq, dSet, dSetP, dSetN, lstAt, dApp, dAppP, dAsg, dPar, dDrop, dWhile, dIfS, dRet, dB, dCall, dCons, dNil, dVar, dC, dBin, dChain, asB, dTru, dNotT, dAndT, dOrT, dAnd, dOr, dNot, dIf, dUn, dTup, dLst, dItems, dYes, R.bind, R.to, O.seq, outR, ofO, noErr, mask, Sm.putIn, bindPat, bindPats, itemsOf, tru, List.foldr_cons, List.foldr_nil, List.length_cons, List.length_nil, List.map_cons, List.map_nil, List.cons_append, List.nil_append, Nat.sub_self, List.replicate_zero, List.replicate_succ, List.getElem?_cons_succ, List.getElem?_cons_zero, List.set_cons_zero, List.set_cons_succ, Nat.reduceAdd, Nat.reduceSub, ↓reduceIte, Bool.not_true, Bool.not_false, Bool.and_true, Bool.true_and, Bool.false_and, Bool.and_false, if_true, if_false, Bool.false_eq_true, oNeg, oAddI, oSubI, oAdd_ii, oLt, oLe, oGt, oGe, Option.bind_some, Option.map_some]
      · rcases hend with h | h
        · omega
        · have := hm1 h1; omega
    · have hd : deep ≠ 0 := fun h => hend (.inl h)
      have hm0' : m ≠ 0 := fun h => hend (.inr h)
      obtain ⟨rs, y9, y12, y13, hR, er⟩ := rows_okS ok (some (.int (at_ : Int))) (some (.int top)) (some (.int ((deep + 1 : Nat) : Int))) even (base := 20 * (at_ : Int)) (by omega) (m := m) (by omega)
      obtain ⟨q, eq, _, _⟩ := ok (i := 20 * (at_ : Int) + 4) (m := 2) (by omega) (by decide)
      obtain ⟨rs', hR', st7⟩ : ∃ rs', Rows m even rs' ∧ dIfS (asB (dBin oEq (dCall (dPick pk) (dCons (dVar 0) (dCons (dBin oAdd (dVar 5) (dC (.int 4))) (dCons (dC (.int 2)) dNil)))) (dC (.int 0)))) (dSet [] 7 (dUn oRevA (dVar 7))) .nx [some S, some (.int (at_ : Int)), some (.int top), some (.int ((deep + 1 : Nat) : Int)), some (.bl even), some (.int (20 * (at_ : Int))), some (.int (m : Int)), some (.lst (rs.map prD)), none, y9, none, none, y12, y13]
          = .nx [some S, some (.int (at_ : Int)), some (.int top), some (.int ((deep + 1 : Nat) : Int)), some (.bl even), some (.int (20 * (at_ : Int))), some (.int (m : Int)), some (.lst (rs'.map prD)), none, y9, none, none, y12, y13] := by
        cases hq : (q == 0) with
        | true => exact ⟨rs.reverse, hR.rev, by rw [List.map_reverse]; simp only [eq, oEq_int, hq, oRevA, defD, args, dSeq, dSet, dSetP, dSetN, lstAt, dApp, dAppP, dAsg, dPar, dDrop, dWhile, dIfS, dRet, dB, dCall, dCons, dNil, dVar, dC, dBin, dChain, asB, dTru, dNotT, dAndT, dOrT, dAnd, dOr, dNot, dIf, dUn, dTup, dLst, dItems, dYes, R.bind, R.to, O.seq, outR, ofO, noErr, mask, Sm.putIn, bindPat, bindPats, itemsOf, tru, List.foldr_cons, List.foldr_nil, List.length_cons, List.length_nil, List.map_cons, List.map_nil, List.cons_append, List.nil_append, Nat.sub_self, List.replicate_zero, List.replicate_succ, List.getElem?_cons_succ, List.getElem?_cons_zero, List.set_cons_zero, List.set_cons_succ, Nat.reduceAdd, Nat.reduceSub, ↓reduceIte, Bool.not_true, Bool.not_false, Bool.and_true, Bool.true_and, Bool.false_and, Bool.and_false, if_true, if_false, Bool.false_eq_true, oNeg, oAddI, oSubI, oAdd_ii, oLt, oLe, oGt, oGe, Option.bind_some, Option.map_some]⟩
        | false => exact ⟨rs, hR, by simp only [eq, oEq_int, hq, defD, args, dSeq, dSet, dSetP, dSetN, lstAt, dApp, dAppP, dAsg, dPar, dDrop, dWhile, dIfS, dRet, dB, dCall, dCons, dNil, dVar, dC, dBin, dChain, asB, dTru, dNotT, dAndT, dOrT, dAnd, dOr, dNot, dIf, dUn, dTup, dLst, dItems, dYes, R.bind, R.to, O.seq, outR, ofO, noErr, mask, Sm.putIn, bindPat, bindPats, itemsOf, tru, List.foldr_cons, List.foldr_nil, List.length_cons, List.length_nil, List.map_cons, List.map_nil, List.cons_append, List.nil_append, Nat.sub_self, List.replicate_zero, List.replicate_succ, List.getElem?_cons_succ, List.getElem?_cons_zero, List.set_cons_zero, List.set_cons_succ, Nat.reduceAdd, Nat.reduceSub, ↓reduceIte, Bool.not_true, Bool.not_false, Bool.and_true, Bool.true_and, Bool.false_and, Bool.and_false, if_true, if_false, Bool.false_eq_true, oNeg, oAddI, oSubI, oAdd_ii, oLt, oLe, oGt, oGe, Option.bind_some, Option.map_some]⟩
      obtain ⟨ws, z9, z10, z11, w1, w2, ew⟩ := subs_okS (pk := pk) (n := n) (deep := deep) (at_ := at_) (top := top) (even := even) (some (.int (20 * (at_ : Int)))) (some (.int (m : Int))) (some (.lst (rs'.map prD))) y12 y13
        (fun k t hk htt => by
          obtain ⟨g, a1, a2, _⟩ := game_drawnS ok even deep n k t (by omega) (by omega) (by omega) htt
          exact ⟨g, a1, a2⟩) hat (by omega) rs' 0 [] y9 none none hR'.bd (by rw [hR'.len]; simp; omega)
      have hlen : ws.length = m := by rw [← hR'.len, ← w1, List.length_map]
      have hne : ws ≠ [] := fun h => by rw [h] at hlen; simp at hlen; omega
      refine ⟨.node top ws, ?_, ⟨⟨by omega, by omega, fun p hp => ⟨?_, (w2 p hp).ok⟩⟩, rfl, fun he => ⟨?_, fun p hp => (w2 p hp).fair he⟩, fun p hp => ⟨?_, (w2 p hp).steps⟩⟩, fun _ _ => hne⟩
      · refine defD_eq rfl ?_
        unfold b__law_game
        refine out_seq (ρ1 := [some S, some (.int (at_ : Int)), some (.int top), some (.int ((deep + 1 : Nat) : Int)), some (.bl even), some (.int (20 * (at_ : Int))), none, none, none, none, none, none, none, none]) ?_ ?_
        · simp only [m1, defD, args, dSeq, dSet, dSetP, dSetN, lstAt, dApp, dAppP, dAsg, dPar, dDrop, dWhile, dIfS, dRet, dB, dCall, dCons, dNil, dVar, dC, dBin, dChain, asB, dTru, dNotT, dAndT, dOrT, dAnd, dOr, dNot, dIf, dUn, dTup, dLst, dItems, dYes, R.bind, R.to, O.seq, outR, ofO, noErr, mask, Sm.putIn, bindPat, bindPats, itemsOf, tru, List.foldr_cons, List.foldr_nil, List.length_cons, List.length_nil, List.map_cons, List.map_nil, List.cons_append, List.nil_append, Nat.sub_self, List.replicate_zero, List.replicate_succ, List.getElem?_cons_succ, List.getElem?_cons_zero, List.set_cons_zero, List.set_cons_succ, Nat.reduceAdd, Nat.reduceSub, ↓reduceIte, Bool.not_true, Bool.not_false, Bool.and_true, Bool.true_and, Bool.false_and, Bool.and_false, if_true, if_false, Bool.false_eq_true, oNeg, oAddI, oSubI, oAdd_ii, oLt, oLe, oGt, oGe, Option.bind_some, Option.map_some]
        refine out_seq (ρ1 := [some S, some (.int (at_ : Int)), some (.int top), some (.int ((deep + 1 : Nat) : Int)), some (.bl even), some (.int (20 * (at_ : Int))), some (.int (m0 : Int)), none, none, none, none, none, none, none]) ?_ ?_
        · simp only [ep, e0, defD, args, dSeq, dSet, dSetP, dSetN, lstAt, dApp, dAppP, dAsg, dPar, dDrop, dWhile, dIfS, dRet, dB, dCall, dCons, dNil, dVar, dC, dBin, dChain, asB, dTru, dNotT, dAndT, dOrT, dAnd, dOr, dNot, dIf, dUn, dTup, dLst, dItems, dYes, R.bind, R.to, O.seq, outR, ofO, noErr, mask, Sm.putIn, bindPat, bindPats, itemsOf, tru, List.foldr_cons, List.foldr_nil, List.length_cons, List.length_nil, List.map_cons, List.map_nil, List.cons_append, List.nil_append, Nat.sub_self, List.replicate_zero, List.replicate_succ, List.getElem?_cons_succ, List.getElem?_cons_zero, List.set_cons_zero, List.set_cons_succ, Nat.reduceAdd, Nat.reduceSub, ↓reduceIte, Bool.not_true, Bool.not_false, Bool.and_true, Bool.true_and, Bool.false_and, Bool.and_false, if_true, if_false, Bool.false_eq_true, oNeg, oAddI, oSubI, oAdd_ii, oLt, oLe, oGt, oGe, Option.bind_some, Option.map_some]
        refine out_seq st3 ?_
        refine out_seq (ρ1 := [some S, some (.int (at_ : Int)), some (.int top), some (.int ((deep + 1 : Nat) : Int)), some (.bl even), some (.int (20 * (at_ : Int))), some (.int (m : Int)), none, none, none, none, none, none, none]) ?_ ?_
        · simp only [oEq_int, d1, z1, decide_eq_false hd, decide_eq_false hm0', defD, args, dSeq, dSet, dSetP, dSetN, lstAt, dApp, dAppP, dAsg, dPar, dDrop, dWhile, dIfS, dRet, dB, dCall, dCons, dNil, dVar, dC, dBin, dChain, asB, dTru, dNotT, dAndT, dOrT, dAnd, dOr, dNot, dIf, dUn, dTup, dLst, dItems, dYes, R.bind, R.to, O.seq, outR, ofO, noErr, mask, Sm.putIn, bindPat, bindPats, itemsOf, tru, List.foldr_cons, List.foldr_nil, List.length_cons, List.length_nil, List.map_cons, List.map_nil, List.cons_append, List.nil_append, Nat.sub_self, List.replicate_zero, List.replicate_succ, List.getElem?_cons_succ, List.getElem?_cons_zero, List.set_cons_zero, List.set_cons_succ, Nat.reduceAdd, Nat.reduceSub, ↓reduceIte, Bool.not_true, Bool.not_false, Bool.and_true, Bool.true_and, Bool.false_and, Bool.and_false, if_true, if_false, Bool.false_eq_true, oNeg, oAddI, oSubI, oAdd_ii, oLt, oLe, oGt, oGe, Option.bind_some, Option.map_some]
        refine out_seq (ρ1 := [some S, some (.int (at_ : Int)), some (.int top), some (.int ((deep + 1 : Nat) : Int)), some (.bl even), some (.int (20 * (at_ : Int))), some (.int (m : Int)), some (.lst []), none, none, none, none, none, none]) ?_ ?_
        · simp only [defD, args, dSeq, dSet, dSetP, dSetN, lstAt, dApp, dAppP, dAsg, dPar, dDrop, dWhile, dIfS, dRet, dB, dCall, dCons, dNil, dVar, dC, dBin, dChain, asB, dTru, dNotT, dAndT, dOrT, dAnd, dOr, dNot, dIf, dUn, dTup, dLst, dItems, dYes, R.bind, R.to, O.seq, outR, ofO, noErr, mask, Sm.putIn, bindPat, bindPats, itemsOf, tru, List.foldr_cons, List.foldr_nil, List.length_cons, List.length_nil, List.map_cons, List.map_nil, List.cons_append, List.nil_append, Nat.sub_self, List.replicate_zero, List.replicate_succ, List.getElem?_cons_succ, List.getElem?_cons_zero, List.set_cons_zero, List.set_cons_succ, Nat.reduceAdd, Nat.reduceSub, ↓reduceIte, Bool.not_true, Bool.not_false, Bool.and_true, Bool.true_and, Bool.false_and, Bool.and_false, if_true, if_false, Bool.false_eq_true, oNeg, oAddI, oSubI, oAdd_ii, oLt, oLe, oGt, oGe, Option.bind_some, Option.map_some]
        refine out_seq er (out_seq st7 ?_)
        refine out_seq (ρ1 := [some S, some (.int (at_ : Int)), some (.int top), some (.int ((deep + 1 : Nat) : Int)), some (.bl even), some (.int (20 * (at_ : Int))), some (.int (m : Int)), some (.lst (rs'.map prD)), some (.lst []), y9, none, none, y12, y13]) ?_ ?_
        · simp only [defD, args, dSeq, dSet, dSetP, dSetN, lstAt, dApp, dAppP, dAsg, dPar, dDrop, dWhile, dIfS, dRet, dB, dCall, dCons, dNil, dVar, dC, dBin, dChain, asB, dTru, dNotT, dAndT, dOrT, dAnd, dOr, dNot, dIf, dUn, dTup, dLst, dItems, dYes, R.bind, R.to, O.seq, outR, ofO, noErr, mask, Sm.putIn, bindPat, bindPats, itemsOf, tru, List.foldr_cons, List.foldr_nil, List.length_cons, List.length_nil, List.map_cons, List.map_nil, List.cons_append, List.nil_append, Nat.sub_self, List.replicate_zero, List.replicate_succ, List.getElem?_cons_succ, List.getElem?_cons_zero, List.set_cons_zero, List.set_cons_succ, Nat.reduceAdd, Nat.reduceSub, ↓reduceIte, Bool.not_true, Bool.not_false, Bool.and_true, Bool.true_and, Bool.false_and, Bool.and_false, if_true, if_false, Bool.false_eq_true, oNeg, oAddI, oSubI, oAdd_ii, oLt, oLe, oGt, oGe, Option.bind_some, Option.map_some]
        refine out_seq (ρ1 := [some S, some (.int (at_ : Int)), some (.int top), some (.int ((deep : Int) + 1)), some (.bl even), some (.int (20 * (at_ : Int))), some (.int (m : Int)), some (.lst (rs'.map prD)), some (.lst (encW ([] ++ ws))), z9, z10, z11, y12, y13]) ?_ (ret_of ?_)
        · unfold dFor
          rw [enum_itL (ds := rs'.map prD) (by simp only [defD, args, dSeq, dSet, dSetP, dSetN, lstAt, dApp, dAppP, dAsg, dPar, dDrop, dWhile, dIfS, dRet, dB, dCall, dCons, dNil, dVar, dC, dBin, dChain, asB, dTru, dNotT, dAndT, dOrT, dAnd, dOr, dNot, dIf, dUn, dTup, dLst, dItems, dYes, R.bind, R.to, O.seq, outR, ofO, noErr, mask, Sm.putIn, bindPat, bindPats, itemsOf, tru, List.foldr_cons, List.foldr_nil, List.length_cons, List.length_nil, List.map_cons, List.map_nil, List.cons_append, List.nil_append, Nat.sub_self, List.replicate_zero, List.replicate_succ, List.getElem?_cons_succ, List.getElem?_cons_zero, List.set_cons_zero, List.set_cons_succ, Nat.reduceAdd, Nat.reduceSub, ↓reduceIte, Bool.not_true, Bool.not_false, Bool.and_true, Bool.true_and, Bool.false_and, Bool.and_false, if_true, if_false, Bool.false_eq_true, oNeg, oAddI, oSubI, oAdd_ii, oLt, oLe, oGt, oGe, Option.bind_some, Option.map_some])]
          exact ew
        · cases ws with
          | nil => exact absurd rfl hne
          | cons x ws =>
            rw [enc_go, List.nil_append]
            show _ = Sm.R.ok (D.tup [D.int top, D.tup (encW (x :: ws))])
            generalize encW (x :: ws) = E
            simp only [oTuple, defD, args, dSeq, dSet, dSetP, dSetN, lstAt, dApp, dAppP, dAsg, dPar, dDrop, dWhile, dIfS, dRet, dB, dCall, dCons, dNil, dVar, dC, dBin, dChain, asB, dTru, dNotT, dAndT, dOrT, dAnd, dOr, dNot, dIf, dUn, dTup, dLst, dItems, dYes, R.bind, R.to, O.seq, outR, ofO, noErr, mask, Sm.putIn, bindPat, bindPats, itemsOf, tru, List.foldr_cons, List.foldr_nil, List.length_cons, List.length_nil, List.map_cons, List.map_nil, List.cons_append, List.nil_append, Nat.sub_self, List.replicate_zero, List.replicate_succ, List.getElem?_cons_succ, List.getElem?_cons_zero, List.set_cons_zero, List.set_cons_succ, Nat.reduceAdd, Nat.reduceSub, ↓reduceIte, Bool.not_true, Bool.not_false, Bool.and_true, Bool.true_and, Bool.false_and, Bool.and_false, if_true, if_false, Bool.false_eq_true, oNeg, oAddI, oSubI, oAdd_ii, oLt, oLe, oGt, oGe, Option.bind_some, Option.map_some]
      · have : (p.1, p.2.worth - top) ∈ rs' := by rw [← w1]; exact List.mem_map.mpr ⟨p, hp, rfl⟩
        exact (hR'.bd _ this).1
      · have := hR'.fair he
        rw [← w1, List.map_map] at this
        exact this
      · have : (p.1, p.2.worth - top) ∈ rs' := by rw [← w1]; exact List.mem_map.mpr ⟨p, hp, rfl⟩
        exact (hR'.bd _ this).2
theorem game_drawn {pk : Nat → Int → Int} (ok : PkOk pk) (even : Bool) (deep n : Nat) (at_ : Nat) (top : Int) (h1 : 1 ≤ deep) (h2 : deep ≤ n) (h3 : 1 ≤ at_) (h4 : (top.natAbs : Int) + 3 * ((deep : Int) - 1) ≤ 20) :
    ∃ g, d__law_game pk n [.scr0, .int (at_ : Int), .int top, .int (deep : Int), .bl even] = .ok g.enc ∧ Drawn deep top even g ∧ (at_ = 1 → 2 ≤ deep → g.ways ≠ []) := game_drawnS (pickS0 ok) even deep n at_ top h1 h2 h3 h4
theorem drawn_ok {pk : Nat → Int → Int} (ok : PkOk pk) (deep : Nat) (hd : 1 ≤ deep ∧ deep ≤ 4) : ∃ g even top, d__law_drawn pk [.scr0, .int (deep : Int)] = .ok g.enc ∧ Drawn deep top even g ∧ (2 ≤ deep → g.ways ≠ []) ∧ even = (pk 1 2 == 0) ∧ -6 ≤ top ∧ top ≤ 6 := by
  obtain ⟨t, et, t1, t2⟩ := pickD ok (i := 0) (m := 13) (by decide) (by decide)
  have e1 := dPick_ok pk 1 (m := 2) (by decide)
  obtain ⟨g, eg, dg, hw⟩ := game_drawn ok (pk 1 2 == 0) deep 8 1 (t - 6) hd.1 (by omega) (by decide) (by omega)
  refine ⟨g, _, _, ?_, dg, hw rfl, rfl, by omega, by omega⟩
  simp only [d__law_drawn, b__law_drawn, et, show dPick pk [.scr0, .int 1, .int 2] = _ from e1, oEq_int, show d__law_game pk 8 [.scr0, .int 1, .int (t - 6), .int (deep : Int), .bl (pk 1 2 == 0)] = _ from eg, defD, args, dSeq, dSet, dSetP, dSetN, lstAt, dApp, dAppP, dAsg, dPar, dDrop, dWhile, dIfS, dRet, dB, dCall, dCons, dNil, dVar, dC, dBin, dChain, asB, dTru, dNotT, dAndT, dOrT, dAnd, dOr, dNot, dIf, dUn, dTup, dLst, dItems, dYes, R.bind, R.to, O.seq, outR, ofO, noErr, mask, Sm.putIn, bindPat, bindPats, itemsOf, tru, List.foldr_cons, List.foldr_nil, List.length_cons, List.length_nil, List.map_cons, List.map_nil, List.cons_append, List.nil_append, Nat.sub_self, List.replicate_zero, List.replicate_succ, List.getElem?_cons_succ, List.getElem?_cons_zero, List.set_cons_zero, List.set_cons_succ, Nat.reduceAdd, Nat.reduceSub, ↓reduceIte, Bool.not_true, Bool.not_false, Bool.and_true, Bool.true_and, Bool.false_and, Bool.and_false, if_true, if_false, Bool.false_eq_true, oNeg, oAddI, oSubI, oAdd_ii, oLt, oLe, oGt, oGe, Option.bind_some, Option.map_some]
end Kx
namespace Sm
open PySem PySem.Spec L2
theorem forGo_test {pt : Pat} {f : DS} (c : D → Bool) (r : D) (I : Env → Prop) : ∀ (ds : List D) (ρ : Env), I ρ → (∀ d ρ, d ∈ ds → I ρ → ∃ ρ1, bindPat pt d ρ = some ρ1 ∧ (c d = true → ∃ ρ2, f ρ1 = .nx ρ2 ∧ I ρ2) ∧ (c d = false → f ρ1 = .ret r)) →
    (ds.all c = true → ∃ ρ', forGo pt f ds ρ = .nx ρ' ∧ I ρ') ∧ (ds.all c = false → forGo pt f ds ρ = .ret r)
  | [], ρ, h, _ => ⟨fun _ => ⟨ρ, rfl, h⟩, fun h => by simp at h⟩
  | d :: ds, ρ, h, hs => by
    obtain ⟨ρ1, e1, e2, e3⟩ := hs d ρ (by simp) h
    cases hc : c d with
    | true =>
      obtain ⟨ρ2, e4, e5⟩ := e2 hc
      have ih := forGo_test c r I ds ρ2 e5 fun d ρ hd => hs d ρ (by simp [hd])
      rw [List.all_cons, hc, Bool.true_and]
      unfold forGo
      rw [e1]
      simp only [e4, O.seq]
      exact ih
    | false =>
      rw [List.all_cons, hc, Bool.false_and]
      refine ⟨fun h => (by cases h), fun _ => ?_⟩
      unfold forGo
      rw [e1]
      simp only [e3 hc, O.seq]
mutual
def okD : D → Bool
  | .non => true
  | .bl _ => true
  | .int _ => true
  | .str _ => true
  | .tup xs => okDs xs
  | .lst xs => okDs xs
  | _ => false
def okDs : List D → Bool
  | [] => true
  | x :: xs => okD x && okDs xs
end
theorem okDs_mem : ∀ {ds : List D} {d : D}, okDs ds = true → d ∈ ds → okD d = true
  | e :: ds, d, h, hd => by
    simp only [okDs, Bool.and_eq_true] at h
    rcases List.mem_cons.mp hd with rfl | hd
    · exact h.1
    · exact okDs_mem h.2 hd
theorem okDs_all : ∀ {ds : List D}, (∀ d ∈ ds, okD d = true) → okDs ds = true
  | [], _ => rfl
  | e :: ds, h => by simp only [okDs, h e (by simp), Bool.true_and]; exact okDs_all fun d hd => h d (by simp [hd])
def wh (d : D) (lo hi : Int) : Bool := match d with | .int i => decide (lo ≤ i) && decide (i ≤ hi) | _ => false
def isW (f : D → Bool) (d : D) : Bool := match d with | .tup [k, s] => wh k 1 9 && f s | _ => false
def isG : Nat → D → Bool
  | 0, _ => false
  | _ + 1, .tup [d] => wh d (-20) 20
  | n + 1, .tup [d, .tup ws] => wh d (-20) 20 && (decide (1 ≤ ws.length) && decide (ws.length ≤ 3) && ws.all (isW (isG n)))
  | _ + 1, _ => false
end Sm
namespace Kx
open PySem PySem.Spec L2 Sm
theorem whole_any {d : D} (h : okD d = true) (lo hi : Int) : d_is_whole [d, .int lo, .int hi] = .ok (.bl (wh d lo hi)) := by
  cases d with
  | int i => exact whole_ok i lo hi
  | dct _ => simp [okD] at h
  | exc _ => simp [okD] at h
  | scr _ => simp [okD] at h
  | scr0 => simp [okD] at h
  | fnv => simp [okD] at h
  | obj _ => simp [okD] at h
  | dcl _ => simp [okD] at h
  | scr1 => simp [okD] at h
  | _ => simp only [d_is_whole, b_is_whole, oIsInt, oIsBool, wh, defD, args, dSeq, dSet, dSetP, dSetN, lstAt, dApp, dAppP, dAsg, dPar, dDrop, dWhile, dIfS, dRet, dB, dCall, dCons, dNil, dVar, dC, dBin, dChain, asB, dTru, dNotT, dAndT, dOrT, dAnd, dOr, dNot, dIf, dUn, dTup, dLst, dItems, dYes, R.bind, R.to, O.seq, outR, ofO, noErr, mask, Sm.putIn, bindPat, bindPats, itemsOf, tru, List.foldr_cons, List.foldr_nil, List.length_cons, List.length_nil, List.map_cons, List.map_nil, List.cons_append, List.nil_append, Nat.sub_self, List.replicate_zero, List.replicate_succ, List.getElem?_cons_succ, List.getElem?_cons_zero, List.set_cons_zero, List.set_cons_succ, Nat.reduceAdd, Nat.reduceSub, ↓reduceIte, Bool.not_true, Bool.not_false, Bool.and_true, Bool.true_and, Bool.false_and, Bool.and_false, if_true, if_false, Bool.false_eq_true, oNeg, oAddI, oSubI, oAdd_ii, oLt, oLe, oGt, oGe, Option.bind_some, Option.map_some]
theorem isG_not {n : Nat} {d : D} {xs : List D} (h : wh d (-20) 20 = false) : isG n (.tup (d :: xs)) = false := by
  cases n with
  | zero => rfl
  | succ n =>
    match xs with
    | [] => simp only [isG, h]
    | [.tup ws] => simp only [isG, h, Bool.false_and]
    | [.non] => rfl
    | [.bl _] => rfl
    | [.int _] => rfl
    | [.str _] => rfl
    | [.lst _] => rfl
    | [.dct _] => rfl
    | [.exc _] => rfl
    | [.scr _] => rfl
    | [.scr0] => rfl
    | [.fnv] => rfl
    | [.obj _] => rfl
    | [.dcl _] => rfl
    | [.scr1] => rfl
    | y :: _ :: _ => cases y <;> rfl
theorem len_ne1 {n : Nat} (h : n ≠ 1) : (((n : Nat) : Int) == 1) = false := by simp; omega
theorem len_ne2 {n : Nat} (h : n ≠ 2) : (((n : Nat) : Int) == 2) = false := by simp; omega
def wayT (d : D) : Bool := match d with | .tup [k, _] => wh k 1 9 | _ => false
theorem all_bools {α : Type} (f : α → Bool) (l : List α) : oAll [.lst (l.map fun x => D.bl (f x))] = some (.bl (l.all f)) := by
  have bo : boolsOf (l.map fun x => D.bl (f x)) = some (l.map f) := by
    induction l with
    | nil => rfl
    | cons a l ih => simp only [List.map_cons, boolsOf, ih, Option.map_some]
  simp only [oAll, bo, Option.map_some]
  simp [List.all_map]
theorem snd_of {d : D} (h : wayT d = true) : ∃ k s, d = .tup [k, s] ∧ wh k 1 9 = true := by
  unfold wayT at h
  split at h
  · exact ⟨_, _, rfl, h⟩
  · cases h
def wayTst (F : List D → R D) : DT := dOrT (dNotT (dTru (dUn oIsTup (dVar 2)))) (dOrT (asB (dBin oNe (dB oLen (dCons (dVar 2) dNil)) (dC (.int 2)))) (dNotT (dTru (dCall F (dCons (dBin oIx (dVar 2) (dC (.int 0))) (dCons (dC (.int 1)) (dCons (dC (.int 9)) dNil)))))))
theorem way_test {d : D} {x0 x1 : Option D} (ok : okD d = true) : wayTst d_is_whole [x0, x1, some d] = .ok (!wayT d) := by
  unfold wayTst
  cases d with
  | dct _ => simp [okD] at ok
  | exc _ => simp [okD] at ok
  | scr _ => simp [okD] at ok
  | scr0 => simp [okD] at ok
  | fnv => simp [okD] at ok
  | obj _ => simp [okD] at ok
  | dcl _ => simp [okD] at ok
  | scr1 => simp [okD] at ok
  | tup xs =>
    match xs, ok with
    | [], ok => simp only [oIsTup, oLen, oNe_int, wayT, len_ne2 (n := 0) (by decide), defD, args, dSeq, dSet, dSetP, dSetN, lstAt, dApp, dAppP, dAsg, dPar, dDrop, dWhile, dIfS, dRet, dB, dCall, dCons, dNil, dVar, dC, dBin, dChain, asB, dTru, dNotT, dAndT, dOrT, dAnd, dOr, dNot, dIf, dUn, dTup, dLst, dItems, dYes, R.bind, R.to, O.seq, outR, ofO, noErr, mask, Sm.putIn, bindPat, bindPats, itemsOf, tru, List.foldr_cons, List.foldr_nil, List.length_cons, List.length_nil, List.map_cons, List.map_nil, List.cons_append, List.nil_append, Nat.sub_self, List.replicate_zero, List.replicate_succ, List.getElem?_cons_succ, List.getElem?_cons_zero, List.set_cons_zero, List.set_cons_succ, Nat.reduceAdd, Nat.reduceSub, ↓reduceIte, Bool.not_true, Bool.not_false, Bool.and_true, Bool.true_and, Bool.false_and, Bool.and_false, if_true, if_false, Bool.false_eq_true, oNeg, oAddI, oSubI, oAdd_ii, oLt, oLe, oGt, oGe, Option.bind_some, Option.map_some]
    | [a], ok => simp only [oIsTup, oLen, oNe_int, wayT, len_ne2 (n := 1) (by decide), defD, args, dSeq, dSet, dSetP, dSetN, lstAt, dApp, dAppP, dAsg, dPar, dDrop, dWhile, dIfS, dRet, dB, dCall, dCons, dNil, dVar, dC, dBin, dChain, asB, dTru, dNotT, dAndT, dOrT, dAnd, dOr, dNot, dIf, dUn, dTup, dLst, dItems, dYes, R.bind, R.to, O.seq, outR, ofO, noErr, mask, Sm.putIn, bindPat, bindPats, itemsOf, tru, List.foldr_cons, List.foldr_nil, List.length_cons, List.length_nil, List.map_cons, List.map_nil, List.cons_append, List.nil_append, Nat.sub_self, List.replicate_zero, List.replicate_succ, List.getElem?_cons_succ, List.getElem?_cons_zero, List.set_cons_zero, List.set_cons_succ, Nat.reduceAdd, Nat.reduceSub, ↓reduceIte, Bool.not_true, Bool.not_false, Bool.and_true, Bool.true_and, Bool.false_and, Bool.and_false, if_true, if_false, Bool.false_eq_true, oNeg, oAddI, oSubI, oAdd_ii, oLt, oLe, oGt, oGe, Option.bind_some, Option.map_some]
    | [k, s], ok =>
      simp only [okD, okDs, Bool.and_eq_true] at ok
      simp only [oIsTup, oLen, oNe_int, wayT, show ((((2 : Nat) : Int)) == 2) = true by decide, oIx_t0, whole_any ok.1, defD, args, dSeq, dSet, dSetP, dSetN, lstAt, dApp, dAppP, dAsg, dPar, dDrop, dWhile, dIfS, dRet, dB, dCall, dCons, dNil, dVar, dC, dBin, dChain, asB, dTru, dNotT, dAndT, dOrT, dAnd, dOr, dNot, dIf, dUn, dTup, dLst, dItems, dYes, R.bind, R.to, O.seq, outR, ofO, noErr, mask, Sm.putIn, bindPat, bindPats, itemsOf, tru, List.foldr_cons, List.foldr_nil, List.length_cons, List.length_nil, List.map_cons, List.map_nil, List.cons_append, List.nil_append, Nat.sub_self, List.replicate_zero, List.replicate_succ, List.getElem?_cons_succ, List.getElem?_cons_zero, List.set_cons_zero, List.set_cons_succ, Nat.reduceAdd, Nat.reduceSub, ↓reduceIte, Bool.not_true, Bool.not_false, Bool.and_true, Bool.true_and, Bool.false_and, Bool.and_false, if_true, if_false, Bool.false_eq_true, oNeg, oAddI, oSubI, oAdd_ii, oLt, oLe, oGt, oGe, Option.bind_some, Option.map_some]
    | a :: b :: c :: r, ok =>
      have := len_ne2 (n := (a :: b :: c :: r).length) (by simp)
      simp only [List.length_cons] at this
      simp only [oIsTup, oLen, oNe_int, wayT, List.length_cons, this, defD, args, dSeq, dSet, dSetP, dSetN, lstAt, dApp, dAppP, dAsg, dPar, dDrop, dWhile, dIfS, dRet, dB, dCall, dCons, dNil, dVar, dC, dBin, dChain, asB, dTru, dNotT, dAndT, dOrT, dAnd, dOr, dNot, dIf, dUn, dTup, dLst, dItems, dYes, R.bind, R.to, O.seq, outR, ofO, noErr, mask, Sm.putIn, bindPat, bindPats, itemsOf, tru, List.foldr_cons, List.foldr_nil, List.length_cons, List.length_nil, List.map_cons, List.map_nil, List.cons_append, List.nil_append, Nat.sub_self, List.replicate_zero, List.replicate_succ, List.getElem?_cons_succ, List.getElem?_cons_zero, List.set_cons_zero, List.set_cons_succ, Nat.reduceAdd, Nat.reduceSub, ↓reduceIte, Bool.not_true, Bool.not_false, Bool.and_true, Bool.true_and, Bool.false_and, Bool.and_false, if_true, if_false, Bool.false_eq_true, oNeg, oAddI, oSubI, oAdd_ii, oLt, oLe, oGt, oGe, Option.bind_some, Option.map_some]
  | _ => simp only [oIsTup, wayT, defD, args, dSeq, dSet, dSetP, dSetN, lstAt, dApp, dAppP, dAsg, dPar, dDrop, dWhile, dIfS, dRet, dB, dCall, dCons, dNil, dVar, dC, dBin, dChain, asB, dTru, dNotT, dAndT, dOrT, dAnd, dOr, dNot, dIf, dUn, dTup, dLst, dItems, dYes, R.bind, R.to, O.seq, outR, ofO, noErr, mask, Sm.putIn, bindPat, bindPats, itemsOf, tru, List.foldr_cons, List.foldr_nil, List.length_cons, List.length_nil, List.map_cons, List.map_nil, List.cons_append, List.nil_append, Nat.sub_self, List.replicate_zero, List.replicate_succ, List.getElem?_cons_succ, List.getElem?_cons_zero, List.set_cons_zero, List.set_cons_succ, Nat.reduceAdd, Nat.reduceSub, ↓reduceIte, Bool.not_true, Bool.not_false, Bool.and_true, Bool.true_and, Bool.false_and, Bool.and_false, if_true, if_false, Bool.false_eq_true, oNeg, oAddI, oSubI, oAdd_ii, oLt, oLe, oGt, oGe, Option.bind_some, Option.map_some]
theorem isW_way {f : D → Bool} {d : D} (h : wayT d = false) : isW f d = false := by
  unfold wayT at h
  unfold isW
  split at h
  · simp only [h, Bool.false_and]
  · rfl
theorem isG_3 {n : Nat} {x y z : D} {zs : List D} : isG (n + 1) (.tup (x :: y :: z :: zs)) = false := by cases y <;> rfl
theorem ways_bad {f : D → Bool} {ws : List D} (h : ws.all wayT = false) : ws.all (isW f) = false := by
  rw [List.all_eq_false] at *
  obtain ⟨d, h1, h2⟩ := h
  exact ⟨d, h1, by rw [isW_way (by simpa using h2)]; simp⟩
theorem isG_y {n : Nat} {x y : D} (h : ∀ ws, y ≠ .tup ws) : isG (n + 1) (.tup [x, y]) = false := by
  cases y <;> first | exact (h _ rfl).elim | rfl
theorem isG_2 {n : Nat} {x : D} {ws : List D} (hx : wh x (-20) 20 = true) : isG (n + 1) (.tup [x, .tup ws]) = (decide (1 ≤ ws.length) && decide (ws.length ≤ 3) && ws.all (isW (isG n))) := by
  simp only [isG, hx, Bool.true_and]
theorem game_in_any : ∀ (n deep : Nat) (d : D), deep < n → okD d = true → d_is_game_in n [d, .int (deep : Int)] = .ok (.bl (isG deep d))
  | 0, _, _, h, _ => by omega
  | n + 1, 0, d, _, ok => by
    have e0 : (((0 : Nat) : Int) == 0) = true := by decide
    simp only [d_is_game_in, b_is_game_in, oEq_int, e0, isG, defD, args, dSeq, dSet, dSetP, dSetN, lstAt, dApp, dAppP, dAsg, dPar, dDrop, dWhile, dIfS, dRet, dB, dCall, dCons, dNil, dVar, dC, dBin, dChain, asB, dTru, dNotT, dAndT, dOrT, dAnd, dOr, dNot, dIf, dUn, dTup, dLst, dItems, dYes, R.bind, R.to, O.seq, outR, ofO, noErr, mask, Sm.putIn, bindPat, bindPats, itemsOf, tru, List.foldr_cons, List.foldr_nil, List.length_cons, List.length_nil, List.map_cons, List.map_nil, List.cons_append, List.nil_append, Nat.sub_self, List.replicate_zero, List.replicate_succ, List.getElem?_cons_succ, List.getElem?_cons_zero, List.set_cons_zero, List.set_cons_succ, Nat.reduceAdd, Nat.reduceSub, ↓reduceIte, Bool.not_true, Bool.not_false, Bool.and_true, Bool.true_and, Bool.false_and, Bool.and_false, if_true, if_false, Bool.false_eq_true, oNeg, oAddI, oSubI, oAdd_ii, oLt, oLe, oGt, oGe, Option.bind_some, Option.map_some]
  | n + 1, deep + 1, d, hn, ok => by
    have d0 : (((deep + 1 : Nat) : Int) == 0) = false := by simp; omega
    have nt : (∀ xs, d ≠ .tup xs) → oIsTup d = some (.bl false) → d_is_game_in (n + 1) [d, .int ((deep + 1 : Nat) : Int)] = .ok (.bl (isG (deep + 1) d)) := fun h ho => by
      have : isG (deep + 1) d = false := by
        unfold isG
        split
        · rfl
        · exact absurd rfl (h _)
        · exact absurd rfl (h _)
        · rfl
      rw [this]
      simp only [d_is_game_in, b_is_game_in, oEq_int, d0, ho, defD, args, dSeq, dSet, dSetP, dSetN, lstAt, dApp, dAppP, dAsg, dPar, dDrop, dWhile, dIfS, dRet, dB, dCall, dCons, dNil, dVar, dC, dBin, dChain, asB, dTru, dNotT, dAndT, dOrT, dAnd, dOr, dNot, dIf, dUn, dTup, dLst, dItems, dYes, R.bind, R.to, O.seq, outR, ofO, noErr, mask, Sm.putIn, bindPat, bindPats, itemsOf, tru, List.foldr_cons, List.foldr_nil, List.length_cons, List.length_nil, List.map_cons, List.map_nil, List.cons_append, List.nil_append, Nat.sub_self, List.replicate_zero, List.replicate_succ, List.getElem?_cons_succ, List.getElem?_cons_zero, List.set_cons_zero, List.set_cons_succ, Nat.reduceAdd, Nat.reduceSub, ↓reduceIte, Bool.not_true, Bool.not_false, Bool.and_true, Bool.true_and, Bool.false_and, Bool.and_false, if_true, if_false, Bool.false_eq_true, oNeg, oAddI, oSubI, oAdd_ii, oLt, oLe, oGt, oGe, Option.bind_some, Option.map_some]
    cases d with
    | non => exact nt (fun _ h => by cases h) rfl
    | bl _ => exact nt (fun _ h => by cases h) rfl
    | int _ => exact nt (fun _ h => by cases h) rfl
    | str _ => exact nt (fun _ h => by cases h) rfl
    | lst _ => exact nt (fun _ h => by cases h) rfl
    | dct _ => simp [okD] at ok
    | exc _ => simp [okD] at ok
    | scr _ => simp [okD] at ok
    | scr0 => simp [okD] at ok
    | fnv => simp [okD] at ok
    | obj _ => simp [okD] at ok
    | dcl _ => simp [okD] at ok
    | scr1 => simp [okD] at ok
    | tup xs =>
      cases xs with
      | nil =>
        have : isG (deep + 1) (.tup []) = false := rfl
        rw [this]
        simp only [d_is_game_in, b_is_game_in, oEq_int, d0, oIsTup, List.isEmpty, defD, args, dSeq, dSet, dSetP, dSetN, lstAt, dApp, dAppP, dAsg, dPar, dDrop, dWhile, dIfS, dRet, dB, dCall, dCons, dNil, dVar, dC, dBin, dChain, asB, dTru, dNotT, dAndT, dOrT, dAnd, dOr, dNot, dIf, dUn, dTup, dLst, dItems, dYes, R.bind, R.to, O.seq, outR, ofO, noErr, mask, Sm.putIn, bindPat, bindPats, itemsOf, tru, List.foldr_cons, List.foldr_nil, List.length_cons, List.length_nil, List.map_cons, List.map_nil, List.cons_append, List.nil_append, Nat.sub_self, List.replicate_zero, List.replicate_succ, List.getElem?_cons_succ, List.getElem?_cons_zero, List.set_cons_zero, List.set_cons_succ, Nat.reduceAdd, Nat.reduceSub, ↓reduceIte, Bool.not_true, Bool.not_false, Bool.and_true, Bool.true_and, Bool.false_and, Bool.and_false, if_true, if_false, Bool.false_eq_true, oNeg, oAddI, oSubI, oAdd_ii, oLt, oLe, oGt, oGe, Option.bind_some, Option.map_some]
      | cons x xs =>
        simp only [okD, okDs, Bool.and_eq_true] at ok
        have wx := whole_any ok.1 (0 - 20) 20
        rw [show (0 : Int) - 20 = -20 by decide] at wx
        cases hx : wh x (-20) 20 with
        | false =>
          rw [isG_not hx]
          rw [hx] at wx
          simp only [d_is_game_in, b_is_game_in, oEq_int, d0, oIsTup, List.isEmpty, oIx_t0, show (0 : Int) - 20 = -20 by decide, wx, defD, args, dSeq, dSet, dSetP, dSetN, lstAt, dApp, dAppP, dAsg, dPar, dDrop, dWhile, dIfS, dRet, dB, dCall, dCons, dNil, dVar, dC, dBin, dChain, asB, dTru, dNotT, dAndT, dOrT, dAnd, dOr, dNot, dIf, dUn, dTup, dLst, dItems, dYes, R.bind, R.to, O.seq, outR, ofO, noErr, mask, Sm.putIn, bindPat, bindPats, itemsOf, tru, List.foldr_cons, List.foldr_nil, List.length_cons, List.length_nil, List.map_cons, List.map_nil, List.cons_append, List.nil_append, Nat.sub_self, List.replicate_zero, List.replicate_succ, List.getElem?_cons_succ, List.getElem?_cons_zero, List.set_cons_zero, List.set_cons_succ, Nat.reduceAdd, Nat.reduceSub, ↓reduceIte, Bool.not_true, Bool.not_false, Bool.and_true, Bool.true_and, Bool.false_and, Bool.and_false, if_true, if_false, Bool.false_eq_true, oNeg, oAddI, oSubI, oAdd_ii, oLt, oLe, oGt, oGe, Option.bind_some, Option.map_some]
        | true =>
          rw [hx] at wx
          refine defD_eq rfl ?_
          unfold b_is_game_in
          refine out_seq (ρ1 := [some (.tup (x :: xs)), some (.int ((deep + 1 : Nat) : Int)), none]) ?_ ?_
          · simp only [oEq_int, d0, oIsTup, List.isEmpty, oIx_t0, show (0 : Int) - 20 = -20 by decide, wx, defD, args, dSeq, dSet, dSetP, dSetN, lstAt, dApp, dAppP, dAsg, dPar, dDrop, dWhile, dIfS, dRet, dB, dCall, dCons, dNil, dVar, dC, dBin, dChain, asB, dTru, dNotT, dAndT, dOrT, dAnd, dOr, dNot, dIf, dUn, dTup, dLst, dItems, dYes, R.bind, R.to, O.seq, outR, ofO, noErr, mask, Sm.putIn, bindPat, bindPats, itemsOf, tru, List.foldr_cons, List.foldr_nil, List.length_cons, List.length_nil, List.map_cons, List.map_nil, List.cons_append, List.nil_append, Nat.sub_self, List.replicate_zero, List.replicate_succ, List.getElem?_cons_succ, List.getElem?_cons_zero, List.set_cons_zero, List.set_cons_succ, Nat.reduceAdd, Nat.reduceSub, ↓reduceIte, Bool.not_true, Bool.not_false, Bool.and_true, Bool.true_and, Bool.false_and, Bool.and_false, if_true, if_false, Bool.false_eq_true, oNeg, oAddI, oSubI, oAdd_ii, oLt, oLe, oGt, oGe, Option.bind_some, Option.map_some]
          cases xs with
          | nil =>
            have : isG (deep + 1) (.tup [x]) = true := by simp only [isG, hx]
            rw [this]
            refine out_seqR ?_
            simp only [oLen, oEq_int, show ((((1 : Nat) : Int)) == 1) = true by decide, defD, args, dSeq, dSet, dSetP, dSetN, lstAt, dApp, dAppP, dAsg, dPar, dDrop, dWhile, dIfS, dRet, dB, dCall, dCons, dNil, dVar, dC, dBin, dChain, asB, dTru, dNotT, dAndT, dOrT, dAnd, dOr, dNot, dIf, dUn, dTup, dLst, dItems, dYes, R.bind, R.to, O.seq, outR, ofO, noErr, mask, Sm.putIn, bindPat, bindPats, itemsOf, tru, List.foldr_cons, List.foldr_nil, List.length_cons, List.length_nil, List.map_cons, List.map_nil, List.cons_append, List.nil_append, Nat.sub_self, List.replicate_zero, List.replicate_succ, List.getElem?_cons_succ, List.getElem?_cons_zero, List.set_cons_zero, List.set_cons_succ, Nat.reduceAdd, Nat.reduceSub, ↓reduceIte, Bool.not_true, Bool.not_false, Bool.and_true, Bool.true_and, Bool.false_and, Bool.and_false, if_true, if_false, Bool.false_eq_true, oNeg, oAddI, oSubI, oAdd_ii, oLt, oLe, oGt, oGe, Option.bind_some, Option.map_some]
          | cons y zs =>
            refine out_seq (ρ1 := [some (.tup (x :: y :: zs)), some (.int ((deep + 1 : Nat) : Int)), none]) ?_ ?_
            · have := len_ne1 (n := (x :: y :: zs).length) (by simp)
              simp only [List.length_cons] at this
              simp only [oLen, oEq_int, List.length_cons, this, defD, args, dSeq, dSet, dSetP, dSetN, lstAt, dApp, dAppP, dAsg, dPar, dDrop, dWhile, dIfS, dRet, dB, dCall, dCons, dNil, dVar, dC, dBin, dChain, asB, dTru, dNotT, dAndT, dOrT, dAnd, dOr, dNot, dIf, dUn, dTup, dLst, dItems, dYes, R.bind, R.to, O.seq, outR, ofO, noErr, mask, Sm.putIn, bindPat, bindPats, itemsOf, tru, List.foldr_cons, List.foldr_nil, List.length_cons, List.length_nil, List.map_cons, List.map_nil, List.cons_append, List.nil_append, Nat.sub_self, List.replicate_zero, List.replicate_succ, List.getElem?_cons_succ, List.getElem?_cons_zero, List.set_cons_zero, List.set_cons_succ, Nat.reduceAdd, Nat.reduceSub, ↓reduceIte, Bool.not_true, Bool.not_false, Bool.and_true, Bool.true_and, Bool.false_and, Bool.and_false, if_true, if_false, Bool.false_eq_true, oNeg, oAddI, oSubI, oAdd_ii, oLt, oLe, oGt, oGe, Option.bind_some, Option.map_some]
            cases zs with
            | cons z zs =>
              have : isG (deep + 1) (.tup (x :: y :: z :: zs)) = false := isG_3
              rw [this]
              refine out_seqR ?_
              have := len_ne2 (n := (x :: y :: z :: zs).length) (by simp)
              simp only [List.length_cons] at this
              simp only [oLen, oNe_int, List.length_cons, this, defD, args, dSeq, dSet, dSetP, dSetN, lstAt, dApp, dAppP, dAsg, dPar, dDrop, dWhile, dIfS, dRet, dB, dCall, dCons, dNil, dVar, dC, dBin, dChain, asB, dTru, dNotT, dAndT, dOrT, dAnd, dOr, dNot, dIf, dUn, dTup, dLst, dItems, dYes, R.bind, R.to, O.seq, outR, ofO, noErr, mask, Sm.putIn, bindPat, bindPats, itemsOf, tru, List.foldr_cons, List.foldr_nil, List.length_cons, List.length_nil, List.map_cons, List.map_nil, List.cons_append, List.nil_append, Nat.sub_self, List.replicate_zero, List.replicate_succ, List.getElem?_cons_succ, List.getElem?_cons_zero, List.set_cons_zero, List.set_cons_succ, Nat.reduceAdd, Nat.reduceSub, ↓reduceIte, Bool.not_true, Bool.not_false, Bool.and_true, Bool.true_and, Bool.false_and, Bool.and_false, if_true, if_false, Bool.false_eq_true, oNeg, oAddI, oSubI, oAdd_ii, oLt, oLe, oGt, oGe, Option.bind_some, Option.map_some]
            | nil =>
              simp only [okDs, Bool.and_eq_true] at ok
              have oky := ok.2.1
              cases y with
              | dct _ => simp [okD] at oky
              | exc _ => simp [okD] at oky
              | scr _ => simp [okD] at oky
              | scr0 => simp [okD] at oky
              | fnv => simp [okD] at oky
              | obj _ => simp [okD] at oky
              | dcl _ => simp [okD] at oky
              | scr1 => simp [okD] at oky
              | tup ws =>
                simp only [okD] at oky
                rw [isG_2 hx]
                cases hw : (decide (1 ≤ ws.length) && decide (ws.length ≤ 3)) with
                | false =>
                  rw [Bool.false_and]
                  refine out_seqR ?_
                  by_cases h1 : 1 ≤ ws.length
                  · rw [decide_eq_true h1, Bool.true_and, decide_eq_false_iff_not] at hw
                    simp only [oNe_int, oLen, oIx_t1, oIsTup, show ((((2 : Nat) : Int)) == 2) = true by decide, decide_eq_true (show (1 : Int) ≤ (ws.length : Int) by omega), decide_eq_false (show ¬ ((ws.length : Int) ≤ 3) by omega), defD, args, dSeq, dSet, dSetP, dSetN, lstAt, dApp, dAppP, dAsg, dPar, dDrop, dWhile, dIfS, dRet, dB, dCall, dCons, dNil, dVar, dC, dBin, dChain, asB, dTru, dNotT, dAndT, dOrT, dAnd, dOr, dNot, dIf, dUn, dTup, dLst, dItems, dYes, R.bind, R.to, O.seq, outR, ofO, noErr, mask, Sm.putIn, bindPat, bindPats, itemsOf, tru, List.foldr_cons, List.foldr_nil, List.length_cons, List.length_nil, List.map_cons, List.map_nil, List.cons_append, List.nil_append, Nat.sub_self, List.replicate_zero, List.replicate_succ, List.getElem?_cons_succ, List.getElem?_cons_zero, List.set_cons_zero, List.set_cons_succ, Nat.reduceAdd, Nat.reduceSub, ↓reduceIte, Bool.not_true, Bool.not_false, Bool.and_true, Bool.true_and, Bool.false_and, Bool.and_false, if_true, if_false, Bool.false_eq_true, oNeg, oAddI, oSubI, oAdd_ii, oLt, oLe, oGt, oGe, Option.bind_some, Option.map_some]
                  · simp only [oNe_int, oLen, oIx_t1, oIsTup, show ((((2 : Nat) : Int)) == 2) = true by decide, decide_eq_false (show ¬ ((1 : Int) ≤ (ws.length : Int)) by omega), defD, args, dSeq, dSet, dSetP, dSetN, lstAt, dApp, dAppP, dAsg, dPar, dDrop, dWhile, dIfS, dRet, dB, dCall, dCons, dNil, dVar, dC, dBin, dChain, asB, dTru, dNotT, dAndT, dOrT, dAnd, dOr, dNot, dIf, dUn, dTup, dLst, dItems, dYes, R.bind, R.to, O.seq, outR, ofO, noErr, mask, Sm.putIn, bindPat, bindPats, itemsOf, tru, List.foldr_cons, List.foldr_nil, List.length_cons, List.length_nil, List.map_cons, List.map_nil, List.cons_append, List.nil_append, Nat.sub_self, List.replicate_zero, List.replicate_succ, List.getElem?_cons_succ, List.getElem?_cons_zero, List.set_cons_zero, List.set_cons_succ, Nat.reduceAdd, Nat.reduceSub, ↓reduceIte, Bool.not_true, Bool.not_false, Bool.and_true, Bool.true_and, Bool.false_and, Bool.and_false, if_true, if_false, Bool.false_eq_true, oNeg, oAddI, oSubI, oAdd_ii, oLt, oLe, oGt, oGe, Option.bind_some, Option.map_some]
                | true =>
                  rw [Bool.true_and]
                  simp only [Bool.and_eq_true, decide_eq_true_eq] at hw
                  refine out_seq (ρ1 := [some (.tup [x, .tup ws]), some (.int ((deep + 1 : Nat) : Int)), none]) ?_ ?_
                  · simp only [oNe_int, oLen, oIx_t1, oIsTup, show ((((2 : Nat) : Int)) == 2) = true by decide, decide_eq_true (show (1 : Int) ≤ (ws.length : Int) by omega), decide_eq_true (show (ws.length : Int) ≤ 3 by omega), defD, args, dSeq, dSet, dSetP, dSetN, lstAt, dApp, dAppP, dAsg, dPar, dDrop, dWhile, dIfS, dRet, dB, dCall, dCons, dNil, dVar, dC, dBin, dChain, asB, dTru, dNotT, dAndT, dOrT, dAnd, dOr, dNot, dIf, dUn, dTup, dLst, dItems, dYes, R.bind, R.to, O.seq, outR, ofO, noErr, mask, Sm.putIn, bindPat, bindPats, itemsOf, tru, List.foldr_cons, List.foldr_nil, List.length_cons, List.length_nil, List.map_cons, List.map_nil, List.cons_append, List.nil_append, Nat.sub_self, List.replicate_zero, List.replicate_succ, List.getElem?_cons_succ, List.getElem?_cons_zero, List.set_cons_zero, List.set_cons_succ, Nat.reduceAdd, Nat.reduceSub, ↓reduceIte, Bool.not_true, Bool.not_false, Bool.and_true, Bool.true_and, Bool.false_and, Bool.and_false, if_true, if_false, Bool.false_eq_true, oNeg, oAddI, oSubI, oAdd_ii, oLt, oLe, oGt, oGe, Option.bind_some, Option.map_some]
                  obtain ⟨l1, l2⟩ := forGo_test (pt := .v 2) (f := dIfS (wayTst d_is_whole) (dRet (dC (.bl false))) .nx) wayT (.bl false) (fun ρ => ∃ z, ρ = [some (.tup [x, .tup ws]), some (.int ((deep + 1 : Nat) : Int)), z]) ws _ ⟨none, rfl⟩ (by
                    rintro d ρ hd ⟨z, rfl⟩
                    have wt := way_test (x0 := some (.tup [x, .tup ws])) (x1 := some (.int ((deep + 1 : Nat) : Int))) (okDs_mem oky hd)
                    refine ⟨_, rfl, fun h => ⟨_, ?_, some d, rfl⟩, fun h => ?_⟩
                    · refine ifs_f ?_ rfl
                      rw [h] at wt; exact wt
                    · refine ifs_t ?_ rfl
                      rw [h] at wt; exact wt)
                  cases hall : ws.all wayT with
                  | false =>
                    rw [ways_bad hall]
                    refine out_seqR ?_
                    unfold dFor
                    simp only [oIx_t1, defD, args, dSeq, dSet, dSetP, dSetN, lstAt, dApp, dAppP, dAsg, dPar, dDrop, dWhile, dIfS, dRet, dB, dCall, dCons, dNil, dVar, dC, dBin, dChain, asB, dTru, dNotT, dAndT, dOrT, dAnd, dOr, dNot, dIf, dUn, dTup, dLst, dItems, dYes, R.bind, R.to, O.seq, outR, ofO, noErr, mask, Sm.putIn, bindPat, bindPats, itemsOf, tru, List.foldr_cons, List.foldr_nil, List.length_cons, List.length_nil, List.map_cons, List.map_nil, List.cons_append, List.nil_append, Nat.sub_self, List.replicate_zero, List.replicate_succ, List.getElem?_cons_succ, List.getElem?_cons_zero, List.set_cons_zero, List.set_cons_succ, Nat.reduceAdd, Nat.reduceSub, ↓reduceIte, Bool.not_true, Bool.not_false, Bool.and_true, Bool.true_and, Bool.false_and, Bool.and_false, if_true, if_false, Bool.false_eq_true, oNeg, oAddI, oSubI, oAdd_ii, oLt, oLe, oGt, oGe, Option.bind_some, Option.map_some]
                    exact l2 hall
                  | true =>
                    obtain ⟨ρ', e1, z, rfl⟩ := l1 hall
                    refine out_seq (ρ1 := [some (.tup [x, .tup ws]), some (.int ((deep + 1 : Nat) : Int)), z]) ?_ (ret_of ?_)
                    · unfold dFor
                      simp only [oIx_t1, defD, args, dSeq, dSet, dSetP, dSetN, lstAt, dApp, dAppP, dAsg, dPar, dDrop, dWhile, dIfS, dRet, dB, dCall, dCons, dNil, dVar, dC, dBin, dChain, asB, dTru, dNotT, dAndT, dOrT, dAnd, dOr, dNot, dIf, dUn, dTup, dLst, dItems, dYes, R.bind, R.to, O.seq, outR, ofO, noErr, mask, Sm.putIn, bindPat, bindPats, itemsOf, tru, List.foldr_cons, List.foldr_nil, List.length_cons, List.length_nil, List.map_cons, List.map_nil, List.cons_append, List.nil_append, Nat.sub_self, List.replicate_zero, List.replicate_succ, List.getElem?_cons_succ, List.getElem?_cons_zero, List.set_cons_zero, List.set_cons_succ, Nat.reduceAdd, Nat.reduceSub, ↓reduceIte, Bool.not_true, Bool.not_false, Bool.and_true, Bool.true_and, Bool.false_and, Bool.and_false, if_true, if_false, Bool.false_eq_true, oNeg, oAddI, oSubI, oAdd_ii, oLt, oLe, oGt, oGe, Option.bind_some, Option.map_some]
                      exact e1
                    have lc : dLcs [2] (.v 2) (dItems (dBin oIx (dVar 0) (dC (.int 1)))) dYes (dCall (d_is_game_in n) (dCons (dBin oIx (dVar 2) (dC (.int 1))) (dCons (dBin oSubI (dVar 1) (dC (.int 1))) dNil))) [some (.tup [x, .tup ws]), some (.int ((deep + 1 : Nat) : Int)), z] = .ok (ws.map fun d => D.bl (isW (isG deep) d)) := by
                      refine lc_ok1 (enc := fun d : D => d) _ ?_ fun d hd => ⟨_, rfl, ?_⟩
                      · simp only [oIx_t1, List.map_id', defD, args, dSeq, dSet, dSetP, dSetN, lstAt, dApp, dAppP, dAsg, dPar, dDrop, dWhile, dIfS, dRet, dB, dCall, dCons, dNil, dVar, dC, dBin, dChain, asB, dTru, dNotT, dAndT, dOrT, dAnd, dOr, dNot, dIf, dUn, dTup, dLst, dItems, dYes, R.bind, R.to, O.seq, outR, ofO, noErr, mask, Sm.putIn, bindPat, bindPats, itemsOf, tru, List.foldr_cons, List.foldr_nil, List.length_cons, List.length_nil, List.map_cons, List.map_nil, List.cons_append, List.nil_append, Nat.sub_self, List.replicate_zero, List.replicate_succ, List.getElem?_cons_succ, List.getElem?_cons_zero, List.set_cons_zero, List.set_cons_succ, Nat.reduceAdd, Nat.reduceSub, ↓reduceIte, Bool.not_true, Bool.not_false, Bool.and_true, Bool.true_and, Bool.false_and, Bool.and_false, if_true, if_false, Bool.false_eq_true, oNeg, oAddI, oSubI, oAdd_ii, oLt, oLe, oGt, oGe, Option.bind_some, Option.map_some]
                      · obtain ⟨k, s, rfl, hk⟩ := snd_of (List.all_eq_true.mp hall d hd)
                        have oks := okDs_mem oky hd
                        simp only [okD, okDs, Bool.and_eq_true] at oks
                        have ih := game_in_any n deep s (by omega) oks.2.1
                        simp only [oIx_t1, show ((deep + 1 : Nat) : Int) - 1 = (deep : Int) by omega, ih, isW, hk, defD, args, dSeq, dSet, dSetP, dSetN, lstAt, dApp, dAppP, dAsg, dPar, dDrop, dWhile, dIfS, dRet, dB, dCall, dCons, dNil, dVar, dC, dBin, dChain, asB, dTru, dNotT, dAndT, dOrT, dAnd, dOr, dNot, dIf, dUn, dTup, dLst, dItems, dYes, R.bind, R.to, O.seq, outR, ofO, noErr, mask, Sm.putIn, bindPat, bindPats, itemsOf, tru, List.foldr_cons, List.foldr_nil, List.length_cons, List.length_nil, List.map_cons, List.map_nil, List.cons_append, List.nil_append, Nat.sub_self, List.replicate_zero, List.replicate_succ, List.getElem?_cons_succ, List.getElem?_cons_zero, List.set_cons_zero, List.set_cons_succ, Nat.reduceAdd, Nat.reduceSub, ↓reduceIte, Bool.not_true, Bool.not_false, Bool.and_true, Bool.true_and, Bool.false_and, Bool.and_false, if_true, if_false, Bool.false_eq_true, oNeg, oAddI, oSubI, oAdd_ii, oLt, oLe, oGt, oGe, Option.bind_some, Option.map_some]
                    have al := all_bools (isW (isG deep)) ws
                    generalize (ws.map fun d => D.bl (isW (isG deep) d)) = L at *
                    simp only [dLc, lc, al, defD, args, dSeq, dSet, dSetP, dSetN, lstAt, dApp, dAppP, dAsg, dPar, dDrop, dWhile, dIfS, dRet, dB, dCall, dCons, dNil, dVar, dC, dBin, dChain, asB, dTru, dNotT, dAndT, dOrT, dAnd, dOr, dNot, dIf, dUn, dTup, dLst, dItems, dYes, R.bind, R.to, O.seq, outR, ofO, noErr, mask, Sm.putIn, bindPat, bindPats, itemsOf, tru, List.foldr_cons, List.foldr_nil, List.length_cons, List.length_nil, List.map_cons, List.map_nil, List.cons_append, List.nil_append, Nat.sub_self, List.replicate_zero, List.replicate_succ, List.getElem?_cons_succ, List.getElem?_cons_zero, List.set_cons_zero, List.set_cons_succ, Nat.reduceAdd, Nat.reduceSub, ↓reduceIte, Bool.not_true, Bool.not_false, Bool.and_true, Bool.true_and, Bool.false_and, Bool.and_false, if_true, if_false, Bool.false_eq_true, oNeg, oAddI, oSubI, oAdd_ii, oLt, oLe, oGt, oGe, Option.bind_some, Option.map_some]
              | _ =>
                rw [isG_y (fun ws h => by cases h)]
                refine out_seqR ?_
                simp only [oNe_int, oLen, oIx_t1, oIsTup, show ((((2 : Nat) : Int)) == 2) = true by decide, defD, args, dSeq, dSet, dSetP, dSetN, lstAt, dApp, dAppP, dAsg, dPar, dDrop, dWhile, dIfS, dRet, dB, dCall, dCons, dNil, dVar, dC, dBin, dChain, asB, dTru, dNotT, dAndT, dOrT, dAnd, dOr, dNot, dIf, dUn, dTup, dLst, dItems, dYes, R.bind, R.to, O.seq, outR, ofO, noErr, mask, Sm.putIn, bindPat, bindPats, itemsOf, tru, List.foldr_cons, List.foldr_nil, List.length_cons, List.length_nil, List.map_cons, List.map_nil, List.cons_append, List.nil_append, Nat.sub_self, List.replicate_zero, List.replicate_succ, List.getElem?_cons_succ, List.getElem?_cons_zero, List.set_cons_zero, List.set_cons_succ, Nat.reduceAdd, Nat.reduceSub, ↓reduceIte, Bool.not_true, Bool.not_false, Bool.and_true, Bool.true_and, Bool.false_and, Bool.and_false, if_true, if_false, Bool.false_eq_true, oNeg, oAddI, oSubI, oAdd_ii, oLt, oLe, oGt, oGe, Option.bind_some, Option.map_some]
theorem game_any {d : D} (ok : okD d = true) : d_is_game [d] = .ok (.bl (isG 4 d)) := by
  have := game_in_any 8 4 d (by decide) ok
  simp only [d_is_game, b_is_game, show d_is_game_in 8 [d, .int 4] = _ from this, defD, args, dSeq, dSet, dSetP, dSetN, lstAt, dApp, dAppP, dAsg, dPar, dDrop, dWhile, dIfS, dRet, dB, dCall, dCons, dNil, dVar, dC, dBin, dChain, asB, dTru, dNotT, dAndT, dOrT, dAnd, dOr, dNot, dIf, dUn, dTup, dLst, dItems, dYes, R.bind, R.to, O.seq, outR, ofO, noErr, mask, Sm.putIn, bindPat, bindPats, itemsOf, tru, List.foldr_cons, List.foldr_nil, List.length_cons, List.length_nil, List.map_cons, List.map_nil, List.cons_append, List.nil_append, Nat.sub_self, List.replicate_zero, List.replicate_succ, List.getElem?_cons_succ, List.getElem?_cons_zero, List.set_cons_zero, List.set_cons_succ, Nat.reduceAdd, Nat.reduceSub, ↓reduceIte, Bool.not_true, Bool.not_false, Bool.and_true, Bool.true_and, Bool.false_and, Bool.and_false, if_true, if_false, Bool.false_eq_true, oNeg, oAddI, oSubI, oAdd_ii, oLt, oLe, oGt, oGe, Option.bind_some, Option.map_some]
theorem look_any {d : D} (ok : okD d = true) : d_look_game [d] = if isG 4 d then .ok .non else .err 1 := by
  cases h : isG 4 d with
  | true => simp only [d_look_game, b_look_game, game_any ok, h, defD, args, dSeq, dSet, dSetP, dSetN, lstAt, dApp, dAppP, dAsg, dPar, dDrop, dWhile, dIfS, dRet, dB, dCall, dCons, dNil, dVar, dC, dBin, dChain, asB, dTru, dNotT, dAndT, dOrT, dAnd, dOr, dNot, dIf, dUn, dTup, dLst, dItems, dYes, R.bind, R.to, O.seq, outR, ofO, noErr, mask, Sm.putIn, bindPat, bindPats, itemsOf, tru, List.foldr_cons, List.foldr_nil, List.length_cons, List.length_nil, List.map_cons, List.map_nil, List.cons_append, List.nil_append, Nat.sub_self, List.replicate_zero, List.replicate_succ, List.getElem?_cons_succ, List.getElem?_cons_zero, List.set_cons_zero, List.set_cons_succ, Nat.reduceAdd, Nat.reduceSub, ↓reduceIte, Bool.not_true, Bool.not_false, Bool.and_true, Bool.true_and, Bool.false_and, Bool.and_false, if_true, if_false, Bool.false_eq_true, oNeg, oAddI, oSubI, oAdd_ii, oLt, oLe, oGt, oGe, Option.bind_some, Option.map_some]
  | false => simp only [d_look_game, b_look_game, game_any ok, h, dRaise, defD, args, dSeq, dSet, dSetP, dSetN, lstAt, dApp, dAppP, dAsg, dPar, dDrop, dWhile, dIfS, dRet, dB, dCall, dCons, dNil, dVar, dC, dBin, dChain, asB, dTru, dNotT, dAndT, dOrT, dAnd, dOr, dNot, dIf, dUn, dTup, dLst, dItems, dYes, R.bind, R.to, O.seq, outR, ofO, noErr, mask, Sm.putIn, bindPat, bindPats, itemsOf, tru, List.foldr_cons, List.foldr_nil, List.length_cons, List.length_nil, List.map_cons, List.map_nil, List.cons_append, List.nil_append, Nat.sub_self, List.replicate_zero, List.replicate_succ, List.getElem?_cons_succ, List.getElem?_cons_zero, List.set_cons_zero, List.set_cons_succ, Nat.reduceAdd, Nat.reduceSub, ↓reduceIte, Bool.not_true, Bool.not_false, Bool.and_true, Bool.true_and, Bool.false_and, Bool.and_false, if_true, if_false, Bool.false_eq_true, oNeg, oAddI, oSubI, oAdd_ii, oLt, oLe, oGt, oGe, Option.bind_some, Option.map_some]
end Kx
namespace Kx
open PySem PySem.Spec L2 Sm
mutual
theorem okD_noFn : ∀ d : D, okD d = true → noFn d = true
  | .non, _ => rfl
  | .bl _, _ => rfl
  | .int _, _ => rfl
  | .str _, _ => rfl
  | .tup xs, h => by simp only [okD] at h; simp only [noFn]; exact okDs_noFn xs h
  | .lst xs, h => by simp only [okD] at h; simp only [noFn]; exact okDs_noFn xs h
  | .dct _, h => by simp [okD] at h
  | .exc _, h => by simp [okD] at h
  | .scr _, h => by simp [okD] at h
  | .scr0, h => by simp [okD] at h
  | .fnv, h => by simp [okD] at h
  | .obj _, h => by simp [okD] at h
  | .dcl _, h => by simp [okD] at h
  | .scr1, h => by simp [okD] at h
theorem okDs_noFn : ∀ ds : List D, okDs ds = true → noFns ds = true
  | [], _ => rfl
  | d :: ds, h => by
    simp only [okDs, Bool.and_eq_true] at h
    simp only [noFns, Bool.and_eq_true]
    exact ⟨okD_noFn d h.1, okDs_noFn ds h.2⟩
end
def wordC : Nat → Str
  | 1 => "no game" | 2 => "no path" | 3 => "no rule" | 4 => "no bets" | 5 => "unpaid" | 6 => "no text" | _ => "no back"
theorem class_ok {c : Nat} (h : 1 ≤ c ∧ c ≤ 7) : d__law_class [.exc c] = .ok (.str (wordC c)) := by
  obtain ⟨h1, h2⟩ := h
  match c, h1, h2 with
  | 1, _, _ => rfl
  | 2, _, _ => rfl
  | 3, _, _ => rfl
  | 4, _, _ => rfl
  | 5, _, _ => rfl
  | 6, _, _ => rfl
  | 7, _, _ => rfl
end Kx
namespace Sm
namespace Game
end Game
end Sm
namespace Kx
open PySem PySem.Spec L2 Sm
end Kx
namespace Sm
open PySem PySem.Spec L2
mutual
def nc : Nat → Nat → D → Bool
  | _, _, .non => true
  | _, _, .bl _ => true
  | _, _, .int _ => true
  | _, _, .str x => PySem.PyData.strOk x
  | n + 1, w, .tup xs => decide (xs.length ≤ w) && ncs n w xs
  | n + 1, w, .lst xs => decide (xs.length ≤ w) && ncs n w xs
  | _, _, _ => false
def ncs : Nat → Nat → List D → Bool
  | _, _, [] => true
  | n, w, x :: xs => nc n w x && ncs n w xs
end
end Sm
namespace Kx
open PySem PySem.Spec L2 Sm
theorem pl_ints (n : Nat) : ∀ p : List Nat, pls n (p.map fun i : Nat => D.int (i : Int)) = true
  | [] => rfl
  | i :: p => by simp [pls, pl, pl_ints n p]
theorem pl_P (n : Nat) (p : List Nat) : pl (n + 1) (encP p) = true := by simp only [encP, pl]; exact pl_ints n p
end Kx
namespace Sm
open PySem PySem.Spec L2
def over (S : List Nat) : Nat → Env → (Nat → Option D) → Env
  | _, [], _ => []
  | k, x :: xs, ys => (if S.contains k then ys k else x) :: over S (k + 1) xs ys
def Stay (S : List Nat) (ρ : Env) (o : O) : Prop := ∃ ρ2, o = .nx ρ2 ∧ ∃ ys, ρ2 = over S 0 ρ ys
theorem stay {S : List Nat} {ρ : Env} {o : O} {ρ2 : Env} (h : o = .nx ρ2) (h2 : over S 0 ρ (fun i => (ρ2[i]?).getD none) = ρ2) : Stay S ρ o := ⟨ρ2, h, _, h2.symm⟩
section
variable {α β : Type} {own : List Nat} {pt : Pat} {it : DI} {f g : DS} {ρ : Env} {r : R D}
end
end Sm
namespace Kx
open PySem PySem.Spec L2 Sm
end Kx
namespace Kx
open PySem PySem.Spec L2 Sm
theorem oLen_enc (g : Game) : oLen [g.enc] = some (.int (if g.ways = [] then 1 else 2)) := by
  cases g with
  | node w ws =>
    cases ws with
    | nil => rw [enc_end]; rfl
    | cons x ws => rw [enc_go]; rfl
end Kx
namespace Kx
open PySem PySem.Spec L2 Sm
end Kx
namespace Sm
open PySem PySem.Spec L2
inductive RT where
  | stop | go (rs : List RT)
namespace RT
theorem lt_of_mem {rs : List RT} {r : RT} (h : r ∈ rs) : sizeOf r < sizeOf (RT.go rs) := by
  have h1 := List.sizeOf_lt_of_mem h
  simp
  omega
def paths : RT → List (List Nat)
  | .stop => [[]]
  | .go rs => Game.idxs 0 (rs.map fun r => r.paths)
termination_by t => sizeOf t
decreasing_by exact lt_of_mem ‹_›
theorem paths_go (rs : List RT) : paths (.go rs) = Game.idxs 0 (rs.map paths) := by rw [paths]
end RT
mutual
inductive RuleOf : Game → RT → Prop
  | stop (g : Game) : RuleOf g .stop
  | go {w : Int} {ws : List (Int × Game)} {rs : List RT} : ws ≠ [] → RulesOf ws rs → RuleOf (.node w ws) (.go rs)
inductive RulesOf : List (Int × Game) → List RT → Prop
  | nil : RulesOf [] []
  | cons {x : Int × Game} {ws : List (Int × Game)} {r : RT} {rs : List RT} : RuleOf x.2 r → RulesOf ws rs → RulesOf (x :: ws) (r :: rs)
end
theorem RulesOf.length : ∀ {ws : List (Int × Game)} {rs : List RT}, RulesOf ws rs → ws.length = rs.length
  | _, _, .nil => rfl
  | _, _, .cons _ t => by rw [List.length_cons, List.length_cons, RulesOf.length t]
theorem RulesOf.get : ∀ {ws : List (Int × Game)} {rs : List RT} {i : Nat} {x : Int × Game} {r : RT}, RulesOf ws rs → ws[i]? = some x → rs[i]? = some r → RuleOf x.2 r
  | _, _, _, _, _, .nil, h, _ => by simp at h
  | _, _, 0, _, _, .cons h _, h1, h2 => by cases h1; cases h2; exact h
  | _, _, i + 1, _, _, .cons _ t, h1, h2 => RulesOf.get (i := i) t (by simpa using h1) (by simpa using h2)
namespace Game
theorem part_c {g : Game} {i : Nat} {x : Int × Game} (p : List Nat) (h : g.ways[i]? = some x) : g.part (i :: p) = x.2.part p := by
  simp only [part, h]
theorem isPath_c {g : Game} {i : Nat} {x : Int × Game} (p : List Nat) (h : g.ways[i]? = some x) : g.IsPath (i :: p) ↔ x.2.IsPath p := by
  simp only [IsPath, h]
end Game
end Sm
namespace Sm
namespace Game
theorem isPath_append : ∀ (p q : List Nat) (g : Game), g.IsPath p → (g.IsPath (p ++ q) ↔ (g.part p).IsPath q)
  | [], q, g, _ => Iff.rfl
  | i :: p, q, g, h => by
    simp only [IsPath] at h
    rw [List.cons_append]
    cases hx : g.ways[i]? with
    | none => rw [hx] at h; exact h.elim
    | some x =>
      rw [hx] at h
      rw [isPath_c _ hx, part_c _ hx, isPath_append p q x.2 h]
end Game
end Sm
namespace Kx
open PySem PySem.Spec L2 Sm
theorem snoc_P (p : List Nat) (i : Nat) (h : p.length ≤ 1000) : oAdd (encP p) (.tup [.int (i : Int)]) = some (encP (p ++ [i])) := by
  unfold encP
  simp only [oAdd, List.length_cons, List.length_nil, List.length_map]
  rw [if_pos (Nat.le_trans (show p.length + 1 ≤ 100000 by omega) sizeLine_big)]
  simp
end Kx
namespace Kx
open PySem PySem.Spec L2 Sm
theorem sizeLine_pos : (100000 : Nat) ≤ sizeLine := sizeLine_big
section
variable {k : Nat} {ps : PLS} {q q' : Pl} {d s x : D} {ρ : Sm.Env} {i : Nat}
theorem plAt0 (h : ps[k]? = some q) : plAt 0 (some (.obj k) :: ρ) ps = some (k, q) := by simp [plAt, objAt, h]
theorem lt_ps (h : ps[k]? = some q) : k < ps.length := (List.getElem?_eq_some_iff.mp h).1
theorem at_set (h : ps[k]? = some q) : (ps.set k q')[k]? = some q' := List.getElem?_set_self (lt_ps h)
theorem do_ok (h : ps[k]? = some q) (hz : q.past.length < sizeLine) : e_Play_do [.obj k, d, s] ps = .ok .non (ps.set k ⟨q.own, s, q.past ++ [.tup [d, q.now]], []⟩) := by
  unfold e_Play_do be_Play_do
  have h1 := fun q' => at_set (q' := q') h
  simp only [ePush, eSetNil, eSetNow, plAt0 h, Pl.get, hz, Pl.put, plAt0 (h1 _), List.set_set, eSeq, eRet, eBin, eNow, eOwn, eP, eT, eIf, eIfS, eSet, eAsg, eDrop, eApp, eMeth, eMake, makeR, eCallA, upF, eCons, eNil, eTup, eLst, easB, eAndT, eOrT, eNotT, eTru, eAnd, eB, sP, RP.bind, RP.to, R.up, O.up, OE.seq, outE, defE, oIxT, atI, defD, args, dSeq, dSet, dSetP, dSetN, lstAt, dApp, dAppP, dAsg, dPar, dDrop, dWhile, dIfS, dRet, dB, dCall, dCons, dNil, dVar, dC, dBin, dChain, asB, dTru, dNotT, dAndT, dOrT, dAnd, dOr, dNot, dIf, dUn, dTup, dLst, dItems, dYes, R.bind, R.to, O.seq, outR, ofO, noErr, mask, Sm.putIn, bindPat, bindPats, itemsOf, tru, List.foldr_cons, List.foldr_nil, List.length_cons, List.length_nil, List.map_cons, List.map_nil, List.cons_append, List.nil_append, Nat.sub_self, List.replicate_zero, List.replicate_succ, List.getElem?_cons_succ, List.getElem?_cons_zero, List.set_cons_zero, List.set_cons_succ, Nat.reduceAdd, Nat.reduceSub, ↓reduceIte, Bool.not_true, Bool.not_false, Bool.and_true, Bool.true_and, Bool.false_and, Bool.and_false, if_true, if_false, Bool.false_eq_true, oNeg, oAddI, oSubI, oAdd_ii, oLt, oLe, oGt, oGe, Option.bind_some, Option.map_some]
theorem path_ok (h : ps[k]? = some q) {p a b : D} (hn : q.now = .tup [p, a, b]) : e_Play_path [.obj k] ps = .ok p ps := by
  unfold e_Play_path be_Play_path
  simp only [plAt0 h, hn, eSeq, eRet, eBin, eNow, eOwn, eP, eT, eIf, eIfS, eSet, eAsg, eDrop, eApp, eMeth, eMake, makeR, eCallA, upF, eCons, eNil, eTup, eLst, easB, eAndT, eOrT, eNotT, eTru, eAnd, eB, sP, RP.bind, RP.to, R.up, O.up, OE.seq, outE, defE, oIxT, atI, defD, args, dSeq, dSet, dSetP, dSetN, lstAt, dApp, dAppP, dAsg, dPar, dDrop, dWhile, dIfS, dRet, dB, dCall, dCons, dNil, dVar, dC, dBin, dChain, asB, dTru, dNotT, dAndT, dOrT, dAnd, dOr, dNot, dIf, dUn, dTup, dLst, dItems, dYes, R.bind, R.to, O.seq, outR, ofO, noErr, mask, Sm.putIn, bindPat, bindPats, itemsOf, tru, List.foldr_cons, List.foldr_nil, List.length_cons, List.length_nil, List.map_cons, List.map_nil, List.cons_append, List.nil_append, Nat.sub_self, List.replicate_zero, List.replicate_succ, List.getElem?_cons_succ, List.getElem?_cons_zero, List.set_cons_zero, List.set_cons_succ, Nat.reduceAdd, Nat.reduceSub, ↓reduceIte, Bool.not_true, Bool.not_false, Bool.and_true, Bool.true_and, Bool.false_and, Bool.and_false, if_true, if_false, Bool.false_eq_true, oNeg, oAddI, oSubI, oAdd_ii, oLt, oLe, oGt, oGe, Option.bind_some, Option.map_some]
  rfl
theorem purse_ok (h : ps[k]? = some q) {p a b : D} (hn : q.now = .tup [p, a, b]) : e_Play_purse [.obj k] ps = .ok b ps := by
  unfold e_Play_purse be_Play_purse
  simp only [plAt0 h, hn, eSeq, eRet, eBin, eNow, eOwn, eP, eT, eIf, eIfS, eSet, eAsg, eDrop, eApp, eMeth, eMake, makeR, eCallA, upF, eCons, eNil, eTup, eLst, easB, eAndT, eOrT, eNotT, eTru, eAnd, eB, sP, RP.bind, RP.to, R.up, O.up, OE.seq, outE, defE, oIxT, atI, defD, args, dSeq, dSet, dSetP, dSetN, lstAt, dApp, dAppP, dAsg, dPar, dDrop, dWhile, dIfS, dRet, dB, dCall, dCons, dNil, dVar, dC, dBin, dChain, asB, dTru, dNotT, dAndT, dOrT, dAnd, dOr, dNot, dIf, dUn, dTup, dLst, dItems, dYes, R.bind, R.to, O.seq, outR, ofO, noErr, mask, Sm.putIn, bindPat, bindPats, itemsOf, tru, List.foldr_cons, List.foldr_nil, List.length_cons, List.length_nil, List.map_cons, List.map_nil, List.cons_append, List.nil_append, Nat.sub_self, List.replicate_zero, List.replicate_succ, List.getElem?_cons_succ, List.getElem?_cons_zero, List.set_cons_zero, List.set_cons_succ, Nat.reduceAdd, Nat.reduceSub, ↓reduceIte, Bool.not_true, Bool.not_false, Bool.and_true, Bool.true_and, Bool.false_and, Bool.and_false, if_true, if_false, Bool.false_eq_true, oNeg, oAddI, oSubI, oAdd_ii, oLt, oLe, oGt, oGe, Option.bind_some, Option.map_some]
  rfl
theorem counts_ok (h : ps[k]? = some q) : e_Play_counts [.obj k] ps = .ok (.tup [.int (q.past.length : Int), .int (q.later.length : Int)]) ps := by
  unfold e_Play_counts be_Play_counts
  simp only [eLen, plAt0 h, Pl.get, eSeq, eRet, eBin, eNow, eOwn, eP, eT, eIf, eIfS, eSet, eAsg, eDrop, eApp, eMeth, eMake, makeR, eCallA, upF, eCons, eNil, eTup, eLst, easB, eAndT, eOrT, eNotT, eTru, eAnd, eB, sP, RP.bind, RP.to, R.up, O.up, OE.seq, outE, defE, oIxT, atI, defD, args, dSeq, dSet, dSetP, dSetN, lstAt, dApp, dAppP, dAsg, dPar, dDrop, dWhile, dIfS, dRet, dB, dCall, dCons, dNil, dVar, dC, dBin, dChain, asB, dTru, dNotT, dAndT, dOrT, dAnd, dOr, dNot, dIf, dUn, dTup, dLst, dItems, dYes, R.bind, R.to, O.seq, outR, ofO, noErr, mask, Sm.putIn, bindPat, bindPats, itemsOf, tru, List.foldr_cons, List.foldr_nil, List.length_cons, List.length_nil, List.map_cons, List.map_nil, List.cons_append, List.nil_append, Nat.sub_self, List.replicate_zero, List.replicate_succ, List.getElem?_cons_succ, List.getElem?_cons_zero, List.set_cons_zero, List.set_cons_succ, Nat.reduceAdd, Nat.reduceSub, ↓reduceIte, Bool.not_true, Bool.not_false, Bool.and_true, Bool.true_and, Bool.false_and, Bool.and_false, if_true, if_false, Bool.false_eq_true, oNeg, oAddI, oSubI, oAdd_ii, oLt, oLe, oGt, oGe, Option.bind_some, Option.map_some]
theorem emp_lst {ds : List D} (h : pl 64 (.lst ds) = true) : oEq (.lst ds) (.lst []) = some (.bl (decide (ds = []))) := by
  unfold oEq
  rw [pl_pln _ _ h]
  cases ds with
  | nil => rfl
  | cons a as => rfl
theorem emp_nil : oEq (.lst []) (.lst []) = some (.bl true) := rfl
theorem back_no (h : ps[k]? = some q) (hp : q.past = []) : e_Play_back [.obj k] ps = .err 7 ps := by
  unfold e_Play_back be_Play_back
  simp only [eEmp, plAt0 h, Pl.get, hp, emp_nil, eSeq, eRet, eBin, eNow, eOwn, eP, eT, eIf, eIfS, eSet, eAsg, eDrop, eApp, eMeth, eMake, makeR, eCallA, upF, eCons, eNil, eTup, eLst, easB, eAndT, eOrT, eNotT, eTru, eAnd, eB, sP, RP.bind, RP.to, R.up, O.up, OE.seq, outE, defE, oIxT, atI, defD, args, dSeq, dSet, dSetP, dSetN, lstAt, dApp, dAppP, dAsg, dPar, dDrop, dWhile, dIfS, dRet, dB, dCall, dCons, dNil, dVar, dC, dBin, dChain, asB, dTru, dNotT, dAndT, dOrT, dAnd, dOr, dNot, dIf, dUn, dTup, dLst, dItems, dYes, R.bind, R.to, O.seq, outR, ofO, noErr, mask, Sm.putIn, bindPat, bindPats, itemsOf, tru, List.foldr_cons, List.foldr_nil, List.length_cons, List.length_nil, List.map_cons, List.map_nil, List.cons_append, List.nil_append, Nat.sub_self, List.replicate_zero, List.replicate_succ, List.getElem?_cons_succ, List.getElem?_cons_zero, List.set_cons_zero, List.set_cons_succ, Nat.reduceAdd, Nat.reduceSub, ↓reduceIte, Bool.not_true, Bool.not_false, Bool.and_true, Bool.true_and, Bool.false_and, Bool.and_false, if_true, if_false, Bool.false_eq_true, oNeg, oAddI, oSubI, oAdd_ii, oLt, oLe, oGt, oGe, Option.bind_some, Option.map_some]
  rfl
theorem back_ok (h : ps[k]? = some q) {init : List D} {w a was : D} (hp : q.past = init ++ [.tup [.tup [w, a], was]]) (hz : q.later.length < sizeLine) (hl : pl 64 (.lst q.past) = true) :
    e_Play_back [.obj k] ps = .ok w (ps.set k ⟨q.own, was, init, q.later ++ [.tup [.tup [w, a], q.now]]⟩) := by
  unfold e_Play_back be_Play_back
  have h1 := fun q' => at_set (q' := q') h
  have ne : q.past ≠ [] := by rw [hp]; simp
  have gl : q.past.getLast? = some (.tup [.tup [w, a], was]) := by rw [hp]; simp
  have dl : q.past.dropLast = init := by rw [hp]; simp
  simp only [eEmp, plAt0 h, Pl.get, emp_lst hl, decide_eq_false ne, ePop, gl, dl, Pl.put, ePush, plAt0 (h1 _), hz, eSetNow, List.set_set, eSeq, eRet, eBin, eNow, eOwn, eP, eT, eIf, eIfS, eSet, eAsg, eDrop, eApp, eMeth, eMake, makeR, eCallA, upF, eCons, eNil, eTup, eLst, easB, eAndT, eOrT, eNotT, eTru, eAnd, eB, sP, RP.bind, RP.to, R.up, O.up, OE.seq, outE, defE, oIxT, atI, defD, args, dSeq, dSet, dSetP, dSetN, lstAt, dApp, dAppP, dAsg, dPar, dDrop, dWhile, dIfS, dRet, dB, dCall, dCons, dNil, dVar, dC, dBin, dChain, asB, dTru, dNotT, dAndT, dOrT, dAnd, dOr, dNot, dIf, dUn, dTup, dLst, dItems, dYes, R.bind, R.to, O.seq, outR, ofO, noErr, mask, Sm.putIn, bindPat, bindPats, itemsOf, tru, List.foldr_cons, List.foldr_nil, List.length_cons, List.length_nil, List.map_cons, List.map_nil, List.cons_append, List.nil_append, Nat.sub_self, List.replicate_zero, List.replicate_succ, List.getElem?_cons_succ, List.getElem?_cons_zero, List.set_cons_zero, List.set_cons_succ, Nat.reduceAdd, Nat.reduceSub, ↓reduceIte, Bool.not_true, Bool.not_false, Bool.and_true, Bool.true_and, Bool.false_and, Bool.and_false, if_true, if_false, Bool.false_eq_true, oNeg, oAddI, oSubI, oAdd_ii, oLt, oLe, oGt, oGe, Option.bind_some, Option.map_some]
  rfl
theorem forth_ok (h : ps[k]? = some q) {init : List D} {w a was : D} (hp : q.later = init ++ [.tup [.tup [w, a], was]]) (hz : q.past.length < sizeLine) (hl : pl 64 (.lst q.later) = true) :
    e_Play_forth [.obj k] ps = .ok w (ps.set k ⟨q.own, was, q.past ++ [.tup [.tup [w, a], q.now]], init⟩) := by
  unfold e_Play_forth be_Play_forth
  have h1 := fun q' => at_set (q' := q') h
  have ne : q.later ≠ [] := by rw [hp]; simp
  have gl : q.later.getLast? = some (.tup [.tup [w, a], was]) := by rw [hp]; simp
  have dl : q.later.dropLast = init := by rw [hp]; simp
  simp only [eEmp, plAt0 h, Pl.get, emp_lst hl, decide_eq_false ne, ePop, gl, dl, Pl.put, ePush, plAt0 (h1 _), hz, eSetNow, List.set_set, eSeq, eRet, eBin, eNow, eOwn, eP, eT, eIf, eIfS, eSet, eAsg, eDrop, eApp, eMeth, eMake, makeR, eCallA, upF, eCons, eNil, eTup, eLst, easB, eAndT, eOrT, eNotT, eTru, eAnd, eB, sP, RP.bind, RP.to, R.up, O.up, OE.seq, outE, defE, oIxT, atI, defD, args, dSeq, dSet, dSetP, dSetN, lstAt, dApp, dAppP, dAsg, dPar, dDrop, dWhile, dIfS, dRet, dB, dCall, dCons, dNil, dVar, dC, dBin, dChain, asB, dTru, dNotT, dAndT, dOrT, dAnd, dOr, dNot, dIf, dUn, dTup, dLst, dItems, dYes, R.bind, R.to, O.seq, outR, ofO, noErr, mask, Sm.putIn, bindPat, bindPats, itemsOf, tru, List.foldr_cons, List.foldr_nil, List.length_cons, List.length_nil, List.map_cons, List.map_nil, List.cons_append, List.nil_append, Nat.sub_self, List.replicate_zero, List.replicate_succ, List.getElem?_cons_succ, List.getElem?_cons_zero, List.set_cons_zero, List.set_cons_succ, Nat.reduceAdd, Nat.reduceSub, ↓reduceIte, Bool.not_true, Bool.not_false, Bool.and_true, Bool.true_and, Bool.false_and, Bool.and_false, if_true, if_false, Bool.false_eq_true, oNeg, oAddI, oSubI, oAdd_ii, oLt, oLe, oGt, oGe, Option.bind_some, Option.map_some]
  rfl
theorem steps_go (a : Option D) : ∀ xs : List (D × D), lcGo (.t [.v 1, .v 2]) dYes (dVar 1) (xs.map fun x => .tup [x.1, x.2]) [a, none, none] = .ok (xs.map (·.1)) := by
  intro xs
  have := lcGo_all (pt := .t [.v 1, .v 2]) (fe := dVar 1) (ρ := [a, none, none]) (fun x : D × D => D.tup [x.1, x.2]) (·.1) xs fun x _ => ⟨[a, some x.1, some x.2], rfl, rfl⟩
  exact this
theorem steps_ok (h : ps[k]? = some q) {xs : List (D × D)} (hp : q.past = xs.map fun x => .tup [x.1, x.2]) (hu : pures (xs.map (·.1)) = true) : e_Play_steps [.obj k] ps = .ok (.lst (xs.map (·.1))) ps := by
  unfold e_Play_steps be_Play_steps
  simp only [eLcH, plAt0 h, Pl.get, hp, steps_go, hu, eSeq, eRet, eBin, eNow, eOwn, eP, eT, eIf, eIfS, eSet, eAsg, eDrop, eApp, eMeth, eMake, makeR, eCallA, upF, eCons, eNil, eTup, eLst, easB, eAndT, eOrT, eNotT, eTru, eAnd, eB, sP, RP.bind, RP.to, R.up, O.up, OE.seq, outE, defE, oIxT, atI, defD, args, dSeq, dSet, dSetP, dSetN, lstAt, dApp, dAppP, dAsg, dPar, dDrop, dWhile, dIfS, dRet, dB, dCall, dCons, dNil, dVar, dC, dBin, dChain, asB, dTru, dNotT, dAndT, dOrT, dAnd, dOr, dNot, dIf, dUn, dTup, dLst, dItems, dYes, R.bind, R.to, O.seq, outR, ofO, noErr, mask, Sm.putIn, bindPat, bindPats, itemsOf, tru, List.foldr_cons, List.foldr_nil, List.length_cons, List.length_nil, List.map_cons, List.map_nil, List.cons_append, List.nil_append, Nat.sub_self, List.replicate_zero, List.replicate_succ, List.getElem?_cons_succ, List.getElem?_cons_zero, List.set_cons_zero, List.set_cons_succ, Nat.reduceAdd, Nat.reduceSub, ↓reduceIte, Bool.not_true, Bool.not_false, Bool.and_true, Bool.true_and, Bool.false_and, Bool.and_false, if_true, if_false, Bool.false_eq_true, oNeg, oAddI, oSubI, oAdd_ii, oLt, oLe, oGt, oGe, Option.bind_some, Option.map_some]
theorem bet_ok (h : ps[k]? = some q) {p a b : D} (hn : q.now = .tup [p, a, b]) (hz : q.past.length < sizeLine) {n : Int} (hb : -99 ≤ n ∧ n ≤ 99) :
    e_Play_bet [.obj k, .int n] ps = .ok a (ps.set k ⟨q.own, .tup [p, .int n, b], q.past ++ [.tup [.tup [.str "bet", .int n], q.now]], []⟩) := by
  unfold e_Play_bet be_Play_bet
  have w : d_is_whole [.int n, .int (0 - 99), .int 99] = .ok (.bl true) := by rw [whole_ok]; simp; omega
  simp only [w, plAt0 h, hn, do_ok h hz, eSeq, eRet, eBin, eNow, eOwn, eP, eT, eIf, eIfS, eSet, eAsg, eDrop, eApp, eMeth, eMake, makeR, eCallA, upF, eCons, eNil, eTup, eLst, easB, eAndT, eOrT, eNotT, eTru, eAnd, eB, sP, RP.bind, RP.to, R.up, O.up, OE.seq, outE, defE, oIxT, atI, defD, args, dSeq, dSet, dSetP, dSetN, lstAt, dApp, dAppP, dAsg, dPar, dDrop, dWhile, dIfS, dRet, dB, dCall, dCons, dNil, dVar, dC, dBin, dChain, asB, dTru, dNotT, dAndT, dOrT, dAnd, dOr, dNot, dIf, dUn, dTup, dLst, dItems, dYes, R.bind, R.to, O.seq, outR, ofO, noErr, mask, Sm.putIn, bindPat, bindPats, itemsOf, tru, List.foldr_cons, List.foldr_nil, List.length_cons, List.length_nil, List.map_cons, List.map_nil, List.cons_append, List.nil_append, Nat.sub_self, List.replicate_zero, List.replicate_succ, List.getElem?_cons_succ, List.getElem?_cons_zero, List.set_cons_zero, List.set_cons_succ, Nat.reduceAdd, Nat.reduceSub, ↓reduceIte, Bool.not_true, Bool.not_false, Bool.and_true, Bool.true_and, Bool.false_and, Bool.and_false, if_true, if_false, Bool.false_eq_true, oNeg, oAddI, oSubI, oAdd_ii, oLt, oLe, oGt, oGe, Option.bind_some, Option.map_some]
end
structure PSt where
  path : List Nat
  bet : Int
  won : Int
def PSt.enc (s : PSt) : D := .tup [encP s.path, .int s.bet, .int s.won]
inductive Stp where
  | bet (n : Int) | go (i : Nat)
def Stp.word : Stp → Str
  | .bet _ => "bet" | .go _ => "go"
def Stp.num : Stp → Int
  | .bet n => n | .go i => i
def Stp.enc (s : Stp) : D := .tup [.str s.word, .int s.num]
abbrev Hs := List (Stp × PSt)
def hD (h : Hs) : List D := h.map fun x => .tup [x.1.enc, x.2.enc]
structure PP where
  now : PSt
  past : Hs
  later : Hs
def PP.enc (g : Game) (P : PP) : Pl := ⟨g.enc, P.now.enc, hD P.past, hD P.later⟩
def stepTo (g : Game) (s : PSt) : Stp → Option (PSt × Int)
  | .bet n => some (⟨s.path, n, s.won⟩, s.bet)
  | .go i => match (g.part s.path).ways[i]? with
    | some x => some (⟨s.path ++ [i], s.bet, s.won + s.bet * (x.2.worth - (g.part s.path).worth)⟩, s.bet * (x.2.worth - (g.part s.path).worth))
    | none => none
section
variable {g : Game} {k : Nat} {ps : PLS} {P : PP}
theorem hD_len (h : Hs) : (hD h).length = h.length := by simp [hD]
theorem now_eq : (P.enc g).now = .tup [encP P.now.path, .int P.now.bet, .int P.now.won] := rfl
theorem ppath_ok (h : ps[k]? = some (P.enc g)) : e_Play_path [.obj k] ps = .ok (encP P.now.path) ps := path_ok h now_eq
theorem ppurse_ok (h : ps[k]? = some (P.enc g)) : e_Play_purse [.obj k] ps = .ok (.int P.now.won) ps := purse_ok h now_eq
theorem part_ok4 {g : Game} (hg : g.Ok 4) {p : List Nat} (hp : g.IsPath p) : (g.part p).Ok 4 := (Game.part_ok hg hp).1.mono (by omega)
theorem pcounts_ok (h : ps[k]? = some (P.enc g)) : e_Play_counts [.obj k] ps = .ok (.tup [.int (P.past.length : Int), .int (P.later.length : Int)]) ps := by
  rw [counts_ok h]
  simp only [PP.enc, hD_len]
theorem psteps_ok (h : ps[k]? = some (P.enc g)) : e_Play_steps [.obj k] ps = .ok (.lst (P.past.map fun x => x.1.enc)) ps := by
  have := steps_ok (xs := P.past.map fun x => (x.1.enc, x.2.enc)) h (by simp [PP.enc, hD, Function.comp_def]) (by
    rw [List.map_map]
    induction P.past with
    | nil => rfl
    | cons a as ih => rw [List.map_cons]; exact ih)
  rw [this, List.map_map]
  rfl
theorem pbet_ok (h : ps[k]? = some (P.enc g)) (hz : P.past.length < 100000) {n : Int} (hb : -99 ≤ n ∧ n ≤ 99) :
    e_Play_bet [.obj k, .int n] ps = .ok (.int P.now.bet) (ps.set k ((⟨⟨P.now.path, n, P.now.won⟩, P.past ++ [(.bet n, P.now)], []⟩ : PP).enc g)) := by
  rw [bet_ok h now_eq (by have := sizeLine_pos; rw [show (P.enc g).past = hD P.past from rfl, hD_len]; omega) hb]
  simp [PP.enc, hD, PSt.enc, Stp.enc, Stp.word, Stp.num]
end
end Kx
namespace Sm
open PySem PySem.Spec L2
namespace RT
theorem ind {P : RT → Prop} (h0 : P .stop) (h : ∀ rs, (∀ r ∈ rs, P r) → P (.go rs)) : ∀ t, P t
  | .stop => h0
  | .go rs => h rs fun r hr => ind h0 h r
termination_by t => sizeOf t
decreasing_by exact lt_of_mem hr
end RT
theorem mem_idxs' {p : List Nat} {l : List (List (List Nat))} : p ∈ Game.idxs 0 l ↔ ∃ i q, p = i :: q ∧ ∃ ps, l[i]? = some ps ∧ q ∈ ps := by
  rw [Game.mem_idxs]
  simp only [Nat.zero_add]
namespace Game
end Game
end Sm
namespace Kx
open PySem PySem.Spec L2 Sm
end Kx
namespace Kx
open PySem PySem.Spec L2 Sm
theorem okD_P (p : List Nat) : okD (encP p) = true := by
  unfold encP; simp only [okD]
  exact okDs_all fun d hd => by obtain ⟨i, _, rfl⟩ := List.mem_map.mp hd; rfl
end Kx
namespace Sm
abbrev PL := List (List Nat)
def more (S : List PL) (R : List PL) (k : Nat) : List PL := S.flatMap fun a => R.map fun r => a ++ r.map (k :: ·)
namespace Game
def rl : Game → List PL
  | .node _ ws => if ws = [] then [[[]]] else [[]] :: ((ws.map fun p => p.2.rl).zipIdx).foldl (fun S x => more S x.1 x.2) [[]]
termination_by g => sizeOf g
decreasing_by exact lt_of_mem ‹_›
end Game
namespace Game
def cnt : Nat → Nat
  | 0 => 0
  | n + 1 => 1 + cnt n * cnt n * cnt n
end Game
end Sm
namespace Kx
open PySem PySem.Spec L2 Sm
end Kx
namespace Kx
open PySem PySem.Spec L2 Sm
end Kx
namespace Sm
namespace Game
def shr (g : Game) (x : Int × Game) : Rat := Rat.divInt x.1 g.total
def gain (g : Game) : Rat := qsum (g.ways.map fun x => g.shr x * ((x.2.worth - g.worth : Int) : Rat))
inductive Gains (P : Rat → Prop) : Game → Prop
  | mk {w : Int} {ws : List (Int × Game)} : (ws ≠ [] → P (gain (.node w ws))) → (∀ p ∈ ws, Gains P p.2) → Gains P (.node w ws)
theorem Gains.at {P : Rat → Prop} : ∀ {p : List Nat} {g : Game}, Gains P g → g.IsPath p → Gains P (g.part p)
  | [], g, h, _ => h
  | i :: p, .node w ws, h, hp => by
    simp only [IsPath, ways] at hp
    cases hx : ws[i]? with
    | none => rw [hx] at hp; exact hp.elim
    | some x =>
      rw [hx] at hp
      rw [part_c (g := .node w ws) p hx]
      cases h with
      | mk _ h2 => exact (h2 x (List.mem_of_getElem? hx)).at hp
end Game
end Sm
namespace Sm
namespace Game
end Game
end Sm
namespace Kx
open PySem PySem.Spec L2 Sm
end Kx
namespace Kx
open PySem PySem.Spec L2 Sm
def isF (P : Rat → Bool) (g : Game) : Bool := (g.paths.filter fun p => !decide ((g.part p).ways = [])).all fun p => P (g.part p).gain
end Kx
namespace Sm
namespace RT
theorem mem_go {rs : List RT} {p : List Nat} : p ∈ (RT.go rs).paths ↔ ∃ i q r, p = i :: q ∧ rs[i]? = some r ∧ q ∈ r.paths := by
  rw [paths_go, mem_idxs']
  constructor
  · rintro ⟨i, q, h1, ps, h2, h3⟩
    rw [List.getElem?_map, Option.map_eq_some_iff] at h2
    obtain ⟨r, h4, rfl⟩ := h2
    exact ⟨i, q, r, h1, h4, h3⟩
  · rintro ⟨i, q, r, h1, h2, h3⟩
    exact ⟨i, q, h1, r.paths, by rw [List.getElem?_map, h2]; rfl, h3⟩
theorem mem_cons {rs : List RT} {i : Nat} {q : List Nat} {r : RT} (h : rs[i]? = some r) : i :: q ∈ (RT.go rs).paths ↔ q ∈ r.paths := by
  rw [mem_go]
  constructor
  · rintro ⟨j, q', r', h1, h2, h3⟩
    injection h1 with h1 h1'
    subst h1 h1'
    rw [h] at h2; cases h2; exact h3
  · exact fun hq => ⟨i, q, r, rfl, h, hq⟩
mutual
def join : RT → RT → RT
  | .stop, s => s
  | .go rs, .stop => .go rs
  | .go rs, .go ss => .go (joins rs ss)
def joins : List RT → List RT → List RT
  | r :: rs, s :: ss => join r s :: joins rs ss
  | _, _ => []
end
end RT
open RT
namespace Game
end Game
end Sm
namespace Kx
open PySem PySem.Spec L2 Sm
end Kx
namespace Kx
open PySem PySem.Spec L2 Sm
def stT : DT := asB (dBin oNe (dVar 4) (dLst dNil))
def stB (pk : Nat → Int → Int) : DS := (dSeq (dPop 4 (.t [(.v 5), (.v 6)]))
    (dSeq (dSet [4, 3] 1 (dBin oAdd (dVar 1) (dC (.int 1))))
    (dIfS (dOrT (asB (dBin oEq (dB oLen (dCons (dVar 6) dNil)) (dC (.int 1)))) (asB (dBin oEq (dCall (dPick pk) (dCons (dVar 0) (dCons (dVar 1) (dCons (dC (.int 3)) dNil)))) (dC (.int 0))))) (dApp [4, 3] 3 (dVar 5)) (dExt [4, 3] 4 (dLc [7, 8, 9] (.t [(.v 7), (.t [(.v 8), (.v 9)])]) (dRng enumD (dCons (dBin oIx (dVar 6) (dC (.int 1))) dNil)) dYes (dTup (dCons (dBin oAdd (dVar 5) (dTup (dCons (dVar 7) dNil))) (dCons (dVar 9) dNil))))))))
def encRow (x : List Nat × Game) : D := .tup [encP x.1, x.2.enc]
def stE (g : D) (k : Nat) (some_ : PL) (rows : List (List Nat × Game)) (x5 x6 : Option D) : Sm.Env := [some .scr0, some (.int (k : Int)), some g, some (.lst (some_.map encP)), some (.lst (rows.map encRow)), x5, x6, none, none, none]
def Sub (pk : Nat → Int → Int) (g : D) (s : Game) : Prop := ∀ (d : Nat), s.Ok d → d ≤ 4 → ∀ (road : List Nat) (rows : List (List Nat × Game)) (some_ : PL) (k : Nat) (x5 x6 : Option D), (∀ y ∈ rows, y.2.Ok 4) → road.length + d ≤ 90 → some_.length + rows.length + 3 * s.paths.length ≤ 50000 →
  ∃ (t : RT) (L : PL) (k' : Nat) (y5 y6 : Option D) (m : Nat), RuleOf s t ∧ L.Perm (t.paths.map (road ++ ·)) ∧ m ≤ s.paths.length ∧ L.length ≤ s.paths.length ∧ ∀ N, whileGo stT (stB pk) (N + m) (stE g k some_ (rows ++ [(road, s)]) x5 x6) = whileGo stT (stB pk) N (stE g k' (some_ ++ L) rows y5 y6)
end Kx
namespace Sm
namespace Game
end Game
end Sm
namespace Kx
open PySem PySem.Spec L2 Sm
end Kx
namespace Kx
open PySem PySem.Spec L2 Sm
end Kx
namespace Sm
end Sm
namespace Kx
open PySem PySem.Spec L2 Sm
end Kx
namespace Sm
end Sm
namespace Kx
open PySem PySem.Spec L2 Sm
end Kx
namespace Kx
open PySem PySem.Spec L2 Sm
end Kx
namespace Sm
namespace Game
end Game
end Sm
namespace Kx
open PySem PySem.Spec L2 Sm
end Kx
namespace Sm
end Sm
namespace Kx
open PySem PySem.Spec L2 Sm
end Kx
namespace Sm
namespace Game
end Game
end Sm
namespace Kx
open PySem PySem.Spec L2 Sm
end Kx
namespace Kx
open PySem PySem.Spec L2 Sm
def sqI (k : Int) : Rat := ((k * k : Int) : Rat)
section
variable {g : Game} {t : RT}
end
end Kx
namespace Sm
namespace Game
end Game
end Sm
namespace Kx
open PySem PySem.Spec L2 Sm
open Classical in
noncomputable def mx (g : Game) (p : List Nat) : Int := if h : ∃ M : Int, d_most_along [g.enc, encP p] = .ok (.int M) then h.choose else 0
end Kx
namespace Sm
namespace Game
end Game
end Sm
namespace Kx
open PySem PySem.Spec L2 Sm
def sts (g : Game) (p : List Nat) (ws : List (Int × Game)) (k : Nat) : List Rat := (ws.zipIdx k).map fun x => g.chance (p ++ [x.2]) * sqI (x.1.2.worth - (g.part p).worth)
end Kx
namespace Sm
namespace Game
end Game
end Sm
namespace Kx
open PySem PySem.Spec L2 Sm
theorem isG_ok : ∀ (n : Nat) (g : Game), isG n g.enc = true → g.Ok n
  | 0, _, h => by cases h
  | n + 1, .node w ws, h => by
    cases ws with
    | nil =>
      rw [enc_end] at h
      simp only [isG, wh, Bool.and_eq_true, decide_eq_true_eq] at h
      exact ⟨h, by simp, by simp⟩
    | cons x ws =>
      rw [enc_go] at h
      simp only [isG, wh, Bool.and_eq_true, decide_eq_true_eq, List.length_map] at h
      refine ⟨h.1, h.2.1.2, fun p hp => ?_⟩
      have := List.all_eq_true.mp h.2.2 _ (List.mem_map.mpr ⟨p, hp, rfl⟩)
      simp only [isW, wh, Bool.and_eq_true, decide_eq_true_eq] at this
      exact ⟨this.1, isG_ok n p.2 this.2⟩
theorem enc_okD : ∀ g : Game, okD g.enc = true := by
  apply Game.ind
  intro w ws ih
  cases ws with
  | nil => rw [enc_end]; simp [okD, okDs]
  | cons x ws =>
    rw [enc_go]
    simp only [okD, okDs, Bool.true_and, Bool.and_true]
    refine okDs_all fun d hd => ?_
    obtain ⟨p, hp, rfl⟩ := List.mem_map.mp hd
    simp only [okD, okDs, Bool.true_and, Bool.and_true]
    exact ih p hp
theorem look_no {g : Game} (h : ¬ g.Ok 4) : d_look_game [g.enc] = .err 1 := by
  have := look_any (enc_okD g)
  cases hq : isG 4 g.enc with
  | true => exact absurd (isG_ok 4 g hq) h
  | false => rw [hq] at this; exact this
end Kx
namespace Kx
open PySem PySem.Spec L2 Sm
section
variable {g : Game} {k : Nat} {ps : PLS} {P : PP}
theorem len_encW (ws : List (Int × Game)) : oLen [.tup (encW ws)] = some (.int (ws.length : Int)) := by unfold encW; simp only [oLen, List.length_map]
theorem hz_of (hz : P.past.length < 100000) : (P.enc g).past.length < sizeLine := by have := sizeLine_pos; rw [show (P.enc g).past = hD P.past from rfl, hD_len]; omega
theorem hz_of' (hz : P.later.length < 100000) : (P.enc g).later.length < sizeLine := by have := sizeLine_pos; rw [show (P.enc g).later = hD P.later from rfl, hD_len]; omega
theorem pgo_ok (h : ps[k]? = some (P.enc g)) (hp : g.IsPath P.now.path) (hl : P.now.path.length ≤ 1000) (hz : P.past.length < 100000) (hb : -99 ≤ P.now.bet ∧ P.now.bet ≤ 99) {i : Nat} {x : Int × Game} (hx : (g.part P.now.path).ways[i]? = some x) :
    e_Play_go [.obj k, .int (i : Int)] ps = .ok (.int (P.now.bet * (x.2.worth - (g.part P.now.path).worth))) (ps.set k ((⟨⟨P.now.path ++ [i], P.now.bet, P.now.won + P.now.bet * (x.2.worth - (g.part P.now.path).worth)⟩, P.past ++ [(.go i, P.now)], []⟩ : PP).enc g)) := by
  unfold e_Play_go be_Play_go
  have e : (P.enc g).own = g.enc := rfl
  have hi : i < (g.part P.now.path).ways.length := (List.getElem?_eq_some_iff.mp hx).1
  have w : d_is_whole [.int (i : Int), .int 0, .int (((g.part P.now.path).ways.length : Int) - 1)] = .ok (.bl true) := by rw [whole_ok]; simp; omega
  have hm : oMul (.int P.now.bet) (.int (x.2.worth - (g.part P.now.path).worth)) = some (.int (P.now.bet * (x.2.worth - (g.part P.now.path).worth))) := oMul_ok (mulOk_l (by omega))
  simp only [plAt0 h, now_eq, e, part_of_ok hp, ways_ok, len_encW, w, encW_at hx, oIx_t1, ix0_ok, hm, snoc_P _ _ hl, do_ok h (hz_of hz), eSeq, eRet, eBin, eNow, eOwn, eP, eT, eIf, eIfS, eSet, eAsg, eDrop, eApp, eMeth, eMake, makeR, eCallA, upF, eCons, eNil, eTup, eLst, easB, eAndT, eOrT, eNotT, eTru, eAnd, eB, sP, RP.bind, RP.to, R.up, O.up, OE.seq, outE, defE, oIxT, atI, defD, args, dSeq, dSet, dSetP, dSetN, lstAt, dApp, dAppP, dAsg, dPar, dDrop, dWhile, dIfS, dRet, dB, dCall, dCons, dNil, dVar, dC, dBin, dChain, asB, dTru, dNotT, dAndT, dOrT, dAnd, dOr, dNot, dIf, dUn, dTup, dLst, dItems, dYes, R.bind, R.to, O.seq, outR, ofO, noErr, mask, Sm.putIn, bindPat, bindPats, itemsOf, tru, List.foldr_cons, List.foldr_nil, List.length_cons, List.length_nil, List.map_cons, List.map_nil, List.cons_append, List.nil_append, Nat.sub_self, List.replicate_zero, List.replicate_succ, List.getElem?_cons_succ, List.getElem?_cons_zero, List.set_cons_zero, List.set_cons_succ, Nat.reduceAdd, Nat.reduceSub, ↓reduceIte, Bool.not_true, Bool.not_false, Bool.and_true, Bool.true_and, Bool.false_and, Bool.and_false, if_true, if_false, Bool.false_eq_true, oNeg, oAddI, oSubI, oAdd_ii, oLt, oLe, oGt, oGe, Option.bind_some, Option.map_some]
  simp [PP.enc, hD, PSt.enc, Stp.enc, Stp.word, Stp.num]
theorem pgo_no (h : ps[k]? = some (P.enc g)) (hp : g.IsPath P.now.path) {i : Nat} (hx : (g.part P.now.path).ways[i]? = none) : e_Play_go [.obj k, .int (i : Int)] ps = .err 2 ps := by
  unfold e_Play_go be_Play_go
  have e : (P.enc g).own = g.enc := rfl
  have hi : (g.part P.now.path).ways.length ≤ i := List.getElem?_eq_none_iff.mp hx
  have w : d_is_whole [.int (i : Int), .int 0, .int (((g.part P.now.path).ways.length : Int) - 1)] = .ok (.bl false) := by rw [whole_ok]; simp; omega
  simp only [plAt0 h, now_eq, e, part_of_ok hp, ways_ok, len_encW, w, eSeq, eRet, eBin, eNow, eOwn, eP, eT, eIf, eIfS, eSet, eAsg, eDrop, eApp, eMeth, eMake, makeR, eCallA, upF, eCons, eNil, eTup, eLst, easB, eAndT, eOrT, eNotT, eTru, eAnd, eB, sP, RP.bind, RP.to, R.up, O.up, OE.seq, outE, defE, oIxT, atI, defD, args, dSeq, dSet, dSetP, dSetN, lstAt, dApp, dAppP, dAsg, dPar, dDrop, dWhile, dIfS, dRet, dB, dCall, dCons, dNil, dVar, dC, dBin, dChain, asB, dTru, dNotT, dAndT, dOrT, dAnd, dOr, dNot, dIf, dUn, dTup, dLst, dItems, dYes, R.bind, R.to, O.seq, outR, ofO, noErr, mask, Sm.putIn, bindPat, bindPats, itemsOf, tru, List.foldr_cons, List.foldr_nil, List.length_cons, List.length_nil, List.map_cons, List.map_nil, List.cons_append, List.nil_append, Nat.sub_self, List.replicate_zero, List.replicate_succ, List.getElem?_cons_succ, List.getElem?_cons_zero, List.set_cons_zero, List.set_cons_succ, Nat.reduceAdd, Nat.reduceSub, ↓reduceIte, Bool.not_true, Bool.not_false, Bool.and_true, Bool.true_and, Bool.false_and, Bool.and_false, if_true, if_false, Bool.false_eq_true, oNeg, oAddI, oSubI, oAdd_ii, oLt, oLe, oGt, oGe, Option.bind_some, Option.map_some]
  rfl
theorem hD_pl (h : Hs) : pl 64 (.lst (hD h)) = true := by
  simp only [pl]
  induction h with
  | nil => rfl
  | cons a as ih =>
    show (pl 63 (.tup [a.1.enc, a.2.enc]) && pls 63 (hD as)) = true
    rw [ih, Bool.and_true]
    have h1 : pl 62 a.1.enc = true := by
      have hb : PySem.PyData.strOk "bet" = true := by decide +kernel
      have hg : PySem.PyData.strOk "go" = true := by decide +kernel
      cases a.1 <;> simp only [Stp.enc, Stp.word, pl, pls, hb, hg, Bool.and_true]
    have h2 : pl 62 a.2.enc = true := by simp only [PSt.enc, pl, pls, pl_P 60, Bool.and_true]
    simp only [pl, pls, h1, h2, Bool.and_true]
theorem pback_no (h : ps[k]? = some (P.enc g)) (hp : P.past = []) : e_Play_back [.obj k] ps = .err 7 ps := back_no h (by simp [PP.enc, hp, hD])
theorem pback_ok (h : ps[k]? = some (P.enc g)) {init : Hs} {st : Stp} {s : PSt} (hp : P.past = init ++ [(st, s)]) (hz : P.later.length < 100000) :
    e_Play_back [.obj k] ps = .ok (.str st.word) (ps.set k ((⟨s, init, P.later ++ [(st, P.now)]⟩ : PP).enc g)) := by
  rw [back_ok h (init := hD init) (w := .str st.word) (a := .int st.num) (was := s.enc) (by simp [PP.enc, hp, hD, Stp.enc]) (hz_of' hz) (hD_pl P.past)]
  simp [PP.enc, hD, Stp.enc]
theorem pforth_ok (h : ps[k]? = some (P.enc g)) {init : Hs} {st : Stp} {s : PSt} (hp : P.later = init ++ [(st, s)]) (hz : P.past.length < 100000) :
    e_Play_forth [.obj k] ps = .ok (.str st.word) (ps.set k ((⟨s, P.past ++ [(st, P.now)], init⟩ : PP).enc g)) := by
  rw [forth_ok h (init := hD init) (w := .str st.word) (a := .int st.num) (was := s.enc) (by simp [PP.enc, hp, hD, Stp.enc]) (hz_of hz) (hD_pl P.later)]
  simp [PP.enc, hD, Stp.enc]
theorem okPl_enc (g : Game) (P : PP) : okPl (P.enc g) = true := by
  have h : ∀ h : Hs, noFns (hD h) = true := fun h => by
    induction h with
    | nil => rfl
    | cons a as ih =>
      show (noFn (.tup [a.1.enc, a.2.enc]) && noFns (hD as)) = true
      rw [ih, Bool.and_true]
      simp only [noFn, noFns, Stp.enc, PSt.enc, okD_noFn _ (okD_P _), Bool.and_true]
  simp only [okPl, PP.enc, okD_noFn _ (enc_okD g), h, PSt.enc, noFn, noFns, okD_noFn _ (okD_P _), Bool.and_true]
theorem okPS_set (h : okPS ps = true) (g : Game) (P : PP) (k : Nat) : okPS (ps.set k (P.enc g)) = true := by
  unfold okPS at h ⊢
  rw [List.all_eq_true] at h ⊢
  intro q hq
  rcases List.mem_or_eq_of_mem_set hq with hq | rfl
  · exact h q hq
  · exact okPl_enc g P
theorem etold_ok {js : List Nat} {fb : EE} {ρ : Sm.Env} {d : D} {ps' : PLS} (hq : okPS ps = true) (h : fb (capsD js ρ) ps = .ok d ps') (hn : noFn d = true) (hq' : okPS ps' = true) : eLam e__law_told js fb ρ ps = .ok d ps' := by
  have hg : gdE (.ok d ps') = .ok d ps' := by simp only [gdE, hn, hq', Bool.and_true, if_true]
  have h1 : lamE fb (capsD js ρ) ps = .ok d ps' := by unfold lamE; rw [if_pos hq, h, hg]
  unfold eLam
  rw [if_pos hq]
  have : e__law_told (lamE fb (capsD js ρ)) [.fnv] ps = .ok d ps' := by
    show outE (be__law_told (lamE fb (capsD js ρ)) (args 2 [.fnv]) ps) = _
    unfold be__law_told eTryR
    have : eCallF 0 (lamE fb (capsD js ρ)) (args 2 [.fnv]) ps = .ok d ps' := h1
    rw [this]
    rfl
  rw [this, hg]
theorem etold_err {js : List Nat} {fb : EE} {ρ : Sm.Env} {c : Nat} {ps' : PLS} (hq : okPS ps = true) (h : fb (capsD js ρ) ps = .err c ps') (hc : 1 ≤ c ∧ c ≤ 7) (hq' : okPS ps' = true) : eLam e__law_told js fb ρ ps = .ok (.str (wordC c)) ps' := by
  have h1 : lamE fb (capsD js ρ) ps = .err c ps' := by unfold lamE; rw [if_pos hq, h]; simp only [gdE, hq', if_true]
  unfold eLam
  rw [if_pos hq]
  have h2 : dCall d__law_class (dCons (dVar 1) dNil) ((args 2 [.fnv]).set 1 (some (.exc c))) = .ok (.str (wordC c)) := by
    show d__law_class [.exc c] = _
    exact class_ok hc
  have h3 : [1, 2, 3, 4, 5, 6, 7].contains c = true := by
    obtain ⟨h1, h2⟩ := hc
    match c, h1, h2 with
    | 1, _, _ => rfl
    | 2, _, _ => rfl
    | 3, _, _ => rfl
    | 4, _, _ => rfl
    | 5, _, _ => rfl
    | 6, _, _ => rfl
    | 7, _, _ => rfl
  have : e__law_told (lamE fb (capsD js ρ)) [.fnv] ps = .ok (.str (wordC c)) ps' := by
    show outE (be__law_told (lamE fb (capsD js ρ)) (args 2 [.fnv]) ps) = _
    unfold be__law_told eTryR
    have : eCallF 0 (lamE fb (capsD js ρ)) (args 2 [.fnv]) ps = .err c ps' := h1
    rw [this]
    simp only [h3, if_true, h2]
    rfl
  rw [this]
  simp only [gdE, noFn, hq', Bool.and_true, if_true]
end
end Kx
namespace Kx
open PySem PySem.Spec L2 Sm
theorem ix1_ways {g : Game} (h : g.ways ≠ []) : oIx g.enc (.int 1) = some (.tup (encW g.ways)) := by
  cases g with
  | node w ws =>
    cases ws with
    | nil => exact absurd rfl h
    | cons x xs => rw [enc_go]; rfl
theorem there_go : ∀ (p : List Nat) (g : Game) (x1 x2 : Option D), g.IsPath p → ∃ y, forGo (.v 2) (dSet [] 0 (dBin oIx (dBin oIx (dBin oIx (dVar 0) (dC (.int 1))) (dVar 2)) (dC (.int 1)))) (p.map fun i : Nat => D.int (i : Int)) [some g.enc, x1, x2] = .nx [some (g.part p).enc, x1, y]
  | [], g, x1, x2, _ => ⟨x2, rfl⟩
  | i :: p, g, x1, x2, h => by
    simp only [Game.IsPath] at h
    simp only [Game.part]
    cases hx : g.ways[i]? with
    | none => rw [hx] at h; exact h.elim
    | some x =>
      rw [hx] at h
      have hw : g.ways ≠ [] := by intro z; rw [z] at hx; cases hx
      obtain ⟨y, e⟩ := there_go p x.2 x1 (some (.int (i : Int))) h
      refine ⟨y, ?_⟩
      simp only [forGo, ix1_ways hw, encW_at hx, oIx_t1, defD, args, dSeq, dSet, dSetP, dSetN, lstAt, dApp, dAppP, dAsg, dPar, dDrop, dWhile, dIfS, dRet, dB, dCall, dCons, dNil, dVar, dC, dBin, dChain, asB, dTru, dNotT, dAndT, dOrT, dAnd, dOr, dNot, dIf, dUn, dTup, dLst, dItems, dYes, R.bind, R.to, O.seq, outR, ofO, noErr, mask, Sm.putIn, bindPat, bindPats, itemsOf, tru, List.foldr_cons, List.foldr_nil, List.length_cons, List.length_nil, List.map_cons, List.map_nil, List.cons_append, List.nil_append, Nat.sub_self, List.replicate_zero, List.replicate_succ, List.getElem?_cons_succ, List.getElem?_cons_zero, List.set_cons_zero, List.set_cons_succ, Nat.reduceAdd, Nat.reduceSub, ↓reduceIte, Bool.not_true, Bool.not_false, Bool.and_true, Bool.true_and, Bool.false_and, Bool.and_false, if_true, if_false, Bool.false_eq_true, oNeg, oAddI, oSubI, oAdd_ii, oLt, oLe, oGt, oGe, Option.bind_some, Option.map_some]
      exact e
theorem there_ok {g : Game} {p : List Nat} (h : g.IsPath p) : d__law_there [g.enc, encP p] = .ok (g.part p).enc := by
  obtain ⟨y, e⟩ := there_go p g (some (encP p)) none h
  refine defD_eq rfl ?_
  unfold b__law_there
  refine out_seq (ρ1 := [some (g.part p).enc, some (encP p), y]) ?_ (ret_of ?_)
  · unfold dFor
    simp only [encP, defD, args, dSeq, dSet, dSetP, dSetN, lstAt, dApp, dAppP, dAsg, dPar, dDrop, dWhile, dIfS, dRet, dB, dCall, dCons, dNil, dVar, dC, dBin, dChain, asB, dTru, dNotT, dAndT, dOrT, dAnd, dOr, dNot, dIf, dUn, dTup, dLst, dItems, dYes, R.bind, R.to, O.seq, outR, ofO, noErr, mask, Sm.putIn, bindPat, bindPats, itemsOf, tru, List.foldr_cons, List.foldr_nil, List.length_cons, List.length_nil, List.map_cons, List.map_nil, List.cons_append, List.nil_append, Nat.sub_self, List.replicate_zero, List.replicate_succ, List.getElem?_cons_succ, List.getElem?_cons_zero, List.set_cons_zero, List.set_cons_succ, Nat.reduceAdd, Nat.reduceSub, ↓reduceIte, Bool.not_true, Bool.not_false, Bool.and_true, Bool.true_and, Bool.false_and, Bool.and_false, if_true, if_false, Bool.false_eq_true, oNeg, oAddI, oSubI, oAdd_ii, oLt, oLe, oGt, oGe, Option.bind_some, Option.map_some]
    exact e
  · simp only [defD, args, dSeq, dSet, dSetP, dSetN, lstAt, dApp, dAppP, dAsg, dPar, dDrop, dWhile, dIfS, dRet, dB, dCall, dCons, dNil, dVar, dC, dBin, dChain, asB, dTru, dNotT, dAndT, dOrT, dAnd, dOr, dNot, dIf, dUn, dTup, dLst, dItems, dYes, R.bind, R.to, O.seq, outR, ofO, noErr, mask, Sm.putIn, bindPat, bindPats, itemsOf, tru, List.foldr_cons, List.foldr_nil, List.length_cons, List.length_nil, List.map_cons, List.map_nil, List.cons_append, List.nil_append, Nat.sub_self, List.replicate_zero, List.replicate_succ, List.getElem?_cons_succ, List.getElem?_cons_zero, List.set_cons_zero, List.set_cons_succ, Nat.reduceAdd, Nat.reduceSub, ↓reduceIte, Bool.not_true, Bool.not_false, Bool.and_true, Bool.true_and, Bool.false_and, Bool.and_false, if_true, if_false, Bool.false_eq_true, oNeg, oAddI, oSubI, oAdd_ii, oLt, oLe, oGt, oGe, Option.bind_some, Option.map_some]
def dueD (g : Game) (s : PSt) (st : Stp) : D := match stepTo g s st with | some x => .int x.2 | none => .str "no path"
def nextS (g : Game) (s : PSt) (st : Stp) : PSt := match stepTo g s st with | some x => x.1 | none => s
def afterP (g : Game) (P : PP) (st : Stp) : PP := match stepTo g P.now st with | some x => ⟨x.1, P.past ++ [(st, P.now)], []⟩ | none => P
theorem eqS_bb : oEq (.str "bet") (.str "bet") = some (.bl true) := by kernel_rfl
theorem eqS_gb : oEq (.str "go") (.str "bet") = some (.bl false) := by kernel_rfl
theorem oEq_ii (a b : Int) : oEq (.int a) (.int b) = some (.bl (decide (a = b))) := by
  show some (D.bl (a == b)) = _
  rfl
section
variable {g : Game} {k : Nat} {ps : PLS} {P : PP} {s : PSt}
theorem behind_ok (hp : g.IsPath s.path) (hl : s.path.length ≤ 1000) (hb : -99 ≤ s.bet ∧ s.bet ≤ 99) (st : Stp) : d__law_behind [g.enc, s.enc, st.enc] = .ok (.tup [(nextS g s st).enc, dueD g s st]) := by
  refine defD_eq rfl ?_
  unfold b__law_behind
  cases st with
  | bet n =>
    simp only [PSt.enc, Stp.enc, Stp.word, Stp.num, oIx_t0, oIx_t1, eqS_bb, nextS, dueD, stepTo, defD, args, dSeq, dSet, dSetP, dSetN, lstAt, dApp, dAppP, dAsg, dPar, dDrop, dWhile, dIfS, dRet, dB, dCall, dCons, dNil, dVar, dC, dBin, dChain, asB, dTru, dNotT, dAndT, dOrT, dAnd, dOr, dNot, dIf, dUn, dTup, dLst, dItems, dYes, R.bind, R.to, O.seq, outR, ofO, noErr, mask, Sm.putIn, bindPat, bindPats, itemsOf, tru, List.foldr_cons, List.foldr_nil, List.length_cons, List.length_nil, List.map_cons, List.map_nil, List.cons_append, List.nil_append, Nat.sub_self, List.replicate_zero, List.replicate_succ, List.getElem?_cons_succ, List.getElem?_cons_zero, List.set_cons_zero, List.set_cons_succ, Nat.reduceAdd, Nat.reduceSub, ↓reduceIte, Bool.not_true, Bool.not_false, Bool.and_true, Bool.true_and, Bool.false_and, Bool.and_false, if_true, if_false, Bool.false_eq_true, oNeg, oAddI, oSubI, oAdd_ii, oLt, oLe, oGt, oGe, Option.bind_some, Option.map_some]
  | go i =>
    cases hx : (g.part s.path).ways[i]? with
    | none =>
      have hi : (g.part s.path).ways.length ≤ i := List.getElem?_eq_none_iff.mp hx
      by_cases hw : (g.part s.path).ways = []
      · simp only [PSt.enc, Stp.enc, Stp.word, Stp.num, oIx_t0, oIx_t1, eqS_gb, nextS, dueD, stepTo, hx, there_ok hp, oLen_enc, hw, oEq_ii, defD, args, dSeq, dSet, dSetP, dSetN, lstAt, dApp, dAppP, dAsg, dPar, dDrop, dWhile, dIfS, dRet, dB, dCall, dCons, dNil, dVar, dC, dBin, dChain, asB, dTru, dNotT, dAndT, dOrT, dAnd, dOr, dNot, dIf, dUn, dTup, dLst, dItems, dYes, R.bind, R.to, O.seq, outR, ofO, noErr, mask, Sm.putIn, bindPat, bindPats, itemsOf, tru, List.foldr_cons, List.foldr_nil, List.length_cons, List.length_nil, List.map_cons, List.map_nil, List.cons_append, List.nil_append, Nat.sub_self, List.replicate_zero, List.replicate_succ, List.getElem?_cons_succ, List.getElem?_cons_zero, List.set_cons_zero, List.set_cons_succ, Nat.reduceAdd, Nat.reduceSub, ↓reduceIte, Bool.not_true, Bool.not_false, Bool.and_true, Bool.true_and, Bool.false_and, Bool.and_false, if_true, if_false, Bool.false_eq_true, oNeg, oAddI, oSubI, oAdd_ii, oLt, oLe, oGt, oGe, Option.bind_some, Option.map_some]
        rfl
      · have hge : decide ((i : Int) ≥ ((g.part s.path).ways.length : Int)) = true := by simp; omega
        have h21 : decide ((2 : Int) = 1) = false := rfl
        simp only [PSt.enc, Stp.enc, Stp.word, Stp.num, oIx_t0, oIx_t1, eqS_gb, nextS, dueD, stepTo, hx, there_ok hp, oLen_enc, hw, oEq_ii, h21, ix1_ways hw, len_encW, hge, defD, args, dSeq, dSet, dSetP, dSetN, lstAt, dApp, dAppP, dAsg, dPar, dDrop, dWhile, dIfS, dRet, dB, dCall, dCons, dNil, dVar, dC, dBin, dChain, asB, dTru, dNotT, dAndT, dOrT, dAnd, dOr, dNot, dIf, dUn, dTup, dLst, dItems, dYes, R.bind, R.to, O.seq, outR, ofO, noErr, mask, Sm.putIn, bindPat, bindPats, itemsOf, tru, List.foldr_cons, List.foldr_nil, List.length_cons, List.length_nil, List.map_cons, List.map_nil, List.cons_append, List.nil_append, Nat.sub_self, List.replicate_zero, List.replicate_succ, List.getElem?_cons_succ, List.getElem?_cons_zero, List.set_cons_zero, List.set_cons_succ, Nat.reduceAdd, Nat.reduceSub, ↓reduceIte, Bool.not_true, Bool.not_false, Bool.and_true, Bool.true_and, Bool.false_and, Bool.and_false, if_true, if_false, Bool.false_eq_true, oNeg, oAddI, oSubI, oAdd_ii, oLt, oLe, oGt, oGe, Option.bind_some, Option.map_some]
    | some x =>
      have hi : i < (g.part s.path).ways.length := (List.getElem?_eq_some_iff.mp hx).1
      have hw : (g.part s.path).ways ≠ [] := by intro z; rw [z] at hx; cases hx
      have hge : decide ((i : Int) ≥ ((g.part s.path).ways.length : Int)) = false := by simp; omega
      have h21 : decide ((2 : Int) = 1) = false := rfl
      have hm : oMul (.int s.bet) (.int (x.2.worth - (g.part s.path).worth)) = some (.int (s.bet * (x.2.worth - (g.part s.path).worth))) := oMul_ok (mulOk_l (by omega))
      simp only [PSt.enc, Stp.enc, Stp.word, Stp.num, oIx_t0, oIx_t1, eqS_gb, nextS, dueD, stepTo, hx, there_ok hp, oLen_enc, hw, oEq_ii, h21, ix1_ways hw, len_encW, hge, encW_at hx, ix0_ok, hm, snoc_P _ _ hl, defD, args, dSeq, dSet, dSetP, dSetN, lstAt, dApp, dAppP, dAsg, dPar, dDrop, dWhile, dIfS, dRet, dB, dCall, dCons, dNil, dVar, dC, dBin, dChain, asB, dTru, dNotT, dAndT, dOrT, dAnd, dOr, dNot, dIf, dUn, dTup, dLst, dItems, dYes, R.bind, R.to, O.seq, outR, ofO, noErr, mask, Sm.putIn, bindPat, bindPats, itemsOf, tru, List.foldr_cons, List.foldr_nil, List.length_cons, List.length_nil, List.map_cons, List.map_nil, List.cons_append, List.nil_append, Nat.sub_self, List.replicate_zero, List.replicate_succ, List.getElem?_cons_succ, List.getElem?_cons_zero, List.set_cons_zero, List.set_cons_succ, Nat.reduceAdd, Nat.reduceSub, ↓reduceIte, Bool.not_true, Bool.not_false, Bool.and_true, Bool.true_and, Bool.false_and, Bool.and_false, if_true, if_false, Bool.false_eq_true, oNeg, oAddI, oSubI, oAdd_ii, oLt, oLe, oGt, oGe, Option.bind_some, Option.map_some]
theorem set_self {q : Pl} (h : ps[k]? = some q) : ps.set k q = ps := by
  obtain ⟨h1, h2⟩ := List.getElem?_eq_some_iff.mp h
  rw [← h2]; exact List.set_getElem_self h1
theorem did_ok (hq : okPS ps = true) (h : ps[k]? = some (P.enc g)) (hp : g.IsPath P.now.path) (hl : P.now.path.length ≤ 1000) (hz : P.past.length < 100000) (hb : -99 ≤ P.now.bet ∧ P.now.bet ≤ 99) (st : Stp) (hs : -99 ≤ st.num ∧ st.num ≤ 99) :
    e__law_did [.obj k, st.enc] ps = .ok (dueD g P.now st) (ps.set k ((afterP g P st).enc g)) := by
  show outE (RP.to _ (eLam e__law_told [1, 0] _ [some (.obj k), some st.enc] ps) _) = _
  cases st with
  | bet n =>
    rw [etold_ok (d := .int P.now.bet) (ps' := ps.set k ((afterP g P (.bet n)).enc g)) hq ?_ rfl (okPS_set hq _ _ _)]
    · rfl
    · show eIf _ _ _ [some (Stp.bet n).enc, some (.obj k)] ps = _
      simp only [Stp.enc, Stp.word, Stp.num, oIx_t0, oIx_t1, eqS_bb, pbet_ok h hz (show -99 ≤ n ∧ n ≤ 99 from hs), eSeq, eRet, eBin, eNow, eOwn, eP, eT, eIf, eIfS, eSet, eAsg, eDrop, eApp, eMeth, eMake, makeR, eCallA, upF, eCons, eNil, eTup, eLst, easB, eAndT, eOrT, eNotT, eTru, eAnd, eB, sP, RP.bind, RP.to, R.up, O.up, OE.seq, outE, defE, oIxT, atI, defD, args, dSeq, dSet, dSetP, dSetN, lstAt, dApp, dAppP, dAsg, dPar, dDrop, dWhile, dIfS, dRet, dB, dCall, dCons, dNil, dVar, dC, dBin, dChain, asB, dTru, dNotT, dAndT, dOrT, dAnd, dOr, dNot, dIf, dUn, dTup, dLst, dItems, dYes, R.bind, R.to, O.seq, outR, ofO, noErr, mask, Sm.putIn, bindPat, bindPats, itemsOf, tru, List.foldr_cons, List.foldr_nil, List.length_cons, List.length_nil, List.map_cons, List.map_nil, List.cons_append, List.nil_append, Nat.sub_self, List.replicate_zero, List.replicate_succ, List.getElem?_cons_succ, List.getElem?_cons_zero, List.set_cons_zero, List.set_cons_succ, Nat.reduceAdd, Nat.reduceSub, ↓reduceIte, Bool.not_true, Bool.not_false, Bool.and_true, Bool.true_and, Bool.false_and, Bool.and_false, if_true, if_false, Bool.false_eq_true, oNeg, oAddI, oSubI, oAdd_ii, oLt, oLe, oGt, oGe, Option.bind_some, Option.map_some]
      rfl
  | go i =>
    cases hx : (g.part P.now.path).ways[i]? with
    | some x =>
      rw [etold_ok (d := dueD g P.now (.go i)) (ps' := ps.set k ((afterP g P (.go i)).enc g)) hq ?_ (by unfold dueD stepTo; simp only [hx]; rfl) (okPS_set hq _ _ _)]
      · rfl
      · show eIf _ _ _ [some (Stp.go i).enc, some (.obj k)] ps = _
        simp only [Stp.enc, Stp.word, Stp.num, oIx_t0, oIx_t1, eqS_gb, pgo_ok h hp hl hz hb hx, dueD, afterP, stepTo, hx, eSeq, eRet, eBin, eNow, eOwn, eP, eT, eIf, eIfS, eSet, eAsg, eDrop, eApp, eMeth, eMake, makeR, eCallA, upF, eCons, eNil, eTup, eLst, easB, eAndT, eOrT, eNotT, eTru, eAnd, eB, sP, RP.bind, RP.to, R.up, O.up, OE.seq, outE, defE, oIxT, atI, defD, args, dSeq, dSet, dSetP, dSetN, lstAt, dApp, dAppP, dAsg, dPar, dDrop, dWhile, dIfS, dRet, dB, dCall, dCons, dNil, dVar, dC, dBin, dChain, asB, dTru, dNotT, dAndT, dOrT, dAnd, dOr, dNot, dIf, dUn, dTup, dLst, dItems, dYes, R.bind, R.to, O.seq, outR, ofO, noErr, mask, Sm.putIn, bindPat, bindPats, itemsOf, tru, List.foldr_cons, List.foldr_nil, List.length_cons, List.length_nil, List.map_cons, List.map_nil, List.cons_append, List.nil_append, Nat.sub_self, List.replicate_zero, List.replicate_succ, List.getElem?_cons_succ, List.getElem?_cons_zero, List.set_cons_zero, List.set_cons_succ, Nat.reduceAdd, Nat.reduceSub, ↓reduceIte, Bool.not_true, Bool.not_false, Bool.and_true, Bool.true_and, Bool.false_and, Bool.and_false, if_true, if_false, Bool.false_eq_true, oNeg, oAddI, oSubI, oAdd_ii, oLt, oLe, oGt, oGe, Option.bind_some, Option.map_some]
    | none =>
      have ea : afterP g P (.go i) = P := by unfold afterP stepTo; simp only [hx]
      have ed : dueD g P.now (.go i) = .str (wordC 2) := by unfold dueD stepTo; simp only [hx]; rfl
      rw [ea, ed, set_self h, etold_err (c := 2) (ps' := ps) hq ?_ (by decide) hq]
      · rfl
      · show eIf _ _ _ [some (Stp.go i).enc, some (.obj k)] ps = _
        simp only [Stp.enc, Stp.word, Stp.num, oIx_t0, oIx_t1, eqS_gb, pgo_no h hp hx, eSeq, eRet, eBin, eNow, eOwn, eP, eT, eIf, eIfS, eSet, eAsg, eDrop, eApp, eMeth, eMake, makeR, eCallA, upF, eCons, eNil, eTup, eLst, easB, eAndT, eOrT, eNotT, eTru, eAnd, eB, sP, RP.bind, RP.to, R.up, O.up, OE.seq, outE, defE, oIxT, atI, defD, args, dSeq, dSet, dSetP, dSetN, lstAt, dApp, dAppP, dAsg, dPar, dDrop, dWhile, dIfS, dRet, dB, dCall, dCons, dNil, dVar, dC, dBin, dChain, asB, dTru, dNotT, dAndT, dOrT, dAnd, dOr, dNot, dIf, dUn, dTup, dLst, dItems, dYes, R.bind, R.to, O.seq, outR, ofO, noErr, mask, Sm.putIn, bindPat, bindPats, itemsOf, tru, List.foldr_cons, List.foldr_nil, List.length_cons, List.length_nil, List.map_cons, List.map_nil, List.cons_append, List.nil_append, Nat.sub_self, List.replicate_zero, List.replicate_succ, List.getElem?_cons_succ, List.getElem?_cons_zero, List.set_cons_zero, List.set_cons_succ, Nat.reduceAdd, Nat.reduceSub, ↓reduceIte, Bool.not_true, Bool.not_false, Bool.and_true, Bool.true_and, Bool.false_and, Bool.and_false, if_true, if_false, Bool.false_eq_true, oNeg, oAddI, oSubI, oAdd_ii, oLt, oLe, oGt, oGe, Option.bind_some, Option.map_some]
def deedM : DE := (dIf (asB (dBin oEq (dB oLen (dCons (dVar 2) dNil)) (dC (.int 2)))) (dBin oAdd (dB oLen (dCons (dBin oIx (dVar 2) (dC (.int 1))) dNil)) (dB oInt (dCons (dBin oEq (dVar 3) (dC (.int 4))) dNil))) (dC (.int 2)))
theorem deed_ok {pk : Nat → Int → Int} (ok : PkOk pk) (at_ : Nat) (h : Game) (hh : h.Ok 4) : ∃ st : Stp, d__law_deed pk [.scr0, .int (at_ : Int), h.enc] = .ok st.enc ∧ -99 ≤ st.num ∧ st.num ≤ 99 := by
  have p5 := ok at_ 5 (by decide)
  have e5 := dPick_ok pk at_ (m := 5) (by decide)
  have a1 : ((at_ : Int) + 1) = ((at_ + 1 : Nat) : Int) := by omega
  by_cases hw : pk at_ 5 < 2
  · have p13 := ok (at_ + 1) 13 (by decide)
    refine ⟨.bet (pk (at_ + 1) 13 - 6), defD_eq rfl ?_, ?_⟩
    · unfold b__law_deed
      simp only [e5, decide_eq_true hw, a1, dPick_ok pk (at_ + 1) (m := 13) (by decide), Stp.enc, Stp.word, Stp.num, defD, args, dSeq, dSet, dSetP, dSetN, lstAt, dApp, dAppP, dAsg, dPar, dDrop, dWhile, dIfS, dRet, dB, dCall, dCons, dNil, dVar, dC, dBin, dChain, asB, dTru, dNotT, dAndT, dOrT, dAnd, dOr, dNot, dIf, dUn, dTup, dLst, dItems, dYes, R.bind, R.to, O.seq, outR, ofO, noErr, mask, Sm.putIn, bindPat, bindPats, itemsOf, tru, List.foldr_cons, List.foldr_nil, List.length_cons, List.length_nil, List.map_cons, List.map_nil, List.cons_append, List.nil_append, Nat.sub_self, List.replicate_zero, List.replicate_succ, List.getElem?_cons_succ, List.getElem?_cons_zero, List.set_cons_zero, List.set_cons_succ, Nat.reduceAdd, Nat.reduceSub, ↓reduceIte, Bool.not_true, Bool.not_false, Bool.and_true, Bool.true_and, Bool.false_and, Bool.and_false, if_true, if_false, Bool.false_eq_true, oNeg, oAddI, oSubI, oAdd_ii, oLt, oLe, oGt, oGe, Option.bind_some, Option.map_some]
    · simp only [Stp.num]; omega
  · have key : ∃ m : Int, 0 < m ∧ m ≤ 4 ∧ deedM [some .scr0, some (.int (at_ : Int)), some h.enc, some (.int (pk at_ 5))] = .ok (.int m) := by
      by_cases he : h.ways = []
      · refine ⟨2, by decide, by decide, ?_⟩
        have h12 : decide ((1 : Int) = 2) = false := rfl
        simp only [deedM, oLen_enc, he, oEq_ii, h12, defD, args, dSeq, dSet, dSetP, dSetN, lstAt, dApp, dAppP, dAsg, dPar, dDrop, dWhile, dIfS, dRet, dB, dCall, dCons, dNil, dVar, dC, dBin, dChain, asB, dTru, dNotT, dAndT, dOrT, dAnd, dOr, dNot, dIf, dUn, dTup, dLst, dItems, dYes, R.bind, R.to, O.seq, outR, ofO, noErr, mask, Sm.putIn, bindPat, bindPats, itemsOf, tru, List.foldr_cons, List.foldr_nil, List.length_cons, List.length_nil, List.map_cons, List.map_nil, List.cons_append, List.nil_append, Nat.sub_self, List.replicate_zero, List.replicate_succ, List.getElem?_cons_succ, List.getElem?_cons_zero, List.set_cons_zero, List.set_cons_succ, Nat.reduceAdd, Nat.reduceSub, ↓reduceIte, Bool.not_true, Bool.not_false, Bool.and_true, Bool.true_and, Bool.false_and, Bool.and_false, if_true, if_false, Bool.false_eq_true, oNeg, oAddI, oSubI, oAdd_ii, oLt, oLe, oGt, oGe, Option.bind_some, Option.map_some]
      · have hl : h.ways.length ≤ 3 := by
          have := hh
          cases h with
          | node w ws => simp only [Game.Ok] at this; exact this.2.1
        have hl0 : 0 < h.ways.length := List.length_pos_iff.mpr he
        have h22 : decide ((2 : Int) = 2) = true := rfl
        by_cases h4 : pk at_ 5 = 4
        · refine ⟨h.ways.length + 1, by omega, by omega, ?_⟩
          have hi : oInt [.bl true] = some (.int 1) := rfl
          simp only [deedM, oLen_enc, he, oEq_ii, h22, ix1_ways he, len_encW, decide_eq_true h4, hi, decide_true, defD, args, dSeq, dSet, dSetP, dSetN, lstAt, dApp, dAppP, dAsg, dPar, dDrop, dWhile, dIfS, dRet, dB, dCall, dCons, dNil, dVar, dC, dBin, dChain, asB, dTru, dNotT, dAndT, dOrT, dAnd, dOr, dNot, dIf, dUn, dTup, dLst, dItems, dYes, R.bind, R.to, O.seq, outR, ofO, noErr, mask, Sm.putIn, bindPat, bindPats, itemsOf, tru, List.foldr_cons, List.foldr_nil, List.length_cons, List.length_nil, List.map_cons, List.map_nil, List.cons_append, List.nil_append, Nat.sub_self, List.replicate_zero, List.replicate_succ, List.getElem?_cons_succ, List.getElem?_cons_zero, List.set_cons_zero, List.set_cons_succ, Nat.reduceAdd, Nat.reduceSub, ↓reduceIte, Bool.not_true, Bool.not_false, Bool.and_true, Bool.true_and, Bool.false_and, Bool.and_false, if_true, if_false, Bool.false_eq_true, oNeg, oAddI, oSubI, oAdd_ii, oLt, oLe, oGt, oGe, Option.bind_some, Option.map_some]
        · refine ⟨h.ways.length + 0, by omega, by omega, ?_⟩
          have hi : oInt [.bl false] = some (.int 0) := rfl
          simp only [deedM, oLen_enc, he, oEq_ii, h22, ix1_ways he, len_encW, decide_eq_false h4, hi, decide_true, defD, args, dSeq, dSet, dSetP, dSetN, lstAt, dApp, dAppP, dAsg, dPar, dDrop, dWhile, dIfS, dRet, dB, dCall, dCons, dNil, dVar, dC, dBin, dChain, asB, dTru, dNotT, dAndT, dOrT, dAnd, dOr, dNot, dIf, dUn, dTup, dLst, dItems, dYes, R.bind, R.to, O.seq, outR, ofO, noErr, mask, Sm.putIn, bindPat, bindPats, itemsOf, tru, List.foldr_cons, List.foldr_nil, List.length_cons, List.length_nil, List.map_cons, List.map_nil, List.cons_append, List.nil_append, Nat.sub_self, List.replicate_zero, List.replicate_succ, List.getElem?_cons_succ, List.getElem?_cons_zero, List.set_cons_zero, List.set_cons_succ, Nat.reduceAdd, Nat.reduceSub, ↓reduceIte, Bool.not_true, Bool.not_false, Bool.and_true, Bool.true_and, Bool.false_and, Bool.and_false, if_true, if_false, Bool.false_eq_true, oNeg, oAddI, oSubI, oAdd_ii, oLt, oLe, oGt, oGe, Option.bind_some, Option.map_some]
    obtain ⟨m, m0, m4, e⟩ := key
    have pm := ok (at_ + 1) m m0
    refine ⟨.go (pk (at_ + 1) m).toNat, defD_eq rfl ?_, ?_⟩
    · unfold b__law_deed
      apply out_seq; (focus (simp only [e5, defD, args, dSeq, dSet, dSetP, dSetN, lstAt, dApp, dAppP, dAsg, dPar, dDrop, dWhile, dIfS, dRet, dB, dCall, dCons, dNil, dVar, dC, dBin, dChain, asB, dTru, dNotT, dAndT, dOrT, dAnd, dOr, dNot, dIf, dUn, dTup, dLst, dItems, dYes, R.bind, R.to, O.seq, outR, ofO, noErr, mask, Sm.putIn, bindPat, bindPats, itemsOf, tru, List.foldr_cons, List.foldr_nil, List.length_cons, List.length_nil, List.map_cons, List.map_nil, List.cons_append, List.nil_append, Nat.sub_self, List.replicate_zero, List.replicate_succ, List.getElem?_cons_succ, List.getElem?_cons_zero, List.set_cons_zero, List.set_cons_succ, Nat.reduceAdd, Nat.reduceSub, ↓reduceIte, Bool.not_true, Bool.not_false, Bool.and_true, Bool.true_and, Bool.false_and, Bool.and_false, if_true, if_false, Bool.false_eq_true, oNeg, oAddI, oSubI, oAdd_ii, oLt, oLe, oGt, oGe, Option.bind_some, Option.map_some]; try exact rfl))
      apply out_seq; (focus (simp only [decide_eq_false hw, defD, args, dSeq, dSet, dSetP, dSetN, lstAt, dApp, dAppP, dAsg, dPar, dDrop, dWhile, dIfS, dRet, dB, dCall, dCons, dNil, dVar, dC, dBin, dChain, asB, dTru, dNotT, dAndT, dOrT, dAnd, dOr, dNot, dIf, dUn, dTup, dLst, dItems, dYes, R.bind, R.to, O.seq, outR, ofO, noErr, mask, Sm.putIn, bindPat, bindPats, itemsOf, tru, List.foldr_cons, List.foldr_nil, List.length_cons, List.length_nil, List.map_cons, List.map_nil, List.cons_append, List.nil_append, Nat.sub_self, List.replicate_zero, List.replicate_succ, List.getElem?_cons_succ, List.getElem?_cons_zero, List.set_cons_zero, List.set_cons_succ, Nat.reduceAdd, Nat.reduceSub, ↓reduceIte, Bool.not_true, Bool.not_false, Bool.and_true, Bool.true_and, Bool.false_and, Bool.and_false, if_true, if_false, Bool.false_eq_true, oNeg, oAddI, oSubI, oAdd_ii, oLt, oLe, oGt, oGe, Option.bind_some, Option.map_some]; try exact rfl))
      refine ret_of ?_
      show dTup (dCons (dC (.str "go")) (dCons (dCall (dPick pk) (dCons (dVar 0) (dCons (dBin oAdd (dVar 1) (dC (.int 1))) (dCons deedM dNil)))) dNil)) _ = _
      have tn : (((pk (at_ + 1) m).toNat : Nat) : Int) = pk (at_ + 1) m := Int.toNat_of_nonneg pm.1
      simp only [e, a1, dPick_ok pk (at_ + 1) m0, Stp.enc, Stp.word, Stp.num, tn, defD, args, dSeq, dSet, dSetP, dSetN, lstAt, dApp, dAppP, dAsg, dPar, dDrop, dWhile, dIfS, dRet, dB, dCall, dCons, dNil, dVar, dC, dBin, dChain, asB, dTru, dNotT, dAndT, dOrT, dAnd, dOr, dNot, dIf, dUn, dTup, dLst, dItems, dYes, R.bind, R.to, O.seq, outR, ofO, noErr, mask, Sm.putIn, bindPat, bindPats, itemsOf, tru, List.foldr_cons, List.foldr_nil, List.length_cons, List.length_nil, List.map_cons, List.map_nil, List.cons_append, List.nil_append, Nat.sub_self, List.replicate_zero, List.replicate_succ, List.getElem?_cons_succ, List.getElem?_cons_zero, List.set_cons_zero, List.set_cons_succ, Nat.reduceAdd, Nat.reduceSub, ↓reduceIte, Bool.not_true, Bool.not_false, Bool.and_true, Bool.true_and, Bool.false_and, Bool.and_false, if_true, if_false, Bool.false_eq_true, oNeg, oAddI, oSubI, oAdd_ii, oLt, oLe, oGt, oGe, Option.bind_some, Option.map_some]
    · simp only [Stp.num]; omega
end
end Kx
namespace Kx
open PySem PySem.Spec L2 Sm
section
variable {f g : DSe} {ρ ρ1 : Sm.Env} {ps ps1 : PLS} {r : RP D} {o : OE} {own : List Nat} {pt : Pat}
theorem oute_seq (h1 : f ρ ps = .nx ρ1 ps1) (h2 : outE (g ρ1 ps1) = r) : outE (eSeq f g ρ ps) = r := by unfold eSeq; rw [h1]; exact h2
theorem eseq_nx (h1 : f ρ ps = .nx ρ1 ps1) (h2 : g ρ1 ps1 = o) : eSeq f g ρ ps = o := by unfold eSeq; rw [h1]; exact h2
theorem sp_nx {f : DS} (h : f ρ = .nx ρ1) : sP f ρ ps = .nx ρ1 ps := by unfold sP; rw [h]; rfl
theorem ife_no {t : ET} {f g : DSe} (h : t (mask own ρ) ps = .ok false ps1) : eIfS own t f g ρ ps = g ρ ps1 := by unfold eIfS; rw [h]; rfl
theorem or_no {t u : ET} {ps2 : PLS} (h1 : t ρ ps = .ok false ps1) (h2 : u ρ ps1 = .ok false ps2) : eOrT t u ρ ps = .ok false ps2 := by unfold eOrT; rw [h1]; exact h2
theorem ne_no {a b : EE} {x y : D} {ps2 : PLS} (h1 : a ρ ps = .ok x ps1) (h2 : b ρ ps1 = .ok y ps2) (h : oNe x y = some (.bl false)) : easB (eBin oNe a b) ρ ps = .ok false ps2 := by
  unfold easB eBin; rw [h1]; simp only [RP.bind]; rw [h2]; simp only [RP.bind, h, ofO, R.up]
theorem forE_go {I : Nat → Sm.Env → PLS → Prop} : ∀ (ds : List D) (k : Nat) (ρ : Sm.Env) (ps : PLS), I k ρ ps → (∀ (i : Nat) d ρ ps, ds[i]? = some d → I (k + i) ρ ps → ∃ ρ1 ρ2 ps2, bindPat pt d ρ = some ρ1 ∧ f ρ1 ps = .nx ρ2 ps2 ∧ I (k + i + 1) ρ2 ps2) → ∃ ρ' ps', forGoE pt f ds ρ ps = .nx ρ' ps' ∧ I (k + ds.length) ρ' ps'
  | [], k, ρ, ps, h0, _ => ⟨ρ, ps, rfl, h0⟩
  | d :: ds, k, ρ, ps, h0, hs => by
    obtain ⟨ρ1, ρ2, ps2, h1, h2, h3⟩ := hs 0 d ρ ps rfl h0
    obtain ⟨ρ', ps', h4, h5⟩ := forE_go ds (k + 1) ρ2 ps2 h3 fun i d ρ ps hd hi => by
      have e : k + 1 + i = k + (i + 1) := by omega
      rw [e] at hi ⊢
      exact hs (i + 1) d ρ ps hd hi
    refine ⟨ρ', ps', ?_, by rw [List.length_cons, show k + (ds.length + 1) = k + 1 + ds.length from by omega]; exact h5⟩
    simp only [forGoE, h1, h2, OE.seq]
    exact h4
theorem forE_nx {ds : List D} {it : DI} (I : Nat → Sm.Env → PLS → Prop) (hit : it (mask own ρ) = .ok ds) (h0 : I 0 ρ ps) (st : ∀ (i : Nat) d ρ ps, ds[i]? = some d → I i ρ ps → ∃ ρ1 ρ2 ps2, bindPat pt d ρ = some ρ1 ∧ f ρ1 ps = .nx ρ2 ps2 ∧ I (i + 1) ρ2 ps2) :
    ∃ ρ' ps', eFor own pt (eI it) f ρ ps = .nx ρ' ps' ∧ I ds.length ρ' ps' := by
  obtain ⟨ρ', ps', h1, h2⟩ := forE_go (pt := pt) (f := f) (I := I) ds 0 ρ ps h0 fun i d ρ ps hd hi => by
    rw [Nat.zero_add] at hi ⊢
    exact st i d ρ ps hd hi
  rw [Nat.zero_add] at h2
  refine ⟨ρ', ps', ?_, h2⟩
  unfold eFor eI
  rw [hit]
  exact h1
theorem forR_nx {n : Nat} {it : DI} (I : Nat → Sm.Env → PLS → Prop) (hit : it (mask own ρ) = .ok ((List.range n).map fun i => D.int ((i : Nat) : Int))) (h0 : I 0 ρ ps) (st : ∀ (i : Nat) ρ ps, i < n → I i ρ ps → ∃ ρ1 ρ2 ps2, bindPat pt (.int (i : Int)) ρ = some ρ1 ∧ f ρ1 ps = .nx ρ2 ps2 ∧ I (i + 1) ρ2 ps2) :
    ∃ ρ' ps', eFor own pt (eI it) f ρ ps = .nx ρ' ps' ∧ I n ρ' ps' := by
  obtain ⟨ρ', ps', h1, h2⟩ := forE_nx (f := f) (pt := pt) (ps := ps) I hit h0 fun i d ρ ps hd hi => by
    rw [List.getElem?_map, Option.map_eq_some_iff] at hd
    obtain ⟨j, hj, rfl⟩ := hd
    have : i < n := by have := (List.getElem?_eq_some_iff.mp hj).1; rwa [List.length_range] at this
    rw [List.getElem?_range this] at hj
    cases hj
    exact st i ρ ps this hi
  rw [List.length_map, List.length_range] at h2
  exact ⟨ρ', ps', h1, h2⟩
end
structure SOk (g : Game) (s : PSt) : Prop where
  path : g.IsPath s.path
  bet : -99 ≤ s.bet ∧ s.bet ≤ 99
theorem SOk.len {g : Game} {s : PSt} (h : SOk g s) (hg : g.Ok 4) : s.path.length ≤ 1000 := by have := (Game.part_ok hg h.path).2; omega
theorem SOk.next {g : Game} {s : PSt} (h : SOk g s) (st : Stp) (hs : -99 ≤ st.num ∧ st.num ≤ 99) : SOk g (nextS g s st) := by
  cases st with
  | bet n => exact ⟨h.path, hs⟩
  | go i =>
    cases hx : (g.part s.path).ways[i]? with
    | none =>
      have : nextS g s (.go i) = s := by simp only [nextS, stepTo, hx]
      rw [this]; exact h
    | some x =>
      have : nextS g s (.go i) = ⟨s.path ++ [i], s.bet, s.won + s.bet * (x.2.worth - (g.part s.path).worth)⟩ := by simp only [nextS, stepTo, hx]
      rw [this]
      refine ⟨?_, h.bet⟩
      show g.IsPath (s.path ++ [i])
      rw [Game.isPath_append _ _ _ h.path]
      simp only [Game.IsPath, hx]
theorem due_pl (g : Game) (s : PSt) (st : Stp) : pl 64 (dueD g s st) = true := by
  unfold dueD
  split
  · rfl
  · show PySem.PyData.strOk "no path" = true
    decide +kernel
end Kx
namespace Kx
open PySem PySem.Spec L2 Sm
theorem stp_pl (st : Stp) (n : Nat) : pl (n + 1) st.enc = true := by
  have hb : PySem.PyData.strOk "bet" = true := by decide +kernel
  have hg : PySem.PyData.strOk "go" = true := by decide +kernel
  cases st <;> simp only [Stp.enc, Stp.word, pl, pls, hb, hg, Bool.and_true]
theorem stps_pl (h : Hs) : pl 64 (.lst (h.map fun x => x.1.enc)) = true := by
  simp only [pl]
  induction h with
  | nil => rfl
  | cons a as ih => rw [List.map_cons, pls, ih, stp_pl]; rfl
theorem now0 (s : PSt) : oIx s.enc (.int 0) = some (encP s.path) := rfl
theorem now2 (s : PSt) : oIx s.enc (.int 2) = some (.int s.won) := rfl
theorem ok1 (g : Game) (P : PP) : okPS [P.enc g] = true := by simp only [okPS, List.all_cons, List.all_nil, okPl_enc, Bool.and_true]
theorem due_ne (g : Game) (s : PSt) (st : Stp) : oNe (dueD g s st) (.str "no path") = some (.bl (stepTo g s st).isSome) := by
  have hn : PySem.PyData.strOk "no path" = true := by decide +kernel
  have h1 := pl_pln _ _ (due_pl g s st)
  have h2 := pl_pln (.str "no path") 64 hn
  unfold oNe
  rw [h1, h2]
  unfold dueD
  cases stepTo g s st with
  | none => simp only [Option.isSome_none]; kernel_rfl
  | some x => rfl
theorem rep_b (d : D) (b : Bool) : oMul (.lst [d]) (.int (if b then 1 else 0)) = some (.lst (if b then [d] else [])) := by
  have : sizeLine ≥ 100000 := sizeLine_big
  cases b
  · simp only [oMul]; rfl
  · have h1 : ([d] : List D).length * (Int.toNat 1) ≤ sizeLine := by simp; omega
    simp only [oMul, if_true]
    rw [if_pos ⟨by decide, by decide, h1⟩]
    rfl
theorem oInt_b (b : Bool) : oInt [.bl b] = some (.int (if b then 1 else 0)) := by cases b <;> rfl
theorem addL {x y : List D} (h : x.length + y.length ≤ sizeLine) : oAdd (.lst x) (.lst y) = some (.lst (x ++ y)) := by simp only [oAdd, h, if_true]
theorem word_nb : pl 64 (.str "no back") = true := by
  have hb : PySem.PyData.strOk "no back" = true := by decide +kernel
  simp only [pl, hb]
end Kx
namespace Kx
open PySem PySem.Spec L2 Sm
def fstS : Hs → PSt → PSt
  | [], s => s
  | x :: _, _ => x.2
def futS : Hs → PSt → Hs
  | [], _ => []
  | x :: h, s => (x.1, fstS h s) :: futS h s
def midP (h : Hs) (s : PSt) (j : Nat) : PP := ⟨fstS (h.drop j) s, h.take j, (futS (h.drop j) s).reverse⟩
theorem futS_len (s : PSt) : ∀ h : Hs, (futS h s).length = h.length
  | [] => rfl
  | x :: h => by simp only [futS, List.length_cons, futS_len s h]
theorem mid_all (h : Hs) (s : PSt) : midP h s h.length = ⟨s, h, []⟩ := by
  unfold midP
  rw [List.drop_length, List.take_length]
  rfl
theorem mid_zero (h : Hs) (s : PSt) : midP h s 0 = ⟨fstS h s, [], (futS h s).reverse⟩ := rfl
section
variable {g : Game} {k : Nat} {ps : PLS} {h : Hs} {s : PSt} {j : Nat}
theorem back_mid (hp : ps[k]? = some ((midP h s (j + 1)).enc g)) (hj : j < h.length) (hl : h.length < 100000) : ∃ w, e_Play_back [.obj k] ps = .ok (.str w) (ps.set k ((midP h s j).enc g)) := by
  have e : h.drop j = h[j] :: h.drop (j + 1) := List.drop_eq_getElem_cons hj
  have t : h.take (j + 1) = h.take j ++ [(h[j].1, h[j].2)] := by rw [List.take_succ_eq_append_getElem hj]
  have lf : ((futS (h.drop (j + 1)) s).reverse).length < 100000 := by rw [List.length_reverse, futS_len, List.length_drop]; omega
  have := pback_ok (P := midP h s (j + 1)) hp (init := h.take j) (st := h[j].1) (s := h[j].2) t lf
  refine ⟨h[j].1.word, this.trans ?_⟩
  have : midP h s j = ⟨h[j].2, h.take j, (midP h s (j + 1)).later ++ [(h[j].1, (midP h s (j + 1)).now)]⟩ := by
    unfold midP
    rw [e]
    simp only [fstS, futS, List.reverse_cons]
  rw [this]
theorem forth_mid (hp : ps[k]? = some ((midP h s j).enc g)) (hj : j < h.length) (hl : h.length < 100000) : ∃ w, e_Play_forth [.obj k] ps = .ok (.str w) (ps.set k ((midP h s (j + 1)).enc g)) := by
  have e : h.drop j = h[j] :: h.drop (j + 1) := List.drop_eq_getElem_cons hj
  have t : h.take (j + 1) = h.take j ++ [(h[j].1, h[j].2)] := by rw [List.take_succ_eq_append_getElem hj]
  have lt : (midP h s j).later = (futS (h.drop (j + 1)) s).reverse ++ [(h[j].1, fstS (h.drop (j + 1)) s)] := by
    unfold midP
    rw [e]
    simp only [futS, List.reverse_cons]
  have lp : (midP h s j).past.length < 100000 := by show (h.take j).length < 100000; rw [List.length_take]; omega
  have nw : (midP h s j).now = h[j].2 := by unfold midP; rw [e]; rfl
  have := pforth_ok (P := midP h s j) hp lt lp
  refine ⟨h[j].1.word, this.trans ?_⟩
  have : midP h s (j + 1) = ⟨fstS (h.drop (j + 1)) s, (midP h s j).past ++ [(h[j].1, (midP h s j).now)], (futS (h.drop (j + 1)) s).reverse⟩ := by
    rw [nw]
    unfold midP
    rw [t]
  rw [this]
theorem setset (a b : Pl) : (ps.set k a).set k b = ps.set k b := List.set_set ..
theorem get_set (hk : k < ps.length) (a : Pl) : (ps.set k a)[k]? = some a := List.getElem?_set_self hk
end
theorem twin_ok {g : Game} (hg : g.Ok 4) {P : PP} : e_Play_twin [.obj 0] [P.enc g] = .ok (.obj 1) [P.enc g, P.enc g] := by
  unfold e_Play_twin be_Play_twin
  have h0 : ([P.enc g] : PLS)[0]? = some (P.enc g) := rfl
  have e : (P.enc g).own = g.enc := rfl
  simp only [plAt0 h0, e, look_ok hg, eSetNow, eCopy, eSeq, eRet, eBin, eNow, eOwn, eP, eT, eIf, eIfS, eSet, eAsg, eDrop, eApp, eMeth, eMake, makeR, eCallA, upF, eCons, eNil, eTup, eLst, easB, eAndT, eOrT, eNotT, eTru, eAnd, eB, sP, RP.bind, RP.to, R.up, O.up, OE.seq, outE, defE, oIxT, atI, defD, args, dSeq, dSet, dSetP, dSetN, lstAt, dApp, dAppP, dAsg, dPar, dDrop, dWhile, dIfS, dRet, dB, dCall, dCons, dNil, dVar, dC, dBin, dChain, asB, dTru, dNotT, dAndT, dOrT, dAnd, dOr, dNot, dIf, dUn, dTup, dLst, dItems, dYes, R.bind, R.to, O.seq, outR, ofO, noErr, mask, Sm.putIn, bindPat, bindPats, itemsOf, tru, List.foldr_cons, List.foldr_nil, List.length_cons, List.length_nil, List.map_cons, List.map_nil, List.cons_append, List.nil_append, Nat.sub_self, List.replicate_zero, List.replicate_succ, List.getElem?_cons_succ, List.getElem?_cons_zero, List.set_cons_zero, List.set_cons_succ, Nat.reduceAdd, Nat.reduceSub, ↓reduceIte, Bool.not_true, Bool.not_false, Bool.and_true, Bool.true_and, Bool.false_and, Bool.and_false, if_true, if_false, Bool.false_eq_true, oNeg, oAddI, oSubI, oAdd_ii, oLt, oLe, oGt, oGe, Option.bind_some, Option.map_some]
  rfl
end Kx
namespace Kx
open PySem PySem.Spec L2 Sm
def L81a (pk : Nat → Int → Int) : DSe :=
  (eSeq (sP (dSet [] 10 (dCall (d__law_deed pk) (dCons (dVar 0) (dCons (dBin oAdd (dC (.int 600)) (dBin oMul (dC (.int 10)) (dVar 4))) (dCons (dCall d__law_there (dCons (dVar 1) (dCons (dBin oIx (dBin oIx (dVar 3) (dUn oNeg (dC (.int 1)))) (dC (.int 0))) dNil))) dNil))))))
    (eSeq (sP (dAsg [] (.t [(.v 11), (.v 12)]) (dCall d__law_behind (dCons (dVar 1) (dCons (dBin oIx (dVar 3) (dUn oNeg (dC (.int 1)))) (dCons (dVar 10) dNil))))))
    (eSeq (eDrop [] (eCallA e__law_did (eCons (eP (dVar 2)) (eCons (eP (dVar 10)) eNil))))
    (sP (dSet [] 3 (dBin oAdd (dVar 3) (dBin oMul (dLst (dCons (dVar 11) dNil)) (dB oInt (dCons (dBin oNe (dVar 12) (dC (.str "no path"))) dNil)))))))))
def L81d (pk : Nat → Int → Int) : DSe :=
  (eSeq (sP (dSet [] 10 (dCall (d__law_deed pk) (dCons (dVar 0) (dCons (dBin oAdd (dVar 9) (dBin oMul (dC (.int 10)) (dVar 4))) (dCons (dCall d__law_there (dCons (dVar 1) (dCons (dBin oIx (dVar 13) (dC (.int 0))) dNil))) dNil))))))
    (eSeq (sP (dAsg [] (.t [(.v 13), (.v 12)]) (dCall d__law_behind (dCons (dVar 1) (dCons (dVar 13) (dCons (dVar 10) dNil))))))
    (eSeq (eIfS [] (easB (eBin oNe (eCallA e__law_did (eCons (eP (dVar 8)) (eCons (eP (dVar 10)) eNil))) (eP (dVar 12)))) (sP (dRet (dC (.bl false)))) .nx)
    (sP (dSet [] 14 (dBin oAdd (dVar 14) (dB oInt (dCons (dBin oNe (dVar 12) (dC (.str "no path"))) dNil))))))))
def L81b (pk : Nat → Int → Int) : DSe :=
  (eSeq (eDrop [] (eMeth e_Play_forth (eP (dVar 8)) eNil))
    (eSeq (sP (dPar [] 13 14 (dCons (dBin oIx (dVar 3) (dUn oNeg (dC (.int 1)))) (dCons (dVar 5) dNil))))
    (eSeq (eIfS [] (eOrT (easB (eBin oNe (eMeth e_Play_path (eP (dVar 8)) eNil) (eP (dBin oIx (dVar 13) (dC (.int 0)))))) (easB (eBin oNe (eMeth e_Play_purse (eP (dVar 8)) eNil) (eP (dBin oIx (dVar 13) (dC (.int 2))))))) (sP (dRet (dC (.bl false)))) .nx)
    (eSeq (eFor [] (.v 4) (eI (dRng rng1 (dCons (dC (.int 3)) dNil))) (L81d pk))
    (eSeq (eFor [] (.v 4) (eI (dRng rng1 (dCons (dVar 14) dNil))) (eDrop [] (eMeth e_Play_back (eP (dVar 8)) eNil)))
    (eSeq (eIfS [] (eOrT (easB (eBin oNe (eTup (eCons (eMeth e_Play_path (eP (dVar 8)) eNil) (eCons (eMeth e_Play_purse (eP (dVar 8)) eNil) (eCons (eMeth e_Play_steps (eP (dVar 8)) eNil) eNil)))) (eP (dTup (dCons (dTup dNil) (dCons (dC (.int 0)) (dCons (dLst dNil) dNil))))))) (easB (eBin oNe (eLam e__law_told [8] (eMeth e_Play_back (eP (dVar 0)) eNil)) (eP (dC (.str "no back")))))) (sP (dRet (dC (.bl false)))) .nx)
    (eSeq (eFor [] (.v 4) (eI (dRng rng1 (dCons (dVar 14) dNil))) (eDrop [] (eMeth e_Play_forth (eP (dVar 8)) eNil)))
    (eIfS [] (eOrT (easB (eBin oNe (eTup (eCons (eMeth e_Play_path (eP (dVar 8)) eNil) (eCons (eMeth e_Play_purse (eP (dVar 8)) eNil) eNil))) (eP (dTup (dCons (dBin oIx (dVar 13) (dC (.int 0))) (dCons (dBin oIx (dVar 13) (dC (.int 2))) dNil)))))) (easB (eBin oNe (eMeth e_Play_counts (eP (dVar 8)) eNil) (eP (dTup (dCons (dVar 14) (dCons (dC (.int 0)) dNil))))))) (sP (dRet (dC (.bl false)))) .nx))))))))
abbrev s81 : PSt := ⟨[], 0, 0⟩
def rowsH (h : Hs) (s : PSt) : List D := h.map (fun x => x.2.enc) ++ [s.enc]
abbrev R81 (g : Game) (rows : List D) (x4 x5 x6 x7 x8 x9 x10 x11 x12 x13 x14 : Option D) : Sm.Env := [some .scr0, some g.enc, some (.obj 0), some (.lst rows), x4, x5, x6, x7, x8, x9, x10, x11, x12, x13, x14]
theorem rows_last (h : Hs) (s : PSt) : oIx (.lst (rowsH h s)) (.int (-1)) = some s.enc := by
  show atI _ _ = _
  rw [atI_neg1 (by unfold rowsH; simp)]
  unfold rowsH
  simp
structure H81 (g : Game) (h : Hs) (s : PSt) (n : Nat) : Prop where
  fst : fstS h s = s81
  ne : h ≠ []
  ok : SOk g s
  len : h.length ≤ n
section
variable {g : Game}
theorem one_step {h : Hs} {s : PSt} {n : Nat} (H : H81 g h s n) (st : Stp) (hst : -99 ≤ st.num ∧ st.num ≤ 99) : ∃ h' s', afterP g ⟨s, h, []⟩ st = ⟨s', h', []⟩ ∧ nextS g s st = s' ∧ H81 g h' s' (n + 1) ∧ rowsH h' s' = rowsH h s ++ (if (stepTo g s st).isSome then [s'.enc] else []) ∧ h'.length = h.length + (if (stepTo g s st).isSome then 1 else 0) := by
  have hn := H.ok.next st hst
  cases hx : stepTo g s st with
  | none =>
    refine ⟨h, s, ?_, ?_, ⟨H.fst, H.ne, H.ok, Nat.le_succ_of_le H.len⟩, by simp, by simp⟩
    · unfold afterP; simp only [hx]
    · unfold nextS; simp only [hx]
  | some x =>
    have e : nextS g s st = x.1 := by unfold nextS; simp only [hx]
    refine ⟨h ++ [(st, s)], x.1, ?_, e, ⟨?_, by simp, by rw [← e]; exact hn, ?_⟩, ?_, by simp⟩
    · unfold afterP; simp only [hx]
    · have := H.fst
      cases h with
      | nil => exact absurd rfl H.ne
      | cons a as => exact this
    · have := H.len; rw [List.length_append, List.length_singleton]; omega
    · unfold rowsH; simp
structure I81a (g : Game) (i : Nat) (ρ : Sm.Env) (ps : PLS) : Prop where
  ex : ∃ (h : Hs) (s : PSt) (x4 x10 x11 x12 : Option D), ρ = R81 g (rowsH h s) x4 none none none none none x10 x11 x12 none none ∧ ps = [(⟨s, h, []⟩ : PP).enc g] ∧ H81 g h s (i + 1)
set_option maxHeartbeats 2000000 in
theorem step81a (hg : g.Ok 4) {pk : Nat → Int → Int} (ok : PkOk pk) (i : Nat) (ρ : Sm.Env) (ps : PLS) (hi : i < 8) (hI : I81a g i ρ ps) : ∃ ρ1 ρ2 ps2, bindPat (.v 4) (.int (i : Int)) ρ = some ρ1 ∧ L81a pk ρ1 ps = .nx ρ2 ps2 ∧ I81a g (i + 1) ρ2 ps2 := by
  obtain ⟨h, s, x4, x10, x11, x12, rfl, rfl, H⟩ := hI
  have hs := H.ok
  have hl := H.len
  obtain ⟨st, hd, hst⟩ := deed_ok ok (600 + 10 * i) (g.part s.path) (part_ok4 hg hs.path)
  have did := did_ok (P := ⟨s, h, []⟩) (k := 0) (ok1 g _) rfl hs.path (hs.len hg) (by show h.length < 100000; omega) hs.bet st hst
  obtain ⟨h', s', ea, en, H', er, el⟩ := one_step H st hst
  rw [ea] at did
  refine ⟨R81 g (rowsH h s) (some (.int (i : Int))) none none none none none x10 x11 x12 none none, R81 g (rowsH h' s') (some (.int (i : Int))) none none none none none (some st.enc) (some s'.enc) (some (dueD g s st)) none none, [(⟨s', h', []⟩ : PP).enc g], rfl, ?_, ⟨h', s', _, _, _, _, rfl, rfl, H'⟩⟩
  unfold L81a
  refine eseq_nx (ρ1 := R81 g (rowsH h s) (some (.int (i : Int))) none none none none none (some st.enc) x11 x12 none none) (ps1 := [(⟨s, h, []⟩ : PP).enc g]) (sp_nx ?_) ?_
  · have e1 : oMul (.int 10) (.int (i : Int)) = some (.int (10 * (i : Int))) := oMul_ok (mulOk_l (by omega))
    have e2 : (600 : Int) + 10 * (i : Int) = ((600 + 10 * i : Nat) : Int) := by omega
    simp only [e1, e2, rows_last, now0, there_ok hs.path, hd, defD, args, dSeq, dSet, dSetP, dSetN, lstAt, dApp, dAppP, dAsg, dPar, dDrop, dWhile, dIfS, dRet, dB, dCall, dCons, dNil, dVar, dC, dBin, dChain, asB, dTru, dNotT, dAndT, dOrT, dAnd, dOr, dNot, dIf, dUn, dTup, dLst, dItems, dYes, R.bind, R.to, O.seq, outR, ofO, noErr, mask, Sm.putIn, bindPat, bindPats, itemsOf, tru, List.foldr_cons, List.foldr_nil, List.length_cons, List.length_nil, List.map_cons, List.map_nil, List.cons_append, List.nil_append, Nat.sub_self, List.replicate_zero, List.replicate_succ, List.getElem?_cons_succ, List.getElem?_cons_zero, List.set_cons_zero, List.set_cons_succ, Nat.reduceAdd, Nat.reduceSub, ↓reduceIte, Bool.not_true, Bool.not_false, Bool.and_true, Bool.true_and, Bool.false_and, Bool.and_false, if_true, if_false, Bool.false_eq_true, oNeg, oAddI, oSubI, oAdd_ii, oLt, oLe, oGt, oGe, Option.bind_some, Option.map_some]
  refine eseq_nx (ρ1 := R81 g (rowsH h s) (some (.int (i : Int))) none none none none none (some st.enc) (some s'.enc) (some (dueD g s st)) none none) (ps1 := [(⟨s, h, []⟩ : PP).enc g]) (sp_nx ?_) ?_
  · simp only [rows_last, behind_ok hs.path (hs.len hg) hs.bet, en, defD, args, dSeq, dSet, dSetP, dSetN, lstAt, dApp, dAppP, dAsg, dPar, dDrop, dWhile, dIfS, dRet, dB, dCall, dCons, dNil, dVar, dC, dBin, dChain, asB, dTru, dNotT, dAndT, dOrT, dAnd, dOr, dNot, dIf, dUn, dTup, dLst, dItems, dYes, R.bind, R.to, O.seq, outR, ofO, noErr, mask, Sm.putIn, bindPat, bindPats, itemsOf, tru, List.foldr_cons, List.foldr_nil, List.length_cons, List.length_nil, List.map_cons, List.map_nil, List.cons_append, List.nil_append, Nat.sub_self, List.replicate_zero, List.replicate_succ, List.getElem?_cons_succ, List.getElem?_cons_zero, List.set_cons_zero, List.set_cons_succ, Nat.reduceAdd, Nat.reduceSub, ↓reduceIte, Bool.not_true, Bool.not_false, Bool.and_true, Bool.true_and, Bool.false_and, Bool.and_false, if_true, if_false, Bool.false_eq_true, oNeg, oAddI, oSubI, oAdd_ii, oLt, oLe, oGt, oGe, Option.bind_some, Option.map_some]
  refine eseq_nx (ρ1 := R81 g (rowsH h s) (some (.int (i : Int))) none none none none none (some st.enc) (some s'.enc) (some (dueD g s st)) none none) (ps1 := [(⟨s', h', []⟩ : PP).enc g]) ?_ (sp_nx ?_)
  · show RP.to _ (e__law_did [.obj 0, st.enc] _) _ = _
    rw [did]
    rfl
  · have hz : ∀ b : Bool, oAdd (.lst (rowsH h s)) (.lst (if b then [s'.enc] else [])) = some (.lst (rowsH h s ++ (if b then [s'.enc] else []))) := fun b => addL (by
      have := sizeLine_big
      unfold rowsH
      cases b <;> simp <;> omega)
    simp only [due_ne, oInt_b, rep_b, hz, er, defD, args, dSeq, dSet, dSetP, dSetN, lstAt, dApp, dAppP, dAsg, dPar, dDrop, dWhile, dIfS, dRet, dB, dCall, dCons, dNil, dVar, dC, dBin, dChain, asB, dTru, dNotT, dAndT, dOrT, dAnd, dOr, dNot, dIf, dUn, dTup, dLst, dItems, dYes, R.bind, R.to, O.seq, outR, ofO, noErr, mask, Sm.putIn, bindPat, bindPats, itemsOf, tru, List.foldr_cons, List.foldr_nil, List.length_cons, List.length_nil, List.map_cons, List.map_nil, List.cons_append, List.nil_append, Nat.sub_self, List.replicate_zero, List.replicate_succ, List.getElem?_cons_succ, List.getElem?_cons_zero, List.set_cons_zero, List.set_cons_succ, Nat.reduceAdd, Nat.reduceSub, ↓reduceIte, Bool.not_true, Bool.not_false, Bool.and_true, Bool.true_and, Bool.false_and, Bool.and_false, if_true, if_false, Bool.false_eq_true, oNeg, oAddI, oSubI, oAdd_ii, oLt, oLe, oGt, oGe, Option.bind_some, Option.map_some]
structure I81d (g : Game) (rows : List D) (x5 x6 x7 : Option D) (k a : Nat) (qs : PLS) (n : Nat) (i : Nat) (ρ : Sm.Env) (ps : PLS) : Prop where
  ex : ∃ (h : Hs) (s : PSt) (x4 x10 x11 x12 : Option D), ρ = R81 g rows x4 x5 x6 x7 (some (.obj k)) (some (.int (a : Int))) x10 x11 x12 (some s.enc) (some (.int (h.length : Int))) ∧ ps = qs.set k ((⟨s, h, []⟩ : PP).enc g) ∧ H81 g h s (n + i)
set_option maxHeartbeats 2000000 in
theorem step81d (hg : g.Ok 4) {pk : Nat → Int → Int} (ok : PkOk pk) {rows : List D} {x5 x6 x7 : Option D} {k a : Nat} {qs : PLS} {n : Nat} (hn : n ≤ 100) (hq : okPS qs = true) (hk : k < qs.length) (i : Nat) (ρ : Sm.Env) (ps : PLS) (hi : i < 3) (hI : I81d g rows x5 x6 x7 k a qs n i ρ ps) :
    ∃ ρ1 ρ2 ps2, bindPat (.v 4) (.int (i : Int)) ρ = some ρ1 ∧ L81d pk ρ1 ps = .nx ρ2 ps2 ∧ I81d g rows x5 x6 x7 k a qs n (i + 1) ρ2 ps2 := by
  obtain ⟨h, s, x4, x10, x11, x12, rfl, rfl, H⟩ := hI
  have hs := H.ok
  have hl := H.len
  obtain ⟨st, hd, hst⟩ := deed_ok ok (a + 10 * i) (g.part s.path) (part_ok4 hg hs.path)
  have did := did_ok (P := ⟨s, h, []⟩) (k := k) (okPS_set hq g _ k) (get_set hk _) hs.path (hs.len hg) (by show h.length < 100000; omega) hs.bet st hst
  obtain ⟨h', s', ea, en, H', er, el⟩ := one_step H st hst
  rw [ea, setset] at did
  refine ⟨R81 g rows (some (.int (i : Int))) x5 x6 x7 (some (.obj k)) (some (.int (a : Int))) x10 x11 x12 (some s.enc) (some (.int (h.length : Int))), R81 g rows (some (.int (i : Int))) x5 x6 x7 (some (.obj k)) (some (.int (a : Int))) (some st.enc) x11 (some (dueD g s st)) (some s'.enc) (some (.int (h'.length : Int))), qs.set k ((⟨s', h', []⟩ : PP).enc g), rfl, ?_, ⟨h', s', _, _, _, _, rfl, rfl, H'⟩⟩
  unfold L81d
  refine eseq_nx (ρ1 := R81 g rows (some (.int (i : Int))) x5 x6 x7 (some (.obj k)) (some (.int (a : Int))) (some st.enc) x11 x12 (some s.enc) (some (.int (h.length : Int)))) (ps1 := qs.set k ((⟨s, h, []⟩ : PP).enc g)) (sp_nx ?_) ?_
  · have e1 : oMul (.int 10) (.int (i : Int)) = some (.int (10 * (i : Int))) := oMul_ok (mulOk_l (by omega))
    have e2 : (a : Int) + 10 * (i : Int) = ((a + 10 * i : Nat) : Int) := by omega
    simp only [e1, e2, now0, there_ok hs.path, hd, defD, args, dSeq, dSet, dSetP, dSetN, lstAt, dApp, dAppP, dAsg, dPar, dDrop, dWhile, dIfS, dRet, dB, dCall, dCons, dNil, dVar, dC, dBin, dChain, asB, dTru, dNotT, dAndT, dOrT, dAnd, dOr, dNot, dIf, dUn, dTup, dLst, dItems, dYes, R.bind, R.to, O.seq, outR, ofO, noErr, mask, Sm.putIn, bindPat, bindPats, itemsOf, tru, List.foldr_cons, List.foldr_nil, List.length_cons, List.length_nil, List.map_cons, List.map_nil, List.cons_append, List.nil_append, Nat.sub_self, List.replicate_zero, List.replicate_succ, List.getElem?_cons_succ, List.getElem?_cons_zero, List.set_cons_zero, List.set_cons_succ, Nat.reduceAdd, Nat.reduceSub, ↓reduceIte, Bool.not_true, Bool.not_false, Bool.and_true, Bool.true_and, Bool.false_and, Bool.and_false, if_true, if_false, Bool.false_eq_true, oNeg, oAddI, oSubI, oAdd_ii, oLt, oLe, oGt, oGe, Option.bind_some, Option.map_some]
  refine eseq_nx (ρ1 := R81 g rows (some (.int (i : Int))) x5 x6 x7 (some (.obj k)) (some (.int (a : Int))) (some st.enc) x11 (some (dueD g s st)) (some s'.enc) (some (.int (h.length : Int)))) (ps1 := qs.set k ((⟨s, h, []⟩ : PP).enc g)) (sp_nx ?_) ?_
  · simp only [behind_ok hs.path (hs.len hg) hs.bet, en, defD, args, dSeq, dSet, dSetP, dSetN, lstAt, dApp, dAppP, dAsg, dPar, dDrop, dWhile, dIfS, dRet, dB, dCall, dCons, dNil, dVar, dC, dBin, dChain, asB, dTru, dNotT, dAndT, dOrT, dAnd, dOr, dNot, dIf, dUn, dTup, dLst, dItems, dYes, R.bind, R.to, O.seq, outR, ofO, noErr, mask, Sm.putIn, bindPat, bindPats, itemsOf, tru, List.foldr_cons, List.foldr_nil, List.length_cons, List.length_nil, List.map_cons, List.map_nil, List.cons_append, List.nil_append, Nat.sub_self, List.replicate_zero, List.replicate_succ, List.getElem?_cons_succ, List.getElem?_cons_zero, List.set_cons_zero, List.set_cons_succ, Nat.reduceAdd, Nat.reduceSub, ↓reduceIte, Bool.not_true, Bool.not_false, Bool.and_true, Bool.true_and, Bool.false_and, Bool.and_false, if_true, if_false, Bool.false_eq_true, oNeg, oAddI, oSubI, oAdd_ii, oLt, oLe, oGt, oGe, Option.bind_some, Option.map_some]
  refine eseq_nx (ρ1 := R81 g rows (some (.int (i : Int))) x5 x6 x7 (some (.obj k)) (some (.int (a : Int))) (some st.enc) x11 (some (dueD g s st)) (some s'.enc) (some (.int (h.length : Int)))) (ps1 := qs.set k ((⟨s', h', []⟩ : PP).enc g)) ?_ (sp_nx ?_)
  · rw [ife_no (ps1 := qs.set k ((⟨s', h', []⟩ : PP).enc g))]
    exact ne_no (x := dueD g s st) (y := dueD g s st) (ps1 := qs.set k ((⟨s', h', []⟩ : PP).enc g)) did rfl (oNe_self (due_pl g s st))
  · have e3 : ∀ b : Bool, (h.length : Int) + (if b then 1 else 0) = ((h.length + (if b then 1 else 0) : Nat) : Int) := fun b => by cases b <;> simp
    simp only [due_ne, oInt_b, e3, el, defD, args, dSeq, dSet, dSetP, dSetN, lstAt, dApp, dAppP, dAsg, dPar, dDrop, dWhile, dIfS, dRet, dB, dCall, dCons, dNil, dVar, dC, dBin, dChain, asB, dTru, dNotT, dAndT, dOrT, dAnd, dOr, dNot, dIf, dUn, dTup, dLst, dItems, dYes, R.bind, R.to, O.seq, outR, ofO, noErr, mask, Sm.putIn, bindPat, bindPats, itemsOf, tru, List.foldr_cons, List.foldr_nil, List.length_cons, List.length_nil, List.map_cons, List.map_nil, List.cons_append, List.nil_append, Nat.sub_self, List.replicate_zero, List.replicate_succ, List.getElem?_cons_succ, List.getElem?_cons_zero, List.set_cons_zero, List.set_cons_succ, Nat.reduceAdd, Nat.reduceSub, ↓reduceIte, Bool.not_true, Bool.not_false, Bool.and_true, Bool.true_and, Bool.false_and, Bool.and_false, if_true, if_false, Bool.false_eq_true, oNeg, oAddI, oSubI, oAdd_ii, oLt, oLe, oGt, oGe, Option.bind_some, Option.map_some]
theorem told8 {fb : EE} {ρ : Sm.Env} {ps : PLS} {k : Nat} (h : fb [some (.obj k)] ps = .err 7 ps) (hρ : ρ[8]? = some (some (.obj k))) (hq : okPS ps = true) : eLam e__law_told [8] fb ρ ps = .ok (.str "no back") ps := by
  have : capsD [8] ρ = [some (.obj k)] := by unfold capsD; rw [List.map_cons, List.map_nil, hρ]; rfl
  exact etold_err hq (by rw [this]; exact h) (by decide) hq
set_option maxHeartbeats 4000000 in
theorem step81b (hg : g.Ok 4) {pk : Nat → Int → Int} (ok : PkOk pk) {h : Hs} {s : PSt} {n : Nat} (hn : n ≤ 100) (H : H81 g h s n) (x4 x6 x7 x10 x11 x12 x13 x14 : Option D) {k a : Nat} {qs : PLS} (hq : okPS qs = true) (hk : qs[k]? = some ((midP h s (h.length - 1)).enc g)) :
    ∃ Q : PP, ∃ y4 y10 y11 y12 y13 y14, L81b pk (R81 g (rowsH h s) x4 (some (.int (h.length : Int))) x6 x7 (some (.obj k)) (some (.int (a : Int))) x10 x11 x12 x13 x14) qs = .nx (R81 g (rowsH h s) y4 (some (.int (h.length : Int))) x6 x7 (some (.obj k)) (some (.int (a : Int))) y10 y11 y12 y13 y14) (qs.set k (Q.enc g)) := by
  have hkl : k < qs.length := lt_ps hk
  have hl := H.len
  have hpos : 0 < h.length := List.length_pos_iff.mpr H.ne
  obtain ⟨w0, f0⟩ := forth_mid hk (j := h.length - 1) (by omega) (by omega)
  rw [show h.length - 1 + 1 = h.length from by omega, mid_all] at f0
  -- three steps
  obtain ⟨ρ3, ps3, hl3, h', s', z4, z10, z11, z12, rfl, rfl, H'⟩ := forR_nx (own := []) (pt := .v 4) (f := L81d pk) (ρ := R81 g (rowsH h s) x4 (some (.int (h.length : Int))) x6 x7 (some (.obj k)) (some (.int (a : Int))) x10 x11 x12 (some s.enc) (some (.int (h.length : Int)))) (ps := qs.set k ((⟨s, h, []⟩ : PP).enc g)) (n := 3) (it := dRng rng1 (dCons (dC (.int 3)) dNil))
    (I81d g (rowsH h s) (some (.int (h.length : Int))) x6 x7 k a qs n) (rng1_it (n := 3) rfl (by decide)) ⟨h, s, _, _, _, _, rfl, rfl, H⟩ (step81d hg ok hn hq hkl)
  have hl' := H'.len
  -- all the way back
  obtain ⟨ρ4, ps4, hl4, y4, rfl, rfl⟩ := forR_nx (own := []) (pt := .v 4) (f := eDrop [] (eMeth e_Play_back (eP (dVar 8)) eNil)) (ρ := R81 g (rowsH h s) z4 (some (.int (h.length : Int))) x6 x7 (some (.obj k)) (some (.int (a : Int))) z10 z11 z12 (some s'.enc) (some (.int (h'.length : Int)))) (ps := qs.set k ((⟨s', h', []⟩ : PP).enc g)) (n := h'.length) (it := dRng rng1 (dCons (dVar 14) dNil))
    (fun i ρ ps => ∃ y4, ρ = R81 g (rowsH h s) y4 (some (.int (h.length : Int))) x6 x7 (some (.obj k)) (some (.int (a : Int))) z10 z11 z12 (some s'.enc) (some (.int (h'.length : Int))) ∧ ps = qs.set k ((midP h' s' (h'.length - i)).enc g)) (rng1_it (n := h'.length) rfl (by omega)) ⟨z4, rfl, by rw [Nat.sub_zero, mid_all]⟩ (by
      rintro i ρ ps hi ⟨y4, rfl, rfl⟩
      obtain ⟨w, e⟩ := back_mid (h := h') (s := s') (j := h'.length - (i + 1)) (k := k) (g := g) (ps := qs.set k ((midP h' s' (h'.length - i)).enc g)) (by rw [get_set hkl, show h'.length - (i + 1) + 1 = h'.length - i from by omega]) (by omega) (by omega)
      rw [setset] at e
      refine ⟨R81 g (rowsH h s) (some (.int (i : Int))) (some (.int (h.length : Int))) x6 x7 (some (.obj k)) (some (.int (a : Int))) z10 z11 z12 (some s'.enc) (some (.int (h'.length : Int))), _, _, rfl, ?_, ⟨some (.int (i : Int)), rfl, rfl⟩⟩
      show RP.to _ (e_Play_back [.obj k] _) _ = _
      rw [e]
      rfl)
  rw [Nat.sub_self, mid_zero, H'.fst] at hl4
  -- and forth
  obtain ⟨ρ5, ps5, hl5, y5, rfl, rfl⟩ := forR_nx (own := []) (pt := .v 4) (f := eDrop [] (eMeth e_Play_forth (eP (dVar 8)) eNil)) (ρ := R81 g (rowsH h s) y4 (some (.int (h.length : Int))) x6 x7 (some (.obj k)) (some (.int (a : Int))) z10 z11 z12 (some s'.enc) (some (.int (h'.length : Int)))) (ps := qs.set k ((midP h' s' 0).enc g)) (n := h'.length) (it := dRng rng1 (dCons (dVar 14) dNil))
    (fun i ρ ps => ∃ y4, ρ = R81 g (rowsH h s) y4 (some (.int (h.length : Int))) x6 x7 (some (.obj k)) (some (.int (a : Int))) z10 z11 z12 (some s'.enc) (some (.int (h'.length : Int))) ∧ ps = qs.set k ((midP h' s' i).enc g)) (rng1_it (n := h'.length) rfl (by omega)) ⟨y4, rfl, rfl⟩ (by
      rintro i ρ ps hi ⟨y4, rfl, rfl⟩
      obtain ⟨w, e⟩ := forth_mid (h := h') (s := s') (j := i) (k := k) (g := g) (ps := qs.set k ((midP h' s' i).enc g)) (get_set hkl _) hi (by omega)
      rw [setset] at e
      refine ⟨R81 g (rowsH h s) (some (.int (i : Int))) (some (.int (h.length : Int))) x6 x7 (some (.obj k)) (some (.int (a : Int))) z10 z11 z12 (some s'.enc) (some (.int (h'.length : Int))), _, _, rfl, ?_, ⟨some (.int (i : Int)), rfl, rfl⟩⟩
      show RP.to _ (e_Play_forth [.obj k] _) _ = _
      rw [e]
      rfl)
  rw [mid_all] at hl5
  rw [mid_zero, H'.fst] at hl5
  refine ⟨⟨s', h', []⟩, y5, z10, z11, z12, some s'.enc, some (.int (h'.length : Int)), ?_⟩
  unfold L81b
  refine eseq_nx (ρ1 := R81 g (rowsH h s) x4 (some (.int (h.length : Int))) x6 x7 (some (.obj k)) (some (.int (a : Int))) x10 x11 x12 x13 x14) (ps1 := qs.set k ((⟨s, h, []⟩ : PP).enc g)) ?_ ?_
  · show RP.to _ (e_Play_forth [.obj k] qs) _ = _
    rw [f0]
    rfl
  refine eseq_nx (ρ1 := R81 g (rowsH h s) x4 (some (.int (h.length : Int))) x6 x7 (some (.obj k)) (some (.int (a : Int))) x10 x11 x12 (some s.enc) (some (.int (h.length : Int)))) (ps1 := qs.set k ((⟨s, h, []⟩ : PP).enc g)) (sp_nx ?_) ?_
  · simp only [rows_last, defD, args, dSeq, dSet, dSetP, dSetN, lstAt, dApp, dAppP, dAsg, dPar, dDrop, dWhile, dIfS, dRet, dB, dCall, dCons, dNil, dVar, dC, dBin, dChain, asB, dTru, dNotT, dAndT, dOrT, dAnd, dOr, dNot, dIf, dUn, dTup, dLst, dItems, dYes, R.bind, R.to, O.seq, outR, ofO, noErr, mask, Sm.putIn, bindPat, bindPats, itemsOf, tru, List.foldr_cons, List.foldr_nil, List.length_cons, List.length_nil, List.map_cons, List.map_nil, List.cons_append, List.nil_append, Nat.sub_self, List.replicate_zero, List.replicate_succ, List.getElem?_cons_succ, List.getElem?_cons_zero, List.set_cons_zero, List.set_cons_succ, Nat.reduceAdd, Nat.reduceSub, ↓reduceIte, Bool.not_true, Bool.not_false, Bool.and_true, Bool.true_and, Bool.false_and, Bool.and_false, if_true, if_false, Bool.false_eq_true, oNeg, oAddI, oSubI, oAdd_ii, oLt, oLe, oGt, oGe, Option.bind_some, Option.map_some]
  have g1 : (qs.set k ((⟨s, h, []⟩ : PP).enc g))[k]? = some ((⟨s, h, []⟩ : PP).enc g) := get_set hkl _
  refine eseq_nx (ρ1 := R81 g (rowsH h s) x4 (some (.int (h.length : Int))) x6 x7 (some (.obj k)) (some (.int (a : Int))) x10 x11 x12 (some s.enc) (some (.int (h.length : Int)))) (ps1 := qs.set k ((⟨s, h, []⟩ : PP).enc g)) ?_ ?_
  · rw [ife_no (ps1 := qs.set k ((⟨s, h, []⟩ : PP).enc g))]
    exact or_no (ps1 := qs.set k ((⟨s, h, []⟩ : PP).enc g)) (ne_no (x := encP s.path) (y := encP s.path) (ps1 := qs.set k ((⟨s, h, []⟩ : PP).enc g)) (ppath_ok g1) rfl (oNe_self (pl_P 63 _))) (ne_no (x := .int s.won) (y := .int s.won) (ps1 := qs.set k ((⟨s, h, []⟩ : PP).enc g)) (ppurse_ok g1) rfl (oNe_self rfl))
  refine eseq_nx hl3 (eseq_nx hl4 ?_)
  have g2 : (qs.set k ((⟨s81, [], (futS h' s').reverse⟩ : PP).enc g))[k]? = some ((⟨s81, [], (futS h' s').reverse⟩ : PP).enc g) := get_set hkl _
  refine eseq_nx (ρ1 := R81 g (rowsH h s) y4 (some (.int (h.length : Int))) x6 x7 (some (.obj k)) (some (.int (a : Int))) z10 z11 z12 (some s'.enc) (some (.int (h'.length : Int)))) (ps1 := qs.set k ((⟨s81, [], (futS h' s').reverse⟩ : PP).enc g)) ?_ (eseq_nx hl5 ?_)
  · rw [ife_no (ps1 := qs.set k ((⟨s81, [], (futS h' s').reverse⟩ : PP).enc g))]
    refine or_no (ps1 := qs.set k ((⟨s81, [], (futS h' s').reverse⟩ : PP).enc g)) (ne_no (x := .tup [encP [], .int 0, .lst []]) (y := .tup [.tup [], .int 0, .lst []]) (ps1 := qs.set k ((⟨s81, [], (futS h' s').reverse⟩ : PP).enc g)) ?_ rfl rfl) (ne_no (x := .str "no back") (y := .str "no back") (ps1 := qs.set k ((⟨s81, [], (futS h' s').reverse⟩ : PP).enc g)) (told8 (k := k) ?_ rfl (okPS_set hq _ _ _)) rfl (oNe_self word_nb))
    · have e1 := ppath_ok g2
      have e2 := ppurse_ok g2
      have e3 := psteps_ok g2
      simp only [e1, e2, e3, eSeq, eRet, eBin, eNow, eOwn, eP, eT, eIf, eIfS, eSet, eAsg, eDrop, eApp, eMeth, eMake, makeR, eCallA, upF, eCons, eNil, eTup, eLst, easB, eAndT, eOrT, eNotT, eTru, eAnd, eB, sP, RP.bind, RP.to, R.up, O.up, OE.seq, outE, defE, oIxT, atI, defD, args, dSeq, dSet, dSetP, dSetN, lstAt, dApp, dAppP, dAsg, dPar, dDrop, dWhile, dIfS, dRet, dB, dCall, dCons, dNil, dVar, dC, dBin, dChain, asB, dTru, dNotT, dAndT, dOrT, dAnd, dOr, dNot, dIf, dUn, dTup, dLst, dItems, dYes, R.bind, R.to, O.seq, outR, ofO, noErr, mask, Sm.putIn, bindPat, bindPats, itemsOf, tru, List.foldr_cons, List.foldr_nil, List.length_cons, List.length_nil, List.map_cons, List.map_nil, List.cons_append, List.nil_append, Nat.sub_self, List.replicate_zero, List.replicate_succ, List.getElem?_cons_succ, List.getElem?_cons_zero, List.set_cons_zero, List.set_cons_succ, Nat.reduceAdd, Nat.reduceSub, ↓reduceIte, Bool.not_true, Bool.not_false, Bool.and_true, Bool.true_and, Bool.false_and, Bool.and_false, if_true, if_false, Bool.false_eq_true, oNeg, oAddI, oSubI, oAdd_ii, oLt, oLe, oGt, oGe, Option.bind_some, Option.map_some]
    · exact pback_no g2 rfl
  · have g3 : (qs.set k ((⟨s', h', []⟩ : PP).enc g))[k]? = some ((⟨s', h', []⟩ : PP).enc g) := get_set hkl _
    rw [ife_no (ps1 := qs.set k ((⟨s', h', []⟩ : PP).enc g))]
    refine or_no (ps1 := qs.set k ((⟨s', h', []⟩ : PP).enc g)) (ne_no (x := .tup [encP s'.path, .int s'.won]) (y := .tup [encP s'.path, .int s'.won]) (ps1 := qs.set k ((⟨s', h', []⟩ : PP).enc g)) ?_ ?_ (oNe_self (by simp only [pl, pls, pl_P 62, Bool.and_true]))) (ne_no (x := .tup [.int (h'.length : Int), .int 0]) (y := .tup [.int (h'.length : Int), .int 0]) (ps1 := qs.set k ((⟨s', h', []⟩ : PP).enc g)) (pcounts_ok g3) rfl (oNe_self rfl))
    · have e1 := ppath_ok g3
      have e2 := ppurse_ok g3
      simp only [e1, e2, eSeq, eRet, eBin, eNow, eOwn, eP, eT, eIf, eIfS, eSet, eAsg, eDrop, eApp, eMeth, eMake, makeR, eCallA, upF, eCons, eNil, eTup, eLst, easB, eAndT, eOrT, eNotT, eTru, eAnd, eB, sP, RP.bind, RP.to, R.up, O.up, OE.seq, outE, defE, oIxT, atI, defD, args, dSeq, dSet, dSetP, dSetN, lstAt, dApp, dAppP, dAsg, dPar, dDrop, dWhile, dIfS, dRet, dB, dCall, dCons, dNil, dVar, dC, dBin, dChain, asB, dTru, dNotT, dAndT, dOrT, dAnd, dOr, dNot, dIf, dUn, dTup, dLst, dItems, dYes, R.bind, R.to, O.seq, outR, ofO, noErr, mask, Sm.putIn, bindPat, bindPats, itemsOf, tru, List.foldr_cons, List.foldr_nil, List.length_cons, List.length_nil, List.map_cons, List.map_nil, List.cons_append, List.nil_append, Nat.sub_self, List.replicate_zero, List.replicate_succ, List.getElem?_cons_succ, List.getElem?_cons_zero, List.set_cons_zero, List.set_cons_succ, Nat.reduceAdd, Nat.reduceSub, ↓reduceIte, Bool.not_true, Bool.not_false, Bool.and_true, Bool.true_and, Bool.false_and, Bool.and_false, if_true, if_false, Bool.false_eq_true, oNeg, oAddI, oSubI, oAdd_ii, oLt, oLe, oGt, oGe, Option.bind_some, Option.map_some]
    · simp only [now0, now2, eSeq, eRet, eBin, eNow, eOwn, eP, eT, eIf, eIfS, eSet, eAsg, eDrop, eApp, eMeth, eMake, makeR, eCallA, upF, eCons, eNil, eTup, eLst, easB, eAndT, eOrT, eNotT, eTru, eAnd, eB, sP, RP.bind, RP.to, R.up, O.up, OE.seq, outE, defE, oIxT, atI, defD, args, dSeq, dSet, dSetP, dSetN, lstAt, dApp, dAppP, dAsg, dPar, dDrop, dWhile, dIfS, dRet, dB, dCall, dCons, dNil, dVar, dC, dBin, dChain, asB, dTru, dNotT, dAndT, dOrT, dAnd, dOr, dNot, dIf, dUn, dTup, dLst, dItems, dYes, R.bind, R.to, O.seq, outR, ofO, noErr, mask, Sm.putIn, bindPat, bindPats, itemsOf, tru, List.foldr_cons, List.foldr_nil, List.length_cons, List.length_nil, List.map_cons, List.map_nil, List.cons_append, List.nil_append, Nat.sub_self, List.replicate_zero, List.replicate_succ, List.getElem?_cons_succ, List.getElem?_cons_zero, List.set_cons_zero, List.set_cons_succ, Nat.reduceAdd, Nat.reduceSub, ↓reduceIte, Bool.not_true, Bool.not_false, Bool.and_true, Bool.true_and, Bool.false_and, Bool.and_false, if_true, if_false, Bool.false_eq_true, oNeg, oAddI, oSubI, oAdd_ii, oLt, oLe, oGt, oGe, Option.bind_some, Option.map_some]
end
theorem law_true (pk : Nat → Int → Int) (ok : PkOk pk) : ∃ qs, e_law pk [.scr0] [] = .ok (.bl true) qs := by
  obtain ⟨g, even, top, hd, hD, _⟩ := drawn_ok ok 4 (by decide)
  have hg := hD.ok
  let P1 : PP := ⟨⟨[], 3, 0⟩, [(.bet 3, s81)], []⟩
  obtain ⟨ρ1, ps1, hl1, h, s, x4, x10, x11, x12, rfl, rfl, H⟩ := forR_nx (own := []) (pt := .v 4) (f := L81a pk) (ρ := R81 g (rowsH [(.bet 3, s81)] ⟨[], 3, 0⟩) none none none none none none none none none none none) (ps := [P1.enc g]) (n := 8) (it := dRng rng1 (dCons (dC (.int 8)) dNil)) (I81a g) (rng1_it (n := 8) rfl (by decide)) ⟨[(.bet 3, s81)], ⟨[], 3, 0⟩, none, none, none, none, rfl, rfl, ⟨rfl, by simp, ⟨trivial, by decide, by decide⟩, Nat.le_refl _⟩⟩ (step81a hg ok)
  have hl := H.len
  have hpos : 0 < h.length := List.length_pos_iff.mpr H.ne
  let Q : PP := midP h s (h.length - 1)
  obtain ⟨w0, eb⟩ := back_mid (g := g) (ps := [(⟨s, h, []⟩ : PP).enc g]) (k := 0) (h := h) (s := s) (j := h.length - 1) (by rw [show h.length - 1 + 1 = h.length from by omega, mid_all]; rfl) (by omega) (by omega)
  have eb : e_Play_back [.obj 0] [(⟨s, h, []⟩ : PP).enc g] = .ok (.str w0) [Q.enc g] := eb
  have hQ2 : okPS [Q.enc g, Q.enc g] = true := by simp only [okPS, List.all_cons, List.all_nil, okPl_enc, Bool.and_true]
  let B : D := .lst [.tup [.obj 0, .int 1000], .tup [.obj 1, .int 2000]]
  have both : ∀ (k a : Nat) (qs : PLS) (y4 y8 y9 y10 y11 y12 y13 y14 : Option D), okPS qs = true → qs[k]? = some (Q.enc g) → ∃ ρ1, bindPat (.t [(.v 8), (.v 9)]) (.tup [.obj k, .int (a : Int)]) (R81 g (rowsH h s) y4 (some (.int (h.length : Int))) (some (.obj 1)) (some B) y8 y9 y10 y11 y12 y13 y14) = some ρ1 ∧
      ∃ (Q' : PP) (z4 z8 z9 z10 z11 z12 z13 z14 : Option D), L81b pk ρ1 qs = .nx (R81 g (rowsH h s) z4 (some (.int (h.length : Int))) (some (.obj 1)) (some B) z8 z9 z10 z11 z12 z13 z14) (qs.set k (Q'.enc g)) := by
    intro k a qs y4 y8 y9 y10 y11 y12 y13 y14 hq hk
    obtain ⟨Q', z4, z10, z11, z12, z13, z14, e⟩ := step81b hg ok (n := 9) (by omega) H y4 (some (.obj 1)) (some B) y10 y11 y12 y13 y14 (a := a) hq hk
    exact ⟨_, rfl, Q', z4, _, _, z10, z11, z12, z13, z14, e⟩
  have loop : ∀ b : Bool, ∃ ρ' ps', forGoE (.t [(.v 8), (.v 9)]) (L81b pk) (if b then [.tup [.obj 0, .int 1000], .tup [.obj 1, .int 2000]] else [.tup [.obj 1, .int 2000], .tup [.obj 0, .int 1000]]) (R81 g (rowsH h s) x4 (some (.int (h.length : Int))) (some (.obj 1)) (some B) none none x10 x11 x12 none none) [Q.enc g, Q.enc g] = .nx ρ' ps' := by
    intro b
    cases b with
    | true =>
      obtain ⟨r1, b1, Q1, a4, a8, a9, a10, a11, a12, a13, a14, e1⟩ := both 0 1000 [Q.enc g, Q.enc g] x4 none none x10 x11 x12 none none hQ2 rfl
      obtain ⟨r2, b2, Q2, c4, c8, c9, c10, c11, c12, c13, c14, e2⟩ := both 1 2000 [Q1.enc g, Q.enc g] a4 a8 a9 a10 a11 a12 a13 a14 (by simp only [okPS, List.all_cons, List.all_nil, okPl_enc, Bool.and_true]) rfl
      refine ⟨R81 g (rowsH h s) c4 (some (.int (h.length : Int))) (some (.obj 1)) (some B) c8 c9 c10 c11 c12 c13 c14, [Q1.enc g, Q2.enc g], ?_⟩
      simp only [if_true, forGoE]
      rw [show bindPat (.t [(.v 8), (.v 9)]) (.tup [.obj 0, .int 1000]) _ = some r1 from b1]
      simp only [e1, OE.seq]
      rw [show bindPat (.t [(.v 8), (.v 9)]) (.tup [.obj 1, .int 2000]) _ = some r2 from b2]
      simp only
      rw [show L81b pk r2 ([Q.enc g, Q.enc g].set 0 (Q1.enc g)) = _ from e2]
      rfl
    | false =>
      obtain ⟨r1, b1, Q1, a4, a8, a9, a10, a11, a12, a13, a14, e1⟩ := both 1 2000 [Q.enc g, Q.enc g] x4 none none x10 x11 x12 none none hQ2 rfl
      obtain ⟨r2, b2, Q2, c4, c8, c9, c10, c11, c12, c13, c14, e2⟩ := both 0 1000 [Q.enc g, Q1.enc g] a4 a8 a9 a10 a11 a12 a13 a14 (by simp only [okPS, List.all_cons, List.all_nil, okPl_enc, Bool.and_true]) rfl
      refine ⟨R81 g (rowsH h s) c4 (some (.int (h.length : Int))) (some (.obj 1)) (some B) c8 c9 c10 c11 c12 c13 c14, [Q2.enc g, Q1.enc g], ?_⟩
      simp only [Bool.false_eq_true, if_false, forGoE]
      rw [show bindPat (.t [(.v 8), (.v 9)]) (.tup [.obj 1, .int 2000]) _ = some r1 from b1]
      simp only [e1, OE.seq]
      rw [show bindPat (.t [(.v 8), (.v 9)]) (.tup [.obj 0, .int 1000]) _ = some r2 from b2]
      simp only
      rw [show L81b pk r2 ([Q.enc g, Q.enc g].set 1 (Q1.enc g)) = _ from e2]
      rfl
  obtain ⟨ρ9, ps9, h9⟩ := loop (decide (pk 5 2 = 0))
  refine ⟨ps9, ?_⟩
  show outE (be_law pk [some .scr0, none, none, none, none, none, none, none, none, none, none, none, none, none, none] []) = _
  unfold be_law
  refine oute_seq (ρ1 := [some .scr0, some g.enc, none, none, none, none, none, none, none, none, none, none, none, none, none]) (ps1 := []) (sp_nx ?_) ?_
  · have hd4 : d__law_drawn pk [.scr0, .int 4] = .ok g.enc := hd
    simp only [hd4, defD, args, dSeq, dSet, dSetP, dSetN, lstAt, dApp, dAppP, dAsg, dPar, dDrop, dWhile, dIfS, dRet, dB, dCall, dCons, dNil, dVar, dC, dBin, dChain, asB, dTru, dNotT, dAndT, dOrT, dAnd, dOr, dNot, dIf, dUn, dTup, dLst, dItems, dYes, R.bind, R.to, O.seq, outR, ofO, noErr, mask, Sm.putIn, bindPat, bindPats, itemsOf, tru, List.foldr_cons, List.foldr_nil, List.length_cons, List.length_nil, List.map_cons, List.map_nil, List.cons_append, List.nil_append, Nat.sub_self, List.replicate_zero, List.replicate_succ, List.getElem?_cons_succ, List.getElem?_cons_zero, List.set_cons_zero, List.set_cons_succ, Nat.reduceAdd, Nat.reduceSub, ↓reduceIte, Bool.not_true, Bool.not_false, Bool.and_true, Bool.true_and, Bool.false_and, Bool.and_false, if_true, if_false, Bool.false_eq_true, oNeg, oAddI, oSubI, oAdd_ii, oLt, oLe, oGt, oGe, Option.bind_some, Option.map_some]
  refine oute_seq (ρ1 := R81 g (rowsH [(.bet 3, s81)] ⟨[], 3, 0⟩) none none none none none none none none none none none) (ps1 := [(⟨s81, [], []⟩ : PP).enc g]) ?_ ?_
  · unfold ePar
    simp only [look_ok hg, setsE, eSeq, eRet, eBin, eNow, eOwn, eP, eT, eIf, eIfS, eSet, eAsg, eDrop, eApp, eMeth, eMake, makeR, eCallA, upF, eCons, eNil, eTup, eLst, easB, eAndT, eOrT, eNotT, eTru, eAnd, eB, sP, RP.bind, RP.to, R.up, O.up, OE.seq, outE, defE, oIxT, atI, defD, args, dSeq, dSet, dSetP, dSetN, lstAt, dApp, dAppP, dAsg, dPar, dDrop, dWhile, dIfS, dRet, dB, dCall, dCons, dNil, dVar, dC, dBin, dChain, asB, dTru, dNotT, dAndT, dOrT, dAnd, dOr, dNot, dIf, dUn, dTup, dLst, dItems, dYes, R.bind, R.to, O.seq, outR, ofO, noErr, mask, Sm.putIn, bindPat, bindPats, itemsOf, tru, List.foldr_cons, List.foldr_nil, List.length_cons, List.length_nil, List.map_cons, List.map_nil, List.cons_append, List.nil_append, Nat.sub_self, List.replicate_zero, List.replicate_succ, List.getElem?_cons_succ, List.getElem?_cons_zero, List.set_cons_zero, List.set_cons_succ, Nat.reduceAdd, Nat.reduceSub, ↓reduceIte, Bool.not_true, Bool.not_false, Bool.and_true, Bool.true_and, Bool.false_and, Bool.and_false, if_true, if_false, Bool.false_eq_true, oNeg, oAddI, oSubI, oAdd_ii, oLt, oLe, oGt, oGe, Option.bind_some, Option.map_some]
    rfl
  refine oute_seq (ρ1 := R81 g (rowsH [(.bet 3, s81)] ⟨[], 3, 0⟩) none none none none none none none none none none none) (ps1 := [P1.enc g]) ?_ ?_
  · have e3 := pbet_ok (P := ⟨s81, [], []⟩) (g := g) (k := 0) (ps := [(⟨s81, [], []⟩ : PP).enc g]) (n := 3) rfl (by decide) (by decide)
    simp only [e3, eSeq, eRet, eBin, eNow, eOwn, eP, eT, eIf, eIfS, eSet, eAsg, eDrop, eApp, eMeth, eMake, makeR, eCallA, upF, eCons, eNil, eTup, eLst, easB, eAndT, eOrT, eNotT, eTru, eAnd, eB, sP, RP.bind, RP.to, R.up, O.up, OE.seq, outE, defE, oIxT, atI, defD, args, dSeq, dSet, dSetP, dSetN, lstAt, dApp, dAppP, dAsg, dPar, dDrop, dWhile, dIfS, dRet, dB, dCall, dCons, dNil, dVar, dC, dBin, dChain, asB, dTru, dNotT, dAndT, dOrT, dAnd, dOr, dNot, dIf, dUn, dTup, dLst, dItems, dYes, R.bind, R.to, O.seq, outR, ofO, noErr, mask, Sm.putIn, bindPat, bindPats, itemsOf, tru, List.foldr_cons, List.foldr_nil, List.length_cons, List.length_nil, List.map_cons, List.map_nil, List.cons_append, List.nil_append, Nat.sub_self, List.replicate_zero, List.replicate_succ, List.getElem?_cons_succ, List.getElem?_cons_zero, List.set_cons_zero, List.set_cons_succ, Nat.reduceAdd, Nat.reduceSub, ↓reduceIte, Bool.not_true, Bool.not_false, Bool.and_true, Bool.true_and, Bool.false_and, Bool.and_false, if_true, if_false, Bool.false_eq_true, oNeg, oAddI, oSubI, oAdd_ii, oLt, oLe, oGt, oGe, Option.bind_some, Option.map_some]
    rfl
  refine oute_seq hl1 ?_
  have rl : oLen [.lst (rowsH h s)] = some (.int ((h.length + 1 : Nat) : Int)) := by simp [oLen, rowsH]
  have c1 : ((h.length + 1 : Nat) : Int) - 1 = (h.length : Int) := by omega
  refine oute_seq (ρ1 := R81 g (rowsH h s) x4 (some (.int (h.length : Int))) none none none none x10 x11 x12 none none) (ps1 := [(⟨s, h, []⟩ : PP).enc g]) (sp_nx ?_) ?_
  · simp only [rl, c1, defD, args, dSeq, dSet, dSetP, dSetN, lstAt, dApp, dAppP, dAsg, dPar, dDrop, dWhile, dIfS, dRet, dB, dCall, dCons, dNil, dVar, dC, dBin, dChain, asB, dTru, dNotT, dAndT, dOrT, dAnd, dOr, dNot, dIf, dUn, dTup, dLst, dItems, dYes, R.bind, R.to, O.seq, outR, ofO, noErr, mask, Sm.putIn, bindPat, bindPats, itemsOf, tru, List.foldr_cons, List.foldr_nil, List.length_cons, List.length_nil, List.map_cons, List.map_nil, List.cons_append, List.nil_append, Nat.sub_self, List.replicate_zero, List.replicate_succ, List.getElem?_cons_succ, List.getElem?_cons_zero, List.set_cons_zero, List.set_cons_succ, Nat.reduceAdd, Nat.reduceSub, ↓reduceIte, Bool.not_true, Bool.not_false, Bool.and_true, Bool.true_and, Bool.false_and, Bool.and_false, if_true, if_false, Bool.false_eq_true, oNeg, oAddI, oSubI, oAdd_ii, oLt, oLe, oGt, oGe, Option.bind_some, Option.map_some]
  refine oute_seq (ρ1 := R81 g (rowsH h s) x4 (some (.int (h.length : Int))) none none none none x10 x11 x12 none none) (ps1 := [Q.enc g]) ?_ ?_
  · show RP.to _ (e_Play_back [.obj 0] _) _ = _
    rw [eb]
    rfl
  refine oute_seq (ρ1 := R81 g (rowsH h s) x4 (some (.int (h.length : Int))) (some (.obj 1)) none none none x10 x11 x12 none none) (ps1 := [Q.enc g, Q.enc g]) ?_ ?_
  · show RP.to _ (e_Play_twin [.obj 0] _) _ = _
    rw [twin_ok hg]
    rfl
  have q0 : ([Q.enc g, Q.enc g] : PLS)[0]? = some (Q.enc g) := rfl
  have q1 : ([Q.enc g, Q.enc g] : PLS)[1]? = some (Q.enc g) := rfl
  have eQ : Q.past.length = h.length - 1 ∧ Q.later.length = 1 := by
    constructor
    · show (h.take (h.length - 1)).length = _
      rw [List.length_take]; omega
    · show ((futS (h.drop (h.length - 1)) s).reverse).length = 1
      rw [List.length_reverse, futS_len, List.length_drop]; omega
  have e2 : oIx (.lst (rowsH h s)) (.int (-2)) = some Q.now.enc := by
    have hj : h.length - 1 < h.length := by omega
    have hn : Q.now = h[h.length - 1].2 := by
      show fstS (h.drop (h.length - 1)) s = _
      rw [List.drop_eq_getElem_cons hj]
      rfl
    rw [hn]
    show atI (rowsH h s) (-2) = _
    have l1 : (rowsH h s).length = h.length + 1 := by simp [rowsH]
    unfold atI
    rw [l1]
    have : ixN (h.length + 1) (-2) = some (h.length - 1) := by
      unfold ixN
      first
        | rw [if_neg (by omega), if_pos (by omega)]; congr 1; omega
        | (simp; omega)
    rw [this]
    show (rowsH h s)[h.length - 1]? = _
    unfold rowsH
    rw [List.getElem?_append_left (by rw [List.length_map]; exact hj), List.getElem?_map, List.getElem?_eq_getElem hj]
    rfl
  refine oute_seq (ρ1 := R81 g (rowsH h s) x4 (some (.int (h.length : Int))) (some (.obj 1)) none none none x10 x11 x12 none none) (ps1 := [Q.enc g, Q.enc g]) ?_ ?_
  · rw [ife_no (ps1 := [Q.enc g, Q.enc g])]
    refine or_no (ps1 := [Q.enc g, Q.enc g]) (ne_no (x := .tup [.int (Q.past.length : Int), .int (Q.later.length : Int)]) (y := .tup [.int ((h.length : Int) - 1), .int 1]) (ps1 := [Q.enc g, Q.enc g]) (pcounts_ok q1) rfl ?_) (or_no (ps1 := [Q.enc g, Q.enc g]) (ne_no (x := encP Q.now.path) (y := encP Q.now.path) (ps1 := [Q.enc g, Q.enc g]) (ppath_ok q1) ?_ (oNe_self (pl_P 63 _))) (ne_no (ps1 := [Q.enc g, Q.enc g]) (psteps_ok q1) (psteps_ok q0) (oNe_self (stps_pl _))))
    · rw [eQ.1, eQ.2, show ((h.length - 1 : Nat) : Int) = (h.length : Int) - 1 from by omega]
      exact oNe_self rfl
    · simp only [e2, now0, eSeq, eRet, eBin, eNow, eOwn, eP, eT, eIf, eIfS, eSet, eAsg, eDrop, eApp, eMeth, eMake, makeR, eCallA, upF, eCons, eNil, eTup, eLst, easB, eAndT, eOrT, eNotT, eTru, eAnd, eB, sP, RP.bind, RP.to, R.up, O.up, OE.seq, outE, defE, oIxT, atI, defD, args, dSeq, dSet, dSetP, dSetN, lstAt, dApp, dAppP, dAsg, dPar, dDrop, dWhile, dIfS, dRet, dB, dCall, dCons, dNil, dVar, dC, dBin, dChain, asB, dTru, dNotT, dAndT, dOrT, dAnd, dOr, dNot, dIf, dUn, dTup, dLst, dItems, dYes, R.bind, R.to, O.seq, outR, ofO, noErr, mask, Sm.putIn, bindPat, bindPats, itemsOf, tru, List.foldr_cons, List.foldr_nil, List.length_cons, List.length_nil, List.map_cons, List.map_nil, List.cons_append, List.nil_append, Nat.sub_self, List.replicate_zero, List.replicate_succ, List.getElem?_cons_succ, List.getElem?_cons_zero, List.set_cons_zero, List.set_cons_succ, Nat.reduceAdd, Nat.reduceSub, ↓reduceIte, Bool.not_true, Bool.not_false, Bool.and_true, Bool.true_and, Bool.false_and, Bool.and_false, if_true, if_false, Bool.false_eq_true, oNeg, oAddI, oSubI, oAdd_ii, oLt, oLe, oGt, oGe, Option.bind_some, Option.map_some]
  refine oute_seq (ρ1 := R81 g (rowsH h s) x4 (some (.int (h.length : Int))) (some (.obj 1)) (some B) none none x10 x11 x12 none none) (ps1 := [Q.enc g, Q.enc g]) (sp_nx ?_) ?_
  · simp only [defD, args, dSeq, dSet, dSetP, dSetN, lstAt, dApp, dAppP, dAsg, dPar, dDrop, dWhile, dIfS, dRet, dB, dCall, dCons, dNil, dVar, dC, dBin, dChain, asB, dTru, dNotT, dAndT, dOrT, dAnd, dOr, dNot, dIf, dUn, dTup, dLst, dItems, dYes, R.bind, R.to, O.seq, outR, ofO, noErr, mask, Sm.putIn, bindPat, bindPats, itemsOf, tru, List.foldr_cons, List.foldr_nil, List.length_cons, List.length_nil, List.map_cons, List.map_nil, List.cons_append, List.nil_append, Nat.sub_self, List.replicate_zero, List.replicate_succ, List.getElem?_cons_succ, List.getElem?_cons_zero, List.set_cons_zero, List.set_cons_succ, Nat.reduceAdd, Nat.reduceSub, ↓reduceIte, Bool.not_true, Bool.not_false, Bool.and_true, Bool.true_and, Bool.false_and, Bool.and_false, if_true, if_false, Bool.false_eq_true, oNeg, oAddI, oSubI, oAdd_ii, oLt, oLe, oGt, oGe, Option.bind_some, Option.map_some]
    rfl
  refine oute_seq (ρ1 := ρ9) (ps1 := ps9) ?_ rfl
  have e5 := dPick_ok pk 5 (m := 2) (by decide)
  have e5 : dPick pk [.scr0, .int 5, .int 2] = .ok (.int (pk 5 2)) := e5
  show RP.to _ (R.up _ (dItems _ _)) _ = _
  have it : dItems (dIf (asB (dBin oEq (dCall (dPick pk) (dCons (dVar 0) (dCons (dC (.int 5)) (dCons (dC (.int 2)) dNil)))) (dC (.int 0)))) (dVar 7) (dUn oRevA (dVar 7))) (R81 g (rowsH h s) x4 (some (.int (h.length : Int))) (some (.obj 1)) (some B) none none x10 x11 x12 none none) = .ok (if decide (pk 5 2 = 0) = true then [.tup [.obj 0, .int 1000], .tup [.obj 1, .int 2000]] else [.tup [.obj 1, .int 2000], .tup [.obj 0, .int 1000]]) := by
    by_cases h0 : pk 5 2 = 0
    · simp only [e5, oEq_ii, decide_eq_true h0, defD, args, dSeq, dSet, dSetP, dSetN, lstAt, dApp, dAppP, dAsg, dPar, dDrop, dWhile, dIfS, dRet, dB, dCall, dCons, dNil, dVar, dC, dBin, dChain, asB, dTru, dNotT, dAndT, dOrT, dAnd, dOr, dNot, dIf, dUn, dTup, dLst, dItems, dYes, R.bind, R.to, O.seq, outR, ofO, noErr, mask, Sm.putIn, bindPat, bindPats, itemsOf, tru, List.foldr_cons, List.foldr_nil, List.length_cons, List.length_nil, List.map_cons, List.map_nil, List.cons_append, List.nil_append, Nat.sub_self, List.replicate_zero, List.replicate_succ, List.getElem?_cons_succ, List.getElem?_cons_zero, List.set_cons_zero, List.set_cons_succ, Nat.reduceAdd, Nat.reduceSub, ↓reduceIte, Bool.not_true, Bool.not_false, Bool.and_true, Bool.true_and, Bool.false_and, Bool.and_false, if_true, if_false, Bool.false_eq_true, oNeg, oAddI, oSubI, oAdd_ii, oLt, oLe, oGt, oGe, Option.bind_some, Option.map_some]
      rfl
    · simp only [e5, oEq_ii, decide_eq_false h0, defD, args, dSeq, dSet, dSetP, dSetN, lstAt, dApp, dAppP, dAsg, dPar, dDrop, dWhile, dIfS, dRet, dB, dCall, dCons, dNil, dVar, dC, dBin, dChain, asB, dTru, dNotT, dAndT, dOrT, dAnd, dOr, dNot, dIf, dUn, dTup, dLst, dItems, dYes, R.bind, R.to, O.seq, outR, ofO, noErr, mask, Sm.putIn, bindPat, bindPats, itemsOf, tru, List.foldr_cons, List.foldr_nil, List.length_cons, List.length_nil, List.map_cons, List.map_nil, List.cons_append, List.nil_append, Nat.sub_self, List.replicate_zero, List.replicate_succ, List.getElem?_cons_succ, List.getElem?_cons_zero, List.set_cons_zero, List.set_cons_succ, Nat.reduceAdd, Nat.reduceSub, ↓reduceIte, Bool.not_true, Bool.not_false, Bool.and_true, Bool.true_and, Bool.false_and, Bool.and_false, if_true, if_false, Bool.false_eq_true, oNeg, oAddI, oSubI, oAdd_ii, oLt, oLe, oGt, oGe, Option.bind_some, Option.map_some]
      rfl
  rw [show dItems _ (mask [] (R81 g (rowsH h s) x4 (some (.int (h.length : Int))) (some (.obj 1)) (some B) none none x10 x11 x12 none none)) = _ from it]
  exact h9
end Kx
namespace Kx
open PySem PySem.Spec L2 Sm
def topS (i : Nat) : Stmt := PySem.Challenge.pw_fairstops_k81_whole_play_twins.main.body.getD i (.Pass ⟨0, 0, 0, 0⟩)
abbrev N_is_whole : List Str := ["thing", "low", "high"]
theorem sc_is_whole : FnScope N_is_whole ["thing", "low", "high"] (defScope (topS 15)) := ⟨rfl, rfl, rfl, by decide +kernel, rfl, by decide +kernel, by decide +kernel⟩
abbrev N_is_game_in : List Str := ["thing", "deep", "way"]
theorem sc_is_game_in : FnScope N_is_game_in ["thing", "deep"] (defScope (topS 16)) := ⟨rfl, rfl, rfl, by decide +kernel, rfl, by decide +kernel, by decide +kernel⟩
abbrev N_is_game : List Str := ["thing"]
theorem sc_is_game : FnScope N_is_game ["thing"] (defScope (topS 17)) := ⟨rfl, rfl, rfl, by decide +kernel, rfl, by decide +kernel, by decide +kernel⟩
abbrev N_look_game : List Str := ["game"]
theorem sc_look_game : FnScope N_look_game ["game"] (defScope (topS 18)) := ⟨rfl, rfl, rfl, by decide +kernel, rfl, by decide +kernel, by decide +kernel⟩
abbrev N_ways_of : List Str := ["game"]
theorem sc_ways_of : FnScope N_ways_of ["game"] (defScope (topS 19)) := ⟨rfl, rfl, rfl, by decide +kernel, rfl, by decide +kernel, by decide +kernel⟩
abbrev N_part_of : List Str := ["game", "path", "number"]
theorem sc_part_of : FnScope N_part_of ["game", "path"] (defScope (topS 20)) := ⟨rfl, rfl, rfl, by decide +kernel, rfl, by decide +kernel, by decide +kernel⟩
abbrev N_Play_init : List Str := ["self", "game"]
theorem sc_Play_init : FnScope N_Play_init ["self", "game"] (defScope (inClass (topS 23) 0)) := ⟨rfl, rfl, rfl, by decide +kernel, rfl, by decide +kernel, by decide +kernel⟩
abbrev N_Play_do : List Str := ["self", "step", "state"]
theorem sc_Play_do : FnScope N_Play_do ["self", "step", "state"] (defScope (inClass (topS 23) 1)) := ⟨rfl, rfl, rfl, by decide +kernel, rfl, by decide +kernel, by decide +kernel⟩
abbrev N_Play_bet : List Str := ["self", "amount", "path", "was", "won"]
theorem sc_Play_bet : FnScope N_Play_bet ["self", "amount"] (defScope (inClass (topS 23) 2)) := ⟨rfl, rfl, rfl, by decide +kernel, rfl, by decide +kernel, by decide +kernel⟩
abbrev N_Play_go : List Str := ["self", "number", "path", "amount", "won", "here", "gained"]
theorem sc_Play_go : FnScope N_Play_go ["self", "number"] (defScope (inClass (topS 23) 3)) := ⟨rfl, rfl, rfl, by decide +kernel, rfl, by decide +kernel, by decide +kernel⟩
abbrev N_Play_path : List Str := ["self"]
theorem sc_Play_path : FnScope N_Play_path ["self"] (defScope (inClass (topS 23) 4)) := ⟨rfl, rfl, rfl, by decide +kernel, rfl, by decide +kernel, by decide +kernel⟩
abbrev N_Play_purse : List Str := ["self"]
theorem sc_Play_purse : FnScope N_Play_purse ["self"] (defScope (inClass (topS 23) 5)) := ⟨rfl, rfl, rfl, by decide +kernel, rfl, by decide +kernel, by decide +kernel⟩
abbrev N_Play_steps : List Str := ["self", "step", "was"]
theorem sc_Play_steps : FnScope N_Play_steps ["self"] (defScope (inClass (topS 23) 9)) := ⟨rfl, rfl, rfl, by decide +kernel, rfl, by decide +kernel, by decide +kernel⟩
abbrev N_Play_back : List Str := ["self", "step", "was"]
theorem sc_Play_back : FnScope N_Play_back ["self"] (defScope (inClass (topS 23) 10)) := ⟨rfl, rfl, rfl, by decide +kernel, rfl, by decide +kernel, by decide +kernel⟩
abbrev N_Play_forth : List Str := ["self", "step", "was"]
theorem sc_Play_forth : FnScope N_Play_forth ["self"] (defScope (inClass (topS 23) 11)) := ⟨rfl, rfl, rfl, by decide +kernel, rfl, by decide +kernel, by decide +kernel⟩
abbrev N_Play_counts : List Str := ["self"]
theorem sc_Play_counts : FnScope N_Play_counts ["self"] (defScope (inClass (topS 23) 12)) := ⟨rfl, rfl, rfl, by decide +kernel, rfl, by decide +kernel, by decide +kernel⟩
abbrev N_Play_twin : List Str := ["self", "made"]
theorem sc_Play_twin : FnScope N_Play_twin ["self"] (defScope (inClass (topS 23) 13)) := ⟨rfl, rfl, rfl, by decide +kernel, rfl, by decide +kernel, by decide +kernel⟩
abbrev N__law_cell : List Str := ["script", "k"]
theorem sc__law_cell : FnScope N__law_cell ["script", "k"] (defScope (topS 25)) := ⟨rfl, rfl, rfl, by decide +kernel, rfl, by decide +kernel, by decide +kernel⟩
abbrev N__law_pick : List Str := ["script", "k", "many", "drawn"]
theorem sc__law_pick : FnScope N__law_pick ["script", "k", "many"] (defScope (topS 26)) := ⟨rfl, rfl, rfl, by decide +kernel, rfl, by decide +kernel, by decide +kernel⟩
abbrev N__law_game : List Str := ["script", "at", "top", "deep", "is_even", "base", "many", "rows", "some", "k", "weight", "step", "a", "b"]
theorem sc__law_game : FnScope N__law_game ["script", "at", "top", "deep", "is_even"] (defScope (topS 27)) := ⟨rfl, rfl, rfl, by decide +kernel, rfl, by decide +kernel, by decide +kernel⟩
abbrev N__law_drawn : List Str := ["script", "deep"]
theorem sc__law_drawn : FnScope N__law_drawn ["script", "deep"] (defScope (topS 28)) := ⟨rfl, rfl, rfl, by decide +kernel, rfl, by decide +kernel, by decide +kernel⟩
abbrev N__law_class : List Str := ["kept", "kinds"]
theorem sc__law_class : FnScope N__law_class ["kept"] (defScope (topS 29)) := ⟨rfl, rfl, rfl, by decide +kernel, rfl, by decide +kernel, by decide +kernel⟩
abbrev N__law_told : List Str := ["deed", "e"]
theorem sc__law_told : FnScope N__law_told ["deed"] (defScope (topS 30)) := ⟨rfl, rfl, rfl, by decide +kernel, rfl, by decide +kernel, by decide +kernel⟩
abbrev N__law_deed : List Str := ["script", "at", "here", "way"]
theorem sc__law_deed : FnScope N__law_deed ["script", "at", "here"] (defScope (topS 31)) := ⟨rfl, rfl, rfl, by decide +kernel, rfl, by decide +kernel, by decide +kernel⟩
abbrev N__law_there : List Str := ["game", "path", "number"]
theorem sc__law_there : FnScope N__law_there ["game", "path"] (defScope (topS 33)) := ⟨rfl, rfl, rfl, by decide +kernel, rfl, by decide +kernel, by decide +kernel⟩
abbrev N__law_behind : List Str := ["game", "now", "deed", "path", "amount", "won", "here", "gained"]
theorem sc__law_behind : FnScope N__law_behind ["game", "now", "deed"] (defScope (topS 32)) := ⟨rfl, rfl, rfl, by decide +kernel, rfl, by decide +kernel, by decide +kernel⟩
abbrev N__law_did : List Str := ["play", "deed"]
theorem sc__law_did : FnScope N__law_did ["play", "deed"] (defScope (topS 34)) := ⟨rfl, rfl, rfl, by decide +kernel, rfl, by decide +kernel, by decide +kernel⟩
abbrev N_law : List Str := ["script", "game", "play", "rows", "k", "many", "other", "both", "one", "at", "deed", "now", "due", "here", "total"]
theorem sc_law : FnScope N_law ["script"] (defScope (topS 35)) := ⟨rfl, rfl, rfl, by decide +kernel, rfl, by decide +kernel, by decide +kernel⟩
structure Top (K : PySem.W.Frag) (mg : Str → Option Value) (cc : Nat → Addr) (tc : Nat → Addr) (C : Addr) : Prop where
  pc : PlC K C
  mP : mg "Play" = some (.ref C)
  x_NoGame : XC K mg "NoGame" (cc 1)
  x_NoBets : XC K mg "NoBets" (cc 4)
  x_NoPath : XC K mg "NoPath" (cc 2)
  x_NoBack : XC K mg "NoBack" (cc 7)
  x_Unpaid : XC K mg "Unpaid" (cc 5)
  x_NoText : XC K mg "NoText" (cc 6)
  x_NoRule : XC K mg "NoRule" (cc 3)
  x_StopError : XC K mg "StopError" (cc 0)
  xt : XT K cc [1, 2, 3, 4, 5, 6, 7]
  k_NoGame : ∀ k ∈ [1, 2, 3, 4, 5, 6, 7], PySem.W.kitOne K (.ref (cc k)) (.ref (cc 1)) = some (k == 1)
  k_NoPath : ∀ k ∈ [1, 2, 3, 4, 5, 6, 7], PySem.W.kitOne K (.ref (cc k)) (.ref (cc 2)) = some (k == 2)
  k_NoRule : ∀ k ∈ [1, 2, 3, 4, 5, 6, 7], PySem.W.kitOne K (.ref (cc k)) (.ref (cc 3)) = some (k == 3)
  k_NoBets : ∀ k ∈ [1, 2, 3, 4, 5, 6, 7], PySem.W.kitOne K (.ref (cc k)) (.ref (cc 4)) = some (k == 4)
  k_Unpaid : ∀ k ∈ [1, 2, 3, 4, 5, 6, 7], PySem.W.kitOne K (.ref (cc k)) (.ref (cc 5)) = some (k == 5)
  k_NoText : ∀ k ∈ [1, 2, 3, 4, 5, 6, 7], PySem.W.kitOne K (.ref (cc k)) (.ref (cc 6)) = some (k == 6)
  k_NoBack : ∀ k ∈ [1, 2, 3, 4, 5, 6, 7], PySem.W.kitOne K (.ref (cc k)) (.ref (cc 7)) = some (k == 7)
  kv : ∀ k ∈ [1, 2, 3, 4, 5, 6, 7], PySem.W.kitOne K (.ref (cc k)) (.type "ValueError") = some true
  xs : ∀ k ∈ [1, 2, 3, 4, 5, 6, 7], PySem.W.exmOne K (.ref (cc k)) (.ref (cc 0)) = some true
  m_isinstance : mg "isinstance" = none
  m_int : mg "int" = none
  m_bool : mg "bool" = none
  m_tuple : mg "tuple" = none
  m_len : mg "len" = none
  m_all : mg "all" = none
  m_list : mg "list" = none
  m_max : mg "max" = none
  m_range : mg "range" = none
  m_enumerate : mg "enumerate" = none
  m_ValueError : mg "ValueError" = none
  c_GREATEST : ∃ t, mg "GREATEST" = some (.int 20 t)
  c_MOST_WAYS : ∃ t, mg "MOST_WAYS" = some (.int 3 t)
  c_HEAVIEST : ∃ t, mg "HEAVIEST" = some (.int 9 t)
  c_DEEPEST : ∃ t, mg "DEEPEST" = some (.int 4 t)
  c_MOST_BET : ∃ t, mg "MOST_BET" = some (.int 99 t)
  f_is_whole : ∃ f fd, Fun K "is_whole" "is_whole" (topS 15) f fd ∧ mg "is_whole" = some (.ref f) ∧ Binds K fd ["thing", "low", "high"] []
  f_is_game_in : ∃ f fd, Fun K "is_game_in" "is_game_in" (topS 16) f fd ∧ mg "is_game_in" = some (.ref f) ∧ Binds K fd ["thing", "deep"] []
  f_is_game : ∃ f fd, Fun K "is_game" "is_game" (topS 17) f fd ∧ mg "is_game" = some (.ref f) ∧ Binds K fd ["thing"] []
  f_look_game : ∃ f fd, Fun K "look_game" "look_game" (topS 18) f fd ∧ mg "look_game" = some (.ref f) ∧ Binds K fd ["game"] []
  f_ways_of : ∃ f fd, Fun K "ways_of" "ways_of" (topS 19) f fd ∧ mg "ways_of" = some (.ref f) ∧ Binds K fd ["game"] []
  f_part_of : ∃ f fd, Fun K "part_of" "part_of" (topS 20) f fd ∧ mg "part_of" = some (.ref f) ∧ Binds K fd ["game", "path"] []
  f_Play_init : ∃ f fd, Fun K "__init__" "Play.__init__" (inClass (topS 23) 0) f fd ∧ L2.Mk K C f ∧ Binds K fd ["self", "game"] []
  f_Play_do : ∃ f fd, Fun K "do" "Play.do" (inClass (topS 23) 1) f fd ∧ Meth K C "do" f ∧ Binds K fd ["self", "step", "state"] []
  f_Play_bet : ∃ f fd, Fun K "bet" "Play.bet" (inClass (topS 23) 2) f fd ∧ Meth K C "bet" f ∧ Binds K fd ["self", "amount"] []
  f_Play_go : ∃ f fd, Fun K "go" "Play.go" (inClass (topS 23) 3) f fd ∧ Meth K C "go" f ∧ Binds K fd ["self", "number"] []
  f_Play_path : ∃ f fd, Fun K "path" "Play.path" (inClass (topS 23) 4) f fd ∧ Meth K C "path" f ∧ Binds K fd ["self"] []
  f_Play_purse : ∃ f fd, Fun K "purse" "Play.purse" (inClass (topS 23) 5) f fd ∧ Meth K C "purse" f ∧ Binds K fd ["self"] []
  f_Play_steps : ∃ f fd, Fun K "steps" "Play.steps" (inClass (topS 23) 9) f fd ∧ Meth K C "steps" f ∧ Binds K fd ["self"] []
  f_Play_back : ∃ f fd, Fun K "back" "Play.back" (inClass (topS 23) 10) f fd ∧ Meth K C "back" f ∧ Binds K fd ["self"] []
  f_Play_forth : ∃ f fd, Fun K "forth" "Play.forth" (inClass (topS 23) 11) f fd ∧ Meth K C "forth" f ∧ Binds K fd ["self"] []
  f_Play_counts : ∃ f fd, Fun K "counts" "Play.counts" (inClass (topS 23) 12) f fd ∧ Meth K C "counts" f ∧ Binds K fd ["self"] []
  f_Play_twin : ∃ f fd, Fun K "twin" "Play.twin" (inClass (topS 23) 13) f fd ∧ Meth K C "twin" f ∧ Binds K fd ["self"] []
  f__law_cell : ∃ f fd, Fun K "_law_cell" "_law_cell" (topS 25) f fd ∧ mg "_law_cell" = some (.ref f) ∧ Binds K fd ["script", "k"] []
  f__law_pick : ∃ f fd, Fun K "_law_pick" "_law_pick" (topS 26) f fd ∧ mg "_law_pick" = some (.ref f) ∧ Binds K fd ["script", "k", "many"] []
  f__law_game : ∃ f fd, Fun K "_law_game" "_law_game" (topS 27) f fd ∧ mg "_law_game" = some (.ref f) ∧ Binds K fd ["script", "at", "top", "deep", "is_even"] []
  f__law_drawn : ∃ f fd, Fun K "_law_drawn" "_law_drawn" (topS 28) f fd ∧ mg "_law_drawn" = some (.ref f) ∧ Binds K fd ["script", "deep"] []
  f__law_class : ∃ f fd, Fun K "_law_class" "_law_class" (topS 29) f fd ∧ mg "_law_class" = some (.ref f) ∧ Binds K fd ["kept"] []
  f__law_told : ∃ f fd, Fun K "_law_told" "_law_told" (topS 30) f fd ∧ mg "_law_told" = some (.ref f) ∧ Binds K fd ["deed"] []
  f__law_deed : ∃ f fd, Fun K "_law_deed" "_law_deed" (topS 31) f fd ∧ mg "_law_deed" = some (.ref f) ∧ Binds K fd ["script", "at", "here"] []
  f__law_there : ∃ f fd, Fun K "_law_there" "_law_there" (topS 33) f fd ∧ mg "_law_there" = some (.ref f) ∧ Binds K fd ["game", "path"] []
  f__law_behind : ∃ f fd, Fun K "_law_behind" "_law_behind" (topS 32) f fd ∧ mg "_law_behind" = some (.ref f) ∧ Binds K fd ["game", "now", "deed"] []
  f__law_did : ∃ f fd, FunC K "_law_did" (topS 34) f fd (tc 0) ∧ mg "_law_did" = some (.ref f) ∧ Binds K fd ["play", "deed"] []
  f_law : ∃ f fd, FunC K "law" (topS 35) f fd (tc 1) ∧ mg "law" = some (.ref f) ∧ Binds K fd ["script"] []
section
variable {P : Program} {w : World} {K : PySem.W.Frag} {mg : Str → Option Value} {base : Heap} {cl : Glb} {pk : Nat → Int → Int} {tc : Nat → Addr} {C : Addr}
theorem s_is_whole (T : Top K mg cl.c tc C)  : Fn P w K mg base cl 1 "is_whole" 3 d_is_whole := by
  obtain ⟨f, fd, F, hm, hb⟩ := T.f_is_whole
  exact fn_mk (k := 0) (own := []) F sc_is_whole hm hb rfl rfl fun cdv A outer s H E gd hr =>
      (ss_one (ss_ret (own := []) (se_and (se_isiT kit_int (by decide +kernel) (se_var 0) T.m_isinstance T.m_int) (se_and (se_not (se_isiT kit_bool (by decide +kernel) (se_var 0) T.m_isinstance T.m_bool)) (se_one (se_chain os_le os_le (se_var 1) (se_var 0) (se_var 2)))))))
theorem s_is_game_in (T : Top K mg cl.c tc C) (g_is_whole : Fn P w K mg base cl 1 "is_whole" 3 d_is_whole) : ∀ n : Nat, Fn P w K mg base cl (2 + n) "is_game_in" 2 (d_is_game_in n) := by
  intro n
  induction n with
  | zero =>
    skip
    obtain ⟨f, fd, F, hm, hb⟩ := T.f_is_game_in
    exact Fn.none F hm hb rfl
  | succ n ih =>
    have G_is_game_in := ih
    skip
    · obtain ⟨f, fd, F, hm, hb⟩ := T.f_is_game_in
      obtain ⟨t_GREATEST, c_GREATEST⟩ := T.c_GREATEST
      obtain ⟨t_GREATEST, c_GREATEST⟩ := T.c_GREATEST
      obtain ⟨t_MOST_WAYS, c_MOST_WAYS⟩ := T.c_MOST_WAYS
      obtain ⟨t_HEAVIEST, c_HEAVIEST⟩ := T.c_HEAVIEST
      exact fn_mk (k := 2 + n) (own := []) F sc_is_game_in hm hb rfl rfl fun cdv A outer s H E gd hr =>
        (ss_cons (ss_if (own := []) (own1 := []) (SW.st (sw_or (st_cmp (os_eq hr.units) (se_var 1) se_int) (sw_or (st_not (st_truth (se_isiT kit_tup (by decide +kernel) (se_var 0) T.m_isinstance T.m_tuple))) (sw_or (st_not (st_truth (se_var 0))) (sw_one (st_not (st_truth (se_call g_is_whole (hr.mono (by omega)) gd.tk (sa_cons (se_ixD (u65 hr) (se_var 0) se_int) (sa_cons (se_op os_sub se_int (se_globI rfl c_GREATEST)) (sa_cons (se_globI rfl c_GREATEST) sa_nil))))))))))) (ss_one (ss_ret (own := []) se_bl)) ss_nil)
      (ss_cons (ss_if (own := []) (own1 := []) (st_cmp (os_eq hr.units) (se_callB cs_len (by decide +kernel) (sa_cons (se_var 0) sa_nil) T.m_len) se_int) (ss_one (ss_ret (own := []) se_bl)) ss_nil)
      (ss_cons (ss_if (own := []) (own1 := []) (SW.st (sw_or (st_cmp (os_ne hr.units) (se_callB cs_len (by decide +kernel) (sa_cons (se_var 0) sa_nil) T.m_len) se_int) (sw_or (st_not (st_truth (se_isiT kit_tup (by decide +kernel) (se_ixD (u65 hr) (se_var 0) se_int) T.m_isinstance T.m_tuple))) (sw_one (st_not (st_chain os_le os_le se_int (se_callB cs_len (by decide +kernel) (sa_cons (se_ixD (u65 hr) (se_var 0) se_int) sa_nil) T.m_len) (se_globI rfl c_MOST_WAYS))))))) (ss_one (ss_ret (own := []) se_bl)) ss_nil)
      (ss_cons (ss_for (own := []) gd (si_seq (se_ixD (u65 hr) (se_var 0) se_int)) (sg_name 2 gd.nd) (ss_one (ss_if (own := []) (own1 := []) (SW.st (sw_or (st_not (st_truth (se_isiT kit_tup (by decide +kernel) (se_var 2) T.m_isinstance T.m_tuple))) (sw_or (st_cmp (os_ne hr.units) (se_callB cs_len (by decide +kernel) (sa_cons (se_var 2) sa_nil) T.m_len) se_int) (sw_one (st_not (st_truth (se_call g_is_whole (hr.mono (by omega)) gd.tk (sa_cons (se_ixD (u65 hr) (se_var 2) se_int) (sa_cons se_int (sa_cons (se_globI rfl c_HEAVIEST) sa_nil)))))))))) (ss_one (ss_ret (own := []) se_bl)) ss_nil)))
      (ss_one (ss_ret (own := []) (se_callB (cs_all gd.calm) (by decide +kernel) (sa_cons (se_lc gd.calm gd.nd (si_seq (se_ixD (u65 hr) (se_var 0) se_int)) (blkOk_by (own := [("way", 2)]) (N := N_is_game_in) (sc := defScope (topS 16)) (by decide +kernel)) (fun _ _ _ _ _ => (sg_name 2 gd.nd)) (fun _ _ _ _ _ => sts_nil) (fun _ _ _ _ _ => (se_call G_is_game_in (hr.mono (by omega)) takes0 (sa_cons (se_ixD (u65 hr) (se_var 2) se_int) (sa_cons (se_op os_sub (se_var 1) se_int) sa_nil))))) sa_nil) T.m_all)))))))
theorem s_is_game (T : Top K mg cl.c tc C) (g_is_game_in : Fn P w K mg base cl 10 "is_game_in" 2 (d_is_game_in 8)) : Fn P w K mg base cl 11 "is_game" 1 d_is_game := by
  obtain ⟨f, fd, F, hm, hb⟩ := T.f_is_game
  obtain ⟨t_DEEPEST, c_DEEPEST⟩ := T.c_DEEPEST
  exact fn_mk (k := 10) (own := []) F sc_is_game hm hb rfl rfl fun cdv A outer s H E gd hr =>
      (ss_one (ss_ret (own := []) (se_call g_is_game_in (hr.mono (by decide)) gd.tk (sa_cons (se_var 0) (sa_cons (se_globI rfl c_DEEPEST) sa_nil)))))
theorem s_look_game (T : Top K mg cl.c tc C) (g_is_game : Fn P w K mg base cl 11 "is_game" 1 d_is_game) : Fn P w K mg base cl 12 "look_game" 1 d_look_game := by
  obtain ⟨f, fd, F, hm, hb⟩ := T.f_look_game
  exact fn_mk (k := 11) (own := []) F sc_look_game hm hb rfl rfl fun cdv A outer s H E gd hr =>
      (ss_one (ss_if (own := []) (own1 := []) (st_not (st_truth (se_call g_is_game (hr.mono (by decide)) gd.tk (sa_cons (se_var 0) sa_nil)))) (ss_one (ss_raise (own := []) (c := 1) gd T.x_NoGame)) ss_nil))
theorem s_ways_of (T : Top K mg cl.c tc C)  : Fn P w K mg base cl 1 "ways_of" 1 d_ways_of := by
  obtain ⟨f, fd, F, hm, hb⟩ := T.f_ways_of
  exact fn_mk (k := 0) (own := []) F sc_ways_of hm hb rfl rfl fun cdv A outer s H E gd hr =>
      (ss_one (ss_ret (own := []) (se_if (st_cmp (os_eq hr.units) (se_callB cs_len (by decide +kernel) (sa_cons (se_var 0) sa_nil) T.m_len) se_int) (se_ixD (u65 hr) (se_var 0) se_int) (se_tup sa_nil))))
theorem s_part_of (T : Top K mg cl.c tc C) (g_ways_of : Fn P w K mg base cl 1 "ways_of" 1 d_ways_of) : Fn P w K mg base cl 2 "part_of" 2 d_part_of := by
  obtain ⟨f, fd, F, hm, hb⟩ := T.f_part_of
  exact fn_mk (k := 1) (own := []) F sc_part_of hm hb rfl rfl fun cdv A outer s H E gd hr =>
      (ss_cons (ss_for (own := []) gd (si_seq (se_var 1)) (sg_name 2 gd.nd) (ss_one (ss_set (own := []) (i := 0) gd (se_ixD (u65 hr) (se_ixD (u65 hr) (se_call g_ways_of (hr.mono (by decide)) gd.tk (sa_cons (se_var 0) sa_nil)) (se_var 2)) se_int))))
      (ss_one (ss_ret (own := []) (se_var 0))))
theorem s_Play_init (T : Top K mg cl.c tc C) (g_look_game : ∀ F, Fn P w K mg base (cl.at F) 12 "look_game" 1 d_look_game) : FnI P w K mg base cl C 13 "Play" d_look_game := by
  obtain ⟨f, fd, F, hm, hb⟩ := T.f_Play_init
  exact fnI_mk (k := 12) F sc_Play_init hb hm T.mP fun cdv A outer s H E gd hr => si_block T.pc (FnA.of g_look_game) (hr.mono (by decide)) gd.tk
theorem s_Play_do (T : Top K mg cl.c tc C)  : FnM P w K mg base cl C 1 "do" 3 e_Play_do := by
  obtain ⟨f, fd, F, hm, hb⟩ := T.f_Play_do
  exact fnM_mk (k := 0) (own := []) F sc_Play_do hm hb rfl rfl fun cdv A outer s H E gd hr =>
      (es_cons (es_push (own := []) 0 true T.pc (fun F => (se_var 1)))
      (es_cons (es_setNil (own := []) 0 false T.pc)
      (es_one (es_setNow (own := []) 0 T.pc (ee_pure fun F => (se_var 2))))))
theorem s_Play_bet (T : Top K mg cl.c tc C) (g_is_whole : ∀ F, Fn P w K mg base (cl.at F) 1 "is_whole" 3 d_is_whole) (g_Play_do : FnM P w K mg base cl C 1 "do" 3 e_Play_do) : FnM P w K mg base cl C 2 "bet" 2 e_Play_bet := by
  obtain ⟨f, fd, F, hm, hb⟩ := T.f_Play_bet
  obtain ⟨t_MOST_BET, c_MOST_BET⟩ := T.c_MOST_BET
  obtain ⟨t_MOST_BET, c_MOST_BET⟩ := T.c_MOST_BET
  exact fnM_mk (k := 1) (own := []) F sc_Play_bet hm hb rfl rfl fun cdv A outer s H E gd hr =>
      (es_cons (es_pure (own := []) (own1 := []) fun F => (ss_if (own := []) (own1 := []) (st_not (st_truth (se_call (g_is_whole F) (hr.mono (by decide)) gd.tk (sa_cons (se_var 1) (sa_cons (se_op os_sub se_int (se_globI rfl c_MOST_BET)) (sa_cons (se_globI rfl c_MOST_BET) sa_nil)))))) (ss_one (ss_raise (own := []) (c := 4) gd T.x_NoBets)) ss_nil))
      (es_cons (es_asg (own := []) (ee_now 0 T.pc) (fun F => (sg_tup gd.calm (sgs_cons (sg_name 2 gd.nd) (sgs_cons (sg_name 3 gd.nd) (sgs_cons (sg_name 4 gd.nd) sgs_nil))))))
      (es_cons (es_expr (own := []) (ee_meth T.pc.cls g_Play_do (hr.mono (by decide)) gd.tk (ee_pure fun F => (se_var 0)) (ae_cons (ee_pure fun F => (se_tup (sa_cons se_str (sa_cons (se_var 1) sa_nil)))) (ae_cons (ee_pure fun F => (se_tup (sa_cons (se_var 2) (sa_cons (se_var 1) (sa_cons (se_var 4) sa_nil))))) ae_nil))))
      (es_one (es_pure (own := []) fun F => (ss_ret (own := []) (se_var 3)))))))
theorem s_Play_go (T : Top K mg cl.c tc C) (g_part_of : ∀ F, Fn P w K mg base (cl.at F) 2 "part_of" 2 d_part_of) (g_ways_of : ∀ F, Fn P w K mg base (cl.at F) 1 "ways_of" 1 d_ways_of) (g_is_whole : ∀ F, Fn P w K mg base (cl.at F) 1 "is_whole" 3 d_is_whole) (g_Play_do : FnM P w K mg base cl C 1 "do" 3 e_Play_do) : FnM P w K mg base cl C 3 "go" 2 e_Play_go := by
  obtain ⟨f, fd, F, hm, hb⟩ := T.f_Play_go
  exact fnM_mk (k := 2) (own := []) F sc_Play_go hm hb rfl rfl fun cdv A outer s H E gd hr =>
      (es_cons (es_asg (own := []) (ee_now 0 T.pc) (fun F => (sg_tup gd.calm (sgs_cons (sg_name 2 gd.nd) (sgs_cons (sg_name 3 gd.nd) (sgs_cons (sg_name 4 gd.nd) sgs_nil))))))
      (es_cons (es_set (own := []) (i := 5) gd (ee_callA (FnA.of g_part_of) (hr.mono (by decide)) gd.tk (ae_cons (ee_own 0 T.pc) (ae_cons (ee_pure fun F => (se_var 2)) ae_nil))))
      (es_cons (es_pure (own := []) (own1 := []) fun F => (ss_if (own := []) (own1 := []) (st_not (st_truth (se_call (g_is_whole F) (hr.mono (by decide)) gd.tk (sa_cons (se_var 1) (sa_cons se_int (sa_cons (se_op os_sub (se_callB cs_len (by decide +kernel) (sa_cons (se_call (g_ways_of F) (hr.mono (by decide)) gd.tk (sa_cons (se_var 5) sa_nil)) sa_nil) T.m_len) se_int) sa_nil)))))) (ss_one (ss_raise (own := []) (c := 2) gd T.x_NoPath)) ss_nil))
      (es_cons (es_pure (own := []) (own1 := []) fun F => (ss_set (own := []) (i := 6) gd (se_op os_times (se_var 3) (se_op os_sub (se_ixD (u65 hr) (se_ixD (u65 hr) (se_ixD (u65 hr) (se_call (g_ways_of F) (hr.mono (by decide)) gd.tk (sa_cons (se_var 5) sa_nil)) (se_var 1)) se_int) se_int) (se_ixD (u65 hr) (se_var 5) se_int)))))
      (es_cons (es_expr (own := []) (ee_meth T.pc.cls g_Play_do (hr.mono (by decide)) gd.tk (ee_pure fun F => (se_var 0)) (ae_cons (ee_pure fun F => (se_tup (sa_cons se_str (sa_cons (se_var 1) sa_nil)))) (ae_cons (ee_pure fun F => (se_tup (sa_cons (se_op os_plus (se_var 2) (se_tup (sa_cons (se_var 1) sa_nil))) (sa_cons (se_var 3) (sa_cons (se_op os_plus (se_var 4) (se_var 6)) sa_nil))))) ae_nil))))
      (es_one (es_pure (own := []) fun F => (ss_ret (own := []) (se_var 6)))))))))
theorem s_Play_path (T : Top K mg cl.c tc C)  : FnM P w K mg base cl C 1 "path" 1 e_Play_path := by
  obtain ⟨f, fd, F, hm, hb⟩ := T.f_Play_path
  exact fnM_mk (k := 0) (own := []) F sc_Play_path hm hb rfl rfl fun cdv A outer s H E gd hr =>
      (es_one (es_ret (own := []) (ee_ix (ee_now 0 T.pc) (ee_pure fun F => se_int))))
theorem s_Play_purse (T : Top K mg cl.c tc C)  : FnM P w K mg base cl C 1 "purse" 1 e_Play_purse := by
  obtain ⟨f, fd, F, hm, hb⟩ := T.f_Play_purse
  exact fnM_mk (k := 0) (own := []) F sc_Play_purse hm hb rfl rfl fun cdv A outer s H E gd hr =>
      (es_one (es_ret (own := []) (ee_ix (ee_now 0 T.pc) (ee_pure fun F => se_int))))
theorem s_Play_steps (T : Top K mg cl.c tc C)  : FnM P w K mg base cl C 1 "steps" 1 e_Play_steps := by
  obtain ⟨f, fd, F, hm, hb⟩ := T.f_Play_steps
  exact fnM_mk (k := 0) (own := []) F sc_Play_steps hm hb rfl rfl fun cdv A outer s H E gd hr =>
      (es_one (es_ret (own := []) (ee_lcH 0 true T.pc gd (blkOk_by (own := [("step", 1), ("was", 2)]) (N := N_Play_steps) (sc := defScope (inClass (topS 23) 9)) (by decide +kernel)) (fun F _ _ _ _ _ => (sg_tup gd.calm (sgs_cons (sg_name 1 gd.nd) (sgs_cons (sg_name 2 gd.nd) sgs_nil)))) (fun F _ _ _ _ _ => sts_nil) (fun F _ _ _ _ _ => (se_var 1)))))
theorem s_Play_back (T : Top K mg cl.c tc C)  : FnM P w K mg base cl C 1 "back" 1 e_Play_back := by
  obtain ⟨f, fd, F, hm, hb⟩ := T.f_Play_back
  exact fnM_mk (k := 0) (own := []) F sc_Play_back hm hb rfl rfl fun cdv A outer s H E gd hr =>
      (es_cons (es_if (own := []) (own1 := []) (te_emp 0 true T.pc (fun F => (os_eq hr.units))) (es_one (es_pure (own := []) fun F => (ss_raise (own := []) (c := 7) gd T.x_NoBack))) es_nil)
      (es_cons (es_pop (own := []) 0 true T.pc (fun F => (sg_tup gd.calm (sgs_cons (sg_name 1 gd.nd) (sgs_cons (sg_name 2 gd.nd) sgs_nil)))))
      (es_cons (es_push (own := []) 0 false T.pc (fun F => (se_var 1)))
      (es_cons (es_setNow (own := []) 0 T.pc (ee_pure fun F => (se_var 2)))
      (es_one (es_pure (own := []) fun F => (ss_ret (own := []) (se_ixD (u65 hr) (se_var 1) se_int))))))))
theorem s_Play_forth (T : Top K mg cl.c tc C)  : FnM P w K mg base cl C 1 "forth" 1 e_Play_forth := by
  obtain ⟨f, fd, F, hm, hb⟩ := T.f_Play_forth
  exact fnM_mk (k := 0) (own := []) F sc_Play_forth hm hb rfl rfl fun cdv A outer s H E gd hr =>
      (es_cons (es_if (own := []) (own1 := []) (te_emp 0 false T.pc (fun F => (os_eq hr.units))) (es_one (es_pure (own := []) fun F => (ss_raise (own := []) (c := 7) gd T.x_NoBack))) es_nil)
      (es_cons (es_pop (own := []) 0 false T.pc (fun F => (sg_tup gd.calm (sgs_cons (sg_name 1 gd.nd) (sgs_cons (sg_name 2 gd.nd) sgs_nil)))))
      (es_cons (es_push (own := []) 0 true T.pc (fun F => (se_var 1)))
      (es_cons (es_setNow (own := []) 0 T.pc (ee_pure fun F => (se_var 2)))
      (es_one (es_pure (own := []) fun F => (ss_ret (own := []) (se_ixD (u65 hr) (se_var 1) se_int))))))))
theorem s_Play_counts (T : Top K mg cl.c tc C)  : FnM P w K mg base cl C 1 "counts" 1 e_Play_counts := by
  obtain ⟨f, fd, F, hm, hb⟩ := T.f_Play_counts
  exact fnM_mk (k := 0) (own := []) F sc_Play_counts hm hb rfl rfl fun cdv A outer s H E gd hr =>
      (es_one (es_ret (own := []) (ee_tup (ae_cons (ee_len 0 true T.pc T.m_len) (ae_cons (ee_len 0 false T.pc T.m_len) ae_nil)))))
theorem s_Play_twin (T : Top K mg cl.c tc C) (g_Play_init : FnI P w K mg base cl C 13 "Play" d_look_game) : FnM P w K mg base cl C 15 "twin" 1 e_Play_twin := by
  obtain ⟨f, fd, F, hm, hb⟩ := T.f_Play_twin
  exact fnM_mk (k := 14) (own := []) F sc_Play_twin hm hb rfl rfl fun cdv A outer s H E gd hr =>
      (es_cons (es_set (own := []) (i := 1) gd (ee_make g_Play_init (hr.mono (by decide)) gd.tk (ee_own 0 T.pc)))
      (es_cons (es_setNow (own := []) 1 T.pc (ee_now 0 T.pc))
      (es_cons (es_copy (own := []) 1 0 true T.pc T.m_list)
      (es_cons (es_copy (own := []) 1 0 false T.pc T.m_list)
      (es_one (es_pure (own := []) fun F => (ss_ret (own := []) (se_var 1))))))))
theorem s__law_cell (T : Top K mg cl.c tc C)  : Fn P w K mg base cl 1 "_law_cell" 2 d__law_cell := by
  obtain ⟨f, fd, F, hm, hb⟩ := T.f__law_cell
  exact fn_mk (k := 0) (own := []) F sc__law_cell hm hb rfl rfl fun cdv A outer s H E gd hr =>
      (ss_cons (ss_if (own := []) (own1 := []) (st_cmp os_lt (se_var 1) (se_callB cs_len (by decide +kernel) (sa_cons (se_var 0) sa_nil) T.m_len)) (ss_one (ss_ret (own := []) (se_ixD (u65 hr) (se_var 0) (se_var 1)))) ss_nil)
      (ss_cons (ss_if (own := []) (own1 := []) (st_cmp (os_eq hr.units) (se_var 0) (se_lst sa_nil)) (ss_one (ss_ret (own := []) se_int)) ss_nil)
      (ss_one (ss_ret (own := []) (se_op os_plus (se_op os_times (se_ixD (u65 hr) (se_var 0) (se_op os_mod (se_var 1) (se_callB cs_len (by decide +kernel) (sa_cons (se_var 0) sa_nil) T.m_len))) se_int) (se_var 1))))))
theorem s__law_pick (T : Top K mg cl.c tc C) (g__law_cell : Fn P w K mg base cl 1 "_law_cell" 2 d__law_cell) : Fn P w K mg base cl 2 "_law_pick" 3 d__law_pick := by
  obtain ⟨f, fd, F, hm, hb⟩ := T.f__law_pick
  exact fn_mk (k := 1) (own := []) F sc__law_pick hm hb rfl rfl fun cdv A outer s H E gd hr =>
      (ss_cons (ss_set (own := []) (i := 3) gd (se_op os_mod (se_op os_times (se_op os_plus (se_call g__law_cell (hr.mono (by decide)) gd.tk (sa_cons (se_var 0) (sa_cons (se_var 1) sa_nil))) (se_op os_times se_int (se_op os_plus (se_var 1) se_int))) se_int) se_int))
      (ss_one (ss_ret (own := []) (se_op os_mod (se_op os_mod (se_op os_plus (se_op os_times (se_var 3) (se_var 3)) (se_op os_div (se_var 3) se_int)) se_int) (se_var 2)))))
theorem s__law_game (T : Top K mg cl.c tc C) (g__law_pick : Fn P w K mg base cl 2 "_law_pick" 3 (dPick pk)) : ∀ n : Nat, Fn P w K mg base cl (3 + n) "_law_game" 5 (d__law_game pk n) := by
  intro n
  induction n with
  | zero =>
    skip
    obtain ⟨f, fd, F, hm, hb⟩ := T.f__law_game
    exact Fn.none F hm hb rfl
  | succ n ih =>
    have G__law_game := ih
    skip
    · obtain ⟨f, fd, F, hm, hb⟩ := T.f__law_game
      exact fn_mk (k := 3 + n) (own := []) F sc__law_game hm hb rfl rfl fun cdv A outer s H E gd hr =>
        (ss_cons (ss_set (own := []) (i := 5) gd (se_op os_times se_int (se_var 1)))
      (ss_cons (ss_set (own := []) (i := 6) gd (se_ixD (u65 hr) (se_lst (sa_cons se_int (sa_cons se_int (sa_cons se_int (sa_cons se_int (sa_cons se_int sa_nil)))))) (se_call g__law_pick (hr.mono (by omega)) gd.tk (sa_cons (se_var 0) (sa_cons (se_var 5) (sa_cons se_int sa_nil))))))
      (ss_cons (ss_if (own := []) (own1 := []) (st_cmp (os_eq hr.units) (se_var 1) se_int) (ss_one (ss_set (own := []) (i := 6) gd (se_callB (cs_max2 gd.calm) (by decide +kernel) (sa_cons se_int (sa_cons (se_var 6) sa_nil)) T.m_max))) ss_nil)
      (ss_cons (ss_if (own := []) (own1 := []) (SW.st (sw_or (st_cmp (os_eq hr.units) (se_var 3) se_int) (sw_one (st_cmp (os_eq hr.units) (se_var 6) se_int)))) (ss_one (ss_ret (own := []) (se_tup (sa_cons (se_var 2) sa_nil)))) ss_nil)
      (ss_cons (ss_setN (own := []) (i := 7) gd (sn_lst sa_nil))
      (ss_cons (ss_if (own := [7]) (own1 := []) (st_truth (se_var 4)) (ss_cons (ss_par (own := [7]) (i := 12) (j := 13) gd (sa_cons (se_op os_plus se_int (se_call g__law_pick (hr.mono (by omega)) gd.tk (sa_cons (se_var 0) (sa_cons (se_op os_plus (se_var 5) se_int) (sa_cons se_int sa_nil))))) (sa_cons (se_op os_plus se_int (se_call g__law_pick (hr.mono (by omega)) gd.tk (sa_cons (se_var 0) (sa_cons (se_op os_plus (se_var 5) se_int) (sa_cons se_int sa_nil))))) sa_nil)))
      (ss_cons (ss_setN (own := [7]) (i := 7) gd (sn_lst (sa_cons (se_tup (sa_cons (se_var 13) (sa_cons (se_var 12) sa_nil))) (sa_cons (se_tup (sa_cons (se_var 12) (sa_cons (se_op os_sub se_int (se_var 13)) sa_nil))) (sa_cons (se_tup (sa_cons (se_op os_plus se_int (se_call g__law_pick (hr.mono (by omega)) gd.tk (sa_cons (se_var 0) (sa_cons (se_op os_plus (se_var 5) se_int) (sa_cons se_int sa_nil))))) (sa_cons se_int sa_nil))) sa_nil)))))
      (ss_one (SS.pre (own := [7]) (ss_set (own := []) (i := 7) gd (se_if (st_cmp (os_eq hr.units) (se_var 6) se_int) (se_slice (se_var 7) (so_some se_int) so_none) (se_slice (se_var 7) so_none (so_some (se_var 6))))))))) (SSs.post (own2 := []) (ss_one (ss_for (own := [7]) gd (si_range1 (sa_cons (se_var 6) sa_nil) T.m_range) (sg_name 9 gd.nd) (ss_one (ss_app (own := [7]) (i := 7) (se_tup (sa_cons (se_op os_plus se_int (se_call g__law_pick (hr.mono (by omega)) gd.tk (sa_cons (se_var 0) (sa_cons (se_op os_plus (se_op os_plus (se_var 5) se_int) (se_var 9)) (sa_cons se_int sa_nil))))) (sa_cons (se_op os_sub (se_call g__law_pick (hr.mono (by omega)) gd.tk (sa_cons (se_var 0) (sa_cons (se_op os_plus (se_op os_plus (se_var 5) se_int) (se_var 9)) (sa_cons se_int sa_nil)))) se_int) sa_nil)))))))))
      (ss_cons (ss_if (own := []) (own1 := []) (st_cmp (os_eq hr.units) (se_call g__law_pick (hr.mono (by omega)) gd.tk (sa_cons (se_var 0) (sa_cons (se_op os_plus (se_var 5) se_int) (sa_cons se_int sa_nil)))) se_int) (ss_one (ss_set (own := []) (i := 7) gd (se_revA (se_var 7)))) ss_nil)
      (ss_cons (ss_setN (own := []) (i := 8) gd (sn_lst sa_nil))
      (ss_cons (ss_for (own := [8]) gd (si_enum (sa_cons (se_var 7) sa_nil) T.m_enumerate) (sg_tup gd.calm (sgs_cons (sg_name 9 gd.nd) (sgs_cons (sg_tup gd.calm (sgs_cons (sg_name 10 gd.nd) (sgs_cons (sg_name 11 gd.nd) sgs_nil))) sgs_nil))) (ss_one (ss_app (own := [8]) (i := 8) (se_tup (sa_cons (se_var 10) (sa_cons (se_call G__law_game (hr.mono (by omega)) gd.tk (sa_cons (se_var 0) (sa_cons (se_op os_plus (se_op os_plus (se_op os_times se_int (se_var 1)) se_int) (se_var 9)) (sa_cons (se_op os_plus (se_var 2) (se_var 11)) (sa_cons (se_op os_sub (se_var 3) se_int) (sa_cons (se_var 4) sa_nil)))))) sa_nil))))))
      (ss_one (ss_ret (own := [8]) (se_tup (sa_cons (se_var 2) (sa_cons (se_callTy cs_tuple (by decide +kernel) (sa_cons (se_var 8) sa_nil) T.m_tuple) sa_nil))))))))))))))
theorem s__law_drawn (T : Top K mg cl.c tc C) (g__law_pick : Fn P w K mg base cl 2 "_law_pick" 3 (dPick pk)) (g__law_game : Fn P w K mg base cl 11 "_law_game" 5 (d__law_game pk 8)) : Fn P w K mg base cl 12 "_law_drawn" 2 (d__law_drawn pk) := by
  obtain ⟨f, fd, F, hm, hb⟩ := T.f__law_drawn
  exact fn_mk (k := 11) (own := []) F sc__law_drawn hm hb rfl rfl fun cdv A outer s H E gd hr =>
      (ss_one (ss_ret (own := []) (se_call g__law_game (hr.mono (by decide)) gd.tk (sa_cons (se_var 0) (sa_cons se_int (sa_cons (se_op os_sub (se_call g__law_pick (hr.mono (by decide)) gd.tk (sa_cons (se_var 0) (sa_cons se_int (sa_cons se_int sa_nil)))) se_int) (sa_cons (se_var 1) (sa_cons (se_cmp (os_eq hr.units) (se_call g__law_pick (hr.mono (by decide)) gd.tk (sa_cons (se_var 0) (sa_cons se_int (sa_cons se_int sa_nil)))) se_int) sa_nil))))))))
theorem s__law_class (T : Top K mg cl.c tc C)  : FnN P w K mg base cl 1 "_law_class" 1 d__law_class := by
  obtain ⟨f, fd, F, hm, hb⟩ := T.f__law_class
  exact fnN_mk (k := 0) (own := []) F sc__law_class hm hb rfl rfl fun cdv A outer s H E hr =>
      (ss_cons (ss_setH (own := []) (i := 1) sc__law_class.nd (se_lst (sa_cons (se_isiC T.xt T.k_NoBack T.x_NoBack.g (se_var 0) T.m_isinstance) (sa_cons (se_isiC T.xt T.k_NoBets T.x_NoBets.g (se_var 0) T.m_isinstance) (sa_cons (se_isiC T.xt T.k_NoGame T.x_NoGame.g (se_var 0) T.m_isinstance) (sa_cons (se_isiC T.xt T.k_NoPath T.x_NoPath.g (se_var 0) T.m_isinstance) sa_nil))))))
      (ss_cons (ss_setH (own := []) (i := 1) sc__law_class.nd (se_op os_plus (se_var 1) (se_lst (sa_cons (se_isiC T.xt T.k_NoRule T.x_NoRule.g (se_var 0) T.m_isinstance) (sa_cons (se_isiC T.xt T.k_NoText T.x_NoText.g (se_var 0) T.m_isinstance) (sa_cons (se_isiC T.xt T.k_Unpaid T.x_Unpaid.g (se_var 0) T.m_isinstance) sa_nil))))))
      (ss_cons (ss_if (own := []) (own1 := []) (SW.st (sw_or (st_cmp (os_ne hr.units) (se_count hr.u65 (se_var 1) se_bl) se_int) (sw_one (st_not (st_truth (se_isiB T.xt T.kv (by decide +kernel) (se_var 0) T.m_isinstance T.m_ValueError)))))) (ss_one (ss_ret (own := []) se_str)) ss_nil)
      (ss_one (ss_ret (own := []) (se_ixD hr.u65 (se_lst (sa_cons se_str (sa_cons se_str (sa_cons se_str (sa_cons se_str (sa_cons se_str (sa_cons se_str (sa_cons se_str sa_nil)))))))) (se_index hr.u65 (se_var 1) se_bl)))))))
theorem s__law_told {lf : PLS → RP D} (T : Top K mg cl.c tc C) (V : FnVe P w K mg base cl C 4 lf) (g__law_class : ∀ F, FnN P w K mg base (cl.at F) 1 "_law_class" 1 d__law_class) : FnA P w K mg base cl C 5 "_law_told" 1 (e__law_told lf) := by
  obtain ⟨f, fd, F, hm, hb⟩ := T.f__law_told
  exact fnA_mk (k := 4) (own := []) F sc__law_told hm hb rfl rfl fun cdv A outer s H E gd hr =>
      (es_one (es_tryR gd rfl rfl rfl T.x_StopError.g T.xs (fun W' pn xe gd => (ee_callF0 0 V (hr.mono (by decide)) gd.tk)) (fun F a pn => (se_callN (g__law_class F) (RoomN.mark (RoomN.of (hr.mono (by decide)))) takes0 (sa_cons (se_var 1) sa_nil)))))
theorem w__law_told {lf : PLS → RP D} (T : Top K mg cl.c tc C) (V : FnVe P w K mg base cl C 4 lf) : FnA P w K mg base cl C 5 "_law_told" 1 (e__law_told lf) := by
  have g__law_class : ∀ F, FnN P w K mg base (cl.at F) 1 "_law_class" 1 d__law_class := fun F => s__law_class (cl := cl.at F) T 
  exact s__law_told T V g__law_class
theorem s__law_deed (T : Top K mg cl.c tc C) (g__law_pick : Fn P w K mg base cl 2 "_law_pick" 3 (dPick pk)) : Fn P w K mg base cl 3 "_law_deed" 3 (d__law_deed pk) := by
  obtain ⟨f, fd, F, hm, hb⟩ := T.f__law_deed
  exact fn_mk (k := 2) (own := []) F sc__law_deed hm hb rfl rfl fun cdv A outer s H E gd hr =>
      (ss_cons (ss_set (own := []) (i := 3) gd (se_call g__law_pick (hr.mono (by decide)) gd.tk (sa_cons (se_var 0) (sa_cons (se_var 1) (sa_cons se_int sa_nil)))))
      (ss_cons (ss_if (own := []) (own1 := []) (st_cmp os_lt (se_var 3) se_int) (ss_one (ss_ret (own := []) (se_tup (sa_cons se_str (sa_cons (se_op os_sub (se_call g__law_pick (hr.mono (by decide)) gd.tk (sa_cons (se_var 0) (sa_cons (se_op os_plus (se_var 1) se_int) (sa_cons se_int sa_nil)))) se_int) sa_nil))))) ss_nil)
      (ss_one (ss_ret (own := []) (se_tup (sa_cons se_str (sa_cons (se_call g__law_pick (hr.mono (by decide)) gd.tk (sa_cons (se_var 0) (sa_cons (se_op os_plus (se_var 1) se_int) (sa_cons (se_if (st_cmp (os_eq hr.units) (se_callB cs_len (by decide +kernel) (sa_cons (se_var 2) sa_nil) T.m_len) se_int) (se_op os_plus (se_callB cs_len (by decide +kernel) (sa_cons (se_ixD (u65 hr) (se_var 2) se_int) sa_nil) T.m_len) (se_callTy cs_int (by decide +kernel) (sa_cons (se_cmp (os_eq hr.units) (se_var 3) se_int) sa_nil) T.m_int)) se_int) sa_nil)))) sa_nil)))))))
theorem s__law_there (T : Top K mg cl.c tc C)  : Fn P w K mg base cl 1 "_law_there" 2 d__law_there := by
  obtain ⟨f, fd, F, hm, hb⟩ := T.f__law_there
  exact fn_mk (k := 0) (own := []) F sc__law_there hm hb rfl rfl fun cdv A outer s H E gd hr =>
      (ss_cons (ss_for (own := []) gd (si_seq (se_var 1)) (sg_name 2 gd.nd) (ss_one (ss_set (own := []) (i := 0) gd (se_ixD (u65 hr) (se_ixD (u65 hr) (se_ixD (u65 hr) (se_var 0) se_int) (se_var 2)) se_int))))
      (ss_one (ss_ret (own := []) (se_var 0))))
theorem s__law_behind (T : Top K mg cl.c tc C) (g__law_there : Fn P w K mg base cl 1 "_law_there" 2 d__law_there) : Fn P w K mg base cl 2 "_law_behind" 3 d__law_behind := by
  obtain ⟨f, fd, F, hm, hb⟩ := T.f__law_behind
  exact fn_mk (k := 1) (own := []) F sc__law_behind hm hb rfl rfl fun cdv A outer s H E gd hr =>
      (ss_cons (ss_asg (own := []) (se_var 1) (sg_tup gd.calm (sgs_cons (sg_name 3 gd.nd) (sgs_cons (sg_name 4 gd.nd) (sgs_cons (sg_name 5 gd.nd) sgs_nil)))))
      (ss_cons (ss_if (own := []) (own1 := []) (st_cmp (os_eq hr.units) (se_ixD (u65 hr) (se_var 2) se_int) se_str) (ss_one (ss_ret (own := []) (se_tup (sa_cons (se_tup (sa_cons (se_var 3) (sa_cons (se_ixD (u65 hr) (se_var 2) se_int) (sa_cons (se_var 5) sa_nil)))) (sa_cons (se_var 4) sa_nil))))) ss_nil)
      (ss_cons (ss_set (own := []) (i := 6) gd (se_call g__law_there (hr.mono (by decide)) gd.tk (sa_cons (se_var 0) (sa_cons (se_var 3) sa_nil))))
      (ss_cons (ss_if (own := []) (own1 := []) (SW.st (sw_or (st_cmp (os_eq hr.units) (se_callB cs_len (by decide +kernel) (sa_cons (se_var 6) sa_nil) T.m_len) se_int) (sw_one (st_cmp os_ge (se_ixD (u65 hr) (se_var 2) se_int) (se_callB cs_len (by decide +kernel) (sa_cons (se_ixD (u65 hr) (se_var 6) se_int) sa_nil) T.m_len))))) (ss_one (ss_ret (own := []) (se_tup (sa_cons (se_var 1) (sa_cons se_str sa_nil))))) ss_nil)
      (ss_cons (ss_set (own := []) (i := 7) gd (se_op os_times (se_var 4) (se_op os_sub (se_ixD (u65 hr) (se_ixD (u65 hr) (se_ixD (u65 hr) (se_ixD (u65 hr) (se_var 6) se_int) (se_ixD (u65 hr) (se_var 2) se_int)) se_int) se_int) (se_ixD (u65 hr) (se_var 6) se_int))))
      (ss_one (ss_ret (own := []) (se_tup (sa_cons (se_tup (sa_cons (se_op os_plus (se_var 3) (se_tup (sa_cons (se_ixD (u65 hr) (se_var 2) se_int) sa_nil))) (sa_cons (se_var 4) (sa_cons (se_op os_plus (se_var 5) (se_var 7)) sa_nil)))) (sa_cons (se_var 7) sa_nil))))))))))
theorem s__law_did (T : Top K mg cl.c tc C) (tb__law_did : TabAt base mg cl "_law_did" (tc 0)) (g_Play_bet : FnM P w K mg base cl C 2 "bet" 2 e_Play_bet) (g_Play_go : FnM P w K mg base cl C 3 "go" 2 e_Play_go) : FnA P w K mg base cl C 6 "_law_did" 2 e__law_did := by
  obtain ⟨f, fd, F, hm, hb⟩ := T.f__law_did
  obtain ⟨fA__law_told, fd__law_told, F__law_told, hm__law_told, hb__law_told⟩ := T.f__law_told
  exact fnA_mkC (k := 5) (own := []) F tb__law_did sc__law_did hm hb rfl rfl fun A outer s H E gd mk hr =>
      (es_one (es_ret (own := []) (ee_lamC (kb := 3) ["deed", "play"] [1, 0] mk hm__law_told F__law_told.kp (fun cl' Fb hc hn hT V => w__law_told (hc.symm ▸ T) V) (hr.mono (by decide)) gd.tk (fun f c' A outer s H E gd hr => (ee_if (te_pure fun F => (st_cmp (os_eq hr.units) (se_ixD (u65 hr) (se_var 0) se_int) se_str)) (ee_meth T.pc.cls g_Play_bet (hr.mono (by decide)) gd.tk (ee_pure fun F => (se_var 1)) (ae_cons (ee_pure fun F => (se_ixD (u65 hr) (se_var 0) se_int)) ae_nil)) (ee_meth T.pc.cls g_Play_go (hr.mono (by decide)) gd.tk (ee_pure fun F => (se_var 1)) (ae_cons (ee_pure fun F => (se_ixD (u65 hr) (se_var 0) se_int)) ae_nil)))) (show lamB (defScope (topS 34)) _ _ _ = true from by decide +kernel))))
set_option maxHeartbeats 0 in
theorem s_law (T : Top K mg cl.c tc C) (g__law_pick : ∀ F, Fn P w K mg base (cl.at F) 2 "_law_pick" 3 (dPick pk)) (tb__law_did : TabAt base mg cl "_law_did" (tc 0)) (tb_law : TabAt base mg cl "law" (tc 1)) {f : Addr} {fd : FuncData} (F : FunC K "law" (topS 35) f fd (tc 1)) : FnOk P w K mg base (L2.CX P w) 16 f fd ["script"] (spE K cl C 1 (e_law pk)) := by
  have g_is_whole : ∀ F, Fn P w K mg base (cl.at F) 1 "is_whole" 3 d_is_whole := fun F => s_is_whole (cl := cl.at F) T 
  have g_is_game_in : ∀ F, Fn P w K mg base (cl.at F) 10 "is_game_in" 2 (d_is_game_in 8) := fun F => s_is_game_in (cl := cl.at F) T (g_is_whole F) 8
  have g_is_game : ∀ F, Fn P w K mg base (cl.at F) 11 "is_game" 1 d_is_game := fun F => s_is_game (cl := cl.at F) T (g_is_game_in F)
  have g_look_game : ∀ F, Fn P w K mg base (cl.at F) 12 "look_game" 1 d_look_game := fun F => s_look_game (cl := cl.at F) T (g_is_game F)
  have g_ways_of : ∀ F, Fn P w K mg base (cl.at F) 1 "ways_of" 1 d_ways_of := fun F => s_ways_of (cl := cl.at F) T 
  have g_part_of : ∀ F, Fn P w K mg base (cl.at F) 2 "part_of" 2 d_part_of := fun F => s_part_of (cl := cl.at F) T (g_ways_of F)
  have g_Play_init : FnI P w K mg base cl C 13 "Play" d_look_game := s_Play_init T g_look_game
  have g_Play_do : FnM P w K mg base cl C 1 "do" 3 e_Play_do := s_Play_do T 
  have g_Play_bet : FnM P w K mg base cl C 2 "bet" 2 e_Play_bet := s_Play_bet T g_is_whole g_Play_do
  have g_Play_go : FnM P w K mg base cl C 3 "go" 2 e_Play_go := s_Play_go T g_part_of g_ways_of g_is_whole g_Play_do
  have g_Play_path : FnM P w K mg base cl C 1 "path" 1 e_Play_path := s_Play_path T 
  have g_Play_purse : FnM P w K mg base cl C 1 "purse" 1 e_Play_purse := s_Play_purse T 
  have g_Play_steps : FnM P w K mg base cl C 1 "steps" 1 e_Play_steps := s_Play_steps T 
  have g_Play_back : FnM P w K mg base cl C 1 "back" 1 e_Play_back := s_Play_back T 
  have g_Play_forth : FnM P w K mg base cl C 1 "forth" 1 e_Play_forth := s_Play_forth T 
  have g_Play_counts : FnM P w K mg base cl C 1 "counts" 1 e_Play_counts := s_Play_counts T 
  have g_Play_twin : FnM P w K mg base cl C 15 "twin" 1 e_Play_twin := s_Play_twin T g_Play_init
  have g__law_game : ∀ F, Fn P w K mg base (cl.at F) 11 "_law_game" 5 (d__law_game pk 8) := fun F => s__law_game (cl := cl.at F) T (g__law_pick F) 8
  have g__law_drawn : ∀ F, Fn P w K mg base (cl.at F) 12 "_law_drawn" 2 (d__law_drawn pk) := fun F => s__law_drawn (cl := cl.at F) T (g__law_pick F) (g__law_game F)
  have g__law_class : ∀ F, FnN P w K mg base (cl.at F) 1 "_law_class" 1 d__law_class := fun F => s__law_class (cl := cl.at F) T 
  have g__law_deed : ∀ F, Fn P w K mg base (cl.at F) 3 "_law_deed" 3 (d__law_deed pk) := fun F => s__law_deed (cl := cl.at F) T (g__law_pick F)
  have g__law_there : ∀ F, Fn P w K mg base (cl.at F) 1 "_law_there" 2 d__law_there := fun F => s__law_there (cl := cl.at F) T 
  have g__law_behind : ∀ F, Fn P w K mg base (cl.at F) 2 "_law_behind" 3 d__law_behind := fun F => s__law_behind (cl := cl.at F) T (g__law_there F)
  have g__law_did : FnA P w K mg base cl C 6 "_law_did" 2 e__law_did := s__law_did T tb__law_did g_Play_bet g_Play_go
  obtain ⟨fA__law_told, fd__law_told, F__law_told, hm__law_told, hb__law_told⟩ := T.f__law_told
  exact fnE_okC (k := 15) (own := []) F tb_law sc_law rfl rfl fun A outer s H E gd mk hr =>
      (es_cons (es_pure (own := []) (own1 := []) fun F => (ss_set (own := []) (i := 1) gd (se_call (g__law_drawn F) (hr.mono (by decide)) gd.tk (sa_cons (se_var 0) (sa_cons se_int sa_nil)))))
      (es_cons (es_par (own := []) (i := 2) (j := 3) gd (ae_cons (ee_make g_Play_init (hr.mono (by decide)) gd.tk (ee_pure fun F => (se_var 1))) (ae_cons (ee_pure fun F => (se_lst (sa_cons (se_tup (sa_cons (se_tup sa_nil) (sa_cons se_int (sa_cons se_int sa_nil)))) (sa_cons (se_tup (sa_cons (se_tup sa_nil) (sa_cons se_int (sa_cons se_int sa_nil)))) sa_nil)))) ae_nil)))
      (es_cons (es_expr (own := []) (ee_meth T.pc.cls g_Play_bet (hr.mono (by decide)) gd.tk (ee_pure fun F => (se_var 2)) (ae_cons (ee_pure fun F => se_int) ae_nil)))
      (es_cons (es_for (own := []) gd (ie_pure fun F => (si_range1 (sa_cons se_int sa_nil) T.m_range)) (fun F => (sg_name 4 gd.nd)) (es_cons (es_pure (own := []) (own1 := []) fun F => (ss_set (own := []) (i := 10) gd (se_call (g__law_deed F) (hr.mono (by decide)) gd.tk (sa_cons (se_var 0) (sa_cons (se_op os_plus se_int (se_op os_times se_int (se_var 4))) (sa_cons (se_call (g__law_there F) (hr.mono (by decide)) gd.tk (sa_cons (se_var 1) (sa_cons (se_ixD (u65 hr) (se_ixD (u65 hr) (se_var 3) (se_neg se_int)) se_int) sa_nil))) sa_nil))))))
      (es_cons (es_pure (own := []) (own1 := []) fun F => (ss_asg (own := []) (se_call (g__law_behind F) (hr.mono (by decide)) gd.tk (sa_cons (se_var 1) (sa_cons (se_ixD (u65 hr) (se_var 3) (se_neg se_int)) (sa_cons (se_var 10) sa_nil)))) (sg_tup gd.calm (sgs_cons (sg_name 11 gd.nd) (sgs_cons (sg_name 12 gd.nd) sgs_nil)))))
      (es_cons (es_expr (own := []) (ee_callA g__law_did (hr.mono (by decide)) gd.tk (ae_cons (ee_pure fun F => (se_var 2)) (ae_cons (ee_pure fun F => (se_var 10)) ae_nil))))
      (es_one (es_pure (own := []) (own1 := []) fun F => (ss_set (own := []) (i := 3) gd (se_op os_plus (se_var 3) (se_op os_times (se_lst (sa_cons (se_var 11) sa_nil)) (se_callTy cs_int (by decide +kernel) (sa_cons (se_cmp (os_ne hr.units) (se_var 12) se_str) sa_nil) T.m_int))))))))))
      (es_cons (es_pure (own := []) (own1 := []) fun F => (ss_set (own := []) (i := 5) gd (se_op os_sub (se_callB cs_len (by decide +kernel) (sa_cons (se_var 3) sa_nil) T.m_len) se_int)))
      (es_cons (es_expr (own := []) (ee_meth0 T.pc.cls g_Play_back (hr.mono (by decide)) gd.tk (ee_pure fun F => (se_var 2))))
      (es_cons (es_set (own := []) (i := 6) gd (ee_meth0 T.pc.cls g_Play_twin (hr.mono (by decide)) gd.tk (ee_pure fun F => (se_var 2))))
      (es_cons (es_if (own := []) (own1 := []) (SWe.st (we_or (te_cmp (fun F => (os_ne hr.units)) (ee_meth0 T.pc.cls g_Play_counts (hr.mono (by decide)) gd.tk (ee_pure fun F => (se_var 6))) (ee_pure fun F => (se_tup (sa_cons (se_op os_sub (se_var 5) se_int) (sa_cons se_int sa_nil))))) (we_or (te_cmp (fun F => (os_ne hr.units)) (ee_meth0 T.pc.cls g_Play_path (hr.mono (by decide)) gd.tk (ee_pure fun F => (se_var 6))) (ee_pure fun F => (se_ixD (u65 hr) (se_ixD (u65 hr) (se_var 3) (se_neg se_int)) se_int))) (we_one (te_cmp (fun F => (os_ne hr.units)) (ee_meth0 T.pc.cls g_Play_steps (hr.mono (by decide)) gd.tk (ee_pure fun F => (se_var 6))) (ee_meth0 T.pc.cls g_Play_steps (hr.mono (by decide)) gd.tk (ee_pure fun F => (se_var 2)))))))) (es_one (es_pure (own := []) fun F => (ss_ret (own := []) se_bl))) es_nil)
      (es_cons (es_pure (own := []) (own1 := []) fun F => (ss_set (own := []) (i := 7) gd (se_lst (sa_cons (se_tup (sa_cons (se_var 2) (sa_cons se_int sa_nil))) (sa_cons (se_tup (sa_cons (se_var 6) (sa_cons se_int sa_nil))) sa_nil)))))
      (es_cons (es_for (own := []) gd (ie_pure fun F => (si_seq (se_if (st_cmp (os_eq hr.units) (se_call (g__law_pick F) (hr.mono (by decide)) gd.tk (sa_cons (se_var 0) (sa_cons se_int (sa_cons se_int sa_nil)))) se_int) (se_var 7) (se_revA (se_var 7))))) (fun F => (sg_tup gd.calm (sgs_cons (sg_name 8 gd.nd) (sgs_cons (sg_name 9 gd.nd) sgs_nil)))) (es_cons (es_expr (own := []) (ee_meth0 T.pc.cls g_Play_forth (hr.mono (by decide)) gd.tk (ee_pure fun F => (se_var 8))))
      (es_cons (es_pure (own := []) (own1 := []) fun F => (ss_par (own := []) (i := 13) (j := 14) gd (sa_cons (se_ixD (u65 hr) (se_var 3) (se_neg se_int)) (sa_cons (se_var 5) sa_nil))))
      (es_cons (es_if (own := []) (own1 := []) (SWe.st (we_or (te_cmp (fun F => (os_ne hr.units)) (ee_meth0 T.pc.cls g_Play_path (hr.mono (by decide)) gd.tk (ee_pure fun F => (se_var 8))) (ee_pure fun F => (se_ixD (u65 hr) (se_var 13) se_int))) (we_one (te_cmp (fun F => (os_ne hr.units)) (ee_meth0 T.pc.cls g_Play_purse (hr.mono (by decide)) gd.tk (ee_pure fun F => (se_var 8))) (ee_pure fun F => (se_ixD (u65 hr) (se_var 13) se_int)))))) (es_one (es_pure (own := []) fun F => (ss_ret (own := []) se_bl))) es_nil)
      (es_cons (es_for (own := []) gd (ie_pure fun F => (si_range1 (sa_cons se_int sa_nil) T.m_range)) (fun F => (sg_name 4 gd.nd)) (es_cons (es_pure (own := []) (own1 := []) fun F => (ss_set (own := []) (i := 10) gd (se_call (g__law_deed F) (hr.mono (by decide)) gd.tk (sa_cons (se_var 0) (sa_cons (se_op os_plus (se_var 9) (se_op os_times se_int (se_var 4))) (sa_cons (se_call (g__law_there F) (hr.mono (by decide)) gd.tk (sa_cons (se_var 1) (sa_cons (se_ixD (u65 hr) (se_var 13) se_int) sa_nil))) sa_nil))))))
      (es_cons (es_pure (own := []) (own1 := []) fun F => (ss_asg (own := []) (se_call (g__law_behind F) (hr.mono (by decide)) gd.tk (sa_cons (se_var 1) (sa_cons (se_var 13) (sa_cons (se_var 10) sa_nil)))) (sg_tup gd.calm (sgs_cons (sg_name 13 gd.nd) (sgs_cons (sg_name 12 gd.nd) sgs_nil)))))
      (es_cons (es_if (own := []) (own1 := []) (te_cmp (fun F => (os_ne hr.units)) (ee_callA g__law_did (hr.mono (by decide)) gd.tk (ae_cons (ee_pure fun F => (se_var 8)) (ae_cons (ee_pure fun F => (se_var 10)) ae_nil))) (ee_pure fun F => (se_var 12))) (es_one (es_pure (own := []) fun F => (ss_ret (own := []) se_bl))) es_nil)
      (es_one (es_pure (own := []) (own1 := []) fun F => (ss_set (own := []) (i := 14) gd (se_op os_plus (se_var 14) (se_callTy cs_int (by decide +kernel) (sa_cons (se_cmp (os_ne hr.units) (se_var 12) se_str) sa_nil) T.m_int)))))))))
      (es_cons (es_for (own := []) gd (ie_pure fun F => (si_range1 (sa_cons (se_var 14) sa_nil) T.m_range)) (fun F => (sg_name 4 gd.nd)) (es_one (es_expr (own := []) (ee_meth0 T.pc.cls g_Play_back (hr.mono (by decide)) gd.tk (ee_pure fun F => (se_var 8))))))
      (es_cons (es_if (own := []) (own1 := []) (SWe.st (we_or (te_cmp (fun F => (os_ne hr.units)) (ee_tup (ae_cons (ee_meth0 T.pc.cls g_Play_path (hr.mono (by decide)) gd.tk (ee_pure fun F => (se_var 8))) (ae_cons (ee_meth0 T.pc.cls g_Play_purse (hr.mono (by decide)) gd.tk (ee_pure fun F => (se_var 8))) (ae_cons (ee_meth0 T.pc.cls g_Play_steps (hr.mono (by decide)) gd.tk (ee_pure fun F => (se_var 8))) ae_nil)))) (ee_pure fun F => (se_tup (sa_cons (se_tup sa_nil) (sa_cons se_int (sa_cons (se_lst sa_nil) sa_nil)))))) (we_one (te_cmp (fun F => (os_ne hr.units)) (ee_lamC (kb := 3) ["one"] [8] mk hm__law_told F__law_told.kp (fun cl' Fb hc hn hT V => w__law_told (hc.symm ▸ T) V) (hr.mono (by decide)) gd.tk (fun f c' A outer s H E gd hr => (ee_meth0 T.pc.cls g_Play_back (hr.mono (by decide)) gd.tk (ee_pure fun F => (se_var 0)))) (show lamB (defScope (topS 35)) _ _ _ = true from by decide +kernel)) (ee_pure fun F => se_str))))) (es_one (es_pure (own := []) fun F => (ss_ret (own := []) se_bl))) es_nil)
      (es_cons (es_for (own := []) gd (ie_pure fun F => (si_range1 (sa_cons (se_var 14) sa_nil) T.m_range)) (fun F => (sg_name 4 gd.nd)) (es_one (es_expr (own := []) (ee_meth0 T.pc.cls g_Play_forth (hr.mono (by decide)) gd.tk (ee_pure fun F => (se_var 8))))))
      (es_one (es_if (own := []) (own1 := []) (SWe.st (we_or (te_cmp (fun F => (os_ne hr.units)) (ee_tup (ae_cons (ee_meth0 T.pc.cls g_Play_path (hr.mono (by decide)) gd.tk (ee_pure fun F => (se_var 8))) (ae_cons (ee_meth0 T.pc.cls g_Play_purse (hr.mono (by decide)) gd.tk (ee_pure fun F => (se_var 8))) ae_nil))) (ee_pure fun F => (se_tup (sa_cons (se_ixD (u65 hr) (se_var 13) se_int) (sa_cons (se_ixD (u65 hr) (se_var 13) se_int) sa_nil))))) (we_one (te_cmp (fun F => (os_ne hr.units)) (ee_meth0 T.pc.cls g_Play_counts (hr.mono (by decide)) gd.tk (ee_pure fun F => (se_var 8))) (ee_pure fun F => (se_tup (sa_cons (se_var 14) (sa_cons se_int sa_nil)))))))) (es_one (es_pure (own := []) fun F => (ss_ret (own := []) se_bl))) es_nil))))))))))
      (es_one (es_pure (own := []) fun F => (ss_ret (own := []) se_bl)))))))))))))
end
end Kx
namespace Kx
open PySem PySem.Spec L2 Sm
set_option maxHeartbeats 0 in
theorem all_mk {l : PySem.W.OpenLaw} {w : World} {K : PySem.W.Frag} {h : Heap} {mg : Str → Option Value} {fa : Addr} {q : Program} (X : K.In h) (G : h.Ns mainGlobals mg) (hfa : mg "law" = some (.ref fa)) (tabs : AllTabs q mg h)
    {f1 : Addr} {od1 an1 : Option Addr} {sl1 : Array (Option Value)} {oc1 kV1 dc1 pm1 ct1 : Value} {cd1 : Value}
    {f2 : Addr} {od2 an2 : Option Addr} {sl2 : Array (Option Value)} {oc2 kV2 dc2 pm2 ct2 : Value} {cd2 : Value}
    {f3 : Addr} {od3 an3 : Option Addr} {sl3 : Array (Option Value)} {oc3 kV3 dc3 pm3 ct3 : Value} {cd3 : Value}
    {f4 : Addr} {od4 an4 : Option Addr} {sl4 : Array (Option Value)} {oc4 kV4 dc4 pm4 ct4 : Value} {cd4 : Value}
    {f5 : Addr} {od5 an5 : Option Addr} {sl5 : Array (Option Value)} {oc5 kV5 dc5 pm5 ct5 : Value} {cd5 : Value}
    {f6 : Addr} {od6 an6 : Option Addr} {sl6 : Array (Option Value)} {oc6 kV6 dc6 pm6 ct6 : Value} {cd6 : Value}
    {CP : Addr}
    {f7 : Addr} {od7 an7 : Option Addr} {sl7 : Array (Option Value)} {oc7 kV7 dc7 pm7 ct7 : Value} {cd7 : Value}
    {f8 : Addr} {od8 an8 : Option Addr} {sl8 : Array (Option Value)} {oc8 kV8 dc8 pm8 ct8 : Value} {cd8 : Value}
    {f9 : Addr} {od9 an9 : Option Addr} {sl9 : Array (Option Value)} {oc9 kV9 dc9 pm9 ct9 : Value} {cd9 : Value}
    {f10 : Addr} {od10 an10 : Option Addr} {sl10 : Array (Option Value)} {oc10 kV10 dc10 pm10 ct10 : Value} {cd10 : Value}
    {f11 : Addr} {od11 an11 : Option Addr} {sl11 : Array (Option Value)} {oc11 kV11 dc11 pm11 ct11 : Value} {cd11 : Value}
    {f12 : Addr} {od12 an12 : Option Addr} {sl12 : Array (Option Value)} {oc12 kV12 dc12 pm12 ct12 : Value} {cd12 : Value}
    {f13 : Addr} {od13 an13 : Option Addr} {sl13 : Array (Option Value)} {oc13 kV13 dc13 pm13 ct13 : Value} {cd13 : Value}
    {f14 : Addr} {od14 an14 : Option Addr} {sl14 : Array (Option Value)} {oc14 kV14 dc14 pm14 ct14 : Value} {cd14 : Value}
    {f15 : Addr} {od15 an15 : Option Addr} {sl15 : Array (Option Value)} {oc15 kV15 dc15 pm15 ct15 : Value} {cd15 : Value}
    {f16 : Addr} {od16 an16 : Option Addr} {sl16 : Array (Option Value)} {oc16 kV16 dc16 pm16 ct16 : Value} {cd16 : Value}
    {f17 : Addr} {od17 an17 : Option Addr} {sl17 : Array (Option Value)} {oc17 kV17 dc17 pm17 ct17 : Value} {cd17 : Value}
    {f18 : Addr} {od18 an18 : Option Addr} {sl18 : Array (Option Value)} {oc18 kV18 dc18 pm18 ct18 : Value} {cd18 : Value}
    {f19 : Addr} {od19 an19 : Option Addr} {sl19 : Array (Option Value)} {oc19 kV19 dc19 pm19 ct19 : Value} {cd19 : Value}
    {f20 : Addr} {od20 an20 : Option Addr} {sl20 : Array (Option Value)} {oc20 kV20 dc20 pm20 ct20 : Value} {cd20 : Value}
    {f21 : Addr} {od21 an21 : Option Addr} {sl21 : Array (Option Value)} {oc21 kV21 dc21 pm21 ct21 : Value} {cd21 : Value}
    {f22 : Addr} {od22 an22 : Option Addr} {sl22 : Array (Option Value)} {oc22 kV22 dc22 pm22 ct22 : Value} {cd22 : Value}
    {f23 : Addr} {od23 an23 : Option Addr} {sl23 : Array (Option Value)} {oc23 kV23 dc23 pm23 ct23 : Value} {cd23 : Value}
    {f24 : Addr} {od24 an24 : Option Addr} {sl24 : Array (Option Value)} {oc24 kV24 dc24 pm24 ct24 : Value} {cd24 : Value}
    {f25 : Addr} {od25 an25 : Option Addr} {sl25 : Array (Option Value)} {oc25 kV25 dc25 pm25 ct25 : Value} {cd25 : Value}
    {f26 : Addr} {od26 an26 : Option Addr} {sl26 : Array (Option Value)} {oc26 kV26 dc26 pm26 ct26 : Value} {cd26 : Value}
    {f27 : Addr} {od27 an27 : Option Addr} {sl27 : Array (Option Value)} {oc27 kV27 dc27 pm27 ct27 : Value} {cd27 : Addr}
    {PT0 : Addr} {ue0 : Value} {ud0 : Option Addr} {uv0 : Array Value} {us0 : Array (Option Value)}
    {f28 : Addr} {od28 an28 : Option Addr} {sl28 : Array (Option Value)} {oc28 kV28 dc28 pm28 ct28 : Value} {cd28 : Addr}
    {PT1 : Addr} {ue1 : Value} {ud1 : Option Addr} {uv1 : Array Value} {us1 : Array (Option Value)}
    {t0 : Tok}
    {t1 : Tok}
    {t2 : Tok}
    {t3 : Tok}
    {t4 : Tok}
    {C0 : Addr}
    {C1 : Addr}
    {C2 : Addr}
    {C3 : Addr}
    {C4 : Addr}
    {C5 : Addr}
    {C6 : Addr}
    {C7 : Addr}
    (a1 : PySem.W.nsIn K mainGlobals "is_whole" = some (some (.ref f1))) (l1 : K.lookup f1 = some ⟨oc1, od1, .func (PySem.W.fnOf "is_whole" "is_whole" (defArgs (topS 15)) (defBody (topS 15)) (defScope (topS 15)) .none kV1 dc1 pm1 an1 cd1 ct1), sl1⟩) (e1 : PySem.W.codeIn K cd1 "is_whole" = true) (k1 : PySem.W.keepIn K (.ref f1) = true)
    (a2 : PySem.W.nsIn K mainGlobals "is_game_in" = some (some (.ref f2))) (l2 : K.lookup f2 = some ⟨oc2, od2, .func (PySem.W.fnOf "is_game_in" "is_game_in" (defArgs (topS 16)) (defBody (topS 16)) (defScope (topS 16)) .none kV2 dc2 pm2 an2 cd2 ct2), sl2⟩) (e2 : PySem.W.codeIn K cd2 "is_game_in" = true) (k2 : PySem.W.keepIn K (.ref f2) = true)
    (a3 : PySem.W.nsIn K mainGlobals "is_game" = some (some (.ref f3))) (l3 : K.lookup f3 = some ⟨oc3, od3, .func (PySem.W.fnOf "is_game" "is_game" (defArgs (topS 17)) (defBody (topS 17)) (defScope (topS 17)) .none kV3 dc3 pm3 an3 cd3 ct3), sl3⟩) (e3 : PySem.W.codeIn K cd3 "is_game" = true) (k3 : PySem.W.keepIn K (.ref f3) = true)
    (a4 : PySem.W.nsIn K mainGlobals "look_game" = some (some (.ref f4))) (l4 : K.lookup f4 = some ⟨oc4, od4, .func (PySem.W.fnOf "look_game" "look_game" (defArgs (topS 18)) (defBody (topS 18)) (defScope (topS 18)) .none kV4 dc4 pm4 an4 cd4 ct4), sl4⟩) (e4 : PySem.W.codeIn K cd4 "look_game" = true) (k4 : PySem.W.keepIn K (.ref f4) = true)
    (a5 : PySem.W.nsIn K mainGlobals "ways_of" = some (some (.ref f5))) (l5 : K.lookup f5 = some ⟨oc5, od5, .func (PySem.W.fnOf "ways_of" "ways_of" (defArgs (topS 19)) (defBody (topS 19)) (defScope (topS 19)) .none kV5 dc5 pm5 an5 cd5 ct5), sl5⟩) (e5 : PySem.W.codeIn K cd5 "ways_of" = true) (k5 : PySem.W.keepIn K (.ref f5) = true)
    (a6 : PySem.W.nsIn K mainGlobals "part_of" = some (some (.ref f6))) (l6 : K.lookup f6 = some ⟨oc6, od6, .func (PySem.W.fnOf "part_of" "part_of" (defArgs (topS 20)) (defBody (topS 20)) (defScope (topS 20)) .none kV6 dc6 pm6 an6 cd6 ct6), sl6⟩) (e6 : PySem.W.codeIn K cd6 "part_of" = true) (k6 : PySem.W.keepIn K (.ref f6) = true)
    (pA : PySem.W.nsIn K mainGlobals "Play" = some (some (.ref CP))) (pg : PySem.W.plainGet K CP Str.empty = true) (phd : PySem.W.hasDictIn K CP = true) (ppo : PySem.W.plainOver K CP = true) (psa : PySem.W.findIn K (.ref CP) "__setattr__" = some (some (.builtin "object.__setattr__"))) (pmk : PySem.W.makesIn K CP = true) (pkc : PySem.W.keepIn K (.ref CP) = true) (pn0 : PySem.W.findIn K (.ref CP) "own" = some none) (pn1 : PySem.W.findIn K (.ref CP) "now" = some none) (pn2 : PySem.W.findIn K (.ref CP) "past" = some none) (pn3 : PySem.W.findIn K (.ref CP) "later" = some none)
    (a7 : PySem.W.findIn K (.ref CP) "__init__" = some (some (.ref f7))) (i7 : PySem.W.isFn K (.ref f7) = true) (l7 : K.lookup f7 = some ⟨oc7, od7, .func (PySem.W.fnOf "__init__" "Play.__init__" (defArgs (inClass (topS 23) 0)) (defBody (inClass (topS 23) 0)) (defScope (inClass (topS 23) 0)) .none kV7 dc7 pm7 an7 cd7 ct7), sl7⟩) (e7 : PySem.W.codeIn K cd7 "Play.__init__" = true) (k7 : PySem.W.keepIn K (.ref f7) = true)
    (a8 : PySem.W.findIn K (.ref CP) "do" = some (some (.ref f8))) (i8 : PySem.W.isFn K (.ref f8) = true) (l8 : K.lookup f8 = some ⟨oc8, od8, .func (PySem.W.fnOf "do" "Play.do" (defArgs (inClass (topS 23) 1)) (defBody (inClass (topS 23) 1)) (defScope (inClass (topS 23) 1)) .none kV8 dc8 pm8 an8 cd8 ct8), sl8⟩) (e8 : PySem.W.codeIn K cd8 "Play.do" = true) (k8 : PySem.W.keepIn K (.ref f8) = true)
    (a9 : PySem.W.findIn K (.ref CP) "bet" = some (some (.ref f9))) (i9 : PySem.W.isFn K (.ref f9) = true) (l9 : K.lookup f9 = some ⟨oc9, od9, .func (PySem.W.fnOf "bet" "Play.bet" (defArgs (inClass (topS 23) 2)) (defBody (inClass (topS 23) 2)) (defScope (inClass (topS 23) 2)) .none kV9 dc9 pm9 an9 cd9 ct9), sl9⟩) (e9 : PySem.W.codeIn K cd9 "Play.bet" = true) (k9 : PySem.W.keepIn K (.ref f9) = true)
    (a10 : PySem.W.findIn K (.ref CP) "go" = some (some (.ref f10))) (i10 : PySem.W.isFn K (.ref f10) = true) (l10 : K.lookup f10 = some ⟨oc10, od10, .func (PySem.W.fnOf "go" "Play.go" (defArgs (inClass (topS 23) 3)) (defBody (inClass (topS 23) 3)) (defScope (inClass (topS 23) 3)) .none kV10 dc10 pm10 an10 cd10 ct10), sl10⟩) (e10 : PySem.W.codeIn K cd10 "Play.go" = true) (k10 : PySem.W.keepIn K (.ref f10) = true)
    (a11 : PySem.W.findIn K (.ref CP) "path" = some (some (.ref f11))) (i11 : PySem.W.isFn K (.ref f11) = true) (l11 : K.lookup f11 = some ⟨oc11, od11, .func (PySem.W.fnOf "path" "Play.path" (defArgs (inClass (topS 23) 4)) (defBody (inClass (topS 23) 4)) (defScope (inClass (topS 23) 4)) .none kV11 dc11 pm11 an11 cd11 ct11), sl11⟩) (e11 : PySem.W.codeIn K cd11 "Play.path" = true) (k11 : PySem.W.keepIn K (.ref f11) = true)
    (a12 : PySem.W.findIn K (.ref CP) "purse" = some (some (.ref f12))) (i12 : PySem.W.isFn K (.ref f12) = true) (l12 : K.lookup f12 = some ⟨oc12, od12, .func (PySem.W.fnOf "purse" "Play.purse" (defArgs (inClass (topS 23) 5)) (defBody (inClass (topS 23) 5)) (defScope (inClass (topS 23) 5)) .none kV12 dc12 pm12 an12 cd12 ct12), sl12⟩) (e12 : PySem.W.codeIn K cd12 "Play.purse" = true) (k12 : PySem.W.keepIn K (.ref f12) = true)
    (a13 : PySem.W.findIn K (.ref CP) "steps" = some (some (.ref f13))) (i13 : PySem.W.isFn K (.ref f13) = true) (l13 : K.lookup f13 = some ⟨oc13, od13, .func (PySem.W.fnOf "steps" "Play.steps" (defArgs (inClass (topS 23) 9)) (defBody (inClass (topS 23) 9)) (defScope (inClass (topS 23) 9)) .none kV13 dc13 pm13 an13 cd13 ct13), sl13⟩) (e13 : PySem.W.codeIn K cd13 "Play.steps" = true) (k13 : PySem.W.keepIn K (.ref f13) = true)
    (a14 : PySem.W.findIn K (.ref CP) "back" = some (some (.ref f14))) (i14 : PySem.W.isFn K (.ref f14) = true) (l14 : K.lookup f14 = some ⟨oc14, od14, .func (PySem.W.fnOf "back" "Play.back" (defArgs (inClass (topS 23) 10)) (defBody (inClass (topS 23) 10)) (defScope (inClass (topS 23) 10)) .none kV14 dc14 pm14 an14 cd14 ct14), sl14⟩) (e14 : PySem.W.codeIn K cd14 "Play.back" = true) (k14 : PySem.W.keepIn K (.ref f14) = true)
    (a15 : PySem.W.findIn K (.ref CP) "forth" = some (some (.ref f15))) (i15 : PySem.W.isFn K (.ref f15) = true) (l15 : K.lookup f15 = some ⟨oc15, od15, .func (PySem.W.fnOf "forth" "Play.forth" (defArgs (inClass (topS 23) 11)) (defBody (inClass (topS 23) 11)) (defScope (inClass (topS 23) 11)) .none kV15 dc15 pm15 an15 cd15 ct15), sl15⟩) (e15 : PySem.W.codeIn K cd15 "Play.forth" = true) (k15 : PySem.W.keepIn K (.ref f15) = true)
    (a16 : PySem.W.findIn K (.ref CP) "counts" = some (some (.ref f16))) (i16 : PySem.W.isFn K (.ref f16) = true) (l16 : K.lookup f16 = some ⟨oc16, od16, .func (PySem.W.fnOf "counts" "Play.counts" (defArgs (inClass (topS 23) 12)) (defBody (inClass (topS 23) 12)) (defScope (inClass (topS 23) 12)) .none kV16 dc16 pm16 an16 cd16 ct16), sl16⟩) (e16 : PySem.W.codeIn K cd16 "Play.counts" = true) (k16 : PySem.W.keepIn K (.ref f16) = true)
    (a17 : PySem.W.findIn K (.ref CP) "twin" = some (some (.ref f17))) (i17 : PySem.W.isFn K (.ref f17) = true) (l17 : K.lookup f17 = some ⟨oc17, od17, .func (PySem.W.fnOf "twin" "Play.twin" (defArgs (inClass (topS 23) 13)) (defBody (inClass (topS 23) 13)) (defScope (inClass (topS 23) 13)) .none kV17 dc17 pm17 an17 cd17 ct17), sl17⟩) (e17 : PySem.W.codeIn K cd17 "Play.twin" = true) (k17 : PySem.W.keepIn K (.ref f17) = true)
    (a18 : PySem.W.nsIn K mainGlobals "_law_cell" = some (some (.ref f18))) (l18 : K.lookup f18 = some ⟨oc18, od18, .func (PySem.W.fnOf "_law_cell" "_law_cell" (defArgs (topS 25)) (defBody (topS 25)) (defScope (topS 25)) .none kV18 dc18 pm18 an18 cd18 ct18), sl18⟩) (e18 : PySem.W.codeIn K cd18 "_law_cell" = true) (k18 : PySem.W.keepIn K (.ref f18) = true)
    (a19 : PySem.W.nsIn K mainGlobals "_law_pick" = some (some (.ref f19))) (l19 : K.lookup f19 = some ⟨oc19, od19, .func (PySem.W.fnOf "_law_pick" "_law_pick" (defArgs (topS 26)) (defBody (topS 26)) (defScope (topS 26)) .none kV19 dc19 pm19 an19 cd19 ct19), sl19⟩) (e19 : PySem.W.codeIn K cd19 "_law_pick" = true) (k19 : PySem.W.keepIn K (.ref f19) = true)
    (a20 : PySem.W.nsIn K mainGlobals "_law_game" = some (some (.ref f20))) (l20 : K.lookup f20 = some ⟨oc20, od20, .func (PySem.W.fnOf "_law_game" "_law_game" (defArgs (topS 27)) (defBody (topS 27)) (defScope (topS 27)) .none kV20 dc20 pm20 an20 cd20 ct20), sl20⟩) (e20 : PySem.W.codeIn K cd20 "_law_game" = true) (k20 : PySem.W.keepIn K (.ref f20) = true)
    (a21 : PySem.W.nsIn K mainGlobals "_law_drawn" = some (some (.ref f21))) (l21 : K.lookup f21 = some ⟨oc21, od21, .func (PySem.W.fnOf "_law_drawn" "_law_drawn" (defArgs (topS 28)) (defBody (topS 28)) (defScope (topS 28)) .none kV21 dc21 pm21 an21 cd21 ct21), sl21⟩) (e21 : PySem.W.codeIn K cd21 "_law_drawn" = true) (k21 : PySem.W.keepIn K (.ref f21) = true)
    (a22 : PySem.W.nsIn K mainGlobals "_law_class" = some (some (.ref f22))) (l22 : K.lookup f22 = some ⟨oc22, od22, .func (PySem.W.fnOf "_law_class" "_law_class" (defArgs (topS 29)) (defBody (topS 29)) (defScope (topS 29)) .none kV22 dc22 pm22 an22 cd22 ct22), sl22⟩) (e22 : PySem.W.codeIn K cd22 "_law_class" = true) (k22 : PySem.W.keepIn K (.ref f22) = true)
    (a23 : PySem.W.nsIn K mainGlobals "_law_told" = some (some (.ref f23))) (l23 : K.lookup f23 = some ⟨oc23, od23, .func (PySem.W.fnOf "_law_told" "_law_told" (defArgs (topS 30)) (defBody (topS 30)) (defScope (topS 30)) .none kV23 dc23 pm23 an23 cd23 ct23), sl23⟩) (e23 : PySem.W.codeIn K cd23 "_law_told" = true) (k23 : PySem.W.keepIn K (.ref f23) = true)
    (a24 : PySem.W.nsIn K mainGlobals "_law_deed" = some (some (.ref f24))) (l24 : K.lookup f24 = some ⟨oc24, od24, .func (PySem.W.fnOf "_law_deed" "_law_deed" (defArgs (topS 31)) (defBody (topS 31)) (defScope (topS 31)) .none kV24 dc24 pm24 an24 cd24 ct24), sl24⟩) (e24 : PySem.W.codeIn K cd24 "_law_deed" = true) (k24 : PySem.W.keepIn K (.ref f24) = true)
    (a25 : PySem.W.nsIn K mainGlobals "_law_there" = some (some (.ref f25))) (l25 : K.lookup f25 = some ⟨oc25, od25, .func (PySem.W.fnOf "_law_there" "_law_there" (defArgs (topS 33)) (defBody (topS 33)) (defScope (topS 33)) .none kV25 dc25 pm25 an25 cd25 ct25), sl25⟩) (e25 : PySem.W.codeIn K cd25 "_law_there" = true) (k25 : PySem.W.keepIn K (.ref f25) = true)
    (a26 : PySem.W.nsIn K mainGlobals "_law_behind" = some (some (.ref f26))) (l26 : K.lookup f26 = some ⟨oc26, od26, .func (PySem.W.fnOf "_law_behind" "_law_behind" (defArgs (topS 32)) (defBody (topS 32)) (defScope (topS 32)) .none kV26 dc26 pm26 an26 cd26 ct26), sl26⟩) (e26 : PySem.W.codeIn K cd26 "_law_behind" = true) (k26 : PySem.W.keepIn K (.ref f26) = true)
    (a27 : PySem.W.nsIn K mainGlobals "_law_did" = some (some (.ref f27))) (l27 : K.lookup f27 = some ⟨oc27, od27, .func (PySem.W.fnOf "_law_did" "_law_did" (defArgs (topS 34)) (defBody (topS 34)) (defScope (topS 34)) .none kV27 dc27 pm27 an27 (.ref cd27) ct27), sl27⟩) (e27 : PySem.W.codeIn K (.ref cd27) "_law_did" = true) (k27 : PySem.W.keepIn K (.ref f27) = true)
    (u0 : K.lookup cd27 = some ⟨ue0, ud0, .fields uv0, us0⟩) (v0 : uv0[11]? = some (.ref PT0)) (n0 : K.lookup PT0 = none) (r0 : ((PyProof.Rows.recsOf q).any fun e => e.name == "_law_did") = true)
    (a28 : PySem.W.nsIn K mainGlobals "law" = some (some (.ref f28))) (l28 : K.lookup f28 = some ⟨oc28, od28, .func (PySem.W.fnOf "law" "law" (defArgs (topS 35)) (defBody (topS 35)) (defScope (topS 35)) .none kV28 dc28 pm28 an28 (.ref cd28) ct28), sl28⟩) (e28 : PySem.W.codeIn K (.ref cd28) "law" = true) (k28 : PySem.W.keepIn K (.ref f28) = true)
    (u1 : K.lookup cd28 = some ⟨ue1, ud1, .fields uv1, us1⟩) (v1 : uv1[11]? = some (.ref PT1)) (n1 : K.lookup PT1 = none) (r1 : ((PyProof.Rows.recsOf q).any fun e => e.name == "law") = true)
    (z0 : PySem.W.nsIn K mainGlobals "isinstance" = some none)
    (z1 : PySem.W.nsIn K mainGlobals "int" = some none)
    (z2 : PySem.W.nsIn K mainGlobals "bool" = some none)
    (z3 : PySem.W.nsIn K mainGlobals "tuple" = some none)
    (z4 : PySem.W.nsIn K mainGlobals "len" = some none)
    (z5 : PySem.W.nsIn K mainGlobals "all" = some none)
    (z6 : PySem.W.nsIn K mainGlobals "list" = some none)
    (z7 : PySem.W.nsIn K mainGlobals "max" = some none)
    (z8 : PySem.W.nsIn K mainGlobals "range" = some none)
    (z9 : PySem.W.nsIn K mainGlobals "enumerate" = some none)
    (z10 : PySem.W.nsIn K mainGlobals "ValueError" = some none)
    (y0 : PySem.W.nsIn K mainGlobals "GREATEST" = some (some (.int 20 t0)))
    (y1 : PySem.W.nsIn K mainGlobals "MOST_WAYS" = some (some (.int 3 t1)))
    (y2 : PySem.W.nsIn K mainGlobals "HEAVIEST" = some (some (.int 9 t2)))
    (y3 : PySem.W.nsIn K mainGlobals "DEEPEST" = some (some (.int 4 t3)))
    (y4 : PySem.W.nsIn K mainGlobals "MOST_BET" = some (some (.int 99 t4)))
    (xa0 : PySem.W.nsIn K mainGlobals "NoGame" = some (some (.ref C0))) (xe0 : PySem.W.excIn K C0 veB "ValueError.__new__" = true) (xk0 : PySem.W.keepIn K (.ref C0) = true) (xb0 : PySem.W.subIn K (.ref C0) (.type "BaseException") = some true) (xt0 : PySem.W.typeIn K (.ref C0) = some (.type "type"))
    (xa1 : PySem.W.nsIn K mainGlobals "NoBets" = some (some (.ref C1))) (xe1 : PySem.W.excIn K C1 veB "ValueError.__new__" = true) (xk1 : PySem.W.keepIn K (.ref C1) = true) (xb1 : PySem.W.subIn K (.ref C1) (.type "BaseException") = some true) (xt1 : PySem.W.typeIn K (.ref C1) = some (.type "type"))
    (xa2 : PySem.W.nsIn K mainGlobals "NoPath" = some (some (.ref C2))) (xe2 : PySem.W.excIn K C2 veB "ValueError.__new__" = true) (xk2 : PySem.W.keepIn K (.ref C2) = true) (xb2 : PySem.W.subIn K (.ref C2) (.type "BaseException") = some true) (xt2 : PySem.W.typeIn K (.ref C2) = some (.type "type"))
    (xa3 : PySem.W.nsIn K mainGlobals "NoBack" = some (some (.ref C3))) (xe3 : PySem.W.excIn K C3 veB "ValueError.__new__" = true) (xk3 : PySem.W.keepIn K (.ref C3) = true) (xb3 : PySem.W.subIn K (.ref C3) (.type "BaseException") = some true) (xt3 : PySem.W.typeIn K (.ref C3) = some (.type "type"))
    (xa4 : PySem.W.nsIn K mainGlobals "Unpaid" = some (some (.ref C4))) (xe4 : PySem.W.excIn K C4 veB "ValueError.__new__" = true) (xk4 : PySem.W.keepIn K (.ref C4) = true) (xb4 : PySem.W.subIn K (.ref C4) (.type "BaseException") = some true) (xt4 : PySem.W.typeIn K (.ref C4) = some (.type "type"))
    (xa5 : PySem.W.nsIn K mainGlobals "NoText" = some (some (.ref C5))) (xe5 : PySem.W.excIn K C5 veB "ValueError.__new__" = true) (xk5 : PySem.W.keepIn K (.ref C5) = true) (xb5 : PySem.W.subIn K (.ref C5) (.type "BaseException") = some true) (xt5 : PySem.W.typeIn K (.ref C5) = some (.type "type"))
    (xa6 : PySem.W.nsIn K mainGlobals "NoRule" = some (some (.ref C6))) (xe6 : PySem.W.excIn K C6 veB "ValueError.__new__" = true) (xk6 : PySem.W.keepIn K (.ref C6) = true) (xb6 : PySem.W.subIn K (.ref C6) (.type "BaseException") = some true) (xt6 : PySem.W.typeIn K (.ref C6) = some (.type "type"))
    (xa7 : PySem.W.nsIn K mainGlobals "StopError" = some (some (.ref C7))) (xe7 : PySem.W.excIn K C7 veB "ValueError.__new__" = true) (xk7 : PySem.W.keepIn K (.ref C7) = true) (xb7 : PySem.W.subIn K (.ref C7) (.type "BaseException") = some true) (xt7 : PySem.W.typeIn K (.ref C7) = some (.type "type"))
    (en : PySem.W.specialIn K (.builtin "object.__class__") "__get__" = some (some (.builtin "getset_descriptor.__get__"))) (et : PySem.W.takesIn K (.builtin "object.__class__") = some true)
    (eg1 : PySem.W.findIn K (.ref C0) "__getattribute__" = some (some (.builtin "BaseException.__getattribute__"))) (ek1 : PySem.W.findIn K (.ref C0) "__getattr__" = some none) (ed1 : PySem.W.hasDictIn K C0 = true) (ea1 : PySem.W.findIn K (.ref C0) "__class__" = some (some (.builtin "object.__class__"))) (em1 : PySem.W.mroIn K C0 (.type "object") = some true)
    (eg2 : PySem.W.findIn K (.ref C2) "__getattribute__" = some (some (.builtin "BaseException.__getattribute__"))) (ek2 : PySem.W.findIn K (.ref C2) "__getattr__" = some none) (ed2 : PySem.W.hasDictIn K C2 = true) (ea2 : PySem.W.findIn K (.ref C2) "__class__" = some (some (.builtin "object.__class__"))) (em2 : PySem.W.mroIn K C2 (.type "object") = some true)
    (eg3 : PySem.W.findIn K (.ref C6) "__getattribute__" = some (some (.builtin "BaseException.__getattribute__"))) (ek3 : PySem.W.findIn K (.ref C6) "__getattr__" = some none) (ed3 : PySem.W.hasDictIn K C6 = true) (ea3 : PySem.W.findIn K (.ref C6) "__class__" = some (some (.builtin "object.__class__"))) (em3 : PySem.W.mroIn K C6 (.type "object") = some true)
    (eg4 : PySem.W.findIn K (.ref C1) "__getattribute__" = some (some (.builtin "BaseException.__getattribute__"))) (ek4 : PySem.W.findIn K (.ref C1) "__getattr__" = some none) (ed4 : PySem.W.hasDictIn K C1 = true) (ea4 : PySem.W.findIn K (.ref C1) "__class__" = some (some (.builtin "object.__class__"))) (em4 : PySem.W.mroIn K C1 (.type "object") = some true)
    (eg5 : PySem.W.findIn K (.ref C4) "__getattribute__" = some (some (.builtin "BaseException.__getattribute__"))) (ek5 : PySem.W.findIn K (.ref C4) "__getattr__" = some none) (ed5 : PySem.W.hasDictIn K C4 = true) (ea5 : PySem.W.findIn K (.ref C4) "__class__" = some (some (.builtin "object.__class__"))) (em5 : PySem.W.mroIn K C4 (.type "object") = some true)
    (eg6 : PySem.W.findIn K (.ref C5) "__getattribute__" = some (some (.builtin "BaseException.__getattribute__"))) (ek6 : PySem.W.findIn K (.ref C5) "__getattr__" = some none) (ed6 : PySem.W.hasDictIn K C5 = true) (ea6 : PySem.W.findIn K (.ref C5) "__class__" = some (some (.builtin "object.__class__"))) (em6 : PySem.W.mroIn K C5 (.type "object") = some true)
    (eg7 : PySem.W.findIn K (.ref C3) "__getattribute__" = some (some (.builtin "BaseException.__getattribute__"))) (ek7 : PySem.W.findIn K (.ref C3) "__getattr__" = some none) (ed7 : PySem.W.hasDictIn K C3 = true) (ea7 : PySem.W.findIn K (.ref C3) "__class__" = some (some (.builtin "object.__class__"))) (em7 : PySem.W.mroIn K C3 (.type "object") = some true)
    (qNoGame1 : PySem.W.kitOne K (.ref C0) (.ref C0) = some true)
    (qNoGame2 : PySem.W.kitOne K (.ref C2) (.ref C0) = some false)
    (qNoGame3 : PySem.W.kitOne K (.ref C6) (.ref C0) = some false)
    (qNoGame4 : PySem.W.kitOne K (.ref C1) (.ref C0) = some false)
    (qNoGame5 : PySem.W.kitOne K (.ref C4) (.ref C0) = some false)
    (qNoGame6 : PySem.W.kitOne K (.ref C5) (.ref C0) = some false)
    (qNoGame7 : PySem.W.kitOne K (.ref C3) (.ref C0) = some false)
    (qNoPath1 : PySem.W.kitOne K (.ref C0) (.ref C2) = some false)
    (qNoPath2 : PySem.W.kitOne K (.ref C2) (.ref C2) = some true)
    (qNoPath3 : PySem.W.kitOne K (.ref C6) (.ref C2) = some false)
    (qNoPath4 : PySem.W.kitOne K (.ref C1) (.ref C2) = some false)
    (qNoPath5 : PySem.W.kitOne K (.ref C4) (.ref C2) = some false)
    (qNoPath6 : PySem.W.kitOne K (.ref C5) (.ref C2) = some false)
    (qNoPath7 : PySem.W.kitOne K (.ref C3) (.ref C2) = some false)
    (qNoRule1 : PySem.W.kitOne K (.ref C0) (.ref C6) = some false)
    (qNoRule2 : PySem.W.kitOne K (.ref C2) (.ref C6) = some false)
    (qNoRule3 : PySem.W.kitOne K (.ref C6) (.ref C6) = some true)
    (qNoRule4 : PySem.W.kitOne K (.ref C1) (.ref C6) = some false)
    (qNoRule5 : PySem.W.kitOne K (.ref C4) (.ref C6) = some false)
    (qNoRule6 : PySem.W.kitOne K (.ref C5) (.ref C6) = some false)
    (qNoRule7 : PySem.W.kitOne K (.ref C3) (.ref C6) = some false)
    (qNoBets1 : PySem.W.kitOne K (.ref C0) (.ref C1) = some false)
    (qNoBets2 : PySem.W.kitOne K (.ref C2) (.ref C1) = some false)
    (qNoBets3 : PySem.W.kitOne K (.ref C6) (.ref C1) = some false)
    (qNoBets4 : PySem.W.kitOne K (.ref C1) (.ref C1) = some true)
    (qNoBets5 : PySem.W.kitOne K (.ref C4) (.ref C1) = some false)
    (qNoBets6 : PySem.W.kitOne K (.ref C5) (.ref C1) = some false)
    (qNoBets7 : PySem.W.kitOne K (.ref C3) (.ref C1) = some false)
    (qUnpaid1 : PySem.W.kitOne K (.ref C0) (.ref C4) = some false)
    (qUnpaid2 : PySem.W.kitOne K (.ref C2) (.ref C4) = some false)
    (qUnpaid3 : PySem.W.kitOne K (.ref C6) (.ref C4) = some false)
    (qUnpaid4 : PySem.W.kitOne K (.ref C1) (.ref C4) = some false)
    (qUnpaid5 : PySem.W.kitOne K (.ref C4) (.ref C4) = some true)
    (qUnpaid6 : PySem.W.kitOne K (.ref C5) (.ref C4) = some false)
    (qUnpaid7 : PySem.W.kitOne K (.ref C3) (.ref C4) = some false)
    (qNoText1 : PySem.W.kitOne K (.ref C0) (.ref C5) = some false)
    (qNoText2 : PySem.W.kitOne K (.ref C2) (.ref C5) = some false)
    (qNoText3 : PySem.W.kitOne K (.ref C6) (.ref C5) = some false)
    (qNoText4 : PySem.W.kitOne K (.ref C1) (.ref C5) = some false)
    (qNoText5 : PySem.W.kitOne K (.ref C4) (.ref C5) = some false)
    (qNoText6 : PySem.W.kitOne K (.ref C5) (.ref C5) = some true)
    (qNoText7 : PySem.W.kitOne K (.ref C3) (.ref C5) = some false)
    (qNoBack1 : PySem.W.kitOne K (.ref C0) (.ref C3) = some false)
    (qNoBack2 : PySem.W.kitOne K (.ref C2) (.ref C3) = some false)
    (qNoBack3 : PySem.W.kitOne K (.ref C6) (.ref C3) = some false)
    (qNoBack4 : PySem.W.kitOne K (.ref C1) (.ref C3) = some false)
    (qNoBack5 : PySem.W.kitOne K (.ref C4) (.ref C3) = some false)
    (qNoBack6 : PySem.W.kitOne K (.ref C5) (.ref C3) = some false)
    (qNoBack7 : PySem.W.kitOne K (.ref C3) (.ref C3) = some true)
    (qv1 : PySem.W.kitOne K (.ref C0) (.type "ValueError") = some true)
    (qv2 : PySem.W.kitOne K (.ref C2) (.type "ValueError") = some true)
    (qv3 : PySem.W.kitOne K (.ref C6) (.type "ValueError") = some true)
    (qv4 : PySem.W.kitOne K (.ref C1) (.type "ValueError") = some true)
    (qv5 : PySem.W.kitOne K (.ref C4) (.type "ValueError") = some true)
    (qv6 : PySem.W.kitOne K (.ref C5) (.type "ValueError") = some true)
    (qv7 : PySem.W.kitOne K (.ref C3) (.type "ValueError") = some true)
    (qc : PySem.W.isClsIn K C7 = true)
    (qx1 : PySem.W.subIn K (.ref C0) (.ref C7) = some true)
    (qx2 : PySem.W.subIn K (.ref C2) (.ref C7) = some true)
    (qx3 : PySem.W.subIn K (.ref C6) (.ref C7) = some true)
    (qx4 : PySem.W.subIn K (.ref C1) (.ref C7) = some true)
    (qx5 : PySem.W.subIn K (.ref C4) (.ref C7) = some true)
    (qx6 : PySem.W.subIn K (.ref C5) (.ref C7) = some true)
    (qx7 : PySem.W.subIn K (.ref C3) (.ref C7) = some true)
    (dd0_1 : PT0 ≠ PT1)
    (dd1_0 : PT1 ≠ PT0) :
    LamX.LawAtS l w K (L2.CX l.prog w) 16 63 "script" mg fa h := by
  have e := hfa.symm.trans (PySem.W.mg_of X G a28)
  cases e
  have T : Top K mg (fun i => [C7, C0, C2, C6, C1, C4, C5, C3].getD i 0) (fun i => [cd27, cd28].getD i 0) CP := {
    m_isinstance := PySem.W.mg_none_of X G z0,
    m_int := PySem.W.mg_none_of X G z1,
    m_bool := PySem.W.mg_none_of X G z2,
    m_tuple := PySem.W.mg_none_of X G z3,
    m_len := PySem.W.mg_none_of X G z4,
    m_all := PySem.W.mg_none_of X G z5,
    m_list := PySem.W.mg_none_of X G z6,
    m_max := PySem.W.mg_none_of X G z7,
    m_range := PySem.W.mg_none_of X G z8,
    m_enumerate := PySem.W.mg_none_of X G z9,
    m_ValueError := PySem.W.mg_none_of X G z10,
    c_GREATEST := ⟨t0, PySem.W.mg_of X G y0⟩,
    c_MOST_WAYS := ⟨t1, PySem.W.mg_of X G y1⟩,
    c_HEAVIEST := ⟨t2, PySem.W.mg_of X G y2⟩,
    c_DEEPEST := ⟨t3, PySem.W.mg_of X G y3⟩,
    c_MOST_BET := ⟨t4, PySem.W.mg_of X G y4⟩,
    x_NoGame := ⟨PySem.W.mg_of X G xa0, xe0, xk0, xb0, xt0⟩,
    x_NoBets := ⟨PySem.W.mg_of X G xa1, xe1, xk1, xb1, xt1⟩,
    x_NoPath := ⟨PySem.W.mg_of X G xa2, xe2, xk2, xb2, xt2⟩,
    x_NoBack := ⟨PySem.W.mg_of X G xa3, xe3, xk3, xb3, xt3⟩,
    x_Unpaid := ⟨PySem.W.mg_of X G xa4, xe4, xk4, xb4, xt4⟩,
    x_NoText := ⟨PySem.W.mg_of X G xa5, xe5, xk5, xb5, xt5⟩,
    x_NoRule := ⟨PySem.W.mg_of X G xa6, xe6, xk6, xb6, xt6⟩,
    x_StopError := ⟨PySem.W.mg_of X G xa7, xe7, xk7, xb7, xt7⟩,
    xt := ⟨List.forall_mem_cons.mpr ⟨⟨eg1, ek1, xb0, ed1, ea1, en, et, em1⟩, List.forall_mem_cons.mpr ⟨⟨eg2, ek2, xb2, ed2, ea2, en, et, em2⟩, List.forall_mem_cons.mpr ⟨⟨eg3, ek3, xb6, ed3, ea3, en, et, em3⟩, List.forall_mem_cons.mpr ⟨⟨eg4, ek4, xb1, ed4, ea4, en, et, em4⟩, List.forall_mem_cons.mpr ⟨⟨eg5, ek5, xb4, ed5, ea5, en, et, em5⟩, List.forall_mem_cons.mpr ⟨⟨eg6, ek6, xb5, ed6, ea6, en, et, em6⟩, List.forall_mem_cons.mpr ⟨⟨eg7, ek7, xb3, ed7, ea7, en, et, em7⟩, fun _ h => nomatch h⟩⟩⟩⟩⟩⟩⟩⟩,
    k_NoGame := List.forall_mem_cons.mpr ⟨qNoGame1, List.forall_mem_cons.mpr ⟨qNoGame2, List.forall_mem_cons.mpr ⟨qNoGame3, List.forall_mem_cons.mpr ⟨qNoGame4, List.forall_mem_cons.mpr ⟨qNoGame5, List.forall_mem_cons.mpr ⟨qNoGame6, List.forall_mem_cons.mpr ⟨qNoGame7, fun _ h => nomatch h⟩⟩⟩⟩⟩⟩⟩,
    k_NoPath := List.forall_mem_cons.mpr ⟨qNoPath1, List.forall_mem_cons.mpr ⟨qNoPath2, List.forall_mem_cons.mpr ⟨qNoPath3, List.forall_mem_cons.mpr ⟨qNoPath4, List.forall_mem_cons.mpr ⟨qNoPath5, List.forall_mem_cons.mpr ⟨qNoPath6, List.forall_mem_cons.mpr ⟨qNoPath7, fun _ h => nomatch h⟩⟩⟩⟩⟩⟩⟩,
    k_NoRule := List.forall_mem_cons.mpr ⟨qNoRule1, List.forall_mem_cons.mpr ⟨qNoRule2, List.forall_mem_cons.mpr ⟨qNoRule3, List.forall_mem_cons.mpr ⟨qNoRule4, List.forall_mem_cons.mpr ⟨qNoRule5, List.forall_mem_cons.mpr ⟨qNoRule6, List.forall_mem_cons.mpr ⟨qNoRule7, fun _ h => nomatch h⟩⟩⟩⟩⟩⟩⟩,
    k_NoBets := List.forall_mem_cons.mpr ⟨qNoBets1, List.forall_mem_cons.mpr ⟨qNoBets2, List.forall_mem_cons.mpr ⟨qNoBets3, List.forall_mem_cons.mpr ⟨qNoBets4, List.forall_mem_cons.mpr ⟨qNoBets5, List.forall_mem_cons.mpr ⟨qNoBets6, List.forall_mem_cons.mpr ⟨qNoBets7, fun _ h => nomatch h⟩⟩⟩⟩⟩⟩⟩,
    k_Unpaid := List.forall_mem_cons.mpr ⟨qUnpaid1, List.forall_mem_cons.mpr ⟨qUnpaid2, List.forall_mem_cons.mpr ⟨qUnpaid3, List.forall_mem_cons.mpr ⟨qUnpaid4, List.forall_mem_cons.mpr ⟨qUnpaid5, List.forall_mem_cons.mpr ⟨qUnpaid6, List.forall_mem_cons.mpr ⟨qUnpaid7, fun _ h => nomatch h⟩⟩⟩⟩⟩⟩⟩,
    k_NoText := List.forall_mem_cons.mpr ⟨qNoText1, List.forall_mem_cons.mpr ⟨qNoText2, List.forall_mem_cons.mpr ⟨qNoText3, List.forall_mem_cons.mpr ⟨qNoText4, List.forall_mem_cons.mpr ⟨qNoText5, List.forall_mem_cons.mpr ⟨qNoText6, List.forall_mem_cons.mpr ⟨qNoText7, fun _ h => nomatch h⟩⟩⟩⟩⟩⟩⟩,
    k_NoBack := List.forall_mem_cons.mpr ⟨qNoBack1, List.forall_mem_cons.mpr ⟨qNoBack2, List.forall_mem_cons.mpr ⟨qNoBack3, List.forall_mem_cons.mpr ⟨qNoBack4, List.forall_mem_cons.mpr ⟨qNoBack5, List.forall_mem_cons.mpr ⟨qNoBack6, List.forall_mem_cons.mpr ⟨qNoBack7, fun _ h => nomatch h⟩⟩⟩⟩⟩⟩⟩,
    kv := List.forall_mem_cons.mpr ⟨qv1, List.forall_mem_cons.mpr ⟨qv2, List.forall_mem_cons.mpr ⟨qv3, List.forall_mem_cons.mpr ⟨qv4, List.forall_mem_cons.mpr ⟨qv5, List.forall_mem_cons.mpr ⟨qv6, List.forall_mem_cons.mpr ⟨qv7, fun _ h => nomatch h⟩⟩⟩⟩⟩⟩⟩,
    xs := List.forall_mem_cons.mpr ⟨exm_of xb7 (by simpa [PySem.W.isClsIn] using qc) xt7 qx1, List.forall_mem_cons.mpr ⟨exm_of xb7 (by simpa [PySem.W.isClsIn] using qc) xt7 qx2, List.forall_mem_cons.mpr ⟨exm_of xb7 (by simpa [PySem.W.isClsIn] using qc) xt7 qx3, List.forall_mem_cons.mpr ⟨exm_of xb7 (by simpa [PySem.W.isClsIn] using qc) xt7 qx4, List.forall_mem_cons.mpr ⟨exm_of xb7 (by simpa [PySem.W.isClsIn] using qc) xt7 qx5, List.forall_mem_cons.mpr ⟨exm_of xb7 (by simpa [PySem.W.isClsIn] using qc) xt7 qx6, List.forall_mem_cons.mpr ⟨exm_of xb7 (by simpa [PySem.W.isClsIn] using qc) xt7 qx7, fun _ h => nomatch h⟩⟩⟩⟩⟩⟩⟩,
    f_is_whole := ⟨_, _, fun_mk l1 e1 k1, PySem.W.mg_of X G a1, (fun_mk l1 e1 k1).binds fun _ _ _ _ _ _ us hl => match us, hl with | [_, _, _], _ => rfl⟩,
    f_is_game_in := ⟨_, _, fun_mk l2 e2 k2, PySem.W.mg_of X G a2, (fun_mk l2 e2 k2).binds fun _ _ _ _ _ _ us hl => match us, hl with | [_, _], _ => rfl⟩,
    f_is_game := ⟨_, _, fun_mk l3 e3 k3, PySem.W.mg_of X G a3, (fun_mk l3 e3 k3).binds fun _ _ _ _ _ _ us hl => match us, hl with | [_], _ => rfl⟩,
    f_look_game := ⟨_, _, fun_mk l4 e4 k4, PySem.W.mg_of X G a4, (fun_mk l4 e4 k4).binds fun _ _ _ _ _ _ us hl => match us, hl with | [_], _ => rfl⟩,
    f_ways_of := ⟨_, _, fun_mk l5 e5 k5, PySem.W.mg_of X G a5, (fun_mk l5 e5 k5).binds fun _ _ _ _ _ _ us hl => match us, hl with | [_], _ => rfl⟩,
    f_part_of := ⟨_, _, fun_mk l6 e6 k6, PySem.W.mg_of X G a6, (fun_mk l6 e6 k6).binds fun _ _ _ _ _ _ us hl => match us, hl with | [_, _], _ => rfl⟩,
    f_Play_init := ⟨_, _, fun_mk l7 e7 k7, ⟨pmk, a7, i7, pkc⟩, (fun_mk l7 e7 k7).binds fun _ _ _ _ _ _ us hl => match us, hl with | [_, _], _ => rfl⟩,
    f_Play_do := ⟨_, _, fun_mk l8 e8 k8, ⟨a8, i8, k8⟩, (fun_mk l8 e8 k8).binds fun _ _ _ _ _ _ us hl => match us, hl with | [_, _, _], _ => rfl⟩,
    f_Play_bet := ⟨_, _, fun_mk l9 e9 k9, ⟨a9, i9, k9⟩, (fun_mk l9 e9 k9).binds fun _ _ _ _ _ _ us hl => match us, hl with | [_, _], _ => rfl⟩,
    f_Play_go := ⟨_, _, fun_mk l10 e10 k10, ⟨a10, i10, k10⟩, (fun_mk l10 e10 k10).binds fun _ _ _ _ _ _ us hl => match us, hl with | [_, _], _ => rfl⟩,
    f_Play_path := ⟨_, _, fun_mk l11 e11 k11, ⟨a11, i11, k11⟩, (fun_mk l11 e11 k11).binds fun _ _ _ _ _ _ us hl => match us, hl with | [_], _ => rfl⟩,
    f_Play_purse := ⟨_, _, fun_mk l12 e12 k12, ⟨a12, i12, k12⟩, (fun_mk l12 e12 k12).binds fun _ _ _ _ _ _ us hl => match us, hl with | [_], _ => rfl⟩,
    f_Play_steps := ⟨_, _, fun_mk l13 e13 k13, ⟨a13, i13, k13⟩, (fun_mk l13 e13 k13).binds fun _ _ _ _ _ _ us hl => match us, hl with | [_], _ => rfl⟩,
    f_Play_back := ⟨_, _, fun_mk l14 e14 k14, ⟨a14, i14, k14⟩, (fun_mk l14 e14 k14).binds fun _ _ _ _ _ _ us hl => match us, hl with | [_], _ => rfl⟩,
    f_Play_forth := ⟨_, _, fun_mk l15 e15 k15, ⟨a15, i15, k15⟩, (fun_mk l15 e15 k15).binds fun _ _ _ _ _ _ us hl => match us, hl with | [_], _ => rfl⟩,
    f_Play_counts := ⟨_, _, fun_mk l16 e16 k16, ⟨a16, i16, k16⟩, (fun_mk l16 e16 k16).binds fun _ _ _ _ _ _ us hl => match us, hl with | [_], _ => rfl⟩,
    f_Play_twin := ⟨_, _, fun_mk l17 e17 k17, ⟨a17, i17, k17⟩, (fun_mk l17 e17 k17).binds fun _ _ _ _ _ _ us hl => match us, hl with | [_], _ => rfl⟩,
    f__law_cell := ⟨_, _, fun_mk l18 e18 k18, PySem.W.mg_of X G a18, (fun_mk l18 e18 k18).binds fun _ _ _ _ _ _ us hl => match us, hl with | [_, _], _ => rfl⟩,
    f__law_pick := ⟨_, _, fun_mk l19 e19 k19, PySem.W.mg_of X G a19, (fun_mk l19 e19 k19).binds fun _ _ _ _ _ _ us hl => match us, hl with | [_, _, _], _ => rfl⟩,
    f__law_game := ⟨_, _, fun_mk l20 e20 k20, PySem.W.mg_of X G a20, (fun_mk l20 e20 k20).binds fun _ _ _ _ _ _ us hl => match us, hl with | [_, _, _, _, _], _ => rfl⟩,
    f__law_drawn := ⟨_, _, fun_mk l21 e21 k21, PySem.W.mg_of X G a21, (fun_mk l21 e21 k21).binds fun _ _ _ _ _ _ us hl => match us, hl with | [_, _], _ => rfl⟩,
    f__law_class := ⟨_, _, fun_mk l22 e22 k22, PySem.W.mg_of X G a22, (fun_mk l22 e22 k22).binds fun _ _ _ _ _ _ us hl => match us, hl with | [_], _ => rfl⟩,
    f__law_told := ⟨_, _, fun_mk l23 e23 k23, PySem.W.mg_of X G a23, (fun_mk l23 e23 k23).binds fun _ _ _ _ _ _ us hl => match us, hl with | [_], _ => rfl⟩,
    f__law_deed := ⟨_, _, fun_mk l24 e24 k24, PySem.W.mg_of X G a24, (fun_mk l24 e24 k24).binds fun _ _ _ _ _ _ us hl => match us, hl with | [_, _, _], _ => rfl⟩,
    f__law_there := ⟨_, _, fun_mk l25 e25 k25, PySem.W.mg_of X G a25, (fun_mk l25 e25 k25).binds fun _ _ _ _ _ _ us hl => match us, hl with | [_, _], _ => rfl⟩,
    f__law_behind := ⟨_, _, fun_mk l26 e26 k26, PySem.W.mg_of X G a26, (fun_mk l26 e26 k26).binds fun _ _ _ _ _ _ us hl => match us, hl with | [_, _, _], _ => rfl⟩,
    f__law_did := ⟨_, _, ⟨⟨_, _, _, _, _, _, _, _, rfl, l27, e27⟩, k27⟩, PySem.W.mg_of X G a27, (fun_mk l27 e27 k27).binds fun _ _ _ _ _ _ us hl => match us, hl with | [_, _], _ => rfl⟩,
    f_law := ⟨_, _, ⟨⟨_, _, _, _, _, _, _, _, rfl, l28, e28⟩, k28⟩, PySem.W.mg_of X G a28, (fun_mk l28 e28 k28).binds fun _ _ _ _ _ _ us hl => match us, hl with | [_], _ => rfl⟩,
    mP := PySem.W.mg_of X G pA,
    pc := ⟨⟨pg, phd, ppo, psa⟩, fun x hx => (show ∀ x ∈ (["own", "now", "past", "later"] : List Str), NoAttr K CP x from List.forall_mem_cons.mpr ⟨pn0, List.forall_mem_cons.mpr ⟨pn1, List.forall_mem_cons.mpr ⟨pn2, List.forall_mem_cons.mpr ⟨pn3, fun _ h => nomatch h⟩⟩⟩⟩) x hx⟩ }
  obtain ⟨tp0, td0⟩ := tab_of tabs r0 (PySem.W.mg_of X G a27) X l27 rfl u0 v0
  obtain ⟨tp1, td1⟩ := tab_of tabs r1 (PySem.W.mg_of X G a28) X l28 rfl u1 v1
  refine ⟨PySem.W.fnOf "law" "law" (defArgs (topS 35)) (defBody (topS 35)) (defScope (topS 35)) .none kV28 dc28 pm28 an28 (.ref cd28) ct28, [(cd27, PT0), (cd28, PT1)], spT K [(cd27, PT0), (cd28, PT1)], List.forall_mem_cons.mpr ⟨tp0, List.forall_mem_cons.mpr ⟨tp1, fun _ h => nomatch h⟩⟩, List.forall_mem_cons.mpr ⟨n0, List.forall_mem_cons.mpr ⟨n1, fun _ h => nomatch h⟩⟩, List.forall_mem_cons.mpr ⟨td0, List.forall_mem_cons.mpr ⟨td1, fun _ h => nomatch h⟩⟩, ?hb, fun H a ns hl _ hH hS => ⟨a, ns, rfl, hS, hl, hH, fun _ => rfl⟩, fun base _ _ TB => ?hF⟩
  case hb => exact fun s v => .of_eq rfl
  exact law_byTE rfl _ CP [(PT0, lq "_law_did"), (PT1, lq "law")] [(cd27, PT0), (cd28, PT1)] rfl fun ns _ => ⟨_, law_true (pickJ ns) (pickJ_ok ns), s_law (cl := Glb.of (fun i => [C7, C0, C2, C6, C1, C4, C5, C3].getD i 0) ns [(PT0, lq "_law_did"), (PT1, lq "law")]) T (fun F => pick_fn (s__law_pick T (s__law_cell T))) ⟨⟨PT0, TB _ (List.mem_cons_self), List.mem_cons_self, List.forall_mem_cons.mpr ⟨fun z => rfl, List.forall_mem_cons.mpr ⟨fun z => absurd z dd1_0, fun _ h => nomatch h⟩⟩⟩⟩ ⟨⟨PT1, TB _ (List.mem_cons_of_mem _ (List.mem_cons_self)), List.mem_cons_of_mem _ (List.mem_cons_self), List.forall_mem_cons.mpr ⟨fun z => absurd z dd0_1, List.forall_mem_cons.mpr ⟨fun z => rfl, fun _ h => nomatch h⟩⟩⟩⟩ ⟨⟨_, _, _, _, _, _, _, _, rfl, l28, e28⟩, k28⟩⟩
end Kx
open PySem PySem.W PyProof.Rows
set_option maxHeartbeats 0 in
theorem PySem.Challenge.cw_fairstops_k81_whole_play_twins_holds : PySem.Challenge.rw_fairstops_k81_whole_play_twins.Holds := by
  w_on; o_law; k_head; (case hw => w_witness2)
  k_fill
  refine Sm.walk_all (l := PySem.Challenge.rw_fairstops_k81_whole_play_twins) (n := 63) (k := 16) (x := "script") (CX := fun w => L2.CX (PySem.Challenge.rw_fairstops_k81_whole_play_twins).prog w) rfl (by decide) rfl ⟨rfl, by decide, by decide⟩ (fun w h Y => by first | exact PySem.W.kIn_of Y | exact PySem.W.km_in_of Y) ?F (fun _ _ _ _ _ h => Sm.no_exc h)
  case F =>
    intro w mg fa h KX G hmg tabs
    refine' Kx.all_mk KX G hmg tabs ?a1 ?l1 ?e1 ?k1 ?a2 ?l2 ?e2 ?k2 ?a3 ?l3 ?e3 ?k3 ?a4 ?l4 ?e4 ?k4 ?a5 ?l5 ?e5 ?k5 ?a6 ?l6 ?e6 ?k6 ?pA ?pg ?phd ?ppo ?psa ?pmk ?pkc ?pn0 ?pn1 ?pn2 ?pn3 ?a7 ?i7 ?l7 ?e7 ?k7 ?a8 ?i8 ?l8 ?e8 ?k8 ?a9 ?i9 ?l9 ?e9 ?k9 ?a10 ?i10 ?l10 ?e10 ?k10 ?a11 ?i11 ?l11 ?e11 ?k11 ?a12 ?i12 ?l12 ?e12 ?k12 ?a13 ?i13 ?l13 ?e13 ?k13 ?a14 ?i14 ?l14 ?e14 ?k14 ?a15 ?i15 ?l15 ?e15 ?k15 ?a16 ?i16 ?l16 ?e16 ?k16 ?a17 ?i17 ?l17 ?e17 ?k17 ?a18 ?l18 ?e18 ?k18 ?a19 ?l19 ?e19 ?k19 ?a20 ?l20 ?e20 ?k20 ?a21 ?l21 ?e21 ?k21 ?a22 ?l22 ?e22 ?k22 ?a23 ?l23 ?e23 ?k23 ?a24 ?l24 ?e24 ?k24 ?a25 ?l25 ?e25 ?k25 ?a26 ?l26 ?e26 ?k26 ?a27 ?l27 ?e27 ?k27 ?u0 ?v0 ?n0 ?r0 ?a28 ?l28 ?e28 ?k28 ?u1 ?v1 ?n1 ?r1 ?z0 ?z1 ?z2 ?z3 ?z4 ?z5 ?z6 ?z7 ?z8 ?z9 ?z10 ?y0 ?y1 ?y2 ?y3 ?y4 ?xa0 ?xe0 ?xk0 ?xb0 ?xt0 ?xa1 ?xe1 ?xk1 ?xb1 ?xt1 ?xa2 ?xe2 ?xk2 ?xb2 ?xt2 ?xa3 ?xe3 ?xk3 ?xb3 ?xt3 ?xa4 ?xe4 ?xk4 ?xb4 ?xt4 ?xa5 ?xe5 ?xk5 ?xb5 ?xt5 ?xa6 ?xe6 ?xk6 ?xb6 ?xt6 ?xa7 ?xe7 ?xk7 ?xb7 ?xt7 ?en ?et ?eg1 ?ek1 ?ed1 ?ea1 ?em1 ?eg2 ?ek2 ?ed2 ?ea2 ?em2 ?eg3 ?ek3 ?ed3 ?ea3 ?em3 ?eg4 ?ek4 ?ed4 ?ea4 ?em4 ?eg5 ?ek5 ?ed5 ?ea5 ?em5 ?eg6 ?ek6 ?ed6 ?ea6 ?em6 ?eg7 ?ek7 ?ed7 ?ea7 ?em7 ?qNoGame1 ?qNoGame2 ?qNoGame3 ?qNoGame4 ?qNoGame5 ?qNoGame6 ?qNoGame7 ?qNoPath1 ?qNoPath2 ?qNoPath3 ?qNoPath4 ?qNoPath5 ?qNoPath6 ?qNoPath7 ?qNoRule1 ?qNoRule2 ?qNoRule3 ?qNoRule4 ?qNoRule5 ?qNoRule6 ?qNoRule7 ?qNoBets1 ?qNoBets2 ?qNoBets3 ?qNoBets4 ?qNoBets5 ?qNoBets6 ?qNoBets7 ?qUnpaid1 ?qUnpaid2 ?qUnpaid3 ?qUnpaid4 ?qUnpaid5 ?qUnpaid6 ?qUnpaid7 ?qNoText1 ?qNoText2 ?qNoText3 ?qNoText4 ?qNoText5 ?qNoText6 ?qNoText7 ?qNoBack1 ?qNoBack2 ?qNoBack3 ?qNoBack4 ?qNoBack5 ?qNoBack6 ?qNoBack7 ?qv1 ?qv2 ?qv3 ?qv4 ?qv5 ?qv6 ?qv7 ?qc ?qx1 ?qx2 ?qx3 ?qx4 ?qx5 ?qx6 ?qx7 ?dd0_1 ?dd1_0
    (case a1 => k_is)
    (case l1 => k_is)
    (case e1 => k_is)
    (case k1 => k_is)
    (case a2 => k_is)
    (case l2 => k_is)
    (case e2 => k_is)
    (case k2 => k_is)
    (case a3 => k_is)
    (case l3 => k_is)
    (case e3 => k_is)
    (case k3 => k_is)
    (case a4 => k_is)
    (case l4 => k_is)
    (case e4 => k_is)
    (case k4 => k_is)
    (case a5 => k_is)
    (case l5 => k_is)
    (case e5 => k_is)
    (case k5 => k_is)
    (case a6 => k_is)
    (case l6 => k_is)
    (case e6 => k_is)
    (case k6 => k_is)
    (case pA => k_is)
    (case pg => k_is)
    (case phd => k_is)
    (case ppo => k_is)
    (case psa => k_is)
    (case pmk => k_is)
    (case pkc => k_is)
    (case pn0 => k_is)
    (case pn1 => k_is)
    (case pn2 => k_is)
    (case pn3 => k_is)
    (case a7 => k_is)
    (case i7 => k_is)
    (case l7 => k_is)
    (case e7 => k_is)
    (case k7 => k_is)
    (case a8 => k_is)
    (case i8 => k_is)
    (case l8 => k_is)
    (case e8 => k_is)
    (case k8 => k_is)
    (case a9 => k_is)
    (case i9 => k_is)
    (case l9 => k_is)
    (case e9 => k_is)
    (case k9 => k_is)
    (case a10 => k_is)
    (case i10 => k_is)
    (case l10 => k_is)
    (case e10 => k_is)
    (case k10 => k_is)
    (case a11 => k_is)
    (case i11 => k_is)
    (case l11 => k_is)
    (case e11 => k_is)
    (case k11 => k_is)
    (case a12 => k_is)
    (case i12 => k_is)
    (case l12 => k_is)
    (case e12 => k_is)
    (case k12 => k_is)
    (case a13 => k_is)
    (case i13 => k_is)
    (case l13 => k_is)
    (case e13 => k_is)
    (case k13 => k_is)
    (case a14 => k_is)
    (case i14 => k_is)
    (case l14 => k_is)
    (case e14 => k_is)
    (case k14 => k_is)
    (case a15 => k_is)
    (case i15 => k_is)
    (case l15 => k_is)
    (case e15 => k_is)
    (case k15 => k_is)
    (case a16 => k_is)
    (case i16 => k_is)
    (case l16 => k_is)
    (case e16 => k_is)
    (case k16 => k_is)
    (case a17 => k_is)
    (case i17 => k_is)
    (case l17 => k_is)
    (case e17 => k_is)
    (case k17 => k_is)
    (case a18 => k_is)
    (case l18 => k_is)
    (case e18 => k_is)
    (case k18 => k_is)
    (case a19 => k_is)
    (case l19 => k_is)
    (case e19 => k_is)
    (case k19 => k_is)
    (case a20 => k_is)
    (case l20 => k_is)
    (case e20 => k_is)
    (case k20 => k_is)
    (case a21 => k_is)
    (case l21 => k_is)
    (case e21 => k_is)
    (case k21 => k_is)
    (case a22 => k_is)
    (case l22 => k_is)
    (case e22 => k_is)
    (case k22 => k_is)
    (case a23 => k_is)
    (case l23 => k_is)
    (case e23 => k_is)
    (case k23 => k_is)
    (case a24 => k_is)
    (case l24 => k_is)
    (case e24 => k_is)
    (case k24 => k_is)
    (case a25 => k_is)
    (case l25 => k_is)
    (case e25 => k_is)
    (case k25 => k_is)
    (case a26 => k_is)
    (case l26 => k_is)
    (case e26 => k_is)
    (case k26 => k_is)
    (case a27 => k_is)
    (case l27 => k_is)
    (case e27 => k_is)
    (case k27 => k_is)
    (case u0 => k_is)
    (case v0 => rfl)
    (case n0 => first | kernel_rfl | k_is | decide +kernel)
    (case r0 => first | kernel_rfl | k_is | decide +kernel)
    (case a28 => k_is)
    (case l28 => k_is)
    (case e28 => k_is)
    (case k28 => k_is)
    (case u1 => k_is)
    (case v1 => rfl)
    (case n1 => first | kernel_rfl | k_is | decide +kernel)
    (case r1 => first | kernel_rfl | k_is | decide +kernel)
    (case z0 => k_is)
    (case z1 => k_is)
    (case z2 => k_is)
    (case z3 => k_is)
    (case z4 => k_is)
    (case z5 => k_is)
    (case z6 => k_is)
    (case z7 => k_is)
    (case z8 => k_is)
    (case z9 => k_is)
    (case z10 => k_is)
    (case y0 => k_is)
    (case y1 => k_is)
    (case y2 => k_is)
    (case y3 => k_is)
    (case y4 => k_is)
    (case xa0 => k_is)
    (case xe0 => k_exc)
    (case xk0 => k_is)
    (case xb0 => k_is)
    (case xt0 => k_is)
    (case xa1 => k_is)
    (case xe1 => k_exc)
    (case xk1 => k_is)
    (case xb1 => k_is)
    (case xt1 => k_is)
    (case xa2 => k_is)
    (case xe2 => k_exc)
    (case xk2 => k_is)
    (case xb2 => k_is)
    (case xt2 => k_is)
    (case xa3 => k_is)
    (case xe3 => k_exc)
    (case xk3 => k_is)
    (case xb3 => k_is)
    (case xt3 => k_is)
    (case xa4 => k_is)
    (case xe4 => k_exc)
    (case xk4 => k_is)
    (case xb4 => k_is)
    (case xt4 => k_is)
    (case xa5 => k_is)
    (case xe5 => k_exc)
    (case xk5 => k_is)
    (case xb5 => k_is)
    (case xt5 => k_is)
    (case xa6 => k_is)
    (case xe6 => k_exc)
    (case xk6 => k_is)
    (case xb6 => k_is)
    (case xt6 => k_is)
    (case xa7 => k_is)
    (case xe7 => k_exc)
    (case xk7 => k_is)
    (case xb7 => k_is)
    (case xt7 => k_is)
    (case en => k_is)
    (case et => k_is)
    (case eg1 => k_is)
    (case ek1 => k_is)
    (case ed1 => k_is)
    (case ea1 => k_is)
    (case em1 => k_is)
    (case eg2 => k_is)
    (case ek2 => k_is)
    (case ed2 => k_is)
    (case ea2 => k_is)
    (case em2 => k_is)
    (case eg3 => k_is)
    (case ek3 => k_is)
    (case ed3 => k_is)
    (case ea3 => k_is)
    (case em3 => k_is)
    (case eg4 => k_is)
    (case ek4 => k_is)
    (case ed4 => k_is)
    (case ea4 => k_is)
    (case em4 => k_is)
    (case eg5 => k_is)
    (case ek5 => k_is)
    (case ed5 => k_is)
    (case ea5 => k_is)
    (case em5 => k_is)
    (case eg6 => k_is)
    (case ek6 => k_is)
    (case ed6 => k_is)
    (case ea6 => k_is)
    (case em6 => k_is)
    (case eg7 => k_is)
    (case ek7 => k_is)
    (case ed7 => k_is)
    (case ea7 => k_is)
    (case em7 => k_is)
    (case qNoGame1 => kit_is)
    (case qNoGame2 => kit_is)
    (case qNoGame3 => kit_is)
    (case qNoGame4 => kit_is)
    (case qNoGame5 => kit_is)
    (case qNoGame6 => kit_is)
    (case qNoGame7 => kit_is)
    (case qNoPath1 => kit_is)
    (case qNoPath2 => kit_is)
    (case qNoPath3 => kit_is)
    (case qNoPath4 => kit_is)
    (case qNoPath5 => kit_is)
    (case qNoPath6 => kit_is)
    (case qNoPath7 => kit_is)
    (case qNoRule1 => kit_is)
    (case qNoRule2 => kit_is)
    (case qNoRule3 => kit_is)
    (case qNoRule4 => kit_is)
    (case qNoRule5 => kit_is)
    (case qNoRule6 => kit_is)
    (case qNoRule7 => kit_is)
    (case qNoBets1 => kit_is)
    (case qNoBets2 => kit_is)
    (case qNoBets3 => kit_is)
    (case qNoBets4 => kit_is)
    (case qNoBets5 => kit_is)
    (case qNoBets6 => kit_is)
    (case qNoBets7 => kit_is)
    (case qUnpaid1 => kit_is)
    (case qUnpaid2 => kit_is)
    (case qUnpaid3 => kit_is)
    (case qUnpaid4 => kit_is)
    (case qUnpaid5 => kit_is)
    (case qUnpaid6 => kit_is)
    (case qUnpaid7 => kit_is)
    (case qNoText1 => kit_is)
    (case qNoText2 => kit_is)
    (case qNoText3 => kit_is)
    (case qNoText4 => kit_is)
    (case qNoText5 => kit_is)
    (case qNoText6 => kit_is)
    (case qNoText7 => kit_is)
    (case qNoBack1 => kit_is)
    (case qNoBack2 => kit_is)
    (case qNoBack3 => kit_is)
    (case qNoBack4 => kit_is)
    (case qNoBack5 => kit_is)
    (case qNoBack6 => kit_is)
    (case qNoBack7 => kit_is)
    (case qv1 => kit_is)
    (case qv2 => kit_is)
    (case qv3 => kit_is)
    (case qv4 => kit_is)
    (case qv5 => kit_is)
    (case qv6 => kit_is)
    (case qv7 => kit_is)
    (case qc => k_is)
    (case qx1 => k_is)
    (case qx2 => k_is)
    (case qx3 => k_is)
    (case qx4 => k_is)
    (case qx5 => k_is)
    (case qx6 => k_is)
    (case qx7 => k_is)
    (case dd0_1 => first | kernel_rfl | k_is | decide +kernel)
    (case dd1_0 => first | kernel_rfl | k_is | decide +kernel)

