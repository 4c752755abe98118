import PyProof.Rows.All
import Wide.All
import OpenK.AllK
import Wide.FinOn
import HandS.ForMost
import KE.GoesEnum
import HandS.ForExc
import HandS.Flow
import HandS.TupAny
import HandS.TupMul
import HandS.TupLe
import HandS.IsInst
import HandS.Wide
import HandS.CallSlots
import HandS.Lambda
import HandS.NoneIn
import HandS.Style
import HandS.Deep
import HandS.TupSets
import HandS.Zip
import HandS.ExcIs
import HandS.ExcValue
import HandS.HotCalls
import HandS.SetFor
import KE.SortData
import HandS.SortOrd
import HandS.SortRule
import KE.KDictPairs
import HandS.DictTup
import HandS.Nested
import HandS.EndTab
import HandS.Iter
import HandS.Conv
import HandS.Set
import HandS.Strs
import HandS.Text
import HandS.Codes
import PySem.Challenge.RW_fairstops_k60_whole_texts
set_option Elab.async false
set_option linter.all false
set_option maxRecDepth 100000
set_option autoImplicit false
namespace Sm
open PySem PySem.Spec L2
inductive D where
  | non | bl (b : Bool) | int (i : Int) | str (x : Str) | tup (xs : List D) | lst (xs : List D) | dct (kvs : List (D × D)) | exc (c : Nat) | scr (ns : List Int) | scr0 | fnv | obj (k : Nat) | dcl (kvs : List (D × D)) | scr1
  deriving Inhabited
inductive R (α : Type) where
  | ok (a : α) | err (c : Nat) | bad
def R.bind {α β : Type} : R α → (α → R β) → R β
  | .ok a, k => k a
  | .err c, _ => .err c
  | .bad, _ => .bad
instance : Monad R where
  pure := R.ok
  bind := R.bind
abbrev Env := List (Option D)

def isTbl : HO → Bool | .tbl _ => true | _ => false
def Sam (H H' : Hp) : Prop := ∀ b o, H b = some o → isTbl o = false → H' b = some o
theorem Sam.refl (H : Hp) : Sam H H := fun _ _ h _ => h
theorem Sam.trans {H H1 H2 : Hp} (a : Sam H H1) (b : Sam H1 H2) : Sam H H2 := fun c o h n => b c o (a c o h n) n
theorem Sam.of {H H' : Hp} (s : Same H H') : Sam H H' := fun b o h _ => s b o h
theorem Sam.rd {H H' : Hp} {a : Addr} {u : HO} (e : Sam H H') (h : Rd H a u) (n : isTbl u = false) : Rd H' a u := by
  rcases h with h | ⟨o, h⟩
  · exact .inl (e _ _ h n)
  · exact .inr ⟨o, e _ _ h rfl⟩
theorem Sam.sqL {K : PySem.W.Frag} {H H' : Hp} {a : Addr} {xs : List V} (e : Sam H H') (h : SqL K H a xs) : SqL K H' a xs := by
  rcases h with h | h
  · exact .inl (e.rd h rfl)
  · exact .inr h
theorem Sam.sqT {K : PySem.W.Frag} {H H' : Hp} {a : Addr} {xs : List V} (e : Sam H H') (h : SqT K H a xs) : SqT K H' a xs := by
  rcases h with h | h
  · exact .inl (e.rd h rfl)
  · exact .inr h
theorem sqT_of {K : PySem.W.Frag} {H : Hp} {a : Addr} {xs : List V} (h : H a = some (.tup xs)) : SqT K H a xs := .inl (.inl h)
theorem Sam.sqU {K : PySem.W.Frag} {H H' : Hp} {a : Addr} {xs : List V} (e : Sam H H') (h : H a = some (.tup xs)) : SqT K H' a xs := .inl (.inl (e _ _ h rfl))
structure Glb where
  c : Nat → Addr
  ns : List Int
  T : List (Addr × Str)
  fn : Hp → Addr → Prop
  fnM : ∀ H H' v, Sam H H' → fn H v → fn H' v
  ob : Nat → Addr → Prop
def Glb.of (c : Nat → Addr) (ns : List Int) (T : List (Addr × Str)) : Glb := ⟨c, ns, T, fun _ _ => False, fun _ _ _ _ h => h, fun _ _ => False⟩
theorem same_upd {H : Hp} {p : Addr} {o : HO} (h : H p = none) : Same H (upd H p o) := fun b x e => by
  rw [upd_ne (ne_of_none e h)]
  exact e

structure Vw (cl : Glb) (Hv H : Hp) : Prop where
  s : Sam Hv H
  d : ∀ b, H b = none → Hv b = none
  t : ∀ b xs, H b = some (.tup xs) → Hv b = some (.tup xs)
  z : ∀ b o u, H b = some (.frz o u) → Hv b = some (.frz o u)
  tab : LamX.Tabs cl.T H
  x : ∀ b φ, H b = some (.ext φ) → Hv b = some (.ext φ)
section
variable {cl : Glb}
theorem Vw.refl {H : Hp} (t : LamX.Tabs cl.T H) : Vw cl H H := ⟨Sam.refl _, fun _ h => h, fun _ _ h => h, fun _ _ _ h => h, t, fun _ _ h => h⟩
structure Ext (cl : Glb) (Hv H Hv' H' : Hp) : Prop where
  hh : Sam H H'
  vv : Sam Hv Hv'
  vh : Vw cl Hv' H'
  old : ∀ b o, H b = some o → Hv b = none → Hv' b = none
  dom : ∀ b, H' b = none → H b = none
  tt : ∀ b ps, H b = some (.tbl ps) → ∃ ps', H' b = some (.tbl ps')
theorem Ext.refl {Hv H : Hp} (s : Vw cl Hv H) : Ext cl Hv H Hv H := ⟨Sam.refl _, Sam.refl _, s, fun _ _ _ h => h, fun _ h => h, fun _ ps h => ⟨ps, h⟩⟩
theorem Ext.trans {Hv H Hv1 H1 Hv2 H2 : Hp} (a : Ext cl Hv H Hv1 H1) (b : Ext cl Hv1 H1 Hv2 H2) : Ext cl Hv H Hv2 H2 where
  hh := a.hh.trans b.hh
  vv := a.vv.trans b.vv
  vh := b.vh
  old := fun c o h n => by
    cases q : H1 c with
    | none => rw [a.dom c q] at h; cases h
    | some u => exact b.old c u q (a.old c o h n)
  dom := fun c h => a.dom c (b.dom c h)
  tt := fun c ps h => let ⟨ps', h'⟩ := a.tt c ps h; b.tt c ps' h'
theorem upd_none {H : Hp} {p b : Addr} {o : HO} (h : upd H p o b = none) : b ≠ p ∧ H b = none := by
  unfold upd at h
  split at h
  · cases h
  · exact ⟨by assumption, h⟩
theorem Ext.new {Hv H : Hp} {p : Addr} {o : HO} (s : Vw cl Hv H) (h : H p = none) : Ext cl Hv H (upd Hv p o) (upd H p o) where
  hh := .of (same_upd h)
  vv := .of (same_upd (s.d p h))
  vh := ⟨fun b u e n => by
    by_cases z : b = p
    · subst z; rw [upd_same] at e ⊢; exact e
    · rw [upd_ne z] at e ⊢; exact s.s b u e n, fun b e => by
    obtain ⟨h1, h2⟩ := upd_none e
    rw [upd_ne h1]; exact s.d b h2, fun b xs e => by
    by_cases z : b = p
    · subst z; rw [upd_same] at e ⊢; exact e
    · rw [upd_ne z] at e ⊢; exact s.t b xs e, fun b xs y e => by
    by_cases z : b = p
    · subst z; rw [upd_same] at e ⊢; exact e
    · rw [upd_ne z] at e ⊢; exact s.z b xs y e, s.tab.ext (same_upd h), fun b φ e => by
    by_cases z : b = p
    · subst z; rw [upd_same] at e ⊢; exact e
    · rw [upd_ne z] at e ⊢; exact s.x b φ e⟩
  old := fun b u e n => by rw [upd_ne (ne_of_none e h)]; exact n
  dom := fun b e => (upd_none e).2
  tt := fun b ps e => ⟨ps, by rw [upd_ne (ne_of_none e h)]; exact e⟩
end
section
variable (K : PySem.W.Frag) (cl : Glb)
def ExcO (a C : Addr) : HO := .ext fun h => ∃ (o : Obj) (vs : Array Value), h.get? a = some o ∧ Zc (.ref C) none o ∧ o.data = .fields vs
mutual
inductive Rep (H : Hp) : V → D → Prop
  | non : Rep H .non .non
  | bl (b : Bool) : Rep H (.bl b) (.bl b)
  | int (i : Int) : Rep H (.int i) (.int i)
  | str (x : Str) : Rep H (.str x) (.str x)
  | lst {a : Addr} {xs : List V} {ds : List D} : H a = some (.lst xs) → xs.length ≤ sizeLine → Reps H xs ds → Rep H (.ref a) (.lst ds)
  | tup {a : Addr} {xs : List V} {ds : List D} : H a = some (.tup xs) → xs.length ≤ sizeLine → Reps H xs ds → Rep H (.ref a) (.tup ds)
  | dctK {a : Addr} {kvs : List (L2.Key × V)} {es : List (D × D)} : H a = some (.dK kvs) → RepsK H kvs es → Rep H (.ref a) (.dct es)
  | dctT {a : Addr} {kvs : List (List L2.Key × V)} {es : List (D × D)} : H a = some (.dT kvs) → es ≠ [] → RepsT H kvs es → Rep H (.ref a) (.dct es)
  | scr {a : Addr} {ns : List Int} : SqL K H a (ns.map V.int) → ns.length ≤ sizeLine → Rep H (.ref a) (.scr ns)
  | scr0 {a : Addr} : SqL K H a (cl.ns.map V.int) → cl.ns.length ≤ sizeLine → Rep H (.ref a) .scr0
  | exc {a : Addr} {c : Nat} : H a = some (ExcO a (cl.c c)) → Rep H (.ref a) (.exc c)
  | fnv {a : Addr} : cl.fn H a → Rep H (.ref a) .fnv
  | obj {a : Addr} {k : Nat} : cl.ob k a → Rep H (.ref a) (.obj k)
  | dclK {a : Addr} {o : Obj} {kvs : List (L2.Key × V)} {es : List (D × D)} : H a = some (.frz o (.dK kvs)) → RepsK H kvs es → Rep H (.ref a) (.dcl es)
  | dclT {a : Addr} {o : Obj} {kvs : List (List L2.Key × V)} {es : List (D × D)} : H a = some (.frz o (.dT kvs)) → es ≠ [] → RepsT H kvs es → Rep H (.ref a) (.dcl es)
  | scr1 {a : Addr} : SqL K H a ((cl.ns.map (· + 1)).map V.int) → cl.ns.length ≤ sizeLine → Rep H (.ref a) .scr1
inductive Reps (H : Hp) : List V → List D → Prop
  | nil : Reps H [] []
  | cons {v : V} {vs : List V} {d : D} {ds : List D} : Rep H v d → Reps H vs ds → Reps H (v :: vs) (d :: ds)
inductive RepsK (H : Hp) : List (L2.Key × V) → List (D × D) → Prop
  | nil : RepsK H [] []
  | cons {i : Int} {v : V} {d : D} {r : List (L2.Key × V)} {es : List (D × D)} : Rep H v d → RepsK H r es → RepsK H ((Sum.inl i, v) :: r) ((.int i, d) :: es)
inductive RepsT (H : Hp) : List (List L2.Key × V) → List (D × D) → Prop
  | nil : RepsT H [] []
  | cons {k : List Int} {v : V} {d : D} {r : List (List L2.Key × V)} {es : List (D × D)} : Rep H v d → RepsT H r es → RepsT H ((k.map Sum.inl, v) :: r) ((.tup (k.map D.int), d) :: es)
end
end
section
variable {K : PySem.W.Frag} {cl : Glb} {H H' Hv Hv' : Hp}
mutual
theorem Rep.mono (e : Sam H H') : ∀ {v : V} {d : D}, Rep K cl H v d → Rep K cl H' v d
  | _, _, .non => .non
  | _, _, .bl b => .bl b
  | _, _, .int i => .int i
  | _, _, .str x => .str x
  | _, _, .lst h n r => .lst (e _ _ h rfl) n (Reps.mono e r)
  | _, _, .scr h n => .scr (e.sqL h) n
  | _, _, .scr0 h n => .scr0 (e.sqL h) n
  | _, _, .tup h n r => .tup (e _ _ h rfl) n (Reps.mono e r)
  | _, _, .dctK h r => .dctK (e _ _ h rfl) (RepsK.mono e r)
  | _, _, .dctT h n r => .dctT (e _ _ h rfl) n (RepsT.mono e r)
  | _, _, .exc h => .exc (e _ _ h rfl)
  | _, _, .fnv h => .fnv (cl.fnM _ _ _ e h)
  | _, _, .obj h => .obj h
  | _, _, .dclK h r => .dclK (e _ _ h rfl) (RepsK.mono e r)
  | _, _, .dclT h n r => .dclT (e _ _ h rfl) n (RepsT.mono e r)
  | _, _, .scr1 h n => .scr1 (e.sqL h) n
theorem Reps.mono (e : Sam H H') : ∀ {v : List V} {d : List D}, Reps K cl H v d → Reps K cl H' v d
  | _, _, .nil => .nil
  | _, _, .cons r t => .cons (Rep.mono e r) (Reps.mono e t)
theorem RepsK.mono (e : Sam H H') : ∀ {v : List (L2.Key × V)} {d : List (D × D)}, RepsK K cl H v d → RepsK K cl H' v d
  | _, _, .nil => .nil
  | _, _, .cons r t => .cons (Rep.mono e r) (RepsK.mono e t)
theorem RepsT.mono (e : Sam H H') : ∀ {v : List (List L2.Key × V)} {d : List (D × D)}, RepsT K cl H v d → RepsT K cl H' v d
  | _, _, .nil => .nil
  | _, _, .cons r t => .cons (Rep.mono e r) (RepsT.mono e t)
end
theorem Reps.length : ∀ {vs : List V} {ds : List D}, Reps K cl H vs ds → vs.length = ds.length
  | _, _, .nil => rfl
  | _, _, .cons _ t => by rw [List.length_cons, List.length_cons, Reps.length t]
theorem Reps.get : ∀ {vs : List V} {ds : List D} {i : Nat} {d : D}, Reps K cl H vs ds → ds[i]? = some d → ∃ v, vs[i]? = some v ∧ Rep K cl H v d
  | _, _, _, _, .nil, e => by simp at e
  | _, _, 0, _, .cons r _, e => by simp at e; subst e; exact ⟨_, rfl, r⟩
  | _, _, i + 1, d, .cons _ t, e => by
    obtain ⟨u, h1, h2⟩ := Reps.get (i := i) (d := d) t (by simpa using e)
    exact ⟨u, by simpa using h1, h2⟩
theorem Reps.append : ∀ {vs us : List V} {ds es : List D}, Reps K cl H vs ds → Reps K cl H us es → Reps K cl H (vs ++ us) (ds ++ es)
  | _, _, _, _, .nil, s => s
  | _, _, _, _, .cons r t, s => .cons r (Reps.append t s)
theorem Reps.take : ∀ {vs : List V} {ds : List D} (n : Nat), Reps K cl H vs ds → Reps K cl H (vs.take n) (ds.take n)
  | _, _, 0, _ => .nil
  | _, _, _ + 1, .nil => .nil
  | _, _, n + 1, .cons r t => .cons r (Reps.take n t)
theorem Reps.drop : ∀ {vs : List V} {ds : List D} (n : Nat), Reps K cl H vs ds → Reps K cl H (vs.drop n) (ds.drop n)
  | _, _, 0, r => r
  | _, _, _ + 1, .nil => .nil
  | _, _, n + 1, .cons _ t => Reps.drop n t
theorem Reps.reverse : ∀ {vs : List V} {ds : List D}, Reps K cl H vs ds → Reps K cl H vs.reverse ds.reverse
  | _, _, .nil => .nil
  | _, _, .cons r t => by
    rw [List.reverse_cons, List.reverse_cons]
    exact (Reps.reverse t).append (.cons r .nil)
theorem Reps.set {v : V} {d : D} (r : Rep K cl H v d) : ∀ {vs : List V} {ds : List D} (i : Nat), Reps K cl H vs ds → Reps K cl H (vs.set i v) (ds.set i d)
  | _, _, _, .nil => .nil
  | _, _, 0, .cons _ t => .cons r t
  | _, _, i + 1, .cons q t => .cons q (Reps.set r i t)
theorem Reps.replicate (n : Nat) {vs : List V} {ds : List D} (h : Reps K cl H vs ds) : Reps K cl H (List.replicate n vs).flatten (List.replicate n ds).flatten := by
  induction n with
  | zero => exact .nil
  | succ n ih => simp only [List.replicate_succ, List.flatten_cons]; exact h.append ih
end
section
variable (cl : Glb) (W : WX) (σ : St)
def Pst {α : Type} (Hv H : Hp) (T : Hp → Hp → α → Prop) : R α → Prop
  | .ok d => ∀ Hv' H', Ext cl Hv H Hv' H' → T Hv' H' d
  | .err c => ∀ Hv' H', Ext cl Hv H Hv' H' → W (.ref (cl.c c)) none σ H'
  | .bad => False
end
section
variable {cl : Glb} {W : WX} {σ : St} {Hv H Hv1 H1 : Hp} {α β : Type}
theorem Pst.ext {T : Hp → Hp → α → Prop} {r : R α} (h : Pst cl W σ Hv H T r) (e : Ext cl Hv H Hv1 H1) : Pst cl W σ Hv1 H1 T r := by
  cases r with
  | ok d => exact fun Hv' H' e' => h Hv' H' (e.trans e')
  | err c => exact fun Hv' H' e' => h Hv' H' (e.trans e')
  | bad => exact h
theorem bindP {r : R α} {k : α → R β} {T : Hp → Hp → β → Prop} {T1 : Hp → Hp → α → Prop} (h : Pst cl W σ Hv H T (r.bind k))
    (hk : ∀ a Hv1 H1, r = .ok a → Ext cl Hv H Hv1 H1 → Pst cl W σ Hv1 H1 T (k a) → T1 Hv1 H1 a) : Pst cl W σ Hv H T1 r := by
  cases r with
  | ok d => exact fun Hv' H' e => hk d Hv' H' rfl e (Pst.ext (r := k d) h e)
  | err c => exact h
  | bad => exact h
end
def TV (K : PySem.W.Frag) (cl : Glb) (Q : VK) : Hp → Hp → D → Prop := fun Hv' H' d => ∀ v, Rep K cl Hv' v d → Q v H'
def TVs (K : PySem.W.Frag) (cl : Glb) (Q : List V → Hp → Prop) : Hp → Hp → List D → Prop := fun Hv' H' d => ∀ v, Reps K cl Hv' v d → Q v H'
def TB (Q : Bool → Hp → Prop) : Hp → Hp → Bool → Prop := fun _ H' b => Q b H'

structure ER (K : PySem.W.Frag) (cl : Glb) (Hv : Hp) (ρ : Env) (σ : St) : Prop where
  get : ∀ (i : Nat) d, ρ[i]? = some (some d) → ∃ v, σ[i]? = some (some v) ∧ Rep K cl Hv v d
  len : ρ.length = σ.length
theorem ER.mono {K : PySem.W.Frag} {cl : Glb} {Hv Hv' : Hp} {ρ : Env} {σ : St} (e : ER K cl Hv ρ σ) (s : Sam Hv Hv') : ER K cl Hv' ρ σ :=
  ⟨fun i d h => let ⟨v, h1, h2⟩ := e.get i d h; ⟨v, h1, h2.mono s⟩, e.len⟩

abbrev DE := Env → R D
abbrev DA := Env → R (List D)
abbrev DT := Env → R Bool
section
variable (X : Cx) (W : WX) (cl : Glb)
def RunE (f : DE) (t : TE) : Prop := ∀ (Hv H : Hp) (σ : St) (ρ : Env) (Q : VK), Vw cl Hv H → ER X.K cl Hv ρ σ → Pst cl W σ Hv H (TV X.K cl Q) (f ρ) → t σ H Q
def RunA (f : DA) (t : TA) : Prop := ∀ (Hv H : Hp) (σ : St) (ρ : Env) (Q : List V → Hp → Prop), Vw cl Hv H → ER X.K cl Hv ρ σ → Pst cl W σ Hv H (TVs X.K cl Q) (f ρ) → t σ H Q
def RunT (f : DT) (t : TT) : Prop := ∀ (Hv H : Hp) (σ : St) (ρ : Env) (Q : Bool → Hp → Prop), Vw cl Hv H → ER X.K cl Hv ρ σ → Pst cl W σ Hv H (TB Q) (f ρ) → t σ H Q
def SE (e : Expr) (f : DE) : Prop := ∃ t, PE X e t ∧ RunE X W cl f t
def SA (es : List Expr) (f : DA) : Prop := ∃ t, PA X es t ∧ RunA X W cl f t ∧ ∀ ρ ds, f ρ = .ok ds → ds.length = es.length
def ST (e : Expr) (f : DT) : Prop := ∃ t, PT X e t ∧ RunT X W cl f t
def SW (e : Expr) (f : DT) : Prop := ∃ t, PW X e t ∧ RunT X W cl f t
end
end Sm
namespace Sm
open PySem PySem.Spec L2
def ofO {α : Type} : Option α → R α
  | some a => .ok a
  | none => .bad
theorem ofO_ok {α : Type} {o : Option α} {cl : Glb} {W : WX} {σ : St} {Hv H : Hp} {T : Hp → Hp → α → Prop} (h : Pst cl W σ Hv H T (ofO o)) : ∃ a, o = some a ∧ ∀ Hv' H', Ext cl Hv H Hv' H' → T Hv' H' a := by
  cases o with
  | none => exact h.elim
  | some a => exact ⟨a, rfl, h⟩

mutual
def toPy : D → PyData
  | .non => .none
  | .bl b => .bool b
  | .int i => .int i
  | .str x => .str x
  | .tup xs => .tuple (toPys xs)
  | .lst xs => .list (toPys xs)
  | .dct _ => .dict []
  | .exc _ => .dict []
  | .scr ns => .list (ns.map .int)
  | .scr0 => .dict []
  | .fnv => .dict []
  | .obj _ => .dict []
  | .dcl _ => .dict []
  | .scr1 => .dict []
def toPys : List D → List PyData
  | [] => []
  | x :: xs => toPy x :: toPys xs
end
mutual
def pln : Nat → D → Bool
  | _, .non => true
  | _, .bl _ => true
  | _, .int _ => true
  | _, .str x => PySem.PyData.strOk x
  | n + 1, .tup xs => plns n xs
  | n + 1, .lst xs => plns n xs
  | n + 1, .scr _ => true
  | _, _ => false
def plns : Nat → List D → Bool
  | _, [] => true
  | n, x :: xs => pln n x && plns n xs
end
def deqI (i : Int) : D → Bool
  | .int j => i == j
  | .bl b => i == (if b then 1 else 0)
  | _ => false
def deqIs : List Int → List D → Bool
  | [], [] => true
  | i :: is, d :: ds => deqI i d && deqIs is ds
  | _, _ => false
def deqJ (i : Int) : D → Bool
  | .int j => j == i
  | .bl b => (if b then 1 else 0) == i
  | _ => false
def deqJs : List D → List Int → Bool
  | [], [] => true
  | d :: ds, i :: is => deqJ i d && deqJs ds is
  | _, _ => false
mutual
def deq : D → D → Bool
  | .non, .non => true
  | .bl a, .bl b => a == b
  | .bl a, .int j => (if a then 1 else 0) == j
  | .int i, .bl b => i == (if b then 1 else 0)
  | .int i, .int j => i == j
  | .str x, .str y => x == y
  | .lst xs, .lst ys => deqs xs ys
  | .tup xs, .tup ys => deqs xs ys
  | .scr ns, .lst ys => deqIs ns ys
  | .lst ys, .scr ns => deqJs ys ns
  | .scr ns, .scr ms => ns == ms
  | _, _ => false
def deqs : List D → List D → Bool
  | [], [] => true
  | x :: xs, y :: ys => deq x y && deqs xs ys
  | _, _ => false
end
theorem deqI_py (i : Int) (d : D) : PyData.eqv (.int i) (toPy d) = deqI i d := by cases d <;> simp [toPy, deqI, PyData.eqv]
theorem deqJ_py (i : Int) (d : D) : PyData.eqv (toPy d) (.int i) = deqJ i d := by cases d <;> simp [toPy, deqJ, PyData.eqv]
theorem deqIs_py : ∀ (ns : List Int) (ds : List D), PyData.eqvAll (ns.map .int) (toPys ds) = deqIs ns ds
  | [], [] => by simp [toPys, deqIs, PyData.eqvAll]
  | [], _ :: _ => by simp [toPys, deqIs, PyData.eqvAll]
  | _ :: _, [] => by simp [toPys, deqIs, PyData.eqvAll]
  | n :: ns, d :: ds => by simp only [List.map_cons, toPys, deqIs, PyData.eqvAll]; rw [deqI_py, deqIs_py ns ds]
theorem deqJs_py : ∀ (ds : List D) (ns : List Int), PyData.eqvAll (toPys ds) (ns.map .int) = deqJs ds ns
  | [], [] => by simp [toPys, deqJs, PyData.eqvAll]
  | [], _ :: _ => by simp [toPys, deqJs, PyData.eqvAll]
  | _ :: _, [] => by simp [toPys, deqJs, PyData.eqvAll]
  | d :: ds, n :: ns => by simp only [List.map_cons, toPys, deqJs, PyData.eqvAll]; rw [deqJ_py, deqJs_py ds ns]
theorem eqv_ints : ∀ (ns ms : List Int), PyData.eqvAll (ns.map .int) (ms.map .int) = (ns == ms)
  | [], [] => by simp [PyData.eqvAll]
  | [], _ :: _ => by simp [PyData.eqvAll]
  | _ :: _, [] => by simp [PyData.eqvAll]
  | n :: ns, m :: ms => by
    simp only [List.map_cons, PyData.eqvAll]
    rw [eqv_ints ns ms]
    simp [PyData.eqv]
mutual
theorem deq_py : ∀ a b : D, PyData.eqv (toPy a) (toPy b) = deq a b
  | .non, b => by cases b <;> simp [toPy, deq, PyData.eqv]
  | .bl _, b => by cases b <;> simp [toPy, deq, PyData.eqv]
  | .int _, b => by cases b <;> simp [toPy, deq, PyData.eqv]
  | .str _, b => by cases b <;> simp [toPy, deq, PyData.eqv]
  | .tup xs, b => by
    cases b with
    | tup ys => simp only [toPy, deq, PyData.eqv]; exact deqs_py xs ys
    | _ => simp [toPy, deq, PyData.eqv]
  | .lst xs, b => by
    cases b with
    | lst ys => simp only [toPy, deq, PyData.eqv]; exact deqs_py xs ys
    | scr ys => simp only [toPy, deq, PyData.eqv]; exact deqJs_py xs ys
    | _ => simp [toPy, deq, PyData.eqv]
  | .dct _, b => by cases b <;> simp [toPy, deq, PyData.eqv]
  | .exc _, b => by cases b <;> simp [toPy, deq, PyData.eqv]
  | .scr0, b => by cases b <;> simp [toPy, deq, PyData.eqv]
  | .fnv, b => by cases b <;> simp [toPy, deq, PyData.eqv]
  | .obj _, b => by cases b <;> simp [toPy, deq, PyData.eqv]
  | .dcl _, b => by cases b <;> simp [toPy, deq, PyData.eqv]
  | .scr1, b => by cases b <;> simp [toPy, deq, PyData.eqv]
  | .scr xs, b => by
    cases b with
    | lst ys => simp only [toPy, deq, PyData.eqv]; exact deqIs_py xs ys
    | scr ys => simp only [toPy, deq, PyData.eqv]; exact eqv_ints xs ys
    | _ => simp [toPy, deq, PyData.eqv]
theorem deqs_py : ∀ a b : List D, PyData.eqvAll (toPys a) (toPys b) = deqs a b
  | [], [] => by simp [toPys, deqs, PyData.eqvAll]
  | [], _ :: _ => by simp [toPys, deqs, PyData.eqvAll]
  | _ :: _, [] => by simp [toPys, deqs, PyData.eqvAll]
  | x :: xs, y :: ys => by simp only [toPys, deqs, PyData.eqvAll]; rw [deq_py x y, deqs_py xs ys]
end
theorem ints_lay : ∀ ns : List Int, PyData.canLayAll0 (ns.map .int) = true ∧ PyData.depthAll (ns.map .int) = 0
  | [] => by simp [PyData.canLayAll0, PyData.depthAll]
  | n :: ns => by
    have := ints_lay ns
    simp [PyData.canLayAll0, PyData.depthAll, PyData.canLay0, PyData.depth, this.1, this.2]
mutual
theorem pln_lay : ∀ (n : Nat) (a : D), pln n a = true → (toPy a).canLay0 = true ∧ (toPy a).depth ≤ n
  | _, .non, _ => by simp [toPy, PyData.canLay0, PyData.depth]
  | _, .bl _, _ => by simp [toPy, PyData.canLay0, PyData.depth]
  | _, .int _, _ => by simp [toPy, PyData.canLay0, PyData.depth]
  | _, .str x, h => by
    simp only [pln] at h
    simp [toPy, PyData.canLay0, PyData.depth, h]
  | 0, .tup xs, h => by simp [pln] at h
  | 0, .lst xs, h => by simp [pln] at h
  | n + 1, .tup xs, h => by
    simp only [pln] at h
    have := plns_lay n xs h
    simp only [toPy, PyData.canLay0, PyData.depth]
    exact ⟨this.1, by omega⟩
  | n + 1, .lst xs, h => by
    simp only [pln] at h
    have := plns_lay n xs h
    simp only [toPy, PyData.canLay0, PyData.depth]
    exact ⟨this.1, by omega⟩
  | 0, .scr xs, h => by simp [pln] at h
  | n + 1, .scr xs, h => by
    have := ints_lay xs
    simp only [toPy, PyData.canLay0, PyData.depth]
    exact ⟨this.1, by omega⟩
  | 0, .dct _, h => by simp [pln] at h
  | _ + 1, .dct _, h => by simp [pln] at h
  | 0, .exc _, h => by simp [pln] at h
  | _ + 1, .exc _, h => by simp [pln] at h
  | 0, .scr0, h => by simp [pln] at h
  | 0, .fnv, h => by simp [pln] at h
  | 0, .obj _, h => by simp [pln] at h
  | 0, .dcl _, h => by simp [pln] at h
  | 0, .scr1, h => by simp [pln] at h
  | _ + 1, .scr0, h => by simp [pln] at h
  | _ + 1, .fnv, h => by simp [pln] at h
  | _ + 1, .obj _, h => by simp [pln] at h
  | _ + 1, .dcl _, h => by simp [pln] at h
  | _ + 1, .scr1, h => by simp [pln] at h
theorem plns_lay : ∀ (n : Nat) (a : List D), plns n a = true → PyData.canLayAll0 (toPys a) = true ∧ PyData.depthAll (toPys a) ≤ n
  | n, [], _ => by simp [toPys, PyData.canLayAll0, PyData.depthAll]
  | n, x :: xs, h => by
    simp only [plns, Bool.and_eq_true] at h
    have h1 := pln_lay n x h.1
    have h2 := plns_lay n xs h.2
    simp only [toPys, PyData.canLayAll0, PyData.depthAll, Bool.and_eq_true]
    exact ⟨⟨h1.1, h2.1⟩, by omega⟩
end
theorem pln_shaped {a : D} (h : pln 64 a = true) : SeqAt.shaped (toPy a) = true := by
  have := pln_lay 64 a h
  unfold SeqAt.shaped
  rw [this.1, decide_eq_true this.2]; rfl
section
variable {K : PySem.W.Frag} {cl : Glb} {H : Hp}
theorem dp_ints : ∀ ns : List Int, DpAll K H (ns.map V.int) (ns.map PyData.int)
  | [] => .nil
  | n :: ns => .cons (.int n) (dp_ints ns)
mutual
theorem Rep.dp : ∀ {n : Nat} {v : V} {d : D}, Rep K cl H v d → pln n d = true → Dp K H v (toPy d)
  | _, _, _, .non, _ => by simp only [toPy]; exact .non
  | _, _, _, .bl b, _ => by simp only [toPy]; exact .bl b
  | _, _, _, .int b, _ => by simp only [toPy]; exact .int b
  | _, _, _, .str b, _ => by simp only [toPy]; exact .str b
  | 0, _, _, .lst h _ r, p => by simp [pln] at p
  | 0, _, _, .tup h _ r, p => by simp [pln] at p
  | n + 1, _, _, .lst h _ r, p => by
    simp only [pln] at p
    simp only [toPy]
    exact .lst (.inl (.inl h)) (Reps.dp (n := n) r p)
  | 0, _, _, .scr h _, p => by simp [pln] at p
  | n + 1, _, _, .scr h _, p => by
    simp only [toPy]
    exact .lst h (dp_ints _)
  | n + 1, _, _, .tup h _ r, p => by
    simp only [pln] at p
    simp only [toPy]
    exact .tup (sqT_of h) (Reps.dp (n := n) r p)
  | 0, _, _, .exc _, p => by simp [pln] at p
  | _ + 1, _, _, .exc _, p => by simp [pln] at p
  | 0, _, _, .scr0 _ _, p => by simp [pln] at p
  | 0, _, _, .fnv _, p => by simp [pln] at p
  | 0, _, _, .obj _, p => by simp [pln] at p
  | 0, _, _, .dclK _ _, p => by simp [pln] at p
  | 0, _, _, .dclT _ _ _, p => by simp [pln] at p
  | 0, _, _, .scr1 _ _, p => by simp [pln] at p
  | _ + 1, _, _, .scr0 _ _, p => by simp [pln] at p
  | _ + 1, _, _, .fnv _, p => by simp [pln] at p
  | _ + 1, _, _, .obj _, p => by simp [pln] at p
  | _ + 1, _, _, .dclK _ _, p => by simp [pln] at p
  | _ + 1, _, _, .dclT _ _ _, p => by simp [pln] at p
  | _ + 1, _, _, .scr1 _ _, p => by simp [pln] at p
theorem Reps.dp : ∀ {n : Nat} {vs : List V} {ds : List D}, Reps K cl H vs ds → plns n ds = true → DpAll K H vs (toPys ds)
  | _, _, _, .nil, _ => by simp only [toPys]; exact .nil
  | n, _, _, .cons r t, p => by
    simp only [plns, Bool.and_eq_true] at p
    simp only [toPys]
    exact .cons (Rep.dp (n := n) r p.1) (Reps.dp (n := n) t p.2)
end
end
section
variable (X : Cx) (cl : Glb)
def OpS (f : Value → Value → Sem Value) (o : D → D → Option D) : Prop := ∃ r, OpR X f r ∧ ∀ (Hv H : Hp) (x y : V) (a b d : D) (Q : VK), Vw cl Hv H → Rep X.K cl Hv x a → Rep X.K cl Hv y b → o a b = some d →
  (∀ v Hv' H', Ext cl Hv H Hv' H' → Rep X.K cl Hv' v d → Q v H') → r x y H Q
end
theorem OpR.or {X : Cx} {f : Value → Value → Sem Value} {r r' : R2} (h : OpR X f r) (h' : OpR X f r') : OpR X f (fun x y H Q => r x y H Q ∨ r' x y H Q) := by
  intro pins s σ H x y v u Q I rx ry q
  rcases q with q | q
  · exact h pins s σ H x y v u Q I rx ry q
  · exact h' pins s σ H x y v u Q I rx ry q
def orO (o o' : D → D → Option D) : D → D → Option D := fun a b => match o a b with | some d => some d | none => o' a b
theorem OpS.or {X : Cx} {cl : Glb} {f : Value → Value → Sem Value} {o o' : D → D → Option D} (h : OpS X cl f o) (h' : OpS X cl f o') : OpS X cl f (orO o o') := by
  obtain ⟨r, hr, hs⟩ := h
  obtain ⟨r', hr', hs'⟩ := h'
  refine ⟨_, OpR.or hr hr', fun Hv H x y a b d Q vw rx ry e q => ?_⟩
  unfold orO at e
  split at e
  · rename_i d' e'
    cases e
    exact .inl (hs Hv H x y a b _ Q vw rx ry e' q)
  · exact .inr (hs' Hv H x y a b _ Q vw rx ry e q)
theorem OpS.imp {X : Cx} {cl : Glb} {f : Value → Value → Sem Value} {o o' : D → D → Option D} (h : OpS X cl f o) (h' : ∀ a b d, o' a b = some d → o a b = some d) : OpS X cl f o' := by
  obtain ⟨r, hr, hs⟩ := h
  exact ⟨r, hr, fun Hv H x y a b d Q vw rx ry e q => hs Hv H x y a b d Q vw rx ry (h' _ _ _ e) q⟩
section
variable {X : Cx} {cl : Glb}
theorem new_tup {Hv H : Hp} {Q : VK} {xs : List V} {ds : List D} (vw : Vw cl Hv H) (r : Reps X.K cl Hv xs ds) (z : xs.length ≤ sizeLine) (q : ∀ v Hv' H', Ext cl Hv H Hv' H' → Rep X.K cl Hv' v (.tup ds) → Q v H') :
    ∀ p, H p = none → Q (.ref p) (upd H p (.tup xs)) := fun p hp =>
  q _ _ _ (Ext.new vw hp) (.tup upd_same z (r.mono (Ext.new vw hp).vv))
theorem new_lst {Hv H : Hp} {Q : VK} {xs : List V} {ds : List D} (vw : Vw cl Hv H) (r : Reps X.K cl Hv xs ds) (z : xs.length ≤ sizeLine) (q : ∀ v Hv' H', Ext cl Hv H Hv' H' → Rep X.K cl Hv' v (.lst ds) → Q v H') :
    ∀ p, H p = none → Q (.ref p) (upd H p (.lst xs)) := fun p hp =>
  q _ _ _ (Ext.new vw hp) (.lst upd_same z (r.mono (Ext.new vw hp).vv))

def oAddI : D → D → Option D | .int i, .int j => some (.int (i + j)) | _, _ => none
def oSubI : D → D → Option D | .int i, .int j => some (.int (i - j)) | _, _ => none
def mulOk (i j : Int) : Bool := decide (i.natAbs.log2 + j.natAbs.log2 < 1000000) || decide (-(2 ^ 64) < i ∧ i < 2 ^ 64) || decide (-(2 ^ 64) < j ∧ j < 2 ^ 64)
def oMulI : D → D → Option D | .int i, .int j => if mulOk i j then some (.int (i * j)) else none | _, _ => none
def oDivI : D → D → Option D | .int i, .int j => if j ≠ 0 ∧ j.natAbs.log2 < 9000 then some (.int (i.fdiv j)) else none | _, _ => none
def oModI : D → D → Option D | .int i, .int j => if j ≠ 0 then some (.int (i.fmod j)) else none | _, _ => none
def oLt : D → D → Option D | .int i, .int j => some (.bl (decide (i < j))) | _, _ => none
def oLe : D → D → Option D | .int i, .int j => some (.bl (decide (i ≤ j))) | _, _ => none
def oGt : D → D → Option D | .int i, .int j => some (.bl (decide (j < i))) | _, _ => none
def oGe : D → D → Option D | .int i, .int j => some (.bl (decide (j ≤ i))) | _, _ => none
def oCatS : D → D → Option D | .str x, .str y => if x.length + y.length ≤ sizeLine then some (.str (x ++ y)) else none | _, _ => none
def oCatT : D → D → Option D | .tup x, .tup y => if x.length + y.length ≤ sizeLine then some (.tup (x ++ y)) else none | _, _ => none
def oCatL : D → D → Option D | .lst x, .lst y => if x.length + y.length ≤ sizeLine then some (.lst (x ++ y)) else none | _, _ => none
def oEq : D → D → Option D := fun a b => if pln 64 a && pln 64 b then some (.bl (deq a b)) else none
def oNe : D → D → Option D := fun a b => if pln 64 a && pln 64 b then some (.bl (!deq a b)) else none

theorem opI_of {f : Value → Value → Sem Value} {g : Int → Int → V} {h : Int → Int → D} {o : D → D → Option D} (hr : OpR X f (rI0 g)) (hg : ∀ i j H, Rep X.K cl H (g i j) (h i j))
    (ho : ∀ a b d, o a b = some d → ∃ i j, a = .int i ∧ b = .int j ∧ d = h i j) : OpS X cl f o := by
  refine ⟨_, hr, fun Hv H x y a b d Q vw rx ry e q => ?_⟩
  obtain ⟨i, j, rfl, rfl, rfl⟩ := ho a b d e
  cases rx
  cases ry
  exact ⟨i, j, rfl, rfl, q _ _ _ (Ext.refl vw) (hg i j _)⟩
theorem opI_ofC {f : Value → Value → Sem Value} {C : Int → Int → Prop} {g : Int → Int → V} {h : Int → Int → D} {o : D → D → Option D} (hr : OpR X f (rI C g)) (hg : ∀ i j H, Rep X.K cl H (g i j) (h i j))
    (ho : ∀ a b d, o a b = some d → ∃ i j, a = .int i ∧ b = .int j ∧ C i j ∧ d = h i j) : OpS X cl f o := by
  refine ⟨_, hr, fun Hv H x y a b d Q vw rx ry e q => ?_⟩
  obtain ⟨i, j, rfl, rfl, hc, rfl⟩ := ho a b d e
  cases rx
  cases ry
  exact ⟨i, j, rfl, rfl, hc, q _ _ _ (Ext.refl vw) (hg i j _)⟩
theorem os_add : OpS X cl (binaryOp .Add) oAddI := opI_of (h := fun i j => .int (i + j)) op_add (fun _ _ _ => .int _) fun a b d e => by
  cases a <;> cases b <;> simp [oAddI] at e
  subst e; exact ⟨_, _, rfl, rfl, rfl⟩
theorem os_sub : OpS X cl (binaryOp .Sub) oSubI := opI_of (h := fun i j => .int (i - j)) op_sub (fun _ _ _ => .int _) fun a b d e => by
  cases a <;> cases b <;> simp [oSubI] at e
  subst e; exact ⟨_, _, rfl, rfl, rfl⟩
theorem os_lt : OpS X cl (compareOp .Lt) oLt := opI_of (h := fun i j => .bl (decide (i < j))) op_lt (fun _ _ _ => .bl _) fun a b d e => by
  cases a <;> cases b <;> simp [oLt] at e
  subst e; exact ⟨_, _, rfl, rfl, rfl⟩
theorem os_le : OpS X cl (compareOp .LtE) oLe := opI_of (h := fun i j => .bl (decide (i ≤ j))) op_le (fun _ _ _ => .bl _) fun a b d e => by
  cases a <;> cases b <;> simp [oLe] at e
  subst e; exact ⟨_, _, rfl, rfl, rfl⟩
theorem os_gt : OpS X cl (compareOp .Gt) oGt := opI_of (h := fun i j => .bl (decide (j < i))) op_gt (fun _ _ _ => .bl _) fun a b d e => by
  cases a <;> cases b <;> simp [oGt] at e
  subst e; exact ⟨_, _, rfl, rfl, rfl⟩
def CMulX (i j : Int) : Prop := mulOk i j = true
theorem op_mulX : OpR X (binaryOp .Mult) (rI CMulX fun i j => .int (i * j)) := opI fun i j _ _ _ _ _ hc q => by
  unfold CMulX mulOk at hc
  rw [Bool.or_eq_true, Bool.or_eq_true] at hc
  rcases hc with (h | h) | h
  · have h' : i.natAbs.log2 + j.natAbs.log2 < 1000000 := of_decide_eq_true h
    exact PyProof.Rows.mul_int q (CMulW.ok (i := i) (j := j) h')
  · exact PyProof.Rows.mul_int q (CMul.ok (.inl (of_decide_eq_true h)))
  · exact PyProof.Rows.mul_int q (CMul.ok (.inr (of_decide_eq_true h)))
theorem os_mul : OpS X cl (binaryOp .Mult) oMulI := opI_ofC (h := fun i j => .int (i * j)) op_mulX (fun _ _ _ => .int _) fun a b d e => by
  cases a <;> cases b <;> simp [oMulI] at e
  obtain ⟨h1, rfl⟩ := e; exact ⟨_, _, rfl, rfl, h1, rfl⟩
theorem op_divX : OpR X (binaryOp .FloorDiv) (rI (fun _ j => j ≠ 0 ∧ j.natAbs.log2 < 9000) fun i j => .int (i.fdiv j)) := opI fun i j _ _ _ _ _ hc q =>
  PyProof.Rows.floordiv_int hc.1 q (.inl (PyProof.noPylong_of_log2 hc.2))
theorem os_div : OpS X cl (binaryOp .FloorDiv) oDivI := opI_ofC (h := fun i j => .int (i.fdiv j)) op_divX (fun _ _ _ => .int _) fun a b d e => by
  cases a <;> cases b <;> simp [oDivI] at e
  obtain ⟨h1, rfl⟩ := e; exact ⟨_, _, rfl, rfl, h1, rfl⟩
theorem os_mod : OpS X cl (binaryOp .Mod) oModI := opI_ofC (h := fun i j => .int (i.fmod j)) op_modN (fun _ _ _ => .int _) fun a b d e => by
  cases a <;> cases b <;> simp [oModI] at e
  obtain ⟨h1, rfl⟩ := e; exact ⟨_, _, rfl, rfl, h1, rfl⟩
theorem os_catS : OpS X cl (binaryOp .Add) oCatS := by
  refine ⟨_, op_add_str, fun Hv H x y a b d Q vw rx ry e q => ?_⟩
  cases a <;> cases b <;> simp [oCatS] at e
  obtain ⟨h1, rfl⟩ := e
  cases rx; cases ry
  exact ⟨_, _, rfl, rfl, h1, q _ _ _ (Ext.refl vw) (.str _)⟩
theorem os_catT : OpS X cl (binaryOp .Add) oCatT := by
  refine ⟨_, op_catA, fun Hv H x y a b d Q vw rx ry e q => ?_⟩
  cases a <;> cases b <;> simp [oCatT] at e
  obtain ⟨h1, rfl⟩ := e
  cases rx with
  | tup s1 z1 r1 =>
    cases ry with
    | tup s2 z2 r2 =>
      have e1 := r1.length
      have e2 := r2.length
      refine ⟨_, _, _, _, rfl, rfl, vw.s.sqU s1, vw.s.sqU s2, by omega, fun h => ?_, fun h h' => ?_, fun h h' => ?_⟩
      · subst h; cases r1
        exact q _ _ _ (Ext.refl vw) (.tup s2 z2 r2)
      · subst h'; cases r2
        rw [List.append_nil] at q
        exact q _ _ _ (Ext.refl vw) (.tup s1 z1 r1)
      · exact new_tup vw (r1.append r2) (by rw [List.length_append]; omega) q
theorem os_catL : OpS X cl (binaryOp .Add) oCatL := by
  refine ⟨_, op_cat, fun Hv H x y a b d Q vw rx ry e q => ?_⟩
  cases a <;> cases b <;> simp [oCatL] at e
  obtain ⟨h1, rfl⟩ := e
  cases rx with
  | lst s1 z1 r1 =>
    cases ry with
    | lst s2 z2 r2 =>
      have e1 := r1.length
      have e2 := r2.length
      exact ⟨_, _, _, _, rfl, rfl, vw.s _ _ s1 rfl, vw.s _ _ s2 rfl, by omega, new_lst vw (r1.append r2) (by rw [List.length_append]; omega) q⟩
theorem os_eq (hu : X.A.units + 64 < cLine) : OpS X cl (compareOp .Eq) oEq := by
  refine ⟨_, op_eqD hu, fun Hv H x y a b d Q vw rx ry e q => ?_⟩
  unfold oEq at e
  split at e
  · rename_i h
    cases e
    rw [Bool.and_eq_true] at h
    refine ⟨toPy a, toPy b, (rx.mono vw.s).dp h.1, (ry.mono vw.s).dp h.2, pln_shaped h.1, pln_shaped h.2, ?_⟩
    rw [deq_py]
    exact q _ _ _ (Ext.refl vw) (.bl _)
  · cases e
theorem os_ne (hu : X.A.units + 64 < cLine) : OpS X cl (compareOp .NotEq) oNe := by
  refine ⟨_, op_neD hu, fun Hv H x y a b d Q vw rx ry e q => ?_⟩
  unfold oNe at e
  split at e
  · rename_i h
    cases e
    rw [Bool.and_eq_true] at h
    refine ⟨toPy a, toPy b, (rx.mono vw.s).dp h.1, (ry.mono vw.s).dp h.2, pln_shaped h.1, pln_shaped h.2, ?_⟩
    rw [deq_py]
    exact q _ _ _ (Ext.refl vw) (.bl _)
  · cases e
def oAdd : D → D → Option D
  | .int i, .int j => some (.int (i + j))
  | .str x, .str y => if x.length + y.length ≤ sizeLine then some (.str (x ++ y)) else none
  | .tup x, .tup y => if x.length + y.length ≤ sizeLine then some (.tup (x ++ y)) else none
  | .lst x, .lst y => if x.length + y.length ≤ sizeLine then some (.lst (x ++ y)) else none
  | _, _ => none
theorem os_plus : OpS X cl (binaryOp .Add) oAdd := (os_add.or (os_catS.or (os_catT.or os_catL))).imp fun a b d e => by
  unfold orO
  cases a <;> cases b <;> simp [oAdd] at e <;> simp [oAddI, oCatS, oCatT, oCatL, e]
end
end Sm
namespace Sm
open PySem PySem.Spec L2
section
variable {X : Cx} {W : WX} {cl : Glb} {pos p : Pos} {a b c e : Expr} {es : List Expr} {fa fb fc : DE}
def dVar (i : Nat) : DE := fun ρ => match ρ[i]? with | some (some d) => .ok d | _ => .bad
def dC (d : D) : DE := fun _ => .ok d
theorem se_var (i : Nat) {x : Str} (hN : X.N[i]? = some x := by rfl) (hv : Vis X.env.scope x := by first | exact Or.inl rfl | exact Or.inr (Or.inl rfl) | exact Or.inr (Or.inr rfl)) (hd : (x == ("__debug__" : Str)) = false := by decide)
    (hcd : (x == ("__classdict__" : Str)) = false := by decide) : SE X W cl (.Name x pos) (dVar i) := by
  refine ⟨_, pe_var hN hv hd hcd, fun Hv H σ ρ Q vw er pv => ?_⟩
  unfold dVar at pv
  split at pv
  · rename_i d h
    obtain ⟨v, h1, h2⟩ := er.get i d h
    exact ⟨v, h1, pv _ _ (Ext.refl vw) v h2⟩
  · exact pv.elim
theorem se_const {e : Expr} {v : V} {d : D} (h : PE X e (tC v)) (r : ∀ H, Rep X.K cl H v d) : SE X W cl e (dC d) :=
  ⟨_, h, fun _ _ _ _ _ vw _ pv => pv _ _ (Ext.refl vw) v (r _)⟩
theorem se_int {i : Int} {j : Nat} : SE X W cl (.Constant (.int i) j pos) (dC (.int i)) := se_const pe_int fun _ => .int i
theorem se_bl {i : Bool} {j : Nat} : SE X W cl (.Constant (.bool i) j pos) (dC (.bl i)) := se_const pe_bl fun _ => .bl i
theorem se_non {j : Nat} : SE X W cl (.Constant .none j pos) (dC .non) := se_const pe_non fun _ => .non
theorem se_str {i : Str} {j : Nat} : SE X W cl (.Constant (.str i) j pos) (dC (.str i)) := se_const pe_str fun _ => .str i
theorem se_globI {x : Str} {i : Int} {t : Tok} (hg : Gl X x) (hm : X.mg x = some (.int i t)) (hd : (x == ("__debug__" : Str)) = false := by decide) : SE X W cl (.Name x pos) (dC (.int i)) :=
  se_const (pe_glob (v := .int i) hg hm ⟨t, rfl⟩ hd) fun _ => .int i
def dBin (o : D → D → Option D) (fa fb : DE) : DE := fun ρ => (fa ρ).bind fun a => (fb ρ).bind fun b => ofO (o a b)
theorem bin_run {o : D → D → Option D} {r : R2} {ta tb : TE} (hs : ∀ (Hv H : Hp) (x y : V) (a b d : D) (Q : VK), Vw cl Hv H → Rep X.K cl Hv x a → Rep X.K cl Hv y b → o a b = some d →
      (∀ v Hv' H', Ext cl Hv H Hv' H' → Rep X.K cl Hv' v d → Q v H') → r x y H Q)
    (ha : RunE X W cl fa ta)
    (hb : RunE X W cl fb tb)
    : RunE X W cl (dBin o fa fb) (tOp r ta tb) := by
  intro Hv H σ ρ Q vw er pv
  refine ha Hv H σ ρ _ vw er (bindP pv fun x Hv1 H1 _ e1 pv1 v rv => ?_)
  refine hb Hv1 H1 σ ρ _ e1.vh (er.mono e1.vv) (bindP pv1 fun y Hv2 H2 _ e2 pv2 u ru => ?_)
  obtain ⟨d, ed, q⟩ := ofO_ok pv2
  exact hs Hv2 H2 v u x y d Q e2.vh (rv.mono e2.vv) ru ed fun v' Hv' H' e' r' => q Hv' H' e' v' r'
theorem se_op {op : Operator} {o : D → D → Option D} (ho : OpS X cl (binaryOp op) o) (ha : SE X W cl a fa) (hb : SE X W cl b fb) : SE X W cl (.BinOp a op b pos) (dBin o fa fb) := by
  obtain ⟨r, hr, hs⟩ := ho
  obtain ⟨ta, pa, ha⟩ := ha
  obtain ⟨tb, pb, hb⟩ := hb
  exact ⟨_, pe_op hr pa pb, bin_run hs ha hb⟩
theorem se_cmp {op : CmpOp} {o : D → D → Option D} (ho : OpS X cl (compareOp op) o) (ha : SE X W cl a fa) (hb : SE X W cl b fb) (hm : behindInMarks op b = false := by rfl) : SE X W cl (.Compare a [op] [b] pos) (dBin o fa fb) := by
  obtain ⟨r, hr, hs⟩ := ho
  obtain ⟨ta, pa, ha⟩ := ha
  obtain ⟨tb, pb, hb⟩ := hb
  exact ⟨_, pe_cmpR hr pa pb hm, bin_run hs ha hb⟩
def asB : DE → DT := fun f ρ => (f ρ).bind fun d => match d with | .bl b => .ok b | _ => .bad
theorem tTest_run {fa : DE} {ta : TE} (ha : RunE X W cl fa ta) : RunT X W cl (asB fa) (tTest ta) := by
  intro Hv H σ ρ Q vw er pv
  refine ha Hv H σ ρ _ vw er (bindP pv fun x Hv1 H1 _ e1 pv1 v rv => ?_)
  cases x with
  | bl k =>
    cases rv
    exact ⟨k, rfl, pv1 _ _ (Ext.refl e1.vh)⟩
  | _ => exact pv1.elim
theorem st_cmp {op : CmpOp} {o : D → D → Option D} (ho : OpS X cl (compareOp op) o) (ha : SE X W cl a fa) (hb : SE X W cl b fb) (hm : behindInMarks op b = false := by rfl) : ST X W cl (.Compare a [op] [b] pos) (asB (dBin o fa fb)) := by
  obtain ⟨r, hr, hs⟩ := ho
  obtain ⟨ta, pa, ha⟩ := ha
  obtain ⟨tb, pb, hb⟩ := hb
  exact ⟨_, pt_cmpR hr pa pb hm, tTest_run (bin_run hs ha hb)⟩
def dChain (o o' : D → D → Option D) (fa fb fc : DE) : DE := fun ρ => (fa ρ).bind fun a => (fb ρ).bind fun b => (ofO (o a b)).bind fun k => match k with
  | .bl true => (fc ρ).bind fun c => ofO (o' b c)
  | .bl false => .ok (.bl false)
  | _ => .bad
theorem chain_run {o o' : D → D → Option D} {r r' : R2} {ta tb tc : TE} (hs : ∀ (Hv H : Hp) (x y : V) (a b d : D) (Q : VK), Vw cl Hv H → Rep X.K cl Hv x a → Rep X.K cl Hv y b → o a b = some d →
      (∀ v Hv' H', Ext cl Hv H Hv' H' → Rep X.K cl Hv' v d → Q v H') → r x y H Q) (hs' : ∀ (Hv H : Hp) (x y : V) (a b d : D) (Q : VK), Vw cl Hv H → Rep X.K cl Hv x a → Rep X.K cl Hv y b → o' a b = some d →
      (∀ v Hv' H', Ext cl Hv H Hv' H' → Rep X.K cl Hv' v d → Q v H') → r' x y H Q)
    (ha : RunE X W cl fa ta) (hb : RunE X W cl fb tb) (hc : RunE X W cl fc tc) : RunE X W cl (dChain o o' fa fb fc) (tChain r r' ta tb tc) := by
  intro Hv H σ ρ Q vw er pv
  refine ha Hv H σ ρ _ vw er (bindP pv fun x Hv1 H1 _ e1 pv1 v rv => ?_)
  refine hb Hv1 H1 σ ρ _ e1.vh (er.mono e1.vv) (bindP pv1 fun y Hv2 H2 _ e2 pv2 u ru => ?_)
  cases eo : o x y with
  | none => rw [eo] at pv2; exact pv2.elim
  | some d =>
    rw [eo] at pv2
    refine hs Hv2 H2 v u x y d _ e2.vh (rv.mono e2.vv) ru eo fun z Hv3 H3 e3 rz => ?_
    cases d with
    | bl k =>
      cases rz
      refine ⟨k, rfl, ?_⟩
      have pv3 := Pst.ext pv2 e3
      cases k with
      | false =>
        rw [if_neg Bool.false_ne_true]
        exact pv3 _ _ (Ext.refl e3.vh) _ (.bl false)
      | true =>
        rw [if_pos rfl]
        refine hc Hv3 H3 σ ρ _ e3.vh (((er.mono e1.vv).mono e2.vv).mono e3.vv) (bindP (show Pst cl W σ Hv3 H3 (TV X.K cl Q) ((fc ρ).bind fun c => ofO (o' y c)) from pv3) fun w Hv4 H4 _ e4 pv4 t rt => ?_)
        obtain ⟨d', ed, q⟩ := ofO_ok pv4
        exact hs' Hv4 H4 u t y w d' Q e4.vh ((ru.mono e3.vv).mono e4.vv) rt ed fun v' Hv' H' e' r' => q Hv' H' e' v' r'
    | _ => exact pv2.elim
theorem se_chain {op op' : CmpOp} {o o' : D → D → Option D} (ho : OpS X cl (compareOp op) o) (ho' : OpS X cl (compareOp op') o') (ha : SE X W cl a fa) (hb : SE X W cl b fb) (hc : SE X W cl c fc) (hm : lastMarks [op, op'] [b, c] = false := by rfl) :
    SE X W cl (.Compare a [op, op'] [b, c] pos) (dChain o o' fa fb fc) := by
  obtain ⟨r, hr, hs⟩ := ho
  obtain ⟨r', hr', hs'⟩ := ho'
  obtain ⟨ta, pa, ha⟩ := ha
  obtain ⟨tb, pb, hb⟩ := hb
  obtain ⟨tc, pc, hc⟩ := hc
  exact ⟨_, pe_chain hr hr' pa pb pc hm, chain_run hs hs' ha hb hc⟩
theorem st_chain {op op' : CmpOp} {o o' : D → D → Option D} (ho : OpS X cl (compareOp op) o) (ho' : OpS X cl (compareOp op') o') (ha : SE X W cl a fa) (hb : SE X W cl b fb) (hc : SE X W cl c fc) (hm : lastMarks [op, op'] [b, c] = false := by rfl) :
    ST X W cl (.Compare a [op, op'] [b, c] pos) (asB (dChain o o' fa fb fc)) := by
  obtain ⟨r, hr, hs⟩ := ho
  obtain ⟨r', hr', hs'⟩ := ho'
  obtain ⟨ta, pa, ha⟩ := ha
  obtain ⟨tb, pb, hb⟩ := hb
  obtain ⟨tc, pc, hc⟩ := hc
  exact ⟨_, pt_chain hr hr' pa pb pc hm, tTest_run (chain_run hs hs' ha hb hc)⟩

def tru : D → Option Bool
  | .non => some false
  | .bl b => some b
  | .int i => some (i != 0)
  | .str x => if x.length ≤ sizeLine then some ((x.length : Int) != 0) else none
  | .tup xs => some (!xs.isEmpty)
  | .lst xs => some (!xs.isEmpty)
  | _ => none
theorem reps_isEmpty {K : PySem.W.Frag} {H : Hp} {xs : List V} {ds : List D} (r : Reps K cl H xs ds) : (!xs.isEmpty) = !ds.isEmpty := by cases r <;> rfl
theorem tru_rep {K : PySem.W.Frag} {Hv H : Hp} {v : V} {d : D} {k : Bool} (vw : Vw cl Hv H) (r : Rep K cl Hv v d) (h : tru d = some k) : TruV K v H k := by
  cases r with
  | non => exact (Option.some.inj h).symm
  | bl b => exact (Option.some.inj h).symm
  | int b => exact (Option.some.inj h).symm
  | str b =>
    simp only [tru] at h
    split at h
    · exact ⟨by assumption, (Option.some.inj h).symm⟩
    · cases h
  | lst s z r => exact .inl ⟨_, .inl (.inl (vw.s _ _ s rfl)), by rw [reps_isEmpty r]; exact (Option.some.inj h).symm⟩
  | tup s z r => exact .inr (.inl ⟨_, vw.s.sqU s, by rw [reps_isEmpty r]; exact (Option.some.inj h).symm⟩)
  | scr _ _ => cases h
  | scr0 _ _ => cases h
  | fnv _ => cases h
  | obj _ => cases h
  | dclK _ _ => cases h
  | dclT _ _ _ => cases h
  | scr1 _ _ => cases h
  | exc _ => cases h
  | dctK _ _ => cases h
  | dctT _ _ _ => cases h
def dTru (f : DE) : DT := fun ρ => (f ρ).bind fun d => ofO (tru d)
theorem st_truth (ha : SE X W cl a fa) (he : ∀ whole, isTrue a X.env whole = (do let v ← whole; standAt a.pos; holding [v] (truthy v)) := by intro _; rfl) : ST X W cl a (dTru fa) := by
  obtain ⟨ta, pa, ha⟩ := ha
  refine ⟨_, pt_truth pa he, fun Hv H σ ρ Q vw er pv => ?_⟩
  refine ha Hv H σ ρ _ vw er (bindP pv fun x Hv1 H1 _ e1 pv1 v rv => ?_)
  obtain ⟨k, ek, q⟩ := ofO_ok pv1
  exact ⟨k, tru_rep e1.vh rv ek, q _ _ (Ext.refl e1.vh)⟩
def dNotT (f : DT) : DT := fun ρ => (f ρ).bind fun b => .ok (!b)
theorem st_not {f : DT} (ha : ST X W cl a f) : ST X W cl (.UnaryOp .Not a pos) (dNotT f) := by
  obtain ⟨ta, pa, ha⟩ := ha
  refine ⟨_, pt_not pa, fun Hv H σ ρ Q vw er pv => ?_⟩
  exact ha Hv H σ ρ _ vw er (bindP pv fun x Hv1 H1 _ e1 pv1 => pv1 _ _ (Ext.refl e1.vh))
def dAndT (f g : DT) : DT := fun ρ => (f ρ).bind fun b => match b with | true => g ρ | false => .ok false
def dOrT (f g : DT) : DT := fun ρ => (f ρ).bind fun b => match b with | true => .ok true | false => g ρ
theorem sw_one {f : DT} {op : BoolOp} (ha : ST X W cl a f) : SW X W cl (.BoolOp op [a] pos) f := by
  obtain ⟨ta, pa, ha⟩ := ha
  cases op with
  | And => exact ⟨_, pw_and1 pa, ha⟩
  | Or => exact ⟨_, pw_or1 pa, ha⟩
theorem sw_and {f g : DT} (ha : ST X W cl a f) (hb : SW X W cl (.BoolOp .And (b :: es) pos) g) : SW X W cl (.BoolOp .And (a :: b :: es) pos) (dAndT f g) := by
  obtain ⟨ta, pa, ha⟩ := ha
  obtain ⟨tb, pb, hb⟩ := hb
  refine ⟨_, pw_and pa pb, fun Hv H σ ρ Q vw er pv => ?_⟩
  refine ha Hv H σ ρ _ vw er (bindP pv fun x Hv1 H1 _ e1 pv1 => ?_)
  show if x = true then tb σ H1 Q else Q false H1
  cases x with
  | true => rw [if_pos rfl]; exact hb Hv1 H1 σ ρ Q e1.vh (er.mono e1.vv) pv1
  | false => rw [if_neg Bool.false_ne_true]; exact pv1 _ _ (Ext.refl e1.vh)
theorem sw_or {f g : DT} (ha : ST X W cl a f) (hb : SW X W cl (.BoolOp .Or (b :: es) pos) g) : SW X W cl (.BoolOp .Or (a :: b :: es) pos) (dOrT f g) := by
  obtain ⟨ta, pa, ha⟩ := ha
  obtain ⟨tb, pb, hb⟩ := hb
  refine ⟨_, pw_or pa pb, fun Hv H σ ρ Q vw er pv => ?_⟩
  refine ha Hv H σ ρ _ vw er (bindP pv fun x Hv1 H1 _ e1 pv1 => ?_)
  show if x = true then Q true H1 else tb σ H1 Q
  cases x with
  | true => rw [if_pos rfl]; exact pv1 _ _ (Ext.refl e1.vh)
  | false => rw [if_neg Bool.false_ne_true]; exact hb Hv1 H1 σ ρ Q e1.vh (er.mono e1.vv) pv1
theorem SW.st {f : DT} (h : SW X W cl e f) : ST X W cl e f := by
  obtain ⟨t, pt, h⟩ := h
  exact ⟨t, pt.pt, h⟩
def dAnd (f g : DE) : DE := fun ρ => (f ρ).bind fun x => (ofO (tru x)).bind fun k => match k with | true => g ρ | false => .ok x
def dOr (f g : DE) : DE := fun ρ => (f ρ).bind fun x => (ofO (tru x)).bind fun k => match k with | true => .ok x | false => g ρ
def dNot (f : DE) : DE := fun ρ => (f ρ).bind fun x => (ofO (tru x)).bind fun k => .ok (.bl (!k))
theorem se_one {op : BoolOp} (ha : SE X W cl a fa) : SE X W cl (.BoolOp op [a] pos) fa := by
  obtain ⟨ta, pa, ha⟩ := ha
  exact ⟨_, pe_one pa, ha⟩
theorem se_and (ha : SE X W cl a fa) (hb : SE X W cl (.BoolOp .And (b :: es) pos) fb) : SE X W cl (.BoolOp .And (a :: b :: es) pos) (dAnd fa fb) := by
  obtain ⟨ta, pa, ha⟩ := ha
  obtain ⟨tb, pb, hb⟩ := hb
  refine ⟨_, pe_andT pa pb, fun Hv H σ ρ Q vw er pv => ?_⟩
  refine ha Hv H σ ρ _ vw er (bindP pv fun x Hv1 H1 _ e1 pv1 v rv => ?_)
  cases ek : tru x with
  | none => rw [ek] at pv1; exact pv1.elim
  | some k =>
    rw [ek] at pv1
    refine ⟨k, tru_rep e1.vh rv ek, ?_⟩
    cases k with
    | true => rw [if_pos rfl]; exact hb Hv1 H1 σ ρ Q e1.vh (er.mono e1.vv) pv1
    | false => rw [if_neg Bool.false_ne_true]; exact pv1 _ _ (Ext.refl e1.vh) v rv
theorem se_or (ha : SE X W cl a fa) (hb : SE X W cl (.BoolOp .Or (b :: es) pos) fb) : SE X W cl (.BoolOp .Or (a :: b :: es) pos) (dOr fa fb) := by
  obtain ⟨ta, pa, ha⟩ := ha
  obtain ⟨tb, pb, hb⟩ := hb
  refine ⟨_, pe_orT pa pb, fun Hv H σ ρ Q vw er pv => ?_⟩
  refine ha Hv H σ ρ _ vw er (bindP pv fun x Hv1 H1 _ e1 pv1 v rv => ?_)
  cases ek : tru x with
  | none => rw [ek] at pv1; exact pv1.elim
  | some k =>
    rw [ek] at pv1
    refine ⟨k, tru_rep e1.vh rv ek, ?_⟩
    cases k with
    | true => rw [if_pos rfl]; exact pv1 _ _ (Ext.refl e1.vh) v rv
    | false => rw [if_neg Bool.false_ne_true]; exact hb Hv1 H1 σ ρ Q e1.vh (er.mono e1.vv) pv1
theorem se_not (ha : SE X W cl a fa) : SE X W cl (.UnaryOp .Not a pos) (dNot fa) := by
  obtain ⟨ta, pa, ha⟩ := ha
  refine ⟨_, pe_notT pa, fun Hv H σ ρ Q vw er pv => ?_⟩
  refine ha Hv H σ ρ _ vw er (bindP pv fun x Hv1 H1 _ e1 pv1 v rv => ?_)
  cases ek : tru x with
  | none => rw [ek] at pv1; exact pv1.elim
  | some k =>
    rw [ek] at pv1
    exact ⟨k, tru_rep e1.vh rv ek, pv1 _ _ (Ext.refl e1.vh) _ (.bl _)⟩
def dIf (t : DT) (f g : DE) : DE := fun ρ => (t ρ).bind fun k => match k with | true => f ρ | false => g ρ
theorem se_if {t : DT} (hc : ST X W cl c t) (ha : SE X W cl a fa) (hb : SE X W cl b fb) : SE X W cl (.IfExp c a b pos) (dIf t fa fb) := by
  obtain ⟨tc, pc, hc⟩ := hc
  obtain ⟨ta, pa, ha⟩ := ha
  obtain ⟨tb, pb, hb⟩ := hb
  refine ⟨_, pe_ifExp pc pa pb, fun Hv H σ ρ Q vw er pv => ?_⟩
  refine hc Hv H σ ρ _ vw er (bindP pv fun x Hv1 H1 _ e1 pv1 => ?_)
  show if x = true then ta σ H1 Q else tb σ H1 Q
  cases x with
  | true => rw [if_pos rfl]; exact ha Hv1 H1 σ ρ Q e1.vh (er.mono e1.vv) pv1
  | false => rw [if_neg Bool.false_ne_true]; exact hb Hv1 H1 σ ρ Q e1.vh (er.mono e1.vv) pv1
def oNeg : D → Option D | .int i => some (.int (-i)) | _ => none
def dUn (o : D → Option D) (f : DE) : DE := fun ρ => (f ρ).bind fun x => ofO (o x)
theorem se_neg (ha : SE X W cl a fa) : SE X W cl (.UnaryOp .USub a pos) (dUn oNeg fa) := by
  obtain ⟨ta, pa, ha⟩ := ha
  refine ⟨_, pe_un un_neg pa, fun Hv H σ ρ Q vw er pv => ?_⟩
  refine ha Hv H σ ρ _ vw er (bindP pv fun x Hv1 H1 _ e1 pv1 v rv => ?_)
  obtain ⟨d, ed, q⟩ := ofO_ok pv1
  cases x <;> simp [oNeg] at ed
  subst ed
  cases rv
  exact ⟨_, rfl, q _ _ (Ext.refl e1.vh) _ (.int _)⟩

def dNil : DA := fun _ => .ok []
def dCons (f : DE) (g : DA) : DA := fun ρ => (f ρ).bind fun a => (g ρ).bind fun as => .ok (a :: as)
theorem sa_nil : SA X W cl [] dNil := ⟨_, pa_nil, fun Hv H σ ρ Q vw er pv => pv _ _ (Ext.refl vw) [] .nil, fun ρ ds h => by cases h; rfl⟩
theorem sa_cons {g : DA} (ha : SE X W cl e fa) (hr : SA X W cl es g) (hs : starEach (e :: es) X.env = (false, eval e X.env) :: starEach es X.env := by rfl) : SA X W cl (e :: es) (dCons fa g) := by
  obtain ⟨ta, pa, ha⟩ := ha
  obtain ⟨tr, pr, hr, hl⟩ := hr
  refine ⟨_, pa_cons pa pr hs, fun Hv H σ ρ Q vw er pv => ?_, fun ρ ds h => ?_⟩
  · refine ha Hv H σ ρ _ vw er (bindP pv fun x Hv1 H1 _ e1 pv1 v rv => ?_)
    refine hr Hv1 H1 σ ρ _ e1.vh (er.mono e1.vv) (bindP pv1 fun y Hv2 H2 _ e2 pv2 u ru => ?_)
    exact pv2 _ _ (Ext.refl e2.vh) _ (.cons (rv.mono e2.vv) ru)
  · unfold dCons at h
    cases h1 : fa ρ with
    | ok x =>
      cases h2 : g ρ with
      | ok y =>
        rw [h1, h2] at h
        cases h
        rw [List.length_cons, List.length_cons, hl ρ y h2]
      | err c => rw [h1, h2] at h; cases h
      | bad => rw [h1, h2] at h; cases h
    | err c => rw [h1] at h; cases h
    | bad => rw [h1] at h; cases h
def dTup (g : DA) : DE := fun ρ => (g ρ).bind fun ds => .ok (.tup ds)
def dLst (g : DA) : DE := fun ρ => (g ρ).bind fun ds => .ok (.lst ds)
theorem small_line {n : Nat} (h : decide (n ≤ 1000) = true) : n ≤ sizeLine := Nat.le_of_lt (small1000 (of_decide_eq_true h))
theorem se_tup {g : DA} {x1 : Nat} (h : SA X W cl es g) (hn : decide (es.length ≤ 1000) = true := by rfl) : SE X W cl (.Tuple es x1 pos) (dTup g) := by
  obtain ⟨ta, pa, ha, hl⟩ := h
  refine ⟨_, pe_tup pa, fun Hv H σ ρ Q vw er pv => ?_⟩
  refine ha Hv H σ ρ _ vw er (bindP pv fun x Hv1 H1 ex e1 pv1 v rv => ?_)
  have z : v.length ≤ sizeLine := by rw [rv.length, hl ρ x ex]; exact small_line hn
  exact ⟨z, new_tup e1.vh rv z fun v' Hv' H' e' r' => pv1 _ _ e' v' r'⟩
theorem se_lst {g : DA} (h : SA X W cl es g) (hn : decide (es.length ≤ 1000) = true := by rfl) : SE X W cl (.List es pos) (dLst g) := by
  obtain ⟨ta, pa, ha, hl⟩ := h
  refine ⟨_, pe_lst pa, fun Hv H σ ρ Q vw er pv => ?_⟩
  refine ha Hv H σ ρ _ vw er (bindP pv fun x Hv1 H1 ex e1 pv1 v rv => ?_)
  have z : v.length ≤ sizeLine := by rw [rv.length, hl ρ x ex]; exact small_line hn
  exact ⟨z, new_lst e1.vh rv z fun v' Hv' H' e' r' => pv1 _ _ e' v' r'⟩

def intsD : List D → Option (List Int)
  | [] => some []
  | .int i :: ds => (intsD ds).map (i :: ·)
  | _ => none
theorem intsD_eq : ∀ {xs : List D} {k : List Int}, intsD xs = some k → xs = k.map .int
  | [], k, h => by cases h; rfl
  | .int i :: ds, k, h => by
    simp only [intsD, Option.map_eq_some_iff] at h
    obtain ⟨k', h1, rfl⟩ := h
    rw [intsD_eq h1]; rfl
  | .non :: _, k, h => by cases h
  | .bl _ :: _, k, h => by cases h
  | .str _ :: _, k, h => by cases h
  | .tup _ :: _, k, h => by cases h
  | .lst _ :: _, k, h => by cases h
  | .dct _ :: _, k, h => by cases h
  | .exc _ :: _, k, h => by cases h
  | .scr _ :: _, k, h => by cases h
  | .scr0 :: _, k, h => by cases h
  | .fnv :: _, k, h => by cases h
  | .obj _ :: _, k, h => by cases h
  | .dcl _ :: _, k, h => by cases h
  | .scr1 :: _, k, h => by cases h
theorem intsD_map : ∀ k : List Int, intsD (k.map .int) = some k
  | [] => rfl
  | i :: k => by simp [intsD, intsD_map k]
def isKI (i : Int) : D → Bool | .int j => j == i | _ => false
def isKT (a : List Int) : D → Bool | .tup ys => intsD ys == some a | _ => false
def kInt : D → Bool | .int _ => true | _ => false
def kTup : D → Bool | .tup ys => (intsD ys).isSome | _ => false
def findE (t : D → Bool) (es : List (D × D)) : Option D := (es.find? fun e => t e.1).map (·.2)
def oGetK (es : List (D × D)) : D → Option (Option D)
  | .int i => if es.all fun e => kInt e.1 then some (findE (isKI i) es) else none
  | .tup xs => match intsD xs with
    | some a => if es ≠ [] ∧ es.all fun e => kTup e.1 then some (findE (isKT a) es) else none
    | none => none
  | _ => none
def oIx : D → D → Option D
  | .dct es, k => (oGetK es k).bind id
  | .dcl es, k => (oGetK es k).bind id
  | .lst ds, .int i => atI ds i
  | .tup ds, .int i => atI ds i
  | .scr ns, .int i => (atI ns i).map .int
  | .str z, .int i => if z.length ≤ sizeLine then (atI z.cps.toList i).map fun c => .str ⟨#[c]⟩ else none
  | _, _ => none
def oIxS : D → D → Option D
  | .lst ds, .int i => atI ds i
  | .tup ds, .int i => atI ds i
  | .scr ns, .int i => (atI ns i).map .int
  | .str z, .int i => if z.length ≤ sizeLine then (atI z.cps.toList i).map fun c => .str ⟨#[c]⟩ else none
  | _, _ => none
theorem reps_atI {K : PySem.W.Frag} {H : Hp} {xs : List V} {ds : List D} {i : Int} {d : D} (r : Reps K cl H xs ds) (h : atI ds i = some d) : ∃ v, atI xs i = some v ∧ Rep K cl H v d := by
  unfold atI at h ⊢
  rw [← r.length] at h
  cases q : ixN xs.length i with
  | none => rw [q] at h; cases h
  | some j =>
    rw [q] at h
    obtain ⟨v, h1, h2⟩ := r.get (i := j) h
    exact ⟨v, h1, h2⟩
theorem se_ix (ha : SE X W cl a fa) (hb : SE X W cl b fb) (hs : PlainIx b := by intro _ _; rfl) : SE X W cl (.Subscript a b pos) (dBin oIxS fa fb) := by
  obtain ⟨ta, pa, ha⟩ := ha
  obtain ⟨tb, pb, hb⟩ := hb
  refine ⟨_, pe_ix ix_seq pa pb hs, bin_run (fun Hv H x y a b d Q vw rx ry e q => ?_) ha hb⟩
  cases b with
  | int i =>
    cases ry
    cases rx with
    | lst s z r =>
      obtain ⟨v, h1, h2⟩ := reps_atI r e
      exact .inl ⟨_, _, i, v, rfl, rfl, .inl (.inl (vw.s _ _ s rfl)), h1, q _ _ _ (Ext.refl vw) h2⟩
    | tup s z r =>
      obtain ⟨v, h1, h2⟩ := reps_atI r e
      exact .inr (.inl ⟨_, _, i, v, rfl, rfl, vw.s.sqU s, h1, q _ _ _ (Ext.refl vw) h2⟩)
    | scr s z =>
      simp only [oIxS, Option.map_eq_some_iff] at e
      obtain ⟨n, h1, rfl⟩ := e
      refine .inl ⟨_, _, i, .int n, rfl, rfl, vw.s.sqL s, ?_, q _ _ _ (Ext.refl vw) (.int n)⟩
      unfold atI at h1 ⊢
      rw [List.length_map]
      cases z : ixN _ i with
      | none => rw [z] at h1; cases h1
      | some j =>
        rw [z] at h1
        show (List.map V.int _)[j]? = _
        have h2 : _[j]? = some n := h1
        rw [List.getElem?_map, h2]; rfl
    | str z =>
      simp only [oIxS] at e
      split at e
      · rw [Option.map_eq_some_iff] at e
        obtain ⟨c, h1, rfl⟩ := e
        exact .inr (.inr ⟨_, _, c, rfl, rfl, by assumption, h1, q _ _ _ (Ext.refl vw) (.str _)⟩)
      · cases e
    | _ => cases e
  | _ => cases a <;> cases e
end
end Sm
namespace Sm
open PySem PySem.Spec L2
def spF (K : PySem.W.Frag) (cl : Glb) (n : Nat) (F : List D → R D) : Sp := fun vs H Q E => vs.length = n ∧ ∃ Hv ds, Vw cl Hv H ∧ Reps K cl Hv vs ds ∧ Pst cl (fun c d _ H => E c d H) [] Hv H (TV K cl Q) (F ds)
structure Fn (P : Program) (w : World) (K : PySem.W.Frag) (mg : Str → Option Value) (base : Heap) (cl : Glb) (k : Nat) (x : Str) (n : Nat) (F : List D → R D) : Prop where
  ex : ∃ f fd ps, FnOk P w K mg base (L2.CX P w) k f fd ps (spF K cl n F) ∧ mg x = some (.ref f) ∧ PySem.W.keepIn K (.ref f) = true ∧ Binds K fd ps [] ∧ ps.length = n
theorem Fn.mono {P : Program} {w : World} {K : PySem.W.Frag} {mg : Str → Option Value} {base : Heap} {cl : Glb} {k k' : Nat} {x : Str} {n : Nat} {F : List D → R D} (h : Fn P w K mg base cl k x n F) (hk : k ≤ k') : Fn P w K mg base cl k' x n F := by
  obtain ⟨f, fd, ps, h1, h2, h3, h4, h5⟩ := h
  exact ⟨f, fd, ps, h1.mono hk, h2, h3, h4, h5⟩
section
variable {X : Cx} {W : WX} {cl : Glb} {pos p : Pos} {a b c e : Expr} {es : List Expr} {fa fb fc : DE} {g : DA}
def dCall (F : List D → R D) (g : DA) : DE := fun ρ => (g ρ).bind F
theorem se_call {k n : Nat} {x : Str} {F : List D → R D} (G : Fn X.prog X.w X.K X.mg X.base cl k x n F) (hr : Room k X.A) (tk : Takes X W) (ha : SA X W cl (e :: es) g) (hg : Gl X x := by rfl) (hn : (e :: es).length = n := by rfl) (hdb : (x == ("__debug__" : Str)) = false := by decide)
    (he : starEach (e :: es) X.env = (false, eval e X.env) :: starEach es X.env := by rfl) (hpl : (backTo pos (starEach es X.env)).any (·.1) = false := by rfl) :
    SE X W cl (.Call (.Name x p) (e :: es) [] pos) (dCall F g) := by
  obtain ⟨f, fd, ps, h1, h2, h3, h4, h5⟩ := G
  obtain ⟨ta, pa, ha, hl⟩ := ha
  refine ⟨_, pe_callS h1 hr hg h2 h3 h4 (fun σ => passAt tk σ) pa hdb he hpl, fun Hv H σ ρ Q vw er pv => ?_⟩
  refine ha Hv H σ ρ _ vw er (bindP pv fun x Hv1 H1 ex e1 pv1 v rv => ?_)
  refine ⟨?_, Hv1, x, e1.vh, rv, ?_⟩
  · rw [rv.length, hl ρ x ex]; exact hn
  · cases q : F x with
    | ok d => rw [q] at pv1; exact pv1
    | err c => rw [q] at pv1; exact pv1
    | bad => rw [q] at pv1; exact pv1.elim

section
variable (X : Cx) (cl : Glb)
def CallS (f : Value) (o : List D → Option D) : Prop := ∃ r, CallR X f r ∧ ∀ (Hv H : Hp) (xs : List V) (ds : List D) (d : D) (Q : VK), Vw cl Hv H → Reps X.K cl Hv xs ds → o ds = some d →
  (∀ v Hv' H', Ext cl Hv H Hv' H' → Rep X.K cl Hv' v d → Q v H') → r xs H Q
end
def dB (o : List D → Option D) (g : DA) : DE := fun ρ => (g ρ).bind fun ds => ofO (o ds)
theorem callB_run {o : List D → Option D} {r : List V → Hp → VK → Prop} {t : TA} (hs : ∀ (Hv H : Hp) (xs : List V) (ds : List D) (d : D) (Q : VK), Vw cl Hv H → Reps X.K cl Hv xs ds → o ds = some d →
  (∀ v Hv' H', Ext cl Hv H Hv' H' → Rep X.K cl Hv' v d → Q v H') → r xs H Q) (ha : RunA X W cl g t) : RunE X W cl (dB o g) (tCB r t) := by
  intro Hv H σ ρ Q vw er pv
  refine ha Hv H σ ρ _ vw er (bindP pv fun x Hv1 H1 ex e1 pv1 v rv => ?_)
  obtain ⟨d, ed, q⟩ := ofO_ok pv1
  exact hs Hv1 H1 v x d Q e1.vh rv ed fun v' Hv' H' e' r' => q Hv' H' e' v' r'
theorem se_callB {x : Str} {id : String} {o : List D → Option D} (hc : CallS X cl (.builtin id) o) (hv : bootBuiltins x = some (.builtin id)) (ha : SA X W cl (e :: es) g) (hm : X.mg x = none) (hg : Gl X x := by rfl) (hn : x ≠ "__name__" := by decide) (hdb : (x == ("__debug__" : Str)) = false := by decide)
    (he : starEach (e :: es) X.env = (false, eval e X.env) :: starEach es X.env := by rfl) (hpl : (backTo pos (starEach es X.env)).any (·.1) = false := by rfl) : SE X W cl (.Call (.Name x p) (e :: es) [] pos) (dB o g) := by
  obtain ⟨r, hr, hs⟩ := hc
  obtain ⟨ta, pa, ha, hl⟩ := ha
  exact ⟨_, pe_callB hr hg hm hv pa hn hdb he hpl, callB_run hs ha⟩
theorem se_callTy {x : Str} {T : String} {o : List D → Option D} (hc : CallS X cl (.type T) o) (hv : bootBuiltins x = some (.type T)) (ha : SA X W cl (e :: es) g) (hm : X.mg x = none) (hg : Gl X x := by rfl) (hn : x ≠ "__name__" := by decide) (hdb : (x == ("__debug__" : Str)) = false := by decide)
    (he : starEach (e :: es) X.env = (false, eval e X.env) :: starEach es X.env := by rfl) (hpl : (backTo pos (starEach es X.env)).any (·.1) = false := by rfl) : SE X W cl (.Call (.Name x p) (e :: es) [] pos) (dB o g) := by
  obtain ⟨r, hr, hs⟩ := hc
  obtain ⟨ta, pa, ha, hl⟩ := ha
  exact ⟨_, pe_callTy hr hg hm hv pa hn hdb he hpl, callB_run hs ha⟩

def oLen : List D → Option D
  | [.lst ds] => some (.int ds.length)
  | [.tup ds] => some (.int ds.length)
  | [.scr ds] => some (.int ds.length)
  | [.str z] => if z.length ≤ sizeLine then some (.int z.length) else none
  | _ => none
theorem cs_len : CallS X cl (.builtin "len") oLen := by
  refine ⟨_, call_len, fun Hv H xs ds d Q vw r e q => ?_⟩
  cases r with
  | nil => cases e
  | cons r t =>
    cases t with
    | cons _ _ => cases r <;> cases e
    | nil =>
      cases r with
      | lst s z r =>
        cases e
        refine ⟨_, _, rfl, .inl ⟨_, .inl (.inl (vw.s _ _ s rfl)), rfl⟩, ?_⟩
        rw [r.length]; exact q _ _ _ (Ext.refl vw) (.int _)
      | tup s z r =>
        cases e
        refine ⟨_, _, rfl, .inr ⟨_, vw.s.sqU s, rfl⟩, ?_⟩
        rw [r.length]; exact q _ _ _ (Ext.refl vw) (.int _)
      | scr s z =>
        cases e
        refine ⟨_, _, rfl, .inl ⟨_, vw.s.sqL s, rfl⟩, ?_⟩
        rw [List.length_map]; exact q _ _ _ (Ext.refl vw) (.int _)
      | str z =>
        simp only [oLen] at e
        split at e
        · cases e
          exact ⟨_, _, rfl, ⟨by assumption, rfl⟩, q _ _ _ (Ext.refl vw) (.int _)⟩
        · cases e
      | _ => cases e
def oMax2 : List D → Option D | [.int i, .int j] => some (.int (if j > i then j else i)) | _ => none
theorem cs_max2 (hc : X.calm = true) : CallS X cl (.builtin "max") oMax2 := by
  refine ⟨_, call_max2 hc, fun Hv H xs ds d Q vw r e q => ?_⟩
  cases r with
  | nil => cases e
  | cons r t =>
    cases t with
    | nil => cases r <;> cases e
    | cons r' t =>
      cases t with
      | cons _ _ => cases r <;> cases r' <;> cases e
      | nil =>
        cases r with
        | int i =>
          cases r' with
          | int j => cases e; exact ⟨_, _, rfl, q _ _ _ (Ext.refl vw) (.int _)⟩
          | _ => cases e
        | _ => cases r' <;> cases e
end
structure ItOk (K : PySem.W.Frag) (cl : Glb) (J : It) (Hv0 : Hp) (ds : List D) : Prop where
  go : ∀ i Hv H, Sam Hv0 Hv → Vw cl Hv H → i < ds.length → J.go i H
  stop : ∀ i Hv H, Sam Hv0 Hv → Vw cl Hv H → i = ds.length → J.stop i H
  yld : ∀ (i : Nat) Hv H, Sam Hv0 Hv → Vw cl Hv H → ∀ d, ds[i]? = some d → ∀ x H', J.yld i H x H' → ∃ Hv', Ext cl Hv H Hv' H' ∧ Rep K cl Hv' x d
abbrev DI := Env → R (List D)
def TJ (K : PySem.W.Frag) (cl : Glb) (Q : It → Hp → Prop) : Hp → Hp → List D → Prop := fun Hv' H' ds => ds.length ≤ sizeLine → ∀ J, ItOk K cl J Hv' ds → Q J H'
def SI (X : Cx) (W : WX) (cl : Glb) (tg iter : Expr) (f : DI) : Prop := ∃ wi, PI X tg iter wi ∧ ∀ (Hv H : Hp) (σ : St) (ρ : Env) (Q : It → Hp → Prop), Vw cl Hv H → ER X.K cl Hv ρ σ → Pst cl W σ Hv H (TJ X.K cl Q) (f ρ) → wi σ H Q
theorem PI.or {X : Cx} {tg iter : Expr} {w1 w2 : TI} (h1 : PI X tg iter w1) (h2 : PI X tg iter w2) : PI X tg iter (fun σ H R => w1 σ H R ∨ w2 σ H R) :=
  ⟨fun pins s σ H R I h => h.elim (h1.run pins s σ H R I) (h2.run pins s σ H R I)⟩
section
variable {X : Cx} {W : WX} {cl : Glb} {pos p : Pos} {a b c e tg : Expr} {es : List Expr} {fa fb fc : DE} {g : DA}
def itemsOf : D → Option (List D)
  | .lst ds => some ds
  | .tup ds => some ds
  | .scr ns => some (ns.map .int)
  | _ => none
def dItems (f : DE) : DI := fun ρ => (f ρ).bind fun d => ofO (itemsOf d)
theorem it_list {K : PySem.W.Frag} {Hv : Hp} {l : Addr} {xs : List V} {ds : List D} (s : SqL K Hv l xs) (r : Reps K cl Hv xs ds) : ItOk K cl (Itl K l) Hv ds where
  go := fun i Hv' H sm vw h => by
    have hl := r.length
    obtain ⟨v, h1, _⟩ := r.get (i := i) (d := ds[i]) (by simp [h])
    exact ⟨xs, v, vw.s.sqL (sm.sqL s), h1⟩
  stop := fun i Hv' H sm vw h => ⟨xs, vw.s.sqL (sm.sqL s), by rw [r.length]; omega⟩
  yld := fun i Hv' H sm vw d h x H' ⟨e1, e2⟩ => by
    subst e1
    obtain ⟨v, h1, h2⟩ := r.get h
    have := e2 xs (vw.s.sqL (sm.sqL s))
    rw [h1] at this; cases this
    exact ⟨Hv', Ext.refl vw, h2.mono sm⟩
theorem it_tup {K : PySem.W.Frag} {Hv : Hp} {l : Addr} {xs : List V} {ds : List D} (s : SqT K Hv l xs) (r : Reps K cl Hv xs ds) : ItOk K cl (Itt K l) Hv ds where
  go := fun i Hv' H sm vw h => by
    have hl := r.length
    obtain ⟨v, h1, _⟩ := r.get (i := i) (d := ds[i]) (by simp [h])
    exact ⟨xs, v, vw.s.sqT (sm.sqT s), h1⟩
  stop := fun i Hv' H sm vw h => ⟨xs, vw.s.sqT (sm.sqT s), by rw [r.length]; omega⟩
  yld := fun i Hv' H sm vw d h x H' ⟨e1, e2⟩ => by
    subst e1
    obtain ⟨v, h1, h2⟩ := r.get h
    have := e2 xs (vw.s.sqT (sm.sqT s))
    rw [h1] at this; cases this
    exact ⟨Hv', Ext.refl vw, h2.mono sm⟩
theorem reps_ints {K : PySem.W.Frag} {H : Hp} : ∀ ns : List Int, Reps K cl H (ns.map V.int) (ns.map D.int)
  | [] => .nil
  | n :: ns => .cons (.int n) (reps_ints ns)
theorem si_seq (ha : SE X W cl a fa) : SI X W cl tg a (dItems fa) := by
  obtain ⟨ta, pa, ha⟩ := ha
  refine ⟨_, PI.or (pi_list pa) (pi_tup pa), fun Hv H σ ρ Q vw er pv => ?_⟩
  unfold dItems at pv
  cases q : fa ρ with
  | bad => rw [q] at pv; exact pv.elim
  | err c =>
    rw [q] at pv
    exact .inl (ha Hv H σ ρ _ vw er (by rw [q]; exact pv))
  | ok d =>
    rw [q] at pv
    have left : ∀ ds, (itemsOf d = some ds) → (∀ v Hv1, Rep X.K cl Hv1 v d → ∃ l xs, v = .ref l ∧ SqL X.K Hv1 l xs ∧ Reps X.K cl Hv1 xs ds ∧ ds.length ≤ sizeLine) → iList X.K ta σ H Q := fun ds ed hd => by
      refine ha Hv H σ ρ _ vw er ?_
      rw [q]
      intro Hv1 H1 e1 v rv
      obtain ⟨l, xs, rfl, s, r, z⟩ := hd v Hv1 rv
      have pv1 : Pst cl W σ Hv H (TJ X.K cl Q) (ofO (itemsOf d)) := pv
      rw [ed] at pv1
      exact ⟨l, rfl, ⟨xs, e1.vh.s.sqL s⟩, pv1 Hv1 H1 e1 z _ (it_list s r)⟩
    cases d with
    | lst ds => exact .inl (left ds rfl fun v Hv1 rv => by cases rv with | lst s z r => exact ⟨_, _, rfl, .inl (.inl s), r, by rw [← r.length]; exact z⟩)
    | scr ns => exact .inl (left _ rfl fun v Hv1 rv => by cases rv with | scr s z => exact ⟨_, _, rfl, s, reps_ints ns, by rw [List.length_map]; exact z⟩)
    | tup ds =>
      refine .inr (ha Hv H σ ρ _ vw er ?_)
      rw [q]
      intro Hv1 H1 e1 v rv
      cases rv with
      | tup s z r => exact ⟨_, rfl, ⟨_, e1.vh.s.sqU s⟩, pv Hv1 H1 e1 (by rw [← r.length]; exact z) _ (it_tup (sqT_of s) r)⟩
    | _ => exact pv.elim
def rngD (lo : Int) (n : Nat) : List D := (List.range n).map fun i => .int (lo + (i : Nat))
theorem it_range {K : PySem.W.Frag} {Hv : Hp} (lo : Int) (n : Nat) : ItOk K cl (Itr lo n) Hv (rngD lo n) where
  go := fun i Hv' H sm vw h => by
    show i < n
    simpa [rngD] using h
  stop := fun i Hv' H sm vw h => by
    show n ≤ i
    simp [rngD] at h
    omega
  yld := fun i Hv' H sm vw d h x H' ⟨e1, e2⟩ => by
    subst e1 e2
    unfold rngD at h
    rw [List.getElem?_map] at h
    by_cases hi : i < n
    · rw [List.getElem?_range hi] at h
      cases h
      exact ⟨Hv', Ext.refl vw, .int _⟩
    · rw [List.getElem?_eq_none (by simpa using hi)] at h; cases h
def rng1 : List D → Option (List D)
  | [.int j] => if -16777216 ≤ j ∧ j ≤ 16777216 then some (rngD 0 j.toNat) else none
  | _ => none
def dRng (o : List D → Option (List D)) (g : DA) : DI := fun ρ => (g ρ).bind fun d => ofO (o d)
theorem rngD_len (lo : Int) (n : Nat) : (rngD lo n).length = n := by simp [rngD]
theorem si_range1 (ha : SA X W cl [a] g) (hm : X.mg "range" = none) (hg : Gl X "range" := by rfl) (hs : starEach [a] X.env = [(false, eval a X.env)] := by rfl) : SI X W cl tg (.Call (.Name "range" p) [a] [] pos) (dRng rng1 g) := by
  obtain ⟨ta, pa, ha, hl⟩ := ha
  refine ⟨_, pi_range1 hg hm pa hs, fun Hv H σ ρ Q vw er pv => ?_⟩
  refine ha Hv H σ ρ _ vw er (bindP pv fun x Hv1 H1 ex e1 pv1 v rv => ?_)
  obtain ⟨ds, ed, q⟩ := ofO_ok pv1
  cases rv with
  | nil => cases ed
  | cons r t =>
    cases t with
    | cons _ _ => cases r <;> cases ed
    | nil =>
      cases r with
      | int j =>
        simp only [rng1] at ed
        split at ed
        · rename_i hj
          cases ed
          exact ⟨j, rfl, by omega, by omega, q _ _ (Ext.refl e1.vh) (by rw [rngD_len]; show j.toNat ≤ 16777216; omega) _ (it_range 0 j.toNat)⟩
        · cases ed
      | _ => cases ed
end
inductive Pat where
  | v (i : Nat)
  | t (ps : List Pat)
mutual
def bindPat : Pat → D → Env → Option Env
  | .v i, d, ρ => some (ρ.set i (some d))
  | .t ps, d, ρ => match d with
    | .tup ds => bindPats ps ds ρ
    | .lst ds => bindPats ps ds ρ
    | _ => none
def bindPats : List Pat → List D → Env → Option Env
  | [], [], ρ => some ρ
  | p :: ps, d :: ds, ρ => (bindPat p d ρ).bind fun ρ' => bindPats ps ds ρ'
  | _, _, _ => none
end
end Sm
namespace Sm
open PySem PySem.Spec L2
inductive O where
  | nx (ρ : Env) | ret (d : D) | err (ρ : Env) (c : Nat) | bad
abbrev DS := Env → O
def O.seq : O → DS → O
  | .nx ρ, k => k ρ
  | .ret d, _ => .ret d
  | .err ρ c, _ => .err ρ c
  | .bad, _ => .bad
def R.to {α : Type} (ρ : Env) : R α → (α → O) → O
  | .ok a, k => k a
  | .err c, _ => .err ρ c
  | .bad, _ => .bad

inductive OwnO (K : PySem.W.Frag) (cl : Glb) (Hv : Hp) : HO → D → Prop
  | lst {vs : List V} {ds : List D} : vs.length ≤ sizeLine → Reps K cl Hv vs ds → OwnO K cl Hv (.lst vs) (.lst ds)
  | dct {kvs : List (L2.Key × V)} {es : List (D × D)} : kvs.length ≤ sizeLine → RepsK K cl Hv kvs es → OwnO K cl Hv (.dK kvs) (.dct es)
theorem OwnO.mono {K : PySem.W.Frag} {cl : Glb} {Hv Hv' : Hp} {o : HO} {d : D} (h : OwnO K cl Hv o d) (e : Sam Hv Hv') : OwnO K cl Hv' o d := by
  cases h with
  | lst z r => exact .lst z (r.mono e)
  | dct z r => exact .dct z (r.mono e)
theorem OwnO.tbl {K : PySem.W.Frag} {cl : Glb} {Hv : Hp} {o : HO} {d : D} (h : OwnO K cl Hv o d) : isTbl o = false := by cases h <;> rfl
theorem OwnO.noT {K : PySem.W.Frag} {cl : Glb} {Hv : Hp} {o : HO} {d : D} (h : OwnO K cl Hv o d) : (∀ xs, o ≠ .tup xs) ∧ (∀ u x, o ≠ .frz u x) ∧ (∀ ps, o ≠ .tbl ps) := by
  cases h <;> refine ⟨fun _ e => ?_, fun _ _ e => ?_, fun _ e => ?_⟩ <;> cases e
theorem OwnO.rep {K : PySem.W.Frag} {cl : Glb} {H : Hp} {o : HO} {d : D} {p : Addr} (h : OwnO K cl H o d) (e : H p = some o) : Rep K cl H (.ref p) d := by
  cases h with
  | lst z r => exact .lst e z r
  | dct z r => exact .dctK e r
theorem OwnO.ofL {K : PySem.W.Frag} {cl : Glb} {Hv : Hp} {o : HO} {ds : List D} (h : OwnO K cl Hv o (.lst ds)) : ∃ vs, o = .lst vs ∧ vs.length ≤ sizeLine ∧ Reps K cl Hv vs ds := by
  cases h with
  | lst z r => exact ⟨_, rfl, z, r⟩
def OwnR (K : PySem.W.Frag) (cl : Glb) (Hv H : Hp) (p : Addr) (d : D) : Prop := ∃ o, H p = some o ∧ OwnO K cl Hv o d
structure SR (K : PySem.W.Frag) (cl : Glb) (Hv0 H0 : Hp) (own : List Nat) (ρ : Env) (σ : St) (Hv H : Hp) : Prop where
  ext : Ext cl Hv0 H0 Hv H
  len : ρ.length = σ.length
  sh : ∀ (i : Nat) d, i ∉ own → ρ[i]? = some (some d) → ∃ v, σ[i]? = some (some v) ∧ Rep K cl Hv v d
  ow : ∀ i, i ∈ own → ∃ p d, ρ[i]? = some (some d) ∧ σ[i]? = some (some (.ref p)) ∧ Hv p = none ∧ H0 p = none ∧ OwnR K cl Hv H p d
  ap : ∀ (i j : Nat) p, i ∈ own → j ∈ own → σ[i]? = some (some (.ref p)) → σ[j]? = some (some (.ref p)) → i = j
def mask (own : List Nat) (ρ : Env) : Env := own.foldr (fun i r => r.set i none) ρ
theorem mask_get {ρ : Env} {i : Nat} {d : D} : ∀ {own : List Nat}, (mask own ρ)[i]? = some (some d) → i ∉ own ∧ ρ[i]? = some (some d)
  | [], h => ⟨by simp, h⟩
  | j :: own, h => by
    have h : ((mask own ρ).set j none)[i]? = some (some d) := h
    by_cases hj : j = i
    · subst hj
      by_cases hl : j < (mask own ρ).length
      · rw [List.getElem?_set_self hl] at h; cases h
      · rw [List.getElem?_eq_none (by simpa using hl)] at h; cases h
    · rw [List.getElem?_set_ne hj] at h
      obtain ⟨h1, h2⟩ := mask_get (own := own) h
      exact ⟨by simp only [List.mem_cons, not_or]; exact ⟨fun e => hj e.symm, h1⟩, h2⟩
theorem mask_len {ρ : Env} : ∀ {own : List Nat}, (mask own ρ).length = ρ.length
  | [] => rfl
  | j :: own => (List.length_set ..).trans (mask_len (own := own))
section
variable {K : PySem.W.Frag} {cl : Glb} {Hv0 H0 Hv H Hv' H' : Hp} {own : List Nat} {ρ : Env} {σ : St}
theorem SR.er (s : SR K cl Hv0 H0 own ρ σ Hv H) : ER K cl Hv (mask own ρ) σ := ⟨fun i d h => let ⟨h1, h2⟩ := mask_get h; s.sh i d h1 h2, mask_len.trans s.len⟩
theorem SR.step (s : SR K cl Hv0 H0 own ρ σ Hv H) (e : Ext cl Hv H Hv' H') : SR K cl Hv0 H0 own ρ σ Hv' H' where
  ext := s.ext.trans e
  len := s.len
  sh := fun i d h1 h2 => let ⟨v, h3, h4⟩ := s.sh i d h1 h2; ⟨v, h3, h4.mono e.vv⟩
  ow := fun i hi => by
    obtain ⟨p, d, h1, h2, h3, h4, o, h5, h6⟩ := s.ow i hi
    exact ⟨p, d, h1, h2, e.old p _ h5 h3, h4, o, e.hh _ _ h5 h6.tbl, h6.mono e.vv⟩
  ap := s.ap
def lift (Hv H H' : Hp) : Hp := fun b => if (H b).isSome && (Hv b).isNone then none else H' b
theorem lift_old {b : Addr} {o : HO} (h : Hv b = some o) : lift Hv H H' b = H' b := by
  unfold lift
  rw [h]
  simp
theorem lift_new {b : Addr} (h : H b = none) : lift Hv H H' b = H' b := by
  unfold lift
  rw [h]
  simp
theorem lift_tup (e : Ext cl H H Hv' H') {b : Addr} {o : HO} (h' : H' b = some o) (ho : isTbl o = false) (hv : H b = some o → Hv b = some o) : lift Hv H H' b = some o := by
  cases q : H b with
  | none => rw [lift_new q]; exact h'
  | some u =>
    have eu : u = o := by
      cases t : isTbl u with
      | false =>
        rw [e.hh b u q t] at h'
        exact Option.some.inj h'
      | true =>
        cases u with
        | tbl ps =>
          obtain ⟨ps', w⟩ := e.tt b ps q
          rw [w] at h'; cases h'; cases ho
        | _ => cases t
    subst eu
    rw [lift_old (hv q)]; exact h'
theorem ext_lift (vw : Vw cl Hv H) (e : Ext cl H H Hv' H') : Ext cl Hv H (lift Hv H H') H' where
  hh := e.hh
  vv := fun b o h n => by
    rw [lift_old h]
    exact e.hh b o (vw.s b o h n) n
  vh := by
    refine ⟨fun b o h n => ?_, fun b h => ?_, fun b xs h => ?_, fun b ob xs h => ?_, ?_, fun b φ h => ?_⟩
    · unfold lift at h
      split at h
      · cases h
      · exact h
    · unfold lift
      split
      · rfl
      · exact h
    · exact lift_tup e h rfl fun q => vw.t b xs q
    · exact lift_tup e h rfl fun q => vw.z b ob xs q
    · exact e.vh.tab
    · exact lift_tup e h rfl fun q => vw.x b φ q
  old := fun b o h n => by
    unfold lift
    rw [h, n]; rfl
  dom := e.dom
  tt := e.tt
end
mutual
def pure' : D → Bool
  | .non => true
  | .bl _ => true
  | .int _ => true
  | .str _ => true
  | .tup xs => pures xs
  | _ => false
def pures : List D → Bool
  | [] => true
  | x :: xs => pure' x && pures xs
end
section
variable {K : PySem.W.Frag} {cl : Glb}
mutual
theorem pure_hide {H Hh : Hp} (ht : ∀ b xs, H b = some (.tup xs) → Hh b = some (.tup xs)) (hz : ∀ b o u, H b = some (.frz o u) → Hh b = some (.frz o u)) : ∀ {v : V} {d : D}, Rep K cl H v d → pure' d = true → Rep K cl Hh v d
  | _, _, .non, _ => .non
  | _, _, .bl b, _ => .bl b
  | _, _, .int b, _ => .int b
  | _, _, .str b, _ => .str b
  | _, _, .lst _ _ _, h => by simp [pure'] at h
  | _, _, .scr _ _, h => by simp [pure'] at h
  | _, _, .scr0 _ _, h => by simp [pure'] at h
  | _, _, .fnv _, h => by simp [pure'] at h
  | _, _, .obj _, h => by simp [pure'] at h
  | _, _, .dclK _ _, h => by simp [pure'] at h
  | _, _, .dclT _ _ _, h => by simp [pure'] at h
  | _, _, .scr1 _ _, h => by simp [pure'] at h
  | _, _, .exc _, h => by simp [pure'] at h
  | _, _, .dctK _ _, h => by simp [pure'] at h
  | _, _, .dctT _ _ _, h => by simp [pure'] at h
  | _, _, .tup s z r, h => .tup (ht _ _ s) z (pures_hide ht hz r (by simpa [pure'] using h))
theorem pures_hide {H Hh : Hp} (ht : ∀ b xs, H b = some (.tup xs) → Hh b = some (.tup xs)) (hz : ∀ b o u, H b = some (.frz o u) → Hh b = some (.frz o u)) : ∀ {v : List V} {d : List D}, Reps K cl H v d → pures d = true → Reps K cl Hh v d
  | _, _, .nil, _ => .nil
  | _, _, .cons r t, h => by
    simp only [pures, Bool.and_eq_true] at h
    exact .cons (pure_hide ht hz r h.1) (pures_hide ht hz t h.2)
end
end
end Sm
namespace Sm
open PySem PySem.Spec L2
section
variable {K : PySem.W.Frag} {cl : Glb} {Hv0 H0 Hv H Hv' H' : Hp} {own own' : List Nat} {ρ : Env} {σ : St}
open Classical in
noncomputable def thaw (own own' : List Nat) (σ : St) (Hv H : Hp) : Hp := fun b => match Hv b with
  | some o => some o
  | none => if ∃ i, i ∈ own ∧ i ∉ own' ∧ σ[i]? = some (some (.ref b)) then H b else none
theorem thaw_old {b : Addr} {o : HO} (h : Hv b = some o) : thaw own own' σ Hv H b = some o := by
  unfold thaw; rw [h]
theorem thaw_new {b : Addr} (h : Hv b = none) (i : Nat) (h1 : i ∈ own) (h2 : i ∉ own') (h3 : σ[i]? = some (some (.ref b))) : thaw own own' σ Hv H b = H b := by
  unfold thaw; rw [h]
  exact if_pos ⟨i, h1, h2, h3⟩
theorem thaw_no {b : Addr} (h : Hv b = none) (hn : ∀ i : Nat, i ∈ own → i ∉ own' → σ[i]? ≠ some (some (.ref b))) : thaw own own' σ Hv H b = none := by
  unfold thaw; rw [h]
  exact if_neg fun ⟨i, h1, h2, h3⟩ => hn i h1 h2 h3
theorem thaw_some {b : Addr} {o : HO} (vs : Vw cl Hv H) (h : thaw own own' σ Hv H b = some o) : Hv b = some o ∨ (Hv b = none ∧ H b = some o) := by
  cases q : Hv b with
  | some u => rw [thaw_old q] at h; exact .inl h
  | none =>
    unfold thaw at h
    rw [q] at h
    simp only at h
    split at h
    · exact .inr ⟨rfl, h⟩
    · cases h
theorem SR.freeze (s : SR K cl Hv0 H0 own ρ σ Hv H) (hs : ∀ i ∈ own', i ∈ own) : SR K cl Hv0 H0 own' ρ σ (thaw own own' σ Hv H) H ∧ Sam Hv (thaw own own' σ Hv H) := by
  have vw := s.ext.vh
  have vv : Sam Hv (thaw own own' σ Hv H) := fun b o h _ => thaw_old h
  refine ⟨⟨⟨s.ext.hh, s.ext.vv.trans vv, ⟨fun b o h n => ?_, fun b h => ?_, fun b xs h => thaw_old (vw.t b xs h), fun b o u h => thaw_old (vw.z b o u h), vw.tab, fun b φ h => thaw_old (vw.x b φ h)⟩, fun b o h n => ?_, s.ext.dom, s.ext.tt⟩, s.len, fun i d h1 h2 => ?_, fun i hi => ?_, fun i j p h1 h2 => s.ap i j p (hs i h1) (hs j h2)⟩, vv⟩
  · rcases thaw_some vw h with q | ⟨_, q⟩
    · exact vw.s b o q n
    · exact q
  · cases q : thaw own own' σ Hv H b with
    | none => rfl
    | some o =>
      rcases thaw_some vw q with z | ⟨_, z⟩
      · rw [vw.d b h] at z; cases z
      · rw [h] at z; cases z
  · refine thaw_no (s.ext.old b o h n) fun i h1 h2 h3 => ?_
    obtain ⟨p, d, _, e2, _, e4, _⟩ := s.ow i h1
    rw [h3] at e2; cases e2
    rw [h] at e4; cases e4
  · by_cases hi : i ∈ own
    · obtain ⟨p, d', e1, e2, e3, e4, o, e6, e8⟩ := s.ow i hi
      rw [h2] at e1; cases e1
      exact ⟨_, e2, (e8.mono vv).rep ((thaw_new e3 i hi h1 e2).trans e6)⟩
    · obtain ⟨v, e1, e2⟩ := s.sh i d hi h2
      exact ⟨v, e1, e2.mono vv⟩
  · obtain ⟨p, d, e1, e2, e3, e4, o, e6, e8⟩ := s.ow i (hs i hi)
    refine ⟨p, d, e1, e2, thaw_no e3 fun j h1 h2 h3 => ?_, e4, o, e6, e8.mono vv⟩
    have := s.ap i j p (hs i hi) h1 e2 h3
    subst this
    exact h2 hi
theorem SR.set {i : Nat} {v : V} {d : D} (s : SR K cl Hv0 H0 own ρ σ Hv H) (hs : ∀ j ∈ own', j ∈ own ∧ j ≠ i) (r : Rep K cl Hv v d) (ho : ∀ j ∈ own, j ∈ own' ∨ j = i) : SR K cl Hv0 H0 own' (ρ.set i (some d)) (σ.set i (some v)) Hv H where
  ext := s.ext
  len := by rw [List.length_set, List.length_set]; exact s.len
  sh := fun j e h1 h2 => by
    by_cases hj : j = i
    · subst hj
      by_cases hi : j < σ.length
      · rw [List.getElem?_set_self (by rw [s.len]; exact hi)] at h2
        cases h2
        exact ⟨v, List.getElem?_set_self hi, r⟩
      · rw [List.getElem?_eq_none (by rw [List.length_set, s.len]; omega)] at h2
        cases h2
    · rw [List.getElem?_set_ne (Ne.symm hj)] at h2
      rw [List.getElem?_set_ne (Ne.symm hj)]
      exact s.sh j e (fun z => (ho j z).elim h1 hj) h2
  ow := fun j hj => by
    obtain ⟨h1, h2⟩ := hs j hj
    rw [List.getElem?_set_ne (Ne.symm h2), List.getElem?_set_ne (Ne.symm h2)]
    exact s.ow j h1
  ap := fun j k p h1 h2 e1 e2 => by
    rw [List.getElem?_set_ne (Ne.symm (hs j h1).2)] at e1
    rw [List.getElem?_set_ne (Ne.symm (hs k h2).2)] at e2
    exact s.ap j k p (hs j h1).1 (hs k h2).1 e1 e2
theorem SR.setOwnO {i : Nat} {p : Addr} {o : HO} {d : D} (s : SR K cl Hv0 H0 own ρ σ Hv H) (hp : H p = none) (r : OwnO K cl Hv o d) (hi : i < σ.length) :
    SR K cl Hv0 H0 (i :: own.filter (· ≠ i)) (ρ.set i (some d)) (σ.set i (some (.ref p))) Hv (upd H p o) := by
  have vw := s.ext.vh
  have smh : Sam H (upd H p o) := .of (same_upd hp)
  have vw' : Vw cl Hv (upd H p o) := ⟨vw.s.trans smh, fun b h => vw.d b (upd_none h).2, fun b xs h => by
    by_cases z : b = p
    · subst z; rw [upd_same] at h; cases h; exact (r.noT.1 _ rfl).elim
    · rw [upd_ne z] at h; exact vw.t b xs h, fun b o' u h => by
    by_cases z : b = p
    · subst z; rw [upd_same] at h; cases h; exact (r.noT.2.1 _ _ rfl).elim
    · rw [upd_ne z] at h; exact vw.z b o' u h, vw.tab.ext (same_upd hp), fun b φ h => by
    by_cases z : b = p
    · subst z; rw [upd_same] at h; cases h; cases r
    · rw [upd_ne z] at h; exact vw.x b φ h⟩
  have mem : ∀ j, j ∈ i :: own.filter (· ≠ i) → j ≠ i → j ∈ own := fun j h n => by
    rcases List.mem_cons.mp h with z | z
    · exact absurd z n
    · exact (List.mem_filter.mp z).1
  refine ⟨⟨s.ext.hh.trans smh, s.ext.vv, vw', s.ext.old, fun b h => s.ext.dom b (upd_none h).2, fun b ps h => ?_⟩, ?_, fun j d h1 h2 => ?_, fun j hj => ?_, fun j k q h1 h2 e1 e2 => ?_⟩
  · obtain ⟨ps', h'⟩ := s.ext.tt b ps h
    exact ⟨ps', by rw [upd_ne (ne_of_none h' hp)]; exact h'⟩
  · rw [List.length_set, List.length_set]; exact s.len
  · have hj : j ≠ i := fun z => h1 (by rw [z]; exact List.mem_cons_self)
    rw [List.getElem?_set_ne (Ne.symm hj)] at h2 ⊢
    exact s.sh j d (fun z => h1 (List.mem_cons_of_mem _ (List.mem_filter.mpr ⟨z, by simpa using hj⟩))) h2
  · by_cases hji : j = i
    · subst hji
      exact ⟨p, d, List.getElem?_set_self (by rw [s.len]; exact hi), List.getElem?_set_self hi, vw.d p hp, s.ext.dom p hp, o, upd_same, r⟩
    · rw [List.getElem?_set_ne (Ne.symm hji), List.getElem?_set_ne (Ne.symm hji)]
      obtain ⟨q, d, e1, e2, e3, e4, o', e6, e8⟩ := s.ow j (mem j hj hji)
      exact ⟨q, d, e1, e2, e3, e4, o', by rw [upd_ne (ne_of_none e6 hp)]; exact e6, e8⟩
  · have key : ∀ m, m ∈ i :: own.filter (· ≠ i) → m ≠ i → (σ.set i (some (.ref p)))[m]? = some (some (.ref p)) → False := fun m hm n e => by
      rw [List.getElem?_set_ne (Ne.symm n)] at e
      obtain ⟨q', d, e1, e2, e3, e4, o', e6, e8⟩ := s.ow m (mem m hm n)
      rw [e] at e2; cases e2
      rw [hp] at e6; cases e6
    have self : (σ.set i (some (.ref p)))[i]? = some (some (.ref p)) := List.getElem?_set_self hi
    by_cases hj : j = i
    · by_cases hk : k = i
      · rw [hj, hk]
      · rw [hj, self] at e1
        cases e1
        exact (key k h2 hk e2).elim
    · by_cases hk : k = i
      · rw [hk, self] at e2
        cases e2
        exact (key j h1 hj e1).elim
      · rw [List.getElem?_set_ne (Ne.symm hj)] at e1
        rw [List.getElem?_set_ne (Ne.symm hk)] at e2
        exact s.ap j k q (mem j h1 hj) (mem k h2 hk) e1 e2
theorem SR.setOwn {i : Nat} {p : Addr} {vs : List V} {ds : List D} (s : SR K cl Hv0 H0 own ρ σ Hv H) (hp : H p = none) (hz : vs.length ≤ sizeLine) (r : Reps K cl Hv vs ds) (hi : i < σ.length) :
    SR K cl Hv0 H0 (i :: own.filter (· ≠ i)) (ρ.set i (some (.lst ds))) (σ.set i (some (.ref p))) Hv (upd H p (.lst vs)) := s.setOwnO hp (.lst hz r) hi
theorem SR.writeO {i : Nat} {p : Addr} {o' : HO} {d0 d' : D} (s : SR K cl Hv0 H0 own ρ σ Hv H) (hi : i ∈ own) (e1 : ρ[i]? = some (some d0)) (e2 : σ[i]? = some (some (.ref p))) (r : OwnO K cl Hv o' d') :
    SR K cl Hv0 H0 own (ρ.set i (some d')) σ Hv (upd H p o') := by
  have vw := s.ext.vh
  obtain ⟨p', d, a1, a2, a3, a4, o, e6, ro⟩ := s.ow i hi
  rw [e2] at a2; cases a2
  have ne : ∀ b u, H b = some u → (∃ ps, u = .tbl ps) ∨ (∃ xs, u = .tup xs) → b ≠ p := fun b u h n z => by
    subst z; rw [e6] at h; cases h
    rcases n with ⟨ps, n⟩ | ⟨xs, n⟩
    · exact ro.noT.2.2 _ n
    · exact ro.noT.1 _ n
  have neV : ∀ b o, Hv b = some o → b ≠ p := fun b o h z => by subst z; rw [a3] at h; cases h
  have iσ : i < σ.length := (List.getElem?_eq_some_iff.mp e2).1
  refine ⟨⟨fun b o h n => ?_, s.ext.vv, ⟨fun b o h n => ?_, fun b h => vw.d b (upd_none h).2, fun b xs h => ?_, fun b o u h => ?_, fun p hp => ?_, fun b φ h => ?_⟩, s.ext.old, fun b h => s.ext.dom b (upd_none h).2, fun b ps h => ?_⟩, by rw [List.length_set]; exact s.len, fun j d h1 h2 => ?_, fun j hj => ?_, s.ap⟩
  · rw [upd_ne fun z => by subst z; rw [a4] at h; cases h]
    exact s.ext.hh b o h n
  · rw [upd_ne (neV b o h)]; exact vw.s b o h n
  · by_cases z : b = p
    · subst z; rw [upd_same] at h; cases h; exact (r.noT.1 _ rfl).elim
    · rw [upd_ne z] at h; exact vw.t b xs h
  · by_cases z : b = p
    · subst z; rw [upd_same] at h; cases h; exact (r.noT.2.1 _ _ rfl).elim
    · rw [upd_ne z] at h; exact vw.z b o u h
  · obtain ⟨ps, h1, h2, h3⟩ := vw.tab p hp
    refine ⟨ps, by rw [upd_ne (ne p.1 _ h1 (.inl ⟨_, rfl⟩))]; exact h1, h2, fun pos cv hc => ?_⟩
    obtain ⟨c, e, hc'⟩ := h3 pos cv hc
    exact ⟨c, e, by rw [upd_ne fun z => ?_]; exact hc'; subst z; rw [e6] at hc'; cases hc'; cases ro⟩
  · by_cases z : b = p
    · subst z; rw [upd_same] at h; cases h; cases r
    · rw [upd_ne z] at h; exact vw.x b φ h
  · obtain ⟨ps', h'⟩ := s.ext.tt b ps h
    exact ⟨ps', by rw [upd_ne (ne b _ h' (.inl ⟨_, rfl⟩))]; exact h'⟩
  · have hji : j ≠ i := fun z => h1 (z ▸ hi)
    rw [List.getElem?_set_ne (Ne.symm hji)] at h2
    exact s.sh j d h1 h2
  · by_cases hji : j = i
    · subst hji
      exact ⟨p, d', List.getElem?_set_self (by rw [s.len]; exact iσ), e2, a3, a4, o', upd_same, r⟩
    · rw [List.getElem?_set_ne (Ne.symm hji)]
      obtain ⟨q, d', b1, b2, b3, b4, o2, b6, b8⟩ := s.ow j hj
      have : q ≠ p := fun z => hji (s.ap j i p hj hi (z ▸ b2) e2)
      exact ⟨q, d', b1, b2, b3, b4, o2, by rw [upd_ne this]; exact b6, b8⟩
theorem SR.write {i : Nat} {p : Addr} {vs : List V} {ds ds' : List D} {vs' : List V} (s : SR K cl Hv0 H0 own ρ σ Hv H) (hi : i ∈ own) (e1 : ρ[i]? = some (some (.lst ds))) (e2 : σ[i]? = some (some (.ref p))) (e6 : H p = some (.lst vs)) (hz : vs'.length ≤ sizeLine) (r : Reps K cl Hv vs' ds') :
    SR K cl Hv0 H0 own (ρ.set i (some (.lst ds'))) σ Hv (upd H p (.lst vs')) := s.writeO hi e1 e2 (.lst hz r)
end
end Sm
namespace Sm
open PySem PySem.Spec L2
structure Gd (X : Cx) (W : WX) : Prop where
  calm : X.calm = true
  nd : X.N.Nodup
  tk : Takes X W
  po : PassesOwn (model X.prog X.w) X.A X.env X.xe
section
variable (X : Cx) (W : WX) (cl : Glb)
def PSO (Hv0 H0 : Hp) (own : List Nat) (Hv : Hp) (Dn : Ends) : O → Prop
  | .nx ρ' => ∀ σ' Hv' H', SR X.K cl Hv0 H0 own ρ' σ' Hv' H' → Sam Hv Hv' → σ'.length = X.N.length → Dn.nx σ' H'
  | .ret d => ∀ v Hv' H', Ext cl Hv0 H0 Hv' H' → Rep X.K cl Hv' v d → Dn.rt v H'
  | .err ρ' c => ∀ σ' Hv' H', SR X.K cl Hv0 H0 [] ρ' σ' Hv' H' → Sam Hv Hv' → σ'.length = X.N.length → W (.ref (cl.c c)) none σ' H'
  | .bad => False
def RunS (own own' : List Nat) (f : DS) (t : TS) : Prop := ∀ (Hv0 H0 : Hp) (ρ : Env) (σ : St) (Hv H : Hp) (Dn : Ends), SR X.K cl Hv0 H0 own ρ σ Hv H → σ.length = X.N.length → PSO X W cl Hv0 H0 own' Hv Dn (f ρ) → t Dn σ H
def SS (own own' : List Nat) (st : Stmt) (f : DS) : Prop := ∃ t, PS X st t ∧ RunS X W cl own own' f t
def SSs (own own' : List Nat) (st : List Stmt) (f : DS) : Prop := ∃ t, PSs X st t ∧ RunS X W cl own own' f t
end
section
variable {X : Cx} {W : WX} {cl : Glb} {Hv0 H0 Hv Hv1 H : Hp} {own own1 own2 own3 : List Nat} {Dn : Ends} {pos p : Pos} {a b c e : Expr} {es : List Expr} {fa fb : DE} {g : DA} {st : Stmt} {sts : List Stmt}
theorem PSO.mono {r : O} (h : PSO X W cl Hv0 H0 own Hv Dn r) (s : Sam Hv Hv1) : PSO X W cl Hv0 H0 own Hv1 Dn r := by
  cases r with
  | nx ρ => exact fun σ' Hv' H' sr sm hl => h σ' Hv' H' sr (s.trans sm) hl
  | ret d => exact h
  | err ρ c => exact fun σ' Hv' H' sr sm hl => h σ' Hv' H' sr (s.trans sm) hl
  | bad => exact h
theorem PSO.less {r : O} (h : PSO X W cl Hv0 H0 own2 Hv Dn r) (hs : ∀ i ∈ own2, i ∈ own1) : PSO X W cl Hv0 H0 own1 Hv Dn r := by
  cases r with
  | nx ρ =>
    intro σ' Hv' H' sr sm hl
    obtain ⟨s1, s2⟩ := sr.freeze hs
    exact h σ' _ H' s1 (sm.trans s2) hl
  | ret d => exact h
  | err ρ c => exact h
  | bad => exact h
def sub (a b : List Nat) : Bool := a.all fun i => b.contains i
theorem sub_mem {a b : List Nat} (h : sub a b = true) : ∀ i ∈ a, i ∈ b := fun i hi => by
  unfold sub at h
  rw [List.all_eq_true] at h
  simpa using h i hi
theorem SS.pre {f : DS} (h : SS X W cl own1 own2 st f) (hs : sub own1 own = true := by rfl) : SS X W cl own own2 st f := by
  obtain ⟨t, pt, h⟩ := h
  refine ⟨t, pt, fun Hv0 H0 ρ σ Hv H Dn sr hl po => ?_⟩
  obtain ⟨s1, s2⟩ := sr.freeze (sub_mem hs)
  exact h Hv0 H0 ρ σ _ H Dn s1 hl (po.mono s2)
theorem SS.post {f : DS} (h : SS X W cl own own1 st f) (hs : sub own2 own1 = true := by rfl) : SS X W cl own own2 st f := by
  obtain ⟨t, pt, h⟩ := h
  exact ⟨t, pt, fun Hv0 H0 ρ σ Hv H Dn sr hl po => h Hv0 H0 ρ σ Hv H Dn sr hl (po.less (sub_mem hs))⟩
theorem SSs.post {f : DS} (h : SSs X W cl own own1 sts f) (hs : sub own2 own1 = true := by rfl) : SSs X W cl own own2 sts f := by
  obtain ⟨t, pt, h⟩ := h
  exact ⟨t, pt, fun Hv0 H0 ρ σ Hv H Dn sr hl po => h Hv0 H0 ρ σ Hv H Dn sr hl (po.less (sub_mem hs))⟩

theorem ss_nil : SSs X W cl own own [] .nx :=
  ⟨_, pss_nil, fun Hv0 H0 ρ σ Hv H Dn sr hl po => po σ Hv H sr (Sam.refl _) hl⟩
def dSeq (f g : DS) : DS := fun ρ => (f ρ).seq g
theorem seq_run {f g : DS} {t u : TS} (h1 : RunS X W cl own own1 f t) (h2 : RunS X W cl own2 own3 g u) (hs : ∀ i ∈ own2, i ∈ own1) : RunS X W cl own own3 (dSeq f g) (tSeq t u) := by
  intro Hv0 H0 ρ σ Hv H Dn sr hl po
  refine h1 Hv0 H0 ρ σ Hv H _ sr hl ?_
  unfold dSeq at po
  cases q : f ρ with
  | nx ρ' =>
    rw [q] at po
    intro σ' Hv' H' sr' sm hl'
    obtain ⟨s1, s2⟩ := sr'.freeze hs
    exact h2 Hv0 H0 ρ' σ' _ H' Dn s1 hl' (PSO.mono (r := g ρ') po (sm.trans s2))
  | ret d => rw [q] at po; exact po
  | err ρ c => rw [q] at po; exact po
  | bad => rw [q] at po; exact po
theorem ss_cons {f g : DS} (h1 : SS X W cl own own1 st f) (h2 : SSs X W cl own2 own3 sts g) (hs : sub own2 own1 = true := by rfl) : SSs X W cl own own3 (st :: sts) (dSeq f g) := by
  obtain ⟨t, pt, h1⟩ := h1
  obtain ⟨u, pu, h2⟩ := h2
  exact ⟨_, pss_cons pt pu, seq_run h1 h2 (sub_mem hs)⟩
theorem ss_one {f : DS} (h1 : SS X W cl own own1 st f) : SSs X W cl own own1 [st] f := by
  obtain ⟨t, pt, h1⟩ := h1
  exact ⟨_, pss_one pt, h1⟩
theorem use_mask {α : Type} {ρ : Env} {σ : St} {T : Hp → Hp → α → Prop} {r : R α} {k : α → O} (sr : SR X.K cl Hv0 H0 own ρ σ Hv H) (hl : σ.length = X.N.length) (po : PSO X W cl Hv0 H0 own1 Hv Dn (r.to ρ k))
    (h : ∀ a Hv' H', r = .ok a → Ext cl Hv H Hv' H' → SR X.K cl Hv0 H0 own ρ σ Hv' H' → PSO X W cl Hv0 H0 own1 Hv' Dn (k a) → T Hv' H' a) : Pst cl W σ Hv H T r := by
  cases r with
  | ok a => exact fun Hv' H' e => h a Hv' H' rfl e (sr.step e) (PSO.mono (r := k a) po e.vv)
  | err c =>
    intro Hv' H' e
    obtain ⟨s1, s2⟩ := (sr.step e).freeze (own' := []) (by simp)
    exact po σ _ H' s1 (e.vv.trans s2) hl
  | bad => exact po
theorem use_full {α : Type} {ρ : Env} {σ : St} {T : Hp → Hp → α → Prop} {r : R α} {k : α → O} (sr : SR X.K cl Hv0 H0 own ρ σ Hv H) (hl : σ.length = X.N.length) (po : PSO X W cl Hv0 H0 own1 Hv Dn (r.to ρ k))
    (h : ∀ a Hv1 H', r = .ok a → Ext cl (thaw own [] σ Hv H) H Hv1 H' → SR X.K cl Hv0 H0 [] ρ σ Hv1 H' → SR X.K cl Hv0 H0 own ρ σ (lift Hv H H') H' → Sam Hv (lift Hv H H') → PSO X W cl Hv0 H0 own1 (lift Hv H H') Dn (k a) → T Hv1 H' a) :
    Pst cl W σ (thaw own [] σ Hv H) H T r := by
  obtain ⟨s1, s2⟩ := sr.freeze (own' := []) (by simp)
  cases r with
  | ok a =>
    intro Hv1 H' e
    have e2 : Ext cl Hv H (lift Hv H H') H' := ext_lift sr.ext.vh ⟨e.hh, Sam.trans e.hh (Sam.refl _), Vw.refl e.vh.tab, fun b o h n => (by rw [h] at n; cases n), e.dom, e.tt⟩
    exact h a Hv1 H' rfl e (s1.step e) (sr.step e2) e2.vv (PSO.mono (r := k a) po e2.vv)
  | err c =>
    intro Hv' H' e
    exact po σ Hv' H' (s1.step e) (s2.trans e.vv) hl
  | bad => exact po
theorem pure_lift {Hv H Hv1 H' : Hp} {v : V} {d : D} (vw : Vw cl (lift Hv H H') H') (vw1 : Vw cl Hv1 H') (r : Rep X.K cl Hv1 v d) (h : pure' d = true) : Rep X.K cl (lift Hv H H') v d :=
  pure_hide (H := H') (fun b xs e => vw.t b xs e) (fun b o u e => vw.z b o u e) (r.mono vw1.s) h

def dRet (f : DE) : DS := fun ρ => (f ρ).to ρ .ret
theorem ss_ret (ha : SE X W cl a fa) : SS X W cl own own1 (.Return (some a) pos) (dRet fa) := by
  obtain ⟨ta, pa, ha⟩ := ha
  refine ⟨_, ps_ret pa, fun Hv0 H0 ρ σ Hv H Dn sr hl po => ?_⟩
  obtain ⟨s1, s2⟩ := sr.freeze (own' := []) (by simp)
  refine ha _ H σ ρ _ s1.ext.vh s1.er (use_full sr hl po fun d Hv1 H' _ e sr1 sr2 sm po' v r => ?_)
  exact po' v Hv1 H' sr1.ext r
def dDrop (f : DE) : DS := fun ρ => (f ρ).to ρ fun _ => .nx ρ
theorem ss_expr (ha : SE X W cl a fa) (hs : swapsWith a none pos.line X.env = pure false := by rfl) : SS X W cl own own (.Expr a pos) (dDrop fa) := by
  obtain ⟨ta, pa, ha⟩ := ha
  refine ⟨_, ps_expr pa hs, fun Hv0 H0 ρ σ Hv H Dn sr hl po => ?_⟩
  obtain ⟨s1, s2⟩ := sr.freeze (own' := []) (by simp)
  refine ha _ H σ ρ _ s1.ext.vh s1.er (use_full sr hl po fun d Hv1 H' _ e sr1 sr2 sm po' v r => ?_)
  exact po' σ _ H' sr2 (Sam.refl _) hl
def dIfS (t : DT) (f g : DS) : DS := fun ρ => (t ρ).to ρ fun k => match k with | true => f ρ | false => g ρ
theorem ss_if {t : DT} {f g : DS} {s1 s2 : List Stmt} (hc : ST X W cl c t) (ha : SSs X W cl own own1 s1 f) (hb : SSs X W cl own own1 s2 g) : SS X W cl own own1 (.If c s1 s2 pos) (dIfS t f g) := by
  obtain ⟨tc, pc, hc⟩ := hc
  obtain ⟨ta, pa, ha⟩ := ha
  obtain ⟨tb, pb, hb⟩ := hb
  refine ⟨_, ps_if pc pa pb, fun Hv0 H0 ρ σ Hv H Dn sr hl po => ?_⟩
  obtain ⟨s1, s2⟩ := sr.freeze (own' := []) (by simp)
  refine hc _ H σ ρ _ s1.ext.vh s1.er (use_full sr hl po fun k Hv1 H' _ e sr1 sr2 sm po' => ?_)
  show if k = true then ta Dn σ H' else tb Dn σ H'
  cases k with
  | true => rw [if_pos rfl]; exact ha Hv0 H0 ρ σ _ H' Dn sr2 hl po'
  | false => rw [if_neg Bool.false_ne_true]; exact hb Hv0 H0 ρ σ _ H' Dn sr2 hl po'

def nots (own : List Nat) (i : Nat) : List Nat := own.filter (· ≠ i)
theorem nots_mem {own : List Nat} {i : Nat} : ∀ j ∈ nots own i, j ∈ own ∧ j ≠ i := fun j h => by
  have := List.mem_filter.mp h
  exact ⟨this.1, by simpa using this.2⟩
theorem nots_or {own : List Nat} {i : Nat} : ∀ j ∈ own, j ∈ nots own i ∨ j = i := fun j h => by
  by_cases e : j = i
  · exact .inr e
  · exact .inl (List.mem_filter.mpr ⟨h, by simpa using e⟩)
def dSet (own : List Nat) (i : Nat) (f : DE) : DS := fun ρ => (f (mask own ρ)).to ρ fun d => .nx (ρ.set i (some d))
def dSetP (i : Nat) (f : DE) : DS := fun ρ => (f ρ).to ρ fun d => if pure' d then .nx (ρ.set i (some d)) else .bad
theorem ilt {i : Nat} {x : Str} {σ : St} (hi : X.N[i]? = some x) (hl : σ.length = X.N.length) : i < σ.length := by
  rw [hl]; exact (List.getElem?_eq_some_iff.mp hi).1
theorem ss_set {i : Nat} {x : Str} {p' : Pos} (gd : Gd X W) (ha : SE X W cl a fa) (hi : X.N[i]? = some x := by rfl) (hx : Loc X.env.scope x := by first | exact Or.inl rfl | exact Or.inr rfl) (hs : swapsWith a (some (.Name x p')) pos.line X.env = pure false := by rfl)
    (hf : X.fn x = true ∨ X.env.scope.names.lookup x = some .local := by first | exact .inl rfl | exact .inr rfl | assumption) : SS X W cl own (nots own i) (.Assign [.Name x p'] a pos) (dSet own i fa) := by
  obtain ⟨ta, pa, ha⟩ := ha
  refine ⟨_, ps_set gd.nd hi hx pa hs hf, fun Hv0 H0 ρ σ Hv H Dn sr hl po => ?_⟩
  refine ha Hv H σ _ _ sr.ext.vh sr.er (use_mask sr hl po fun d Hv' H' _ e sr' po' v r => ?_)
  exact po' _ Hv' H' (sr'.set nots_mem r nots_or) (Sam.refl _) (by rw [List.length_set]; exact hl)
theorem ss_setP {i : Nat} {x : Str} {p' : Pos} (gd : Gd X W) (ha : SE X W cl a fa) (hi : X.N[i]? = some x := by rfl) (hx : Loc X.env.scope x := by first | exact Or.inl rfl | exact Or.inr rfl) (hs : swapsWith a (some (.Name x p')) pos.line X.env = pure false := by rfl)
    (hf : X.fn x = true ∨ X.env.scope.names.lookup x = some .local := by first | exact .inl rfl | exact .inr rfl | assumption) : SS X W cl own (nots own i) (.Assign [.Name x p'] a pos) (dSetP i fa) := by
  obtain ⟨ta, pa, ha⟩ := ha
  refine ⟨_, ps_set gd.nd hi hx pa hs hf, fun Hv0 H0 ρ σ Hv H Dn sr hl po => ?_⟩
  obtain ⟨s1, s2⟩ := sr.freeze (own' := []) (by simp)
  refine ha _ H σ ρ _ s1.ext.vh s1.er (use_full sr hl po fun d Hv1 H' _ e sr1 sr2 sm po' v r => ?_)
  split at po'
  · rename_i hp
    exact po' _ _ H' (sr2.set nots_mem (pure_lift sr2.ext.vh sr1.ext.vh r hp) nots_or) (Sam.refl _) (by rw [List.length_set]; exact hl)
  · exact po'.elim
def TN (K : PySem.W.Frag) (cl : Glb) (Q : VK) : Hp → Hp → List D → Prop := fun Hv' H' ds => ∀ p vs, H' p = none → vs.length ≤ sizeLine → Reps K cl Hv' vs ds → Q (.ref p) (upd H' p (.lst vs))
def SN (X : Cx) (W : WX) (cl : Glb) (e : Expr) (f : DA) : Prop := ∃ t, PE X e t ∧ ∀ (Hv H : Hp) (σ : St) (ρ : Env) (Q : VK), Vw cl Hv H → ER X.K cl Hv ρ σ → Pst cl W σ Hv H (TN X.K cl Q) (f ρ) → t σ H Q
theorem sn_lst (h : SA X W cl es g) (hn : decide (es.length ≤ 1000) = true := by rfl) : SN X W cl (.List es pos) g := by
  obtain ⟨ta, pa, ha, hl⟩ := h
  refine ⟨_, pe_lst pa, fun Hv H σ ρ Q vw er pv => ?_⟩
  refine ha Hv H σ ρ _ vw er ?_
  cases q : g ρ with
  | ok ds =>
    rw [q] at pv
    intro Hv1 H1 e1 vs rv
    have z : vs.length ≤ sizeLine := by rw [rv.length, hl ρ ds q]; exact small_line hn
    exact ⟨z, fun p hp => pv Hv1 H1 e1 p vs hp z rv⟩
  | err c => rw [q] at pv; exact pv
  | bad => rw [q] at pv; exact pv
def dSetN (own : List Nat) (i : Nat) (f : DA) : DS := fun ρ => (f (mask own ρ)).to ρ fun ds => .nx (ρ.set i (some (.lst ds)))
theorem ss_setN {i : Nat} {x : Str} {p' : Pos} (gd : Gd X W) (ha : SN X W cl a g) (hi : X.N[i]? = some x := by rfl) (hx : Loc X.env.scope x := by first | exact Or.inl rfl | exact Or.inr rfl) (hs : swapsWith a (some (.Name x p')) pos.line X.env = pure false := by rfl)
    (hf : X.fn x = true ∨ X.env.scope.names.lookup x = some .local := by first | exact .inl rfl | exact .inr rfl | assumption) : SS X W cl own (i :: nots own i) (.Assign [.Name x p'] a pos) (dSetN own i g) := by
  obtain ⟨ta, pa, ha⟩ := ha
  refine ⟨_, ps_set gd.nd hi hx pa hs hf, fun Hv0 H0 ρ σ Hv H Dn sr hl po => ?_⟩
  refine ha Hv H σ _ _ sr.ext.vh sr.er (use_mask sr hl po fun ds Hv' H' _ e sr' po' p vs hp hz r => ?_)
  exact po' _ Hv' _ (sr'.setOwn hp hz r (ilt hi hl)) (Sam.refl _) (by rw [List.length_set]; exact hl)
def putIn (i : Nat) (ρ : Env) (new : List D) : O := match ρ[i]? with
  | some (some (.lst ds)) => if ds.length + new.length ≤ sizeLine then .nx (ρ.set i (some (.lst (ds ++ new)))) else .bad
  | _ => .bad
def lstAt (i : Nat) (ρ : Env) : Bool := match ρ[i]? with | some (some (.lst _)) => true | _ => false
def dApp (own : List Nat) (i : Nat) (f : DE) : DS := fun ρ => if lstAt i ρ then (f (mask own ρ)).to ρ fun d => putIn i ρ [d] else .bad
def dAppP (i : Nat) (f : DE) : DS := fun ρ => if lstAt i ρ then (f ρ).to ρ fun d => if pure' d then putIn i ρ [d] else .bad else .bad
theorem lstAt_ok {i : Nat} {ρ : Env} (h : lstAt i ρ = true) : ∃ ds, ρ[i]? = some (some (.lst ds)) := by
  unfold lstAt at h
  split at h
  · exact ⟨_, by assumption⟩
  · cases h
theorem app_end {i : Nat} {ρ : Env} {σ : St} {Hv H H' : Hp} {v : V} {d : D} {q : Addr} (sr : SR X.K cl Hv0 H0 own ρ σ Hv H') (hl : σ.length = X.N.length) (ho : i ∈ own) (hq : σ[i]? = some (some (.ref q))) (r : Rep X.K cl Hv v d) (po : PSO X W cl Hv0 H0 own Hv Dn (putIn i ρ [d])) :
    ∃ l xs y, V.ref q = .ref l ∧ [v] = [y] ∧ H' l = some (.lst xs) ∧ xs.length < sizeLine ∧ Dn.nx σ (upd H' l (.lst (xs ++ [y]))) := by
  obtain ⟨p, d0, e1, e2, e3, e4, o, e6, eo⟩ := sr.ow i ho
  rw [hq] at e2; cases e2
  unfold putIn at po
  rw [e1] at po
  cases d0 with
  | lst ds => ?_
  | _ => exact po.elim
  obtain ⟨vs, rfl, e7, e8⟩ := eo.ofL
  simp only at po
  split at po
  · rename_i hz
    have hz : vs.length + 1 ≤ sizeLine := by rw [e8.length]; exact hz
    refine ⟨q, vs, v, rfl, rfl, e6, hz, ?_⟩
    exact po σ Hv _ (sr.write ho e1 hq e6 (by rw [List.length_append]; exact hz) (e8.append (.cons r .nil))) (Sam.refl _) hl
  · exact po.elim
theorem ss_app {i : Nat} {x : Str} {apos npos : Pos} (ha : SE X W cl a fa) (ho : own.contains i = true := by rfl) (hN : X.N[i]? = some x := by rfl) (hv : Vis X.env.scope x := by first | exact Or.inl rfl | exact Or.inr (Or.inl rfl)) (hd : (x == ("__debug__" : Str)) = false := by decide)
    (hcd : (x == ("__classdict__" : Str)) = false := by decide) (hline : (apos.endLine == p.line) = true := by rfl) (hs1 : starEach [a] X.env = [(false, eval a X.env)] := by rfl)
    (hfew : ((backTo p (starEach [a] X.env)).all (fun x => !x.1) && (backToKw p (keywordEach [] X.env)).all (fun x => x.1.isSome) && decide ([a].length + ([] : List Keyword).length + (if ([] : List Keyword).isEmpty then 0 else 1) < 30)) = true := by rfl)
    (hs : swapsWith (.Call (.Attribute (.Name x npos) "append" apos) [a] [] p) none pos.line X.env = pure false := by rfl) :
    SS X W cl own own (.Expr (.Call (.Attribute (.Name x npos) "append" apos) [a] [] p) pos) (dApp own i fa) := by
  obtain ⟨ta, pa, ha⟩ := ha
  refine ⟨_, ps_expr (pe_bm PySem.F.plainAttrs_list PySem.F.slot_list_append PySem.F.type_list_append mt_append (pe_var hN hv hd hcd) (pa_cons pa pa_nil hs1) rfl hfew hline hs1 rfl) hs, fun Hv0 H0 ρ σ Hv H Dn sr hl po => ?_⟩
  have hi : i ∈ own := by simpa using ho
  obtain ⟨q, d0, e1, e2, e3, e4, o, e6, eo⟩ := sr.ow i hi
  cases hla : lstAt i ρ with
  | false => simp only [dApp, dAppP, hla] at po; exact po.elim
  | true => ?_
  obtain ⟨ds, h1⟩ := lstAt_ok hla
  rw [h1] at e1; cases e1
  obtain ⟨vs, rfl, e7, e8⟩ := eo.ofL
  simp only [dApp, dAppP, hla, if_true] at po
  refine ⟨.ref q, e2, .inl ⟨rfl, vs, .inl (.inl e6)⟩, ?_⟩
  refine ha Hv H σ _ _ sr.ext.vh sr.er (use_mask sr hl po fun d Hv' H' _ e sr' po' v r => ?_)
  exact app_end (H := H) sr' hl hi e2 r po'
end
end Sm
namespace Sm
open PySem PySem.Spec L2
mutual
def patIx : Pat → List Nat
  | .v i => [i]
  | .t ps => patIxs ps
def patIxs : List Pat → List Nat
  | [] => []
  | p :: ps => patIx p ++ patIxs ps
end
def disj (a b : List Nat) : Bool := a.all fun i => !b.contains i
theorem disj_mem {a b : List Nat} (h : disj a b = true) : ∀ i ∈ a, i ∉ b := fun i hi => by
  unfold disj at h
  rw [List.all_eq_true] at h
  simpa using h i hi
section
variable {X : Cx} {W : WX} {cl : Glb} {Hv0 H0 Hv Hv1 H : Hp} {own own1 own2 own3 : List Nat} {Dn : Ends} {pos p : Pos} {a b c e tg iter : Expr} {es : List Expr} {fa fb : DE} {g : DA} {st : Stmt} {sts : List Stmt}
def SG (X : Cx) (cl : Glb) (tg : Expr) (pt : Pat) : Prop := ∃ t, PG X tg t ∧ ∀ (Hv H : Hp) (v : V) (d : D) (ρ ρ' : Env) (σ : St) (Q : St → Hp → Prop), Vw cl Hv H → Rep X.K cl Hv v d → bindPat pt d ρ = some ρ' → ρ.length = σ.length →
  (∀ σ', (∀ (own : List Nat) (Hv0 H0 Hv1 H1 : Hp), SR X.K cl Hv0 H0 own ρ σ Hv1 H1 → Sam Hv Hv1 → (∀ i ∈ patIx pt, i ∉ own) → SR X.K cl Hv0 H0 own ρ' σ' Hv1 H1) → (∀ Hv2, ER X.K cl Hv2 ρ σ → Sam Hv Hv2 → ER X.K cl Hv2 ρ' σ') → σ'.length = σ.length → ρ'.length = ρ.length → (∀ j, j ∉ patIx pt → σ'[j]? = σ[j]?) → Q σ' H) → t v σ H Q
def SGs (X : Cx) (cl : Glb) (tg : List Expr) (pt : List Pat) : Prop := ∃ t, PGs X tg t ∧ ∀ (Hv H : Hp) (v : List V) (d : List D) (ρ ρ' : Env) (σ : St) (Q : St → Hp → Prop), Vw cl Hv H → Reps X.K cl Hv v d → bindPats pt d ρ = some ρ' → ρ.length = σ.length →
  (∀ σ', (∀ (own : List Nat) (Hv0 H0 Hv1 H1 : Hp), SR X.K cl Hv0 H0 own ρ σ Hv1 H1 → Sam Hv Hv1 → (∀ i ∈ patIxs pt, i ∉ own) → SR X.K cl Hv0 H0 own ρ' σ' Hv1 H1) → (∀ Hv2, ER X.K cl Hv2 ρ σ → Sam Hv Hv2 → ER X.K cl Hv2 ρ' σ') → σ'.length = σ.length → ρ'.length = ρ.length → (∀ j, j ∉ patIxs pt → σ'[j]? = σ[j]?) → Q σ' H) → t v σ H Q
theorem er_set {K : PySem.W.Frag} {Hv : Hp} {ρ : Env} {σ : St} {i : Nat} {v : V} {d : D} (e : ER K cl Hv ρ σ) (r : Rep K cl Hv v d) : ER K cl Hv (ρ.set i (some d)) (σ.set i (some v)) := ⟨fun j d' h => by
  by_cases hj : j = i
  · subst hj
    by_cases hl : j < ρ.length
    · rw [List.getElem?_set_self hl] at h; cases h
      exact ⟨v, List.getElem?_set_self (by rw [← e.len]; exact hl), r⟩
    · rw [List.getElem?_eq_none (by simpa using hl)] at h; cases h
  · rw [List.getElem?_set_ne (Ne.symm hj)] at h ⊢
    exact e.get j d' h, by rw [List.length_set, List.length_set]; exact e.len⟩
theorem sg_name {x : Str} (i : Nat) (nd : X.N.Nodup) (hi : X.N[i]? = some x := by rfl) (hx : Loc X.env.scope x := by first | exact Or.inl rfl | exact Or.inr rfl)
    (hf : X.fn x = true ∨ X.env.scope.names.lookup x = some .local := by first | exact .inl rfl | exact .inr rfl | assumption) : SG X cl (.Name x pos) (.v i) := by
  refine ⟨_, pg_name nd hi hx hf, fun Hv H v d ρ ρ' σ Q vw r e hl q => ?_⟩
  cases e
  refine q _ (fun own Hv0 H0 Hv1 H1 sr sm hd => ?_) (fun Hv2 er sm => ?_) (by rw [List.length_set]) (by rw [List.length_set]) fun j hj => ?_
  · have ho : i ∉ own := hd i (by simp [patIx])
    exact sr.set (fun j hj => ⟨hj, fun z => ho (z ▸ hj)⟩) (r.mono sm) fun j hj => .inl hj
  · exact er_set er (r.mono sm)
  · rw [List.getElem?_set_ne]
    intro z
    exact hj (by simp [patIx, z])
theorem sgs_nil : SGs X cl [] [] := by
  refine ⟨_, pgs_nil, fun Hv H v d ρ ρ' σ Q vw r e hl q => ?_⟩
  cases r with
  | nil =>
    cases e
    exact ⟨rfl, q σ (fun own Hv0 H0 Hv1 H1 sr _ _ => sr) (fun _ er _ => er) rfl rfl fun _ _ => rfl⟩
  | cons _ _ => cases e
theorem sgs_cons {pt : Pat} {pts : List Pat} (h1 : SG X cl e pt) (h2 : SGs X cl es pts) (hs : (assignEach (e :: es) X.env).map (·.2) = assign e X.env :: (assignEach es X.env).map (·.2) := by rfl) : SGs X cl (e :: es) (pt :: pts) := by
  obtain ⟨t, pt1, h1⟩ := h1
  obtain ⟨u, pu, h2⟩ := h2
  refine ⟨_, pgs_cons pt1 pu hs, fun Hv H v d ρ ρ' σ Q vw r e hl q => ?_⟩
  cases r with
  | nil => simp [bindPats] at e
  | cons r t =>
    simp only [bindPats, Option.bind_eq_some_iff] at e
    obtain ⟨ρ1, e1, e2⟩ := e
    refine ⟨_, _, rfl, h1 Hv H _ _ ρ ρ1 σ _ vw r e1 hl fun σ1 f1 g1 l1 m1 k1 => ?_⟩
    refine h2 Hv H _ _ ρ1 ρ' σ1 _ vw t e2 (by rw [m1, l1]; exact hl) fun σ2 f2 g2 l2 m2 k2 => ?_
    refine q σ2 (fun own Hv0 H0 Hv1 H1 sr sm hd => ?_) (fun Hv2 er sm => ?_) (l2.trans l1) (m2.trans m1) fun j hj => ?_
    · exact f2 own Hv0 H0 Hv1 H1 (f1 own Hv0 H0 Hv1 H1 sr sm fun i hi => hd i (by simp [patIxs, hi])) sm fun i hi => hd i (by simp [patIxs, hi])
    · exact g2 Hv2 (g1 Hv2 er sm) sm
    · rw [k2 j fun z => hj (by simp [patIxs, z]), k1 j fun z => hj (by simp [patIxs, z])]
theorem PG.or {t1 t2 : TG} (h1 : PG X tg t1) (h2 : PG X tg t2) : PG X tg (fun v σ H Q => t1 v σ H Q ∨ t2 v σ H Q) :=
  ⟨fun pins s σ H v u Q I r h => h.elim (h1.run pins s σ H v u Q I r) (h2.run pins s σ H v u Q I r)⟩
theorem bindPats_len : ∀ (ps : List Pat) (ds : List D) (ρ ρ' : Env), bindPats ps ds ρ = some ρ' → ds.length = ps.length := by
  intro ps
  induction ps with
  | nil => intro ds ρ ρ' h; cases ds with | nil => rfl | cons _ _ => simp [bindPats] at h
  | cons p ps ih =>
    intro ds ρ ρ' h
    cases ds with
    | nil => simp [bindPats] at h
    | cons d ds =>
      simp only [bindPats, Option.bind_eq_some_iff] at h
      obtain ⟨ρ1, _, h2⟩ := h
      rw [List.length_cons, List.length_cons, ih ds ρ1 ρ' h2]
theorem sg_tup {pts : List Pat} {k : Nat} (hc : X.calm = true) (h : SGs X cl es pts) (hn : (assignEach es X.env).length = pts.length := by rfl) (hst : (assignEach es X.env).findIdx? (·.1) = none := by rfl) : SG X cl (.Tuple es k pos) (.t pts) := by
  obtain ⟨t, pt, h⟩ := h
  refine ⟨_, PG.or (pg_tup hc pt hn hst) (pg_unl hc pt hn hst), fun Hv H v d ρ ρ' σ Q vw r e hl q => ?_⟩
  cases d with
  | tup ds =>
    cases r with
    | tup s z r =>
      simp only [bindPat] at e
      refine .inl ⟨_, _, rfl, vw.s.sqU s, ?_, h Hv H _ _ ρ ρ' σ Q vw r e hl fun σ' f1 g1 l1 m1 k1 => q σ' f1 g1 l1 m1 k1⟩
      rw [r.length]
      exact bindPats_len _ _ _ _ e
  | lst ds =>
    cases r with
    | lst s z r =>
      simp only [bindPat] at e
      refine .inr ⟨_, _, rfl, .inl (.inl (vw.s _ _ s rfl)), ?_, h Hv H _ _ ρ ρ' σ Q vw r e hl fun σ' f1 g1 l1 m1 k1 => q σ' f1 g1 l1 m1 k1⟩
      rw [r.length]
      exact bindPats_len _ _ _ _ e
  | _ => simp [bindPat] at e
def dAsg (own : List Nat) (pt : Pat) (f : DE) : DS := fun ρ => (f (mask own ρ)).to ρ fun d => match bindPat pt d ρ with | some ρ' => .nx ρ' | none => .bad
theorem ss_asg {pt : Pat} (ha : SE X W cl a fa) (hg : SG X cl tg pt) (hd : disj (patIx pt) own = true := by rfl) (hs : swapsWithSole [tg] a pos.line X.env = pure false := by rfl) (hw : swappedStores [tg] a X.env = pure none := by rfl)
    (h1 : (assignEach [tg] X.env).map (·.2) = [assign tg X.env] := by rfl) : SS X W cl own own (.Assign [tg] a pos) (dAsg own pt fa) := by
  obtain ⟨ta, pa, ha⟩ := ha
  obtain ⟨t, pt1, hg⟩ := hg
  refine ⟨_, ps_asg pa pt1 hs hw h1, fun Hv0 H0 ρ σ Hv H Dn sr hl po => ?_⟩
  refine ha Hv H σ _ _ sr.ext.vh sr.er (use_mask sr hl po fun d Hv' H' _ e sr' po' v r => ?_)
  cases q : bindPat pt d ρ with
  | none => rw [q] at po'; exact po'.elim
  | some ρ' =>
    rw [q] at po'
    exact hg Hv' H' v d ρ ρ' σ _ sr'.ext.vh r q sr'.len fun σ' f1 g1 l1 m1 k1 => po' σ' Hv' H' (f1 own Hv0 H0 Hv' H' sr' (Sam.refl _) (disj_mem hd)) (Sam.refl _) (l1.trans hl)
def dPar (own : List Nat) (i j : Nat) (g : DA) : DS := fun ρ => (g (mask own ρ)).to ρ fun ds => match ds with | [d1, d2] => .nx ((ρ.set i (some d1)).set j (some d2)) | _ => .bad
theorem ss_par {i j : Nat} {x y : Str} {px py pt pt2 : Pos} {kt k2 : Nat} (gd : Gd X W) (ha : SA X W cl [a, b] g) (hi : X.N[i]? = some x := by rfl) (hj : X.N[j]? = some y := by rfl) (hij : i ≠ j := by decide)
    (hd : disj [i, j] own = true := by rfl) (hx : X.env.scope.names.lookup x = some .local := by rfl) (hy : X.env.scope.names.lookup y = some .local := by rfl)
    (hw : swappedStores [.Tuple [.Name x px, .Name y py] kt pt] (.Tuple [a, b] k2 pt2) X.env = pure (some [x, y]) := by rfl)
    (hs : swapsWithSole [.Tuple [.Name x px, .Name y py] kt pt] (.Tuple [a, b] k2 pt2) pos.line X.env = pure false := by rfl) :
    SS X W cl own own (.Assign [.Tuple [.Name x px, .Name y py] kt pt] (.Tuple [a, b] k2 pt2) pos) (dPar own i j g) := by
  obtain ⟨ta, pa, ha, _⟩ := ha
  refine ⟨_, ps_par gd.calm gd.nd hi hj hij hx hy pa hw hs, fun Hv0 H0 ρ σ Hv H Dn sr hl po => ?_⟩
  refine ha Hv H σ _ _ sr.ext.vh sr.er (use_mask sr hl po fun ds Hv' H' _ e sr' po' vs r => ?_)
  have di := disj_mem hd
  cases r with
  | nil => exact po'.elim
  | cons r1 r =>
    cases r with
    | nil => exact po'.elim
    | cons r2 r =>
      cases r with
      | cons _ _ => exact po'.elim
      | nil =>
        have s1 := sr'.set (own' := own) (i := i) (fun k hk => ⟨hk, fun z => di i (by simp) (z ▸ hk)⟩) r1 fun k hk => .inl hk
        have s2 := s1.set (own' := own) (i := j) (fun k hk => ⟨hk, fun z => di j (by simp) (z ▸ hk)⟩) r2 fun k hk => .inl hk
        exact ⟨_, _, rfl, po' _ Hv' H' s2 (Sam.refl _) (by rw [List.length_set, List.length_set]; exact hl)⟩

def forGo (pt : Pat) (f : DS) : List D → DS
  | [], ρ => .nx ρ
  | d :: ds, ρ => match bindPat pt d ρ with
    | some ρ' => (f ρ').seq (forGo pt f ds)
    | none => .bad
def dFor (own : List Nat) (pt : Pat) (it : DI) (f : DS) : DS := fun ρ => (it (mask own ρ)).to ρ fun ds => forGo pt f ds ρ
theorem ss_for {pt : Pat} {it : DI} {f : DS} (gd : Gd X W) (hi : SI X W cl tg iter it) (hg : SG X cl tg pt) (hb : SSs X W cl own own sts f) (hd : disj (patIx pt) own = true := by rfl) (hs : ∀ x, foldedSetIterable iter X.env x = pure x := by intro _; rfl) :
    SS X W cl own own (.For tg iter sts [] pos) (dFor own pt it f) := by
  obtain ⟨wi, pi, hi⟩ := hi
  obtain ⟨tg1, pg, hg⟩ := hg
  obtain ⟨tb, pb, hb⟩ := hb
  refine ⟨_, ps_for gd.po gd.calm pi pg pb hs, fun Hv0 H0 ρ σ Hv H Dn sr hl po => ?_⟩
  refine hi Hv H σ _ _ sr.ext.vh sr.er (use_mask sr hl po fun ds Hv' H' _ e sr' po' z J hJ => ?_)
  refine ⟨fun i m σ1 H1 => ∃ ρ1 Hv1, SR X.K cl Hv0 H0 own ρ1 σ1 Hv1 H1 ∧ σ1.length = X.N.length ∧ Sam Hv' Hv1 ∧ m = ds.length - i ∧ i ≤ ds.length ∧ PSO X W cl Hv0 H0 own Hv1 Dn (forGo pt f (ds.drop i) ρ1),
    ⟨ds.length, ρ, Hv', sr', hl, Sam.refl _, rfl, Nat.zero_le _, po'⟩, ?_⟩
  rintro i m σ1 H1 ⟨ρ1, Hv1, s1, l1, sm1, rfl, hi1, p1⟩
  by_cases hlt : i < ds.length
  · rw [List.drop_eq_getElem_cons hlt] at p1
    unfold forGo at p1
    refine .inr ⟨hJ.go i Hv1 H1 sm1 s1.ext.vh hlt, fun σ2 H2 => ∃ ρ2 Hv2, SR X.K cl Hv0 H0 own ρ2 σ2 Hv2 H2 ∧ σ2.length = X.N.length ∧ Sam Hv' Hv2 ∧ PSO X W cl Hv0 H0 own Hv2 Dn (forGo pt f (ds.drop (i + 1)) ρ2),
      fun σ2 H2 ⟨ρ2, Hv2, s2, l2, sm2, p2⟩ => ⟨ds.length - (i + 1), by omega, ρ2, Hv2, s2, l2, sm2, rfl, hlt, p2⟩, fun x H2 y => ?_⟩
    obtain ⟨Hv2, e2, r2⟩ := hJ.yld i Hv1 H1 sm1 s1.ext.vh ds[i] (by simp [hlt]) x H2 y
    cases q : bindPat pt ds[i] ρ1 with
    | none => rw [q] at p1; exact p1.elim
    | some ρ' =>
      rw [q] at p1
      refine hg Hv2 H2 x ds[i] ρ1 ρ' σ1 _ e2.vh r2 q s1.len fun σ3 f3 g3 l3 m3 k3 => ?_
      have s3 := f3 own Hv0 H0 Hv2 H2 (s1.step e2) (Sam.refl _) (disj_mem hd)
      refine hb Hv0 H0 ρ' σ3 Hv2 H2 _ s3 (l3.trans l1) ?_
      have p1' : PSO X W cl Hv0 H0 own Hv2 Dn ((f ρ').seq (forGo pt f (ds.drop (i + 1)))) := p1.mono e2.vv
      cases w : f ρ' with
      | nx ρ4 =>
        rw [w] at p1'
        intro σ4 Hv4 H4 s4 sm4 l4
        exact ⟨ρ4, Hv4, s4, l4, (sm1.trans e2.vv).trans sm4, p1'.mono sm4⟩
      | ret d => rw [w] at p1'; exact p1'
      | err ρ4 c => rw [w] at p1'; exact p1'
      | bad => rw [w] at p1'; exact p1'
  · have ei : i = ds.length := by omega
    subst ei
    rw [List.drop_length] at p1
    exact .inl ⟨hJ.stop _ Hv1 H1 sm1 s1.ext.vh rfl, p1 σ1 Hv1 H1 s1 (Sam.refl _) l1⟩
def whileGo (t : DT) (f : DS) : Nat → DS
  | 0, _ => .bad
  | n + 1, ρ => (t ρ).to ρ fun k => match k with
    | true => (f ρ).seq (whileGo t f n)
    | false => .nx ρ
def dWhile (n : Env → Nat) (t : DT) (f : DS) : DS := fun ρ => whileGo t f (n ρ) ρ
theorem ss_while {t : DT} {f : DS} (n : Env → Nat) (gd : Gd X W) (hc : ST X W cl c t) (hb : SSs X W cl own own sts f) : SS X W cl own own (.While c sts [] pos) (dWhile n t f) := by
  obtain ⟨tc, pc, hc⟩ := hc
  obtain ⟨tb, pb, hb⟩ := hb
  refine ⟨_, ps_while gd.po pc pb, fun Hv0 H0 ρ σ Hv H Dn sr hl po => ?_⟩
  refine ⟨fun m σ1 H1 => ∃ ρ1 Hv1, SR X.K cl Hv0 H0 own ρ1 σ1 Hv1 H1 ∧ σ1.length = X.N.length ∧ PSO X W cl Hv0 H0 own Hv1 Dn (whileGo t f m ρ1), ⟨n ρ, ρ, Hv, sr, hl, po⟩, ?_⟩
  rintro m σ1 H1 ⟨ρ1, Hv1, s1, l1, p1⟩
  cases m with
  | zero => exact p1.elim
  | succ m =>
    obtain ⟨s2, sm2⟩ := s1.freeze (own' := []) (by simp)
    refine hc _ H1 σ1 ρ1 _ s2.ext.vh s2.er (use_full s1 l1 (show PSO X W cl Hv0 H0 own Hv1 Dn ((t ρ1).to ρ1 _) from p1) fun k Hv3 H' _ e sr1 sr2 sm po' => ?_)
    show if k = true then _ else _
    cases k with
    | false => rw [if_neg Bool.false_ne_true]; exact po' σ1 _ H' sr2 (Sam.refl _) l1
    | true =>
      rw [if_pos rfl]
      refine ⟨fun σ4 H4 => ∃ ρ4 Hv4, SR X.K cl Hv0 H0 own ρ4 σ4 Hv4 H4 ∧ σ4.length = X.N.length ∧ PSO X W cl Hv0 H0 own Hv4 Dn (whileGo t f m ρ4), fun σ4 H4 w => ⟨m, Nat.lt_succ_self m, w⟩, ?_⟩
      refine hb Hv0 H0 ρ1 σ1 _ H' _ sr2 l1 ?_
      have po2 : PSO X W cl Hv0 H0 own (lift Hv1 H1 H') Dn ((f ρ1).seq (whileGo t f m)) := po'
      cases w : f ρ1 with
      | nx ρ4 =>
        rw [w] at po2
        intro σ4 Hv4 H4 s4 sm4 l4
        exact ⟨ρ4, Hv4, s4, l4, po2.mono sm4⟩
      | ret d => rw [w] at po2; exact po2
      | err ρ4 c => rw [w] at po2; exact po2
      | bad => rw [w] at po2; exact po2
end
def outR : O → R D
  | .nx _ => .ok .non
  | .ret d => .ok d
  | .err _ c => .err c
  | .bad => .bad
def args (m : Nat) (ds : List D) : Env := ds.map some ++ List.replicate (m - ds.length) none
def defD (n m : Nat) (f : DS) : List D → R D := fun ds => if ds.length = n then outR (f (args m ds)) else .bad
theorem args_get {K : PySem.W.Frag} {cl : Glb} {H : Hp} {vs : List V} {ds : List D} {N : List Str} {i : Nat} {d : D} (r : Reps K cl H vs ds) (h : (args N.length ds)[i]? = some (some d)) : ∃ v, (start N vs)[i]? = some (some v) ∧ Rep K cl H v d := by
  unfold args at h
  unfold L2.start
  by_cases hi : i < ds.length
  · rw [List.getElem?_append_left (by simpa using hi), List.getElem?_map] at h
    rw [List.getElem?_append_left (by rw [List.length_map, r.length]; exact hi), List.getElem?_map]
    cases q : ds[i]? with
    | none => rw [q] at h; cases h
    | some d' =>
      rw [q] at h; cases h
      obtain ⟨v, h1, h2⟩ := r.get q
      exact ⟨v, by rw [h1]; rfl, h2⟩
  · rw [List.getElem?_append_right (by simpa using hi), List.getElem?_replicate] at h
    split at h <;> cases h
theorem fn_ok {P : Program} {w : World} {K : PySem.W.Frag} {mg : Str → Option Value} {base : Heap} {cl : Glb} {k n m : Nat} {x : Str} {st : Stmt} {f : Addr} {fd : FuncData} {N ps : List Str} {den : DS} {own : List Nat}
    (F : Fun K x x st f fd) (S : FnScope N ps (defScope st)) (hn : ps.length = n) (hN : N.length = m)
    (h : ∀ (cdv : Value) (A : Around) (outer : List PySem.Env) (s : Shared) (H : Hp) (E : XK), Gd (cxOf (L2.CX P w) P w K mg base N x (defScope st) f cdv A outer s H E) (fun cls d _ H => E cls d H) →
      Room k (A.deeper (PyProof.Rows.envOfC x (defScope st) s.heap.objs.size f cdv)) → SSs (cxOf (L2.CX P w) P w K mg base N x (defScope st) f cdv A outer s H E) (fun cls d _ H => E cls d H) cl [] own (defBody st) den) :
    FnOk P w K mg base (L2.CX P w) (k + 1) f fd ps (spF K cl n (defD n m den)) := by
  refine F.okX S (fun vs H Q E h => h.1.trans hn.symm) (fun cdv A outer s H vs Q E hr hsp => ?_)
  obtain ⟨hv, Hv, ds, vw, r, ps'⟩ := hsp
  have gd : Gd (cxOf (L2.CX P w) P w K mg base N x (defScope st) f cdv A outer s H E) (fun cls d _ H => E cls d H) := ⟨rfl, S.nd, takes_of rfl rfl rfl rfl, passes_of rfl⟩
  obtain ⟨t, pt, run⟩ := h cdv A outer s H E gd hr
  refine ⟨t, pt, run Hv H (args N.length ds) (start N vs) Hv H _ ⟨Ext.refl vw, ?_, fun i d _ e => args_get r e, fun i hi => absurd hi (by simp), fun i j p hi => absurd hi (by simp)⟩ ?_ ?_⟩
  · unfold args L2.start
    rw [List.length_append, List.length_append, List.length_map, List.length_map, List.length_replicate, List.length_replicate, r.length]
  · unfold L2.start
    have h1 : ps.length ≤ N.length := by have := congrArg List.length S.pre; rw [List.length_take] at this; omega
    show _ = N.length
    rw [List.length_append, List.length_map, List.length_replicate]
    omega
  · have hd : ds.length = n := by rw [← r.length]; exact hv
    unfold defD at ps'
    rw [if_pos hd] at ps'
    rw [hN]
    cases q : den (args m ds) with
    | nx ρ =>
      rw [q] at ps'
      exact fun σ' Hv' H' sr sm hl => ps' Hv' H' sr.ext .non .non
    | ret d =>
      rw [q] at ps'
      exact fun v Hv' H' e r' => ps' Hv' H' e v r'
    | err ρ c =>
      rw [q] at ps'
      exact fun σ' Hv' H' sr _ hl => ps' Hv' H' sr.ext
    | bad => rw [q] at ps'; exact ps'.elim
theorem fn_mk {P : Program} {w : World} {K : PySem.W.Frag} {mg : Str → Option Value} {base : Heap} {cl : Glb} {k n m : Nat} {x : Str} {st : Stmt} {f : Addr} {fd : FuncData} {N ps : List Str} {den : DS} {own : List Nat}
    (F : Fun K x x st f fd) (S : FnScope N ps (defScope st)) (hm : mg x = some (.ref f)) (hb : Binds K fd ps []) (hn : ps.length = n) (hN : N.length = m)
    (h : ∀ (cdv : Value) (A : Around) (outer : List PySem.Env) (s : Shared) (H : Hp) (E : XK), Gd (cxOf (L2.CX P w) P w K mg base N x (defScope st) f cdv A outer s H E) (fun cls d _ H => E cls d H) →
      Room k (A.deeper (PyProof.Rows.envOfC x (defScope st) s.heap.objs.size f cdv)) → SSs (cxOf (L2.CX P w) P w K mg base N x (defScope st) f cdv A outer s H E) (fun cls d _ H => E cls d H) cl [] own (defBody st) den) :
    Fn P w K mg base cl (k + 1) x n (defD n m den) := ⟨f, fd, ps, fn_ok F S hn hN h, hm, F.kp, hb, hn⟩
def spL (K : PySem.W.Frag) : Sp := fun vs H Q _ => ∃ (a : Addr) (ns : List Int), vs = [.ref a] ∧ SqL K H a (ns.map V.int) ∧ ns.length ≤ 63 ∧ ∀ H', Q (.bl true) H'
theorem law_by {P : Program} {w : World} {K : PySem.W.Frag} {mg : Str → Option Value} {base : Heap} {k : Nat} {f : Addr} {fd : FuncData} {ps : List Str} (hp : ps.length = 1) (c : Nat → Addr)
    (h : ∀ ns : List Int, ns.length ≤ 63 → ∃ F, F [.scr0] = .ok (.bl true) ∧ FnOk P w K mg base (L2.CX P w) k f fd ps (spF K (Glb.of c ns []) 1 F)) : FnOk P w K mg base (L2.CX P w) k f fd ps (spL K) := by
  refine ⟨fun vs H Q E ⟨a, ns, e, _⟩ => by rw [e, hp]; rfl, fun A outer s H args us vs Q E hr e0 hb hv hs => ?_⟩
  obtain ⟨a, ns, rfl, hq, hl, q⟩ := hs
  obtain ⟨F, hF, ok⟩ := h ns hl
  refine ok.run A outer s H args us _ Q E hr e0 hb hv ⟨rfl, H, [.scr0], Vw.refl (fun _ h => nomatch h), .cons (.scr0 (cl := Glb.of c ns []) hq (Nat.le_trans hl (by decide))) .nil, ?_⟩
  rw [hF]
  intro Hv' H' e v r
  cases r
  exact q H'
theorem Fn.imp {P : Program} {w : World} {K : PySem.W.Frag} {mg : Str → Option Value} {base : Heap} {cl : Glb} {k n : Nat} {x : Str} {F F' : List D → R D} (h : Fn P w K mg base cl k x n F)
    (hi : ∀ ds, F' ds = .bad ∨ ∃ es, F' ds = F es ∧ ∀ H vs, Reps K cl H vs ds → Reps K cl H vs es) : Fn P w K mg base cl k x n F' := by
  obtain ⟨f, fd, ps, h1, h2, h3, h4, h5⟩ := h
  refine ⟨f, fd, ps, h1.imp fun vs H Q E ⟨a1, Hv, ds, vw, r, p⟩ => ?_, h2, h3, h4, h5⟩
  rcases hi ds with z | ⟨es, e, hr⟩
  · rw [z] at p; exact p.elim
  · rw [e] at p
    exact ⟨a1, Hv, es, vw, hr Hv vs r, p⟩
theorem no_exc {P : Program} {w : World} {H : Hp} {s : Shared} {e : Value} {s' : Shared} (h : L2.CX P w [] H s (fun _ _ _ => False) e s') : False := by
  obtain ⟨_, _, _, _, _, _, _, _, _, _, _, _, z⟩ := h
  exact z
end Sm
namespace Sm
open PySem PySem.Spec L2
def noErr {α : Type} : R α → R α
  | .err _ => .bad
  | r => r
def lcGo (pt : Pat) (t : DT) (f : DE) : List D → Env → R (List D)
  | [], _ => .ok []
  | d :: ds, ρ => match bindPat pt d ρ with
    | none => .bad
    | some ρ' => (noErr (t ρ')).bind fun k => match k with
      | true => (noErr (f ρ')).bind fun y => (lcGo pt t f ds ρ).bind fun ys => .ok (y :: ys)
      | false => lcGo pt t f ds ρ
def dLcs (vs : List Nat) (pt : Pat) (it : DI) (t : DT) (f : DE) : DA := fun ρ => (it ρ).bind fun ds => lcGo pt t f ds (mask vs ρ)
def dLc (vs : List Nat) (pt : Pat) (it : DI) (t : DT) (f : DE) : DE := fun ρ => (dLcs vs pt it t f ρ).bind fun ds => .ok (.lst ds)
def dYes : DT := fun _ => .ok true
def hideA (p : Addr) (H : Hp) : Hp := fun b => if b = p then none else H b
theorem hideA_ne {p b : Addr} {H : Hp} (h : b ≠ p) : hideA p H b = H b := if_neg h
theorem hideA_self {p : Addr} {H : Hp} : hideA p H p = none := if_pos rfl
theorem hideA_some {p b : Addr} {H : Hp} {o : HO} (h : hideA p H b = some o) : b ≠ p ∧ H b = some o := by
  unfold hideA at h
  split at h
  · cases h
  · exact ⟨by assumption, h⟩
theorem hideA_none {p b : Addr} {H : Hp} (h : hideA p H b = none) : b = p ∨ H b = none := by
  unfold hideA at h
  split at h
  · exact .inl (by assumption)
  · exact .inr h
theorem hideA_upd {p : Addr} {H : Hp} {o : HO} (h : H p = some o) : upd (hideA p H) p o = H := by
  funext b
  by_cases z : b = p
  · subst z; rw [upd_same, h]
  · rw [upd_ne z, hideA_ne z]
theorem upd_hideA {p : Addr} {H : Hp} {o : HO} : hideA p (upd H p o) = hideA p H := by
  funext b
  by_cases z : b = p
  · subst z; rw [hideA_self, hideA_self]
  · rw [hideA_ne z, hideA_ne z, upd_ne z]
theorem hideA_new {p : Addr} {H : Hp} (h : H p = none) : hideA p H = H := by
  funext b
  by_cases z : b = p
  · subst z; rw [hideA_self, h]
  · rw [hideA_ne z]
theorem tabs_put {T : List (Addr × Str)} {H : Hp} {p : Addr} {xs : List V} {o : HO} (t : LamX.Tabs T H) (hp : H p = some (.lst xs)) : LamX.Tabs T (upd H p o) := fun q hq => by
  obtain ⟨ps, g1, g2, g3⟩ := t q hq
  refine ⟨ps, ?_, g2, fun pos cv hc => ?_⟩
  · rw [upd_ne fun z => by rw [z, hp] at g1; cases g1]; exact g1
  · obtain ⟨c, ec, hc'⟩ := g3 pos cv hc
    exact ⟨c, ec, by rw [upd_ne fun z => by subst z; rw [hp] at hc'; cases hc']; exact hc'⟩
theorem Ext.hide {cl : Glb} {Hv H Hv' H' : Hp} {p : Addr} {xs : List V} (e : Ext cl Hv H Hv' H') (hp : H p = some (.lst xs)) (hv : Hv p = none) : Ext cl Hv (hideA p H) Hv' (hideA p H') := by
  have hv' : Hv' p = none := e.old p _ hp hv
  have hp' : H' p = some (.lst xs) := e.hh p _ hp rfl
  refine ⟨fun b o h n => ?_, e.vv, ⟨fun b o h n => ?_, fun b h => ?_, fun b xs h => ?_, fun b o u h => ?_, fun p' hT => ?_, fun b φ h => e.vh.x b φ (hideA_some h).2⟩, fun b o h n => e.old b o (hideA_some h).2 n, fun b h => ?_, fun b ps h => ?_⟩
  · obtain ⟨h1, h2⟩ := hideA_some h
    rw [hideA_ne h1]; exact e.hh b o h2 n
  · rw [hideA_ne fun z => by subst z; rw [hv'] at h; cases h]
    exact e.vh.s b o h n
  · rcases hideA_none h with z | z
    · rw [z]; exact hv'
    · exact e.vh.d b z
  · exact e.vh.t b xs (hideA_some h).2
  · exact e.vh.z b o u (hideA_some h).2
  · obtain ⟨ps', g1, g2, g3⟩ := e.vh.tab p' hT
    refine ⟨ps', ?_, g2, fun pos cv hc => ?_⟩
    · rw [hideA_ne fun z => by subst z; rw [hp'] at g1; cases g1]; exact g1
    · obtain ⟨c, ec, hc'⟩ := g3 pos cv hc
      exact ⟨c, ec, by rw [hideA_ne fun z => by subst z; rw [hp'] at hc'; cases hc']; exact hc'⟩
  · rcases hideA_none h with z | z
    · rw [z]; exact hideA_self
    · by_cases w : b = p
      · rw [w]; exact hideA_self
      · rw [hideA_ne w]; exact e.dom b z
  · obtain ⟨h1, h2⟩ := hideA_some h
    obtain ⟨ps', h'⟩ := e.tt b ps h2
    exact ⟨ps', by rw [hideA_ne h1]; exact h'⟩
theorem wipe_mask {σ : St} {i : Nat} : ∀ {vs : List Nat}, i ∉ vs → (wipe σ vs)[i]? = σ[i]?
  | [], _ => rfl
  | v :: vs, h => by
    simp only [List.mem_cons, not_or] at h
    unfold wipe
    rw [List.getElem?_set_ne (Ne.symm h.1), wipe_mask h.2]
theorem wipe_in {σ : St} {i : Nat} : ∀ {vs : List Nat}, i ∈ vs → i < σ.length → (wipe σ vs)[i]? = some none
  | v :: vs, h, hl => by
    unfold wipe
    by_cases e : v = i
    · subst e; rw [List.getElem?_set_self (by rw [wipe_length]; exact hl)]
    · rw [List.getElem?_set_ne e]
      rcases List.mem_cons.mp h with z | z
      · exact absurd z.symm e
      · exact wipe_in z hl
theorem er_wipe {K : PySem.W.Frag} {cl : Glb} {Hv : Hp} {ρ : Env} {σ : St} {vs : List Nat} (e : ER K cl Hv ρ σ) : ER K cl Hv (mask vs ρ) (wipe σ vs) := ⟨fun i d h => by
  obtain ⟨h1, h2⟩ := mask_get h
  rw [wipe_mask h1]
  exact e.get i d h2, by rw [mask_len, wipe_length]; exact e.len⟩
theorem wipe_eq {σ σ' : St} {vs : List Nat} {pt : Pat} (hl : σ'.length = σ.length) (hk : ∀ j, j ∉ patIx pt → σ'[j]? = (wipe σ vs)[j]?) (hp : sub (patIx pt) vs = true) : wipe σ' vs = wipe σ vs := by
  apply List.ext_getElem?
  intro i
  by_cases hi : i ∈ vs
  · by_cases h : i < σ.length
    · rw [wipe_in hi h, wipe_in hi (by rw [hl]; exact h)]
    · rw [List.getElem?_eq_none (by rw [wipe_length, hl]; omega), List.getElem?_eq_none (by rw [wipe_length]; omega)]
  · rw [wipe_mask hi, hk i fun z => hi (sub_mem hp i z)]
section
variable {X : Cx} {W : WX} {cl : Glb} {pos : Pos} {elt tg iter : Expr} {ifs : List Expr} {scope : Scope} {own : List (Str × Nat)} {pt : Pat} {it : DI} {t : DT} {f : DE}
def W0 : WX := fun _ _ _ _ => False
def STs (X : Cx) (W : WX) (cl : Glb) (ifs : List Expr) (f : DT) : Prop := ∃ t, PTs X ifs t ∧ RunT X W cl f t
theorem sts_nil : STs X W cl [] dYes := ⟨_, pts_nil, fun Hv H σ ρ Q vw er pv => pv _ _ (Ext.refl vw)⟩
theorem noErr_pst {α : Type} {β : Type} {r : R α} {k : α → R β} {b : β} {σ : St} {Hv H : Hp} {T : Hp → Hp → α → Prop} (e : (noErr r).bind k = .ok b) (h : ∀ a Hv' H', r = .ok a → k a = .ok b → Ext cl Hv H Hv' H' → T Hv' H' a) : Pst cl W0 σ Hv H T r := by
  cases r with
  | ok a => exact fun Hv' H' ex => h a Hv' H' rfl e ex
  | err c => cases e
  | bad => cases e
theorem lc_run1 {wi : TI} {gt : TG} {tt : TT} {te : TE}
    (hg : ∀ (Hv H : Hp) (v : V) (d : D) (ρ ρ' : Env) (σ : St) (Q : St → Hp → Prop), Vw cl Hv H → Rep X.K cl Hv v d → bindPat pt d ρ = some ρ' → ρ.length = σ.length →
      (∀ σ', (∀ Hv2, ER X.K cl Hv2 ρ σ → Sam Hv Hv2 → ER X.K cl Hv2 ρ' σ') → σ'.length = σ.length → (∀ j, j ∉ patIx pt → σ'[j]? = σ[j]?) → Q σ' H) → gt v σ H Q)
    (ht : RunT X W0 cl t tt) (he : RunE X W0 cl f te) (hp : sub (patIx pt) (own.map (·.2)) = true)
    (Hv H : Hp) (σ : St) (ρ : Env) (Q : VK) (hi : ∀ (Q : It → Hp → Prop), Pst cl W σ Hv H (TJ X.K cl Q) (it ρ) → wi σ H Q) (vw : Vw cl Hv H) (er : ER X.K cl Hv ρ σ) (pv : Pst cl W σ Hv H (TN X.K cl Q) (dLcs (own.map (·.2)) pt it t f ρ)) : tLc wi gt tt te (own.map (·.2)) σ H Q := by
  refine hi _ (bindP pv fun ds Hv1 H1 _ e1 pv1 hz J hJ => ?_)
  cases qf : lcGo pt t f ds (mask (own.map (·.2)) ρ) with
  | bad => rw [qf] at pv1; exact pv1.elim
  | err c =>
    exfalso
    have : ∀ (ds : List D) (ρ : Env), lcGo pt t f ds ρ ≠ .err c := by
      intro ds
      induction ds with
      | nil => intro ρ h; cases h
      | cons d ds ih =>
        intro ρ h
        unfold lcGo at h
        cases q : bindPat pt d ρ with
        | none => rw [q] at h; cases h
        | some ρ' =>
          rw [q] at h
          simp only at h
          cases q1 : t ρ' with
          | ok k =>
            rw [q1] at h
            cases k with
            | true =>
              simp only [noErr, R.bind] at h
              cases q2 : f ρ' with
              | ok y =>
                rw [q2] at h
                simp only [noErr, R.bind] at h
                cases q3 : lcGo pt t f ds ρ with
                | ok ys => rw [q3] at h; cases h
                | err c' => rw [q3] at h; cases h; exact ih ρ q3
                | bad => rw [q3] at h; cases h
              | err c' => rw [q2] at h; cases h
              | bad => rw [q2] at h; cases h
            | false => exact ih ρ h
          | err c' => rw [q1] at h; cases h
          | bad => rw [q1] at h; cases h
    exact this _ _ qf
  | ok full =>
    rw [qf] at pv1
    intro D hD
    refine ⟨fun i m H2 => ∃ Hv2 acc ys, Ext cl Hv1 H1 Hv2 (hideA D H2) ∧ Vw cl Hv2 H2 ∧ H2 D = some (.lst acc) ∧ Hv2 D = none ∧ Reps X.K cl Hv2 acc ys ∧ ys.length ≤ i ∧ i ≤ ds.length ∧ m = ds.length - i ∧ ∃ rest, lcGo pt t f (ds.drop i) (mask (own.map (·.2)) ρ) = .ok rest ∧ ys ++ rest = full,
      ⟨ds.length, Hv1, [], [], ?_, ?_, upd_same, e1.vh.d D hD, .nil, Nat.le_refl _, Nat.zero_le _, rfl, full, qf, rfl⟩, ?_⟩
    · rw [upd_hideA, hideA_new hD]; exact Ext.refl e1.vh
    · refine ⟨e1.vh.s.trans (.of (same_upd hD)), fun b h => e1.vh.d b (upd_none h).2, fun b xs h => ?_, fun b o u h => ?_, e1.vh.tab.ext (same_upd hD), fun b φ h => ?_⟩
      · by_cases z : b = D
        · subst z; rw [upd_same] at h; cases h
        · rw [upd_ne z] at h; exact e1.vh.t b xs h
      · by_cases z : b = D
        · subst z; rw [upd_same] at h; cases h
        · rw [upd_ne z] at h; exact e1.vh.z b o u h
      · by_cases z : b = D
        · subst z; rw [upd_same] at h; cases h
        · rw [upd_ne z] at h; exact e1.vh.x b φ h
    · rintro i m H2 ⟨Hv2, acc, ys, e2, vw2, hD2, hv2, ra, hy, hi2, rfl, rest, hr, hf⟩
      by_cases hlt : i < ds.length
      · refine .inr ⟨hJ.go i Hv2 H2 e2.vv vw2 hlt, fun H3 => ∃ Hv3 acc3 ys3, Ext cl Hv1 H1 Hv3 (hideA D H3) ∧ Vw cl Hv3 H3 ∧ H3 D = some (.lst acc3) ∧ Hv3 D = none ∧ Reps X.K cl Hv3 acc3 ys3 ∧ ys3.length ≤ i + 1 ∧ ∃ rest, lcGo pt t f (ds.drop (i + 1)) (mask (own.map (·.2)) ρ) = .ok rest ∧ ys3 ++ rest = full,
          fun H3 ⟨Hv3, acc3, ys3, a1, a2, a3, a4, a5, a6, a7⟩ => ⟨ds.length - (i + 1), by omega, Hv3, acc3, ys3, a1, a2, a3, a4, a5, a6, hlt, rfl, a7⟩, fun x H3 y => ?_⟩
        obtain ⟨Hv3, e3, r3⟩ := hJ.yld i Hv2 H2 e2.vv vw2 ds[i] (by simp [hlt]) x H3 y
        rw [List.drop_eq_getElem_cons hlt] at hr
        unfold lcGo at hr
        cases q : bindPat pt ds[i] (mask (own.map (·.2)) ρ) with
        | none => rw [q] at hr; cases hr
        | some ρ' =>
          rw [q] at hr
          simp only at hr
          refine hg Hv3 H3 x ds[i] _ ρ' (wipe σ (own.map (·.2))) _ e3.vh r3 q (by rw [wipe_length, mask_len]; exact er.len) fun σ' g' l' k' => ?_
          have er3 : ER X.K cl Hv3 ρ' σ' := g' Hv3 (er_wipe (((er.mono e1.vv).mono e2.vv).mono e3.vv)) (Sam.refl _)
          refine ⟨wipe_eq (l'.trans (wipe_length _ _)) k' hp, ?_⟩
          refine ht Hv3 H3 σ' ρ' _ e3.vh er3 (noErr_pst hr fun k Hv4 H4 qk hk e4 => ?_)
          have hD3 : H3 D = some (.lst acc) := e3.hh D _ hD2 rfl
          have hD4 : H4 D = some (.lst acc) := e4.hh D _ hD3 rfl
          have hv3 : Hv3 D = none := e3.old D _ hD2 hv2
          have hv4 : Hv4 D = none := e4.old D _ hD3 hv3
          have ext4 : Ext cl Hv1 H1 Hv4 (hideA D H4) := (e2.trans (e3.hide hD2 hv2)).trans (e4.hide hD3 hv3)
          show if k = true then _ else _
          cases k with
          | false =>
            rw [if_neg Bool.false_ne_true]
            exact ⟨Hv4, acc, ys, ext4, e4.vh, hD4, hv4, (ra.mono e3.vv).mono e4.vv, by omega, rest, hk, hf⟩
          | true =>
            rw [if_pos rfl]
            refine he Hv4 H4 σ' ρ' _ e4.vh (er3.mono e4.vv) (noErr_pst hk fun yd Hv5 H5 qy hy5 e5 v rv => ?_)
            have hD5 : H5 D = some (.lst acc) := e5.hh D _ hD4 rfl
            have hv5 : Hv5 D = none := e5.old D _ hD4 hv4
            have hla : acc.length = ys.length := ra.length
            refine ⟨acc, hD5, by omega, ?_⟩
            cases q5 : lcGo pt t f (ds.drop (i + 1)) (mask (own.map (·.2)) ρ) with
            | ok rest5 =>
              rw [q5] at hy5
              cases hy5
              have ra5 := (((ra.mono e3.vv).mono e4.vv).mono e5.vv).append (.cons rv .nil)
              refine ⟨Hv5, acc ++ [v], ys ++ [yd], ?_, ?_, upd_same, hv5, ra5, by rw [List.length_append, List.length_singleton]; omega, rest5, rfl, by rw [List.append_assoc]; exact hf⟩
              · rw [upd_hideA]; exact ext4.trans (e5.hide hD4 hv4)
              · refine ⟨fun b o h n => ?_, fun b h => e5.vh.d b (upd_none h).2, fun b xs h => ?_, fun b o u h => ?_, tabs_put e5.vh.tab hD5, fun b φ h => ?_⟩
                · rw [upd_ne fun z => by subst z; rw [hv5] at h; cases h]; exact e5.vh.s b o h n
                · by_cases z : b = D
                  · subst z; rw [upd_same] at h; cases h
                  · rw [upd_ne z] at h; exact e5.vh.t b xs h
                · by_cases z : b = D
                  · subst z; rw [upd_same] at h; cases h
                  · rw [upd_ne z] at h; exact e5.vh.z b o u h
                · by_cases z : b = D
                  · subst z; rw [upd_same] at h; cases h
                  · rw [upd_ne z] at h; exact e5.vh.x b φ h
            | err c => rw [q5] at hy5; cases hy5
            | bad => rw [q5] at hy5; cases hy5
      · have ei : i = ds.length := by omega
        subst ei
        rw [List.drop_length] at hr
        cases hr
        rw [List.append_nil] at hf
        subst hf
        refine .inl ⟨hJ.stop _ Hv2 H2 e2.vv vw2 rfl, ?_⟩
        have z : acc.length ≤ sizeLine := by rw [ra.length]; omega
        have := pv1 Hv2 (hideA D H2) e2 D acc hideA_self z ra
        rw [hideA_upd hD2] at this
        exact this
theorem lc_run {wi : TI} {gt : TG} {tt : TT} {te : TE}
    (hi : ∀ (Hv H : Hp) (σ : St) (ρ : Env) (Q : It → Hp → Prop), Vw cl Hv H → ER X.K cl Hv ρ σ → Pst cl W σ Hv H (TJ X.K cl Q) (it ρ) → wi σ H Q)
    (hg : ∀ (Hv H : Hp) (v : V) (d : D) (ρ ρ' : Env) (σ : St) (Q : St → Hp → Prop), Vw cl Hv H → Rep X.K cl Hv v d → bindPat pt d ρ = some ρ' → ρ.length = σ.length →
      (∀ σ', (∀ Hv2, ER X.K cl Hv2 ρ σ → Sam Hv Hv2 → ER X.K cl Hv2 ρ' σ') → σ'.length = σ.length → (∀ j, j ∉ patIx pt → σ'[j]? = σ[j]?) → Q σ' H) → gt v σ H Q)
    (ht : RunT X W0 cl t tt) (he : RunE X W0 cl f te) (hp : sub (patIx pt) (own.map (·.2)) = true)
    (Hv H : Hp) (σ : St) (ρ : Env) (Q : VK) (vw : Vw cl Hv H) (er : ER X.K cl Hv ρ σ) (pv : Pst cl W σ Hv H (TN X.K cl Q) (dLcs (own.map (·.2)) pt it t f ρ)) : tLc wi gt tt te (own.map (·.2)) σ H Q :=
  lc_run1 hg ht he hp Hv H σ ρ Q (fun Q => hi Hv H σ ρ Q vw er) vw er pv
end
end Sm
namespace Sm
open PySem PySem.Spec L2
section
variable {X : Cx} {W : WX} {cl : Glb} {pos : Pos} {e elt tg iter : Expr} {ifs : List Expr} {scope : Scope} {own : List (Str × Nat)} {pt : Pat} {it : DI} {t : DT} {f : DE} {ow ow1 : List Nat}
def tE (K : PySem.W.Frag) (cl : Glb) (W : WX) (f : DE) : TE := fun σ H Q => ∃ Hv ρ, Vw cl Hv H ∧ ER K cl Hv ρ σ ∧ Pst cl W σ Hv H (TV K cl Q) (f ρ)
def tT (K : PySem.W.Frag) (cl : Glb) (W : WX) (f : DT) : TT := fun σ H Q => ∃ Hv ρ, Vw cl Hv H ∧ ER K cl Hv ρ σ ∧ Pst cl W σ Hv H (TB Q) (f ρ)
def tG (K : PySem.W.Frag) (cl : Glb) (pt : Pat) : TG := fun v σ H Q => ∃ Hv d ρ ρ', Vw cl Hv H ∧ Rep K cl Hv v d ∧ bindPat pt d ρ = some ρ' ∧ ρ.length = σ.length ∧
  (∀ σ', (∀ Hv2, ER K cl Hv2 ρ σ → Sam Hv Hv2 → ER K cl Hv2 ρ' σ') → σ'.length = σ.length → (∀ j, j ∉ patIx pt → σ'[j]? = σ[j]?) → Q σ' H)
theorem SE.pe (h : SE X W cl e f) : PE X e (tE X.K cl W f) := by
  obtain ⟨u, pu, hu⟩ := h
  exact ⟨fun pins s σ H Q I ⟨Hv, ρ, vw, er, pv⟩ => pu.run pins s σ H Q I (hu Hv H σ ρ Q vw er pv)⟩
theorem STs.pts (h : STs X W cl ifs t) : PTs X ifs (tT X.K cl W t) := by
  obtain ⟨u, pu, hu⟩ := h
  exact ⟨fun pins s σ H Q I ⟨Hv, ρ, vw, er, pv⟩ => pu.run pins s σ H Q I (hu Hv H σ ρ Q vw er pv)⟩
theorem SG.pg (h : SG X cl tg pt) : PG X tg (tG X.K cl pt) := by
  obtain ⟨u, pu, hu⟩ := h
  exact ⟨fun pins s σ H v w Q I r ⟨Hv, d, ρ, ρ', vw, rv, eb, hl, q⟩ => pu.run pins s σ H v w Q I r (hu Hv H v d ρ ρ' σ Q vw rv eb hl fun σ' _ g' l' _ k' => q σ' g' l' k')⟩
theorem lc_runs {wi : TI} (hi : ∀ (Hv H : Hp) (σ : St) (ρ : Env) (Q : It → Hp → Prop), Vw cl Hv H → ER X.K cl Hv ρ σ → Pst cl W σ Hv H (TJ X.K cl Q) (it ρ) → wi σ H Q) (hp : sub (patIx pt) (own.map (·.2)) = true)
    (Hv H : Hp) (σ : St) (ρ : Env) (Q : VK) (vw : Vw cl Hv H) (er : ER X.K cl Hv ρ σ) (pv : Pst cl W σ Hv H (TN X.K cl Q) (dLcs (own.map (·.2)) pt it t f ρ)) : tLc wi (tG X.K cl pt) (tT X.K cl W0 t) (tE X.K cl W0 f) (own.map (·.2)) σ H Q :=
  lc_run hi (fun Hv H v d ρ ρ' σ Q vw r e hl q => ⟨Hv, d, ρ, ρ', vw, r, e, hl, q⟩) (fun Hv H σ ρ Q vw er pv => ⟨Hv, ρ, vw, er, pv⟩) (fun Hv H σ ρ Q vw er pv => ⟨Hv, ρ, vw, er, pv⟩) hp Hv H σ ρ Q vw er pv
theorem sn_lc (gd : X.calm = true) (nd : X.N.Nodup) (hi : SI X W cl tg iter it) (ok : BlkOk X.N X.env.scope scope own)
    (hg : ∀ (s : Shared) (H : Hp) (C : Addr) (cs : List (Str × Addr)) (fp : List Addr), SG (X.blk s H scope (compEnvC scope cs C X.env) fp) cl tg pt)
    (ht : ∀ (s : Shared) (H : Hp) (C : Addr) (cs : List (Str × Addr)) (fp : List Addr), STs (X.blk s H scope (compEnvC scope cs C X.env) fp) W0 cl ifs t)
    (he : ∀ (s : Shared) (H : Hp) (C : Addr) (cs : List (Str × Addr)) (fp : List Addr), SE (X.blk s H scope (compEnvC scope cs C X.env) fp) W0 cl elt f) (hp : sub (patIx pt) (own.map (·.2)) = true := by rfl) (hs : ∀ x, foldedSetIterable iter X.env x = pure x := by intro _; rfl) :
    SN X W cl (.ListComp elt [⟨tg, iter, ifs, 0⟩] scope pos) (dLcs (own.map (·.2)) pt it t f) := by
  obtain ⟨wi, pi, hi⟩ := hi
  exact ⟨_, pe_lc (te := tE X.K cl W0 f) (tt := tT X.K cl W0 t) (g := tG X.K cl pt) gd nd pi ok (fun s H C cs fp => (hg s H C cs fp).pg) (fun s H C cs fp => (ht s H C cs fp).pts) (fun s H C cs fp => (he s H C cs fp).pe) hs, lc_runs hi hp⟩
theorem SN.se {g : DA} (h : SN X W cl e g) : SE X W cl e (fun ρ => (g ρ).bind fun ds => .ok (.lst ds)) := by
  obtain ⟨u, pu, hu⟩ := h
  refine ⟨u, pu, fun Hv H σ ρ Q vw er pv => hu Hv H σ ρ Q vw er ?_⟩
  have pv : Pst cl W σ Hv H (TV X.K cl Q) ((g ρ).bind fun ds => .ok (.lst ds)) := pv
  cases q : g ρ with
  | ok ds =>
    rw [q] at pv
    exact fun Hv' H' ex p vs hp hz r => pv _ _ (ex.trans (Ext.new ex.vh hp)) _ (.lst upd_same hz (r.mono (Ext.new ex.vh hp).vv))
  | err c => rw [q] at pv; exact pv
  | bad => rw [q] at pv; exact pv
theorem se_lc (gd : X.calm = true) (nd : X.N.Nodup) (hi : SI X W cl tg iter it) (ok : BlkOk X.N X.env.scope scope own)
    (hg : ∀ (s : Shared) (H : Hp) (C : Addr) (cs : List (Str × Addr)) (fp : List Addr), SG (X.blk s H scope (compEnvC scope cs C X.env) fp) cl tg pt)
    (ht : ∀ (s : Shared) (H : Hp) (C : Addr) (cs : List (Str × Addr)) (fp : List Addr), STs (X.blk s H scope (compEnvC scope cs C X.env) fp) W0 cl ifs t)
    (he : ∀ (s : Shared) (H : Hp) (C : Addr) (cs : List (Str × Addr)) (fp : List Addr), SE (X.blk s H scope (compEnvC scope cs C X.env) fp) W0 cl elt f) (hp : sub (patIx pt) (own.map (·.2)) = true := by rfl) (hs : ∀ x, foldedSetIterable iter X.env x = pure x := by intro _; rfl) :
    SE X W cl (.ListComp elt [⟨tg, iter, ifs, 0⟩] scope pos) (dLc (own.map (·.2)) pt it t f) := (sn_lc gd nd hi ok hg ht he hp hs).se
end
end Sm
namespace Sm
open PySem PySem.Spec L2
theorem tuple_mul1W (l : Addr) (items : Array Value) (n : Nat) (dd : Option Addr) (sl : Array (Option Value)) (u : Tok) :
    Meets (Builtin.«tuple.__mul__» ⟨[.ref l, .int 1 u], []⟩) (fun _ R s => s.heap.get? l = some { cls := .type "tuple", dict := dd, data := .seq items n, slots := sl } ∧ R (.ok (.ret (Value.ref l))) s) :=
  .of_wp fun prog w A R s h => by
    obtain ⟨hp, g, d, tk, os⟩ := s
    obtain ⟨hl, h⟩ := h
    have f1 := AutoSeq1.idx_int
    wp_walk using wpAny_loadPart' hl
    repeat (first
      | (refine wpAny_ite_false (decide_eq_false (by decide)) ?_; wp_walk using wpAny_loadPart' hl)
      | (refine wpAny_ite_true (decide_eq_true (by simp)) ?_; wp_walk using wpAny_loadPart' hl))
    exact ⟨_, rfl, h⟩
def rRep1 (K : PySem.W.Frag) : R2 := fun x y H Q => ∃ l xs, x = .ref l ∧ y = .int 1 ∧ SqT K H l xs ∧ Q (.ref l) H
theorem op_rep1 {X : Cx} : OpR X (binaryOp .Mult) (rRep1 X.K) := by
  intro pins s σ H x y v u Q I rx ry h
  obtain ⟨l, xs, rfl, rfl, hT, q⟩ := h
  cases rx
  obtain ⟨t, rfl⟩ := ry
  obtain ⟨its, r, ⟨⟨cls, dd, data, sl⟩, ho, hc, n, hd⟩, hs⟩ := I.tuple hT
  simp only at hc hd
  subst hc hd
  refine wpAny_binaryOp_repeat_ref (T := "tuple") (U := "int") (by decide) ⟨_, ho, rfl⟩ (fun s' => typeIs_int s' 1 t) noFill_tuple_mul F.fills_int_mul F.slot_int_rmul repeat_tuple F.slot_int_index.lookup
    (call_meets F.slot_int_rmul (typeIs_int s 1 t) F.entry_int_rmul (F.args_int_rmul_2 _ _) (int_rmul_tuple 1 t l its.toArray n dd sl)
      ⟨ho, rfl, ⟨_, ho, rfl⟩, call_meets F.slot_tuple_mul ⟨_, ho, rfl⟩ F.entry_tuple_mul (F.args_tuple_mul_2 _ _) (tuple_mul1W l its.toArray n dd sl t) ⟨ho, ?_⟩⟩)
  exact ⟨.ref l, _, I, rfl, q⟩
section
variable {X : Cx} {W : WX} {cl : Glb}
def oRepL : D → D → Option D
  | .lst x, .int k => if -16777216 ≤ k ∧ k ≤ 16777216 ∧ x.length * k.toNat ≤ sizeLine then some (.lst (List.replicate k.toNat x).flatten) else none
  | _, _ => none
def oRepT : D → D → Option D
  | .tup x, .int k => if x ≠ [] ∧ 2 ≤ k ∧ k ≤ 1000 ∧ x.length ≤ 1000 then some (.tup (List.replicate k.toNat x).flatten) else none
  | _, _ => none
theorem flat_len {α : Type} (k : Nat) (x : List α) : ((List.replicate k x).flatten).length = x.length * k := by
  induction k with
  | zero => simp
  | succ k ih => rw [List.replicate_succ, List.flatten_cons, List.length_append, ih, Nat.mul_succ]; omega
theorem os_repL : OpS X cl (binaryOp .Mult) oRepL := by
  refine ⟨_, op_rep, fun Hv H x y a b d Q vw rx ry e q => ?_⟩
  cases a <;> cases b <;> simp [oRepL] at e
  obtain ⟨⟨h1, h2, h3⟩, rfl⟩ := e
  cases ry
  cases rx with
  | lst s1 z1 r1 =>
    have e1 := r1.length
    refine ⟨_, _, _, rfl, rfl, vw.s _ _ s1 rfl, by omega, by omega, by rw [e1]; exact h3, new_lst vw (r1.replicate _) ?_ q⟩
    rw [flat_len, e1]; exact h3
theorem os_repT : OpS X cl (binaryOp .Mult) oRepT := by
  refine ⟨_, op_repT, fun Hv H x y a b d Q vw rx ry e q => ?_⟩
  cases a <;> cases b <;> simp [oRepT] at e
  obtain ⟨⟨h0, h1, h2, h3⟩, rfl⟩ := e
  rename_i x0 k0
  cases ry
  cases rx with
  | tup s1 z1 r1 =>
    have e1 := r1.length
    refine ⟨_, _, _, rfl, rfl, vw.s.sqU s1, fun z => ?_, h1, h2, by omega, new_tup vw (r1.replicate _) ?_ q⟩
    · subst z; cases r1; exact h0 rfl
    · rw [flat_len, e1]
      have h4 : x0.length * k0.toNat ≤ 1000 * 1000 := Nat.mul_le_mul h3 (by omega)
      exact Nat.le_trans h4 (by decide)
def oRep1 : D → D → Option D
  | .tup x, .int k => if k = 1 then some (.tup x) else none
  | _, _ => none
theorem os_rep1 : OpS X cl (binaryOp .Mult) oRep1 := by
  refine ⟨_, op_rep1, fun Hv H x y a b d Q vw rx ry e q => ?_⟩
  cases a <;> cases b <;> simp [oRep1] at e
  obtain ⟨rfl, rfl⟩ := e
  cases ry
  cases rx with
  | tup s1 z1 r1 => exact ⟨_, _, rfl, rfl, vw.s.sqU s1, q _ _ _ (Ext.refl vw) (.tup s1 z1 r1)⟩
def oMul : D → D → Option D
  | .int i, .int j => if mulOk i j then some (.int (i * j)) else none
  | .lst x, .int k => if -16777216 ≤ k ∧ k ≤ 16777216 ∧ x.length * k.toNat ≤ sizeLine then some (.lst (List.replicate k.toNat x).flatten) else none
  | .tup x, .int k => if k = 1 then some (.tup x) else if x ≠ [] ∧ 2 ≤ k ∧ k ≤ 1000 ∧ x.length ≤ 1000 then some (.tup (List.replicate k.toNat x).flatten) else none
  | _, _ => none
theorem os_times : OpS X cl (binaryOp .Mult) oMul := (os_mul.or (os_repL.or (os_rep1.or os_repT))).imp fun a b d e => by
  unfold orO
  cases a <;> cases b <;> simp [oMul] at e <;> simp [oMulI, oRepL, oRepT, oRep1, e]
  rename_i k
  by_cases h : k = 1
  · rw [if_pos h] at e ⊢
    exact e
  · rw [if_neg h] at e ⊢
    exact e
end
theorem Fn.none {P : Program} {w : World} {K : PySem.W.Frag} {mg : Str → Option Value} {base : Heap} {cl : Glb} {k n : Nat} {x : Str} {st : Stmt} {f : Addr} {fd : FuncData} {ps : List Str} (F : Fun K x x st f fd) (hm : mg x = some (.ref f)) (hb : Binds K fd ps []) (hn : ps.length = n) :
    Fn P w K mg base cl k x n (fun _ => .bad) :=
  ⟨f, fd, ps, ⟨fun vs H Q E h => h.1.trans hn.symm, fun A outer s H args us vs Q E _ _ _ _ h => by obtain ⟨_, _, _, _, _, z⟩ := h; exact z.elim⟩, hm, F.kp, hb, hn⟩
end Sm
namespace Sm
open PySem PySem.Spec L2
section
variable {X : Cx} {W : WX} {cl : Glb} {pos p : Pos} {a b c e : Expr} {es : List Expr} {fa fb fc : DE} {g : DA}
def oIs : D → D → Option D
  | .bl i, .bl j => some (.bl (decide (i = j)))
  | .non, .non => some (.bl true)
  | _, .non => some (.bl false)
  | _, _ => none
theorem rep_non {K : PySem.W.Frag} {H : Hp} {v : V} {d : D} (r : Rep K cl H v d) : (d = .non → v = .non) ∧ (d ≠ .non → decide (v = .non) = false) := by
  cases r <;> simp
theorem os_is : OpS X cl (compareOp .Is) oIs := by
  refine ⟨_, OpR.or op_is_bl op_isN, fun Hv H x y a b d Q vw rx ry e q => ?_⟩
  cases b with
  | bl j =>
    cases ry
    cases a <;> simp [oIs] at e
    subst e
    cases rx
    exact .inl ⟨_, _, rfl, rfl, q _ _ _ (Ext.refl vw) (.bl _)⟩
  | non =>
    cases ry
    refine .inr ⟨rfl, ?_⟩
    obtain ⟨h1, h2⟩ := rep_non rx
    by_cases ha : a = .non
    · subst ha; cases e
      rw [h1 rfl]; exact q _ _ _ (Ext.refl vw) (.bl _)
    · rw [h2 ha]
      have : d = .bl false := by cases a <;> simp [oIs] at e ha <;> exact e.symm
      subst this
      exact q _ _ _ (Ext.refl vw) (.bl _)
  | _ => cases a <;> cases e
def SO (X : Cx) (W : WX) (cl : Glb) (e : Option Expr) (f : Env → R (Option Int)) : Prop := ∃ t, PO X e t ∧ ∀ (Hv H : Hp) (σ : St) (ρ : Env) (Q : Option Int → Hp → Prop), Vw cl Hv H → ER X.K cl Hv ρ σ → Pst cl W σ Hv H (fun _ H' i => Q i H') (f ρ) → t σ H Q
def dNo : Env → R (Option Int) := fun _ => .ok none
def dSo (f : DE) : Env → R (Option Int) := fun ρ => (f ρ).bind fun d => match d with | .int i => .ok (some i) | _ => .bad
theorem so_none : SO X W cl none dNo := ⟨_, po_none, fun Hv H σ ρ Q vw er pv => pv _ _ (Ext.refl vw)⟩
theorem so_some (ha : SE X W cl a fa) : SO X W cl (some a) (dSo fa) := by
  obtain ⟨ta, pa, ha⟩ := ha
  refine ⟨_, po_some pa, fun Hv H σ ρ Q vw er pv => ?_⟩
  refine ha Hv H σ ρ _ vw er (bindP pv fun x Hv1 H1 _ e1 pv1 v rv => ?_)
  cases x with
  | int i => cases rv; exact ⟨i, rfl, pv1 _ _ (Ext.refl e1.vh)⟩
  | _ => exact pv1.elim
def cutD {α : Type} (xs : List α) (lo hi : Option Int) : List α := (xs.drop (HT.sIx xs.length 0 lo)).take (HT.sIx xs.length xs.length hi - HT.sIx xs.length 0 lo)
def oSl (d : D) (lo hi : Option Int) : Option D := match d with
  | .lst ds => some (.lst (cutD ds lo hi))
  | .tup ds => some (.tup (cutD ds lo hi))
  | .str z => if z.length ≤ sizeLine then some (.str (cutS z lo hi)) else none
  | _ => none
theorem reps_cut {K : PySem.W.Frag} {H : Hp} {xs : List V} {ds : List D} (r : Reps K cl H xs ds) (lo hi : Option Int) : Reps K cl H (cutV xs lo hi) (cutD ds lo hi) := by
  unfold cutV cutD
  rw [r.length]
  exact (r.drop _).take _
theorem cutD_all {α : Type} {xs : List α} {lo hi : Option Int} (h1 : HT.sIx xs.length 0 lo = 0) (h2 : HT.sIx xs.length xs.length hi = xs.length) : cutD xs lo hi = xs := by
  unfold cutD
  rw [h1, h2]; simp
def dSl (f : DE) (lo hi : Env → R (Option Int)) : DE := fun ρ => (f ρ).bind fun d => (lo ρ).bind fun l => (hi ρ).bind fun h => ofO (oSl d l h)
theorem se_slice {lo hi : Option Expr} {fl fh : Env → R (Option Int)} {p2 : Pos} (ha : SE X W cl a fa) (hl : SO X W cl lo fl) (hh : SO X W cl hi fh) : SE X W cl (.Subscript a (.Slice lo hi none p2) pos) (dSl fa fl fh) := by
  obtain ⟨ta, pa, ha⟩ := ha
  obtain ⟨tl, pl, hl⟩ := hl
  obtain ⟨th, ph, hh⟩ := hh
  refine ⟨_, pe_slice (sl_list.or (sl_tupA.or sl_str)) pa pl ph, fun Hv H σ ρ Q vw er pv => ?_⟩
  refine ha Hv H σ ρ _ vw er (bindP pv fun x Hv1 H1 _ e1 pv1 v rv => ?_)
  refine hl Hv1 H1 σ ρ _ e1.vh (er.mono e1.vv) (bindP pv1 fun l Hv2 H2 _ e2 pv2 => ?_)
  refine hh Hv2 H2 σ ρ _ e2.vh ((er.mono e1.vv).mono e2.vv) (bindP pv2 fun h Hv3 H3 _ e3 pv3 => ?_)
  obtain ⟨d, ed, q⟩ := ofO_ok pv3
  have q : ∀ v Hv' H', Ext cl Hv3 H3 Hv' H' → Rep X.K cl Hv' v d → Q v H' := fun v Hv' H' ex r => q Hv' H' ex v r
  have rv := (rv.mono e2.vv).mono e3.vv
  have vw := e3.vh
  cases rv with
  | lst s z r =>
    cases ed
    exact .inl ⟨_, _, rfl, .inl (.inl (vw.s _ _ s rfl)), new_lst vw (reps_cut r l h) (Nat.le_trans (cutV_length _ _ _) z) q⟩
  | tup s z r =>
    cases ed
    refine .inr (.inl ⟨_, _, rfl, vw.s.sqU s, fun hw => ?_, fun _ => new_tup vw (reps_cut r l h) (Nat.le_trans (cutV_length _ _ _) z) q⟩)
    rw [r.length] at hw
    rw [cutD_all hw.1 hw.2] at q
    exact q _ _ _ (Ext.refl vw) (.tup s z r)
  | str z =>
    simp only [oSl] at ed
    split at ed
    · cases ed
      exact .inr (.inr ⟨_, rfl, by assumption, q _ _ _ (Ext.refl vw) (.str _)⟩)
    · cases ed
  | _ => cases ed
def boolsOf : List D → Option (List Bool)
  | [] => some []
  | .bl i :: ds => (boolsOf ds).map (i :: ·)
  | _ => none
theorem reps_boolsOf {K : PySem.W.Frag} {H : Hp} : ∀ {xs : List V} {ds : List D} {ns : List Bool}, Reps K cl H xs ds → boolsOf ds = some ns → xs = ns.map V.bl
  | _, _, _, .nil, h => by cases h; rfl
  | _, _, _, .cons r t, h => by
    cases r with
    | bl i =>
      simp only [boolsOf, Option.map_eq_some_iff] at h
      obtain ⟨ns, h1, rfl⟩ := h
      rw [reps_boolsOf t h1]; rfl
    | _ => cases h
theorem one_lst {K : PySem.W.Frag} {H : Hp} {xs : List V} {ds : List D} (r : Reps K cl H xs [.lst ds]) : ∃ l vs, xs = [.ref l] ∧ H l = some (.lst vs) ∧ vs.length ≤ sizeLine ∧ Reps K cl H vs ds := by
  cases r with
  | cons r t =>
    cases t
    cases r with
    | lst s z r => exact ⟨_, _, rfl, s, z, r⟩
def oAll : List D → Option D
  | [.lst ds] => (boolsOf ds).map fun ns => .bl (ns.all id)
  | _ => none
theorem cs_all (hc : X.calm = true) : CallS X cl (.builtin "all") oAll := by
  refine ⟨_, cr_all hc, fun Hv H xs ds d Q vw r e q => ?_⟩
  unfold oAll at e
  split at e
  · obtain ⟨l, vs, rfl, h1, h2, h3⟩ := one_lst r
    rw [Option.map_eq_some_iff] at e
    obtain ⟨ns, e1, rfl⟩ := e
    have := reps_boolsOf h3 e1
    subst this
    exact ⟨l, ns, rfl, .inl (.inl (vw.s _ _ h1 rfl)), q _ _ _ (Ext.refl vw) (.bl _)⟩
  · cases e
def oTuple : List D → Option D
  | [.lst ds] => some (.tup ds)
  | [.tup ds] => some (.tup ds)
  | _ => none
theorem one_tup {K : PySem.W.Frag} {H : Hp} {xs : List V} {ds : List D} (r : Reps K cl H xs [.tup ds]) : ∃ l vs, xs = [.ref l] ∧ H l = some (.tup vs) ∧ vs.length ≤ sizeLine ∧ Reps K cl H vs ds := by
  cases r with
  | cons r t =>
    cases t
    cases r with
    | tup s z r => exact ⟨_, _, rfl, s, z, r⟩
theorem cs_tuple : CallS X cl (.type "tuple") oTuple := by
  refine ⟨_, call_tuple_of, fun Hv H xs ds d Q vw r e q => ?_⟩
  unfold oTuple at e
  split at e
  · cases e
    obtain ⟨l, vs, rfl, h1, h2, h3⟩ := one_lst r
    exact ⟨l, vs, rfl, .inl ⟨.inl (.inl (vw.s _ _ h1 rfl)), new_tup vw h3 h2 q⟩⟩
  · cases e
    obtain ⟨l, vs, rfl, h1, h2, h3⟩ := one_tup r
    exact ⟨l, vs, rfl, .inr ⟨vw.s.sqU h1, q _ _ _ (Ext.refl vw) (.tup h1 h2 h3)⟩⟩
  · cases e
def oInt : List D → Option D
  | [.int i] => some (.int i)
  | [.bl k] => some (.int (if k then 1 else 0))
  | [.str z] => if z.length ≤ 640 then (PySem.intText? z).map .int else none
  | _ => none
theorem CallR.or {f : Value} {r r' : List V → Hp → VK → Prop} (h : CallR X f r) (h' : CallR X f r') : CallR X f (fun xs H Q => r xs H Q ∨ r' xs H Q) := fun pins s σ H xs us Q I rv q =>
  q.elim (h pins s σ H xs us Q I rv) (h' pins s σ H xs us Q I rv)
theorem cs_int : CallS X cl (.type "int") oInt := by
  refine ⟨_, CallR.or call_int1 call_int_str, fun Hv H xs ds d Q vw r e q => ?_⟩
  unfold oInt at e
  split at e
  · cases e
    cases r with
    | cons r t => cases t; cases r; exact .inl (.inl ⟨_, rfl, q _ _ _ (Ext.refl vw) (.int _)⟩)
  · cases e
    cases r with
    | cons r t => cases t; cases r; exact .inl (.inr ⟨_, rfl, q _ _ _ (Ext.refl vw) (.int _)⟩)
  · split at e
    · rw [Option.map_eq_some_iff] at e
      obtain ⟨n, e1, rfl⟩ := e
      cases r with
      | cons r t => cases t; cases r; exact .inr ⟨_, n, rfl, e1, by assumption, q _ _ _ (Ext.refl vw) (.int _)⟩
    · cases e
  · cases e
def oStr : List D → Option D
  | [.int i] => if i.natAbs.log2 < 1920 then some (.str (toString i)) else none
  | _ => none
theorem cs_str : CallS X cl (.type "str") oStr := by
  refine ⟨_, call_str_int, fun Hv H xs ds d Q vw r e q => ?_⟩
  unfold oStr at e
  split at e
  · split at e
    · cases e
      cases r with
      | cons r t => cases t; cases r; exact ⟨_, rfl, by assumption, q _ _ _ (Ext.refl vw) (.str _)⟩
    · cases e
  · cases e
end
end Sm
namespace Sm
open PySem PySem.Spec L2
section
variable {X : Cx} {W : WX} {cl : Glb} {pos p p1 p2 : Pos} {a b c e : Expr} {es : List Expr} {fa fb fc : DE} {g : DA}
def tyN : D → Option String
  | .non => some "NoneType"
  | .bl _ => some "bool"
  | .int _ => some "int"
  | .str _ => some "str"
  | .tup _ => some "tuple"
  | .lst _ => some "list"
  | _ => none
theorem tyN_ok {K : PySem.W.Frag} {Hv H : Hp} {v : V} {d : D} {t : String} (vw : Vw cl Hv H) (r : Rep K cl Hv v d) (h : tyN d = some t) : TyX K H v (.type t) := by
  cases r with
  | non => cases h; exact .base .non
  | bl b => cases h; exact .base (.bl b)
  | int b => cases h; exact .base (.int b)
  | str b => cases h; exact .base (.str b)
  | lst s z r => cases h; exact .base (.lst (vw.s _ _ s rfl))
  | tup s z r =>
    cases h
    exact .base (.tup (vw.s _ _ s rfl))
  | _ => cases h
def kitF (T : String) (d : D) : Option D := (tyN d).bind fun t => (kitB t T).map .bl
theorem se_isiT {T : String} {x : Str} {o : D → Option D} (ho : ∀ d r, o d = some r → kitF T d = some r) (hb : bootBuiltins x = some (.type T)) (ha : SE X W cl a fa) (hm : X.mg "isinstance" = none) (hT : X.mg x = none) (hg : Gl X "isinstance" := by rfl) (hgx : Gl X x := by rfl)
    (hn : x ≠ "__name__" := by decide) (hdb : (x == ("__debug__" : Str)) = false := by decide)
    (he : starEach [a, .Name x p1] X.env = (false, eval a X.env) :: starEach [.Name x p1] X.env := by rfl) (he2 : starEach [.Name x p1] X.env = [(false, eval (.Name x p1) X.env)] := by rfl) (hpl : (backTo pos (starEach [.Name x p1] X.env)).any (·.1) = false := by rfl) :
    SE X W cl (.Call (.Name "isinstance" p) [a, .Name x p1] [] pos) (dUn o fa) := by
  obtain ⟨ta, pa, ha⟩ := ha
  refine ⟨_, pe_callB call_isi hg hm (by decide +kernel) (pa_cons pa (pa_cons (pe_bltn (v := .ty T) hgx hT hb rfl hn hdb) pa_nil he2) he) (by decide) (by decide) he hpl, fun Hv H σ ρ Q vw er pv => ?_⟩
  refine ha Hv H σ ρ _ vw er (bindP pv fun x Hv1 H1 _ e1 pv1 v rv => ?_)
  obtain ⟨d, ed, q⟩ := ofO_ok pv1
  have := ho _ _ ed
  unfold kitF at this
  simp only [Option.bind_eq_some_iff, Option.map_eq_some_iff] at this
  obtain ⟨t, h1, r, h2, rfl⟩ := this
  exact ⟨v, .ty T, .type t, .type T, r, rfl, .ty T, tyN_ok e1.vh rv h1, kit_ty h2, q _ _ (Ext.refl e1.vh) _ (.bl _)⟩
def oIsInt : D → Option D
  | .int _ => some (.bl true) | .bl _ => some (.bl true) | .non => some (.bl false) | .str _ => some (.bl false) | .tup _ => some (.bl false) | .lst _ => some (.bl false) | _ => none
def oIsBool : D → Option D
  | .int _ => some (.bl false) | .bl _ => some (.bl true) | .non => some (.bl false) | .str _ => some (.bl false) | .tup _ => some (.bl false) | .lst _ => some (.bl false) | _ => none
def oIsTup : D → Option D
  | .int _ => some (.bl false) | .bl _ => some (.bl false) | .non => some (.bl false) | .str _ => some (.bl false) | .tup _ => some (.bl true) | .lst _ => some (.bl false) | _ => none
theorem kit_int : ∀ d r, oIsInt d = some r → kitF "int" d = some r := fun d r h => by
  cases d <;> first | cases h | skip
  all_goals (simp only [kitF, tyN, Option.bind_some]; first | rw [show kitB "int" "int" = some true by decide +kernel] | rw [show kitB "bool" "int" = some true by decide +kernel] | rw [show kitB "NoneType" "int" = some false by decide +kernel] | rw [show kitB "str" "int" = some false by decide +kernel] | rw [show kitB "tuple" "int" = some false by decide +kernel] | rw [show kitB "list" "int" = some false by decide +kernel])
  all_goals rfl
theorem kit_bool : ∀ d r, oIsBool d = some r → kitF "bool" d = some r := fun d r h => by
  cases d <;> first | cases h | skip
  all_goals (simp only [kitF, tyN, Option.bind_some]; first | rw [show kitB "int" "bool" = some false by decide +kernel] | rw [show kitB "bool" "bool" = some true by decide +kernel] | rw [show kitB "NoneType" "bool" = some false by decide +kernel] | rw [show kitB "str" "bool" = some false by decide +kernel] | rw [show kitB "tuple" "bool" = some false by decide +kernel] | rw [show kitB "list" "bool" = some false by decide +kernel])
  all_goals rfl
theorem kit_tup : ∀ d r, oIsTup d = some r → kitF "tuple" d = some r := fun d r h => by
  cases d <;> first | cases h | skip
  all_goals (simp only [kitF, tyN, Option.bind_some]; first | rw [show kitB "int" "tuple" = some false by decide +kernel] | rw [show kitB "bool" "tuple" = some false by decide +kernel] | rw [show kitB "NoneType" "tuple" = some false by decide +kernel] | rw [show kitB "str" "tuple" = some false by decide +kernel] | rw [show kitB "tuple" "tuple" = some true by decide +kernel] | rw [show kitB "list" "tuple" = some false by decide +kernel])
  all_goals rfl
end
section
variable {X : Cx} {W : WX} {cl : Glb} {Hv0 H0 Hv Hv1 H : Hp} {own own1 own2 own3 : List Nat} {Dn : Ends} {pos p : Pos} {a b c e tg iter : Expr} {es : List Expr} {fa fb : DE} {g : DA} {st : Stmt} {sts : List Stmt}
def dExt (own : List Nat) (i : Nat) (f : DE) : DS := fun ρ => if lstAt i ρ then (f (mask own ρ)).to ρ fun d => match d with | .lst ds => Sm.putIn i ρ ds | _ => .bad else .bad
theorem ss_ext {i : Nat} {x : Str} {apos npos : Pos} (ha : SE X W cl a fa) (ho : own.contains i = true := by rfl) (hN : X.N[i]? = some x := by rfl) (hv : Vis X.env.scope x := by first | exact Or.inl rfl | exact Or.inr (Or.inl rfl)) (hd : (x == ("__debug__" : Str)) = false := by decide)
    (hcd : (x == ("__classdict__" : Str)) = false := by decide) (hline : (apos.endLine == p.line) = true := by rfl) (hs1 : starEach [a] X.env = [(false, eval a X.env)] := by rfl)
    (hfew : ((backTo p (starEach [a] X.env)).all (fun x => !x.1) && (backToKw p (keywordEach [] X.env)).all (fun x => x.1.isSome) && decide ([a].length + ([] : List Keyword).length + (if ([] : List Keyword).isEmpty then 0 else 1) < 30)) = true := by rfl)
    (hs : swapsWith (.Call (.Attribute (.Name x npos) "extend" apos) [a] [] p) none pos.line X.env = pure false := by rfl) :
    SS X W cl own own (.Expr (.Call (.Attribute (.Name x npos) "extend" apos) [a] [] p) pos) (dExt own i fa) := by
  obtain ⟨ta, pa, ha⟩ := ha
  refine ⟨_, ps_expr (pe_bm PySem.F.plainAttrs_list PySem.F.slot_list_extend PySem.F.type_list_extend mt_extend (pe_var hN hv hd hcd) (pa_cons pa pa_nil hs1) rfl hfew hline hs1 rfl) hs, fun Hv0 H0 ρ σ Hv H Dn sr hl po => ?_⟩
  have hi : i ∈ own := by simpa using ho
  obtain ⟨q, d0, e1, e2, e3, e4, o, e6, eo⟩ := sr.ow i hi
  cases hla : lstAt i ρ with
  | false => simp only [dExt, hla] at po; exact po.elim
  | true => ?_
  obtain ⟨ds, h1⟩ := lstAt_ok hla
  rw [h1] at e1; cases e1
  obtain ⟨vs, rfl, e7, e8⟩ := eo.ofL
  simp only [dExt, hla, if_true] at po
  refine ⟨.ref q, e2, .inl ⟨rfl, vs, .inl (.inl e6)⟩, ?_⟩
  refine ha Hv H σ _ _ sr.ext.vh sr.er (use_mask sr hl po fun d Hv' H' _ e sr' po' v r => ?_)
  cases d with
  | lst zs =>
    cases r with
    | lst s z r =>
      obtain ⟨q', d0', g1, g2, g3, g4, o', g6, go⟩ := sr'.ow i hi
      rw [e2] at g2; cases g2
      rw [h1] at g1; cases g1
      have g1 := h1
      obtain ⟨vs', rfl, g7, g8⟩ := go.ofL
      unfold Sm.putIn at po'
      rw [g1] at po'
      simp only at po'
      split at po'
      · rename_i hz
        have hz : vs'.length + zs.length ≤ sizeLine := by rw [g8.length]; exact hz
        rw [← r.length] at hz
        refine ⟨q, _, vs', _, rfl, rfl, g6, sr'.ext.vh.s _ _ s rfl, hz, ?_⟩
        exact po' σ Hv' _ (sr'.write hi g1 e2 g6 (by rw [List.length_append]; exact hz) (g8.append r)) (Sam.refl _) hl
      · exact po'.elim
  | _ => exact po'.elim
end
end Sm
namespace Sm
open PySem PySem.Spec L2
def SqG (K : PySem.W.Frag) (H : Hp) (b : Bool) (a : Addr) (xs : List V) : Prop := match b with | true => SqL K H a xs | false => SqT K H a xs
def IterG (b : Bool) (h : Heap) (it a : Addr) (i : Nat) : Prop := match b with | true => h.IsListIter it a i | false => h.IsTupleIter it a i
def ContG (b : Bool) (h : Heap) (a : Addr) (items : Array Value) : Prop := match b with | true => h.IsList a items | false => h.IsTuple a items
def iterO (b : Bool) (a : Addr) : Obj := match b with
  | true => { cls := .type "list_iterator", data := .fields #[.ref a, .int 0 0] }
  | false => { cls := .type "tuple_iterator", data := .fields #[.ref a, .int 0 0] }
theorem beginsG (b : Bool) (a : Addr) (items : Array Value) : Begins (.ref a) (iterO b a) fun h => ContG b h a items := by
  cases b with
  | true => exact begins_list a items
  | false => exact begins_tuple a items
theorem drawsG {prog : Program} {w : World} {A : Around} (b : Bool) (hh : A.handled = none) (it a : Addr) (hne : a ≠ it) (items : Array Value) :
    Draws prog w A it [it, a] items.size (fun i v => items[i]? = some v) (fun i h => IterG b h it a i ∧ ContG b h a items) := by
  cases b with
  | true => exact Draws.list hh it a hne items
  | false => exact Draws.tuple hh it a hne items
theorem IterG.new {b : Bool} {h : Heap} {it a : Addr} (e : h.get? it = some (iterO b a)) : IterG b h it a 0 := by
  cases b with
  | true => exact ⟨_, e, rfl, rfl⟩
  | false => exact ⟨_, e, rfl, rfl⟩
theorem IterG.at' {b : Bool} {h h' : Heap} {it a : Addr} {i : Nat} (x : IterG b h it a i) (k : ∀ o, h.get? it = some o → h'.get? it = some o) : IterG b h' it a i := by
  cases b with
  | true => exact Heap.IsListIter.at x k
  | false => exact Heap.IsTupleIter.at x k
theorem IterG.obj {b : Bool} {h : Heap} {it a : Addr} {i : Nat} (x : IterG b h it a i) : ∃ o, h.get? it = some o ∧ ∀ v, o.data ≠ .cell v := by
  cases b with
  | true => obtain ⟨o, e, c, d⟩ := x; exact ⟨o, e, fun v z => by rw [d] at z; cases z⟩
  | false => obtain ⟨o, e, c, d⟩ := x; exact ⟨o, e, fun v z => by rw [d] at z; cases z⟩
section
variable {X : Cx} {pins : List (Addr × Obj)} {σ : St} {H : Hp} {s : Shared}
theorem contG {b : Bool} {a : Addr} {xs : List V} (I : Inv X pins σ H s) (h : SqG X.K H b a xs) : ∃ its : List Value, Vals xs its ∧ ContG b s.heap a its.toArray := by
  cases b with
  | true => obtain ⟨its, r, p, _⟩ := I.list h; exact ⟨its, r, p.isList⟩
  | false => obtain ⟨its, r, p, _⟩ := I.tuple h; exact ⟨its, r, p⟩
theorem sqG_inj {b : Bool} {a : Addr} {xs ys : List V} (I : Inv X pins σ H s) (h : SqG X.K H b a xs) (h' : SqG X.K H b a ys) : xs = ys := by
  cases b with
  | true => exact I.list_inj h h'
  | false => exact I.tuple_inj h h'
theorem contG_lt {b : Bool} {h : Heap} {a : Addr} {its : Array Value} (x : ContG b h a its) : a < h.objs.size := by
  cases b with
  | true => obtain ⟨o, e, _⟩ := x; exact Heap.lt_size e
  | false => obtain ⟨o, e, _⟩ := x; exact Heap.lt_size e
end
theorem enum1_meets {v : Value} {o : Obj} {H0 : Heap → Prop} (B : Begins v o H0) : Meets (Builtin.«enumerate.__new__» ⟨[.type "enumerate", v], []⟩)
    (fun _ R s => H0 s.heap ∧ R (.ok (.ret (.ref (s.heap.push o).objs.size))) { s with heap := (s.heap.push o).push { cls := .type "enumerate", data := .fields #[.none, .bool false, .ref s.heap.objs.size, rawInt 0, .none, .none] } }) := by
  refine Meets.of_wp fun prog w A R s h => ?_
  rcases s with ⟨hp, gn, dr, tk, os⟩
  rcases h with ⟨hb, h⟩
  have hsb := sub_enumerate
  have go : ∀ {A' : Around} {E : Value → Shared → Prop} {Q : Value → Shared → Prop}, Q (.ref hp.objs.size) ⟨hp.push o, gn, dr, tk, os⟩ → wpAny (model prog w) A' (pyIter v) Q E ⟨hp, gn, dr, tk, os⟩ :=
    fun hq => B.iter prog w _ _ ⟨hp, gn, dr, tk, os⟩ _ hb hq
  wp_walk using go
  refine wpAny_stack_any fun stk => ?_
  refine wpAny_pure ?_
  split
  · rename_i cc _ _ _ _ _
    cases (cc == Value.type "enumerate") <;> (wp_walk using go; exact ⟨_, rfl, h⟩)
  · wp_walk using go
    exact ⟨_, rfl, h⟩
theorem call_enum1 {prog : Program} {w : World} {A : Around} {E : Value → Shared → Prop} {s : Shared} {v : Value} {o : Obj} {H0 : Heap → Prop} {Q : Value → Shared → Prop} (B : Begins v o H0) (hb : H0 s.heap)
    (h : ∀ h', IsEnum h' (s.heap.objs.size + 1) s.heap.objs.size 0 .none → h'.get? s.heap.objs.size = some o → (∀ c u, s.heap.get? c = some u → h'.get? c = some u) → Q (.ref (s.heap.objs.size + 1)) { s with heap := h' }) :
    wpAny (model prog w) A (call (.type "enumerate") [v]) Q E s := by
  refine callType_new F.called_enumerate (by decide) (F.typeCall_enumerate_1 _) (F.newCall_enumerate_1 _) (fun ob => F.args_object_init_2 ob _) F.entry_enumerate_new (enum1_meets B) ⟨hb, ?_⟩
  have hz : (s.heap.push o).objs.size = s.heap.objs.size + 1 := Heap.size_push ..
  show _ ∧ _
  rw [hz]
  have he := Heap.get?_push_size (s.heap.push o) (o := { cls := .type "enumerate", data := .fields #[.none, .bool false, .ref s.heap.objs.size, rawInt 0, .none, .none] }) rfl
  rw [hz] at he
  exact ⟨⟨_, he, rfl⟩, h _ he (Heap.get?_push_of_some _ (Heap.get?_push_size _ B.free)) fun c u q => Heap.get?_push_of_some _ (Heap.get?_push_of_some _ q)⟩
def IteG (K : PySem.W.Frag) (b : Bool) (a : Addr) : It :=
  ⟨fun i H => ∃ (xs : List V) (x : V), SqG K H b a xs ∧ xs[i]? = some x, fun i H v H' => ∃ T x, v = .ref T ∧ H T = none ∧ H' = upd H T (.tup [.int (i : Nat), x]) ∧ ∀ xs, SqG K H b a xs → xs[i]? = some x, fun i H => ∃ xs : List V, SqG K H b a xs ∧ xs.length = i⟩
theorem turn_enumG {P : Program} {w : World} {K : PySem.W.Frag} {elts : List Expr} {kk : Nat} {tpos : Pos} (b : Bool) (a e it : Addr) :
    Turn P w K (.Tuple elts kk tpos) (IteG K b a) [e, it] e (fun i h => (∃ old, IsEnum h e it ((i : Nat) : Int) old) ∧ IterG b h it a i ∧ e ≠ it ∧ e ≠ a ∧ a ≠ it) where
  mem := by simp
  obj := fun i h ⟨⟨old, he⟩, hi, _⟩ c hc => by
    rcases List.mem_cons.mp hc with z | hc
    · rw [z]; exact ⟨_, he, fun v q => nomatch q⟩
    · rw [List.mem_singleton.mp hc]; exact hi.obj
  keep := fun i h h' ⟨⟨old, he⟩, hi, ne⟩ k => ⟨⟨old, k e (by simp) _ he⟩, hi.at' fun o q => k it (by simp) o q, ne⟩
  item := by
    intro X hP hw hK hc i pins s σ H E I hf st hg
    subst hP hw hK
    obtain ⟨⟨old, he⟩, hit, n1, n2, n3⟩ := st
    obtain ⟨xs, x, hq, hx⟩ := hg
    obtain ⟨its, rv, ct⟩ := contG I hq
    obtain ⟨u, hu, ru⟩ := rv.get hx
    have hA : X.A.in1.handled = none := I.ok.hd hc
    have Wk := WalksT.enumFrom (A := X.A) 0 (drawsG (prog := X.prog) (w := X.w) (A := X.A.in1) b hA it a n3 its.toArray) e n1 (by simp [n1, n2]) (by simp)
    have hi : i < its.toArray.size := by
      have := (List.getElem?_eq_some_iff.mp hu).1
      simpa using this
    refine Wk.item i s _ E hi ⟨⟨old, by rw [Int.zero_add]; exact he⟩, hit, ct⟩ fun T vals h' tk ⟨t, y, hy, ev⟩ hT0 hT hm hk => ?_
    subst ev
    have hy : y = u := by
      have h1 : its.toArray[i]? = some u := by simpa using hu
      rw [h1] at hy; exact (Option.some.inj hy).symm
    subst hy
    refine ⟨_, rfl, Wk.go elts kk tpos i T { s with heap := h', toks := tk } _ E hm fun h'' st2 hk2 => ?_⟩
    have ap := Wk.apart i T h' hm
    obtain ⟨oT, hoT, hcT, nT, hdT⟩ := hT
    have hT2 : h''.get? T = some oT := hk2 T oT ap hoT
    have new : ObjOk X.prog X.w (upd H T (.tup [.int (i : Nat), x])) h'' T (.tup [.int (i : Nat), x]) :=
      ⟨by show 2 ≤ sizeLine; decide, [.int (0 + (i : Int)) t, y], .cons ⟨t, by rw [Int.zero_add]⟩ (.cons ru .nil), ⟨oT, hT2, hcT, nT, hdT⟩⟩
    have I1 : Inv X pins σ (upd H T (.tup [.int (i : Nat), x])) { s with heap := h'', toks := tk } :=
      I.turnedNew (ch := [e, it]) (fun c ob hb q => hk2 c ob hb (hk c ob hb q)) hf hT0 new
    obtain ⟨⟨old2, he2⟩, hit2, _⟩ := st2
    refine ⟨.ref T, _, I1, rfl, ⟨T, x, rfl, I.hok.fresh hT0, rfl, fun ys hy => by rw [sqG_inj I hy hq]; exact hx⟩, ⟨⟨old2, ?_⟩, hit2, n1, n2, n3⟩, fun c hcm => ?_⟩
    · have : (0 : Int) + ((i + 1 : Nat) : Int) = ((i + 1 : Nat) : Int) := Int.zero_add _
      rw [this] at he2; exact he2
    · have hlt : c < s.heap.objs.size := by
        rcases List.mem_cons.mp hcm with z | z
        · rw [z]; exact Heap.lt_size he
        · rw [List.mem_singleton.mp z]; obtain ⟨o, ho, _⟩ := hit.obj; exact Heap.lt_size ho
      rw [upd_ne (Nat.ne_of_lt (Nat.lt_of_lt_of_le hlt hT0))]
      exact (hf c hcm).1
  done := by
    intro X hP hw hK hc i pins s σ H E I hf st hg
    subst hP hw hK
    obtain ⟨⟨old, he⟩, hit, n1, n2, n3⟩ := st
    obtain ⟨xs, hq, hx⟩ := hg
    obtain ⟨its, rv, ct⟩ := contG I hq
    have hA : X.A.in1.handled = none := I.ok.hd hc
    have Wk := WalksT.enumFrom (A := X.A) 0 (drawsG (prog := X.prog) (w := X.w) (A := X.A.in1) b hA it a n3 its.toArray) e n1 (by simp [n1, n2]) (by simp)
    have hl : its.toArray.size = i := by rw [List.size_toArray, ← rv.length]; exact hx
    refine Wk.done s _ E ?_ fun h' tk hk => ⟨rfl, I.turnedL (ch := [e, it]) (fun c o hb q => hk c o hb q) hf⟩
    rw [hl]
    exact ⟨⟨old, by rw [Int.zero_add]; exact he⟩, hit, ct⟩
  self := fun A i s Q E st h => by
    obtain ⟨⟨_, he⟩, _⟩ := st
    exact wpAny_pyIter_enum he h
def iEnumG (K : PySem.W.Frag) (ta : TA) : TI := fun σ H R => ta σ H fun vs H1 => ∃ b a xs, vs = [.ref a] ∧ SqG K H1 b a xs ∧ R (IteG K b a) H1
theorem pi_enumG {X : Cx} {e : Expr} {ta : TA} {p pos tpos : Pos} {elts : List Expr} {kk : Nat} (hg : Gl X "enumerate") (hm : X.mg "enumerate" = none) (ha : PA X [e] ta) (hs : starEach [e] X.env = [(false, eval e X.env)] := by rfl) :
    PI X (.Tuple elts kk tpos) (.Call (.Name "enumerate" p) [e] [] pos) (iEnumG X.K ta) := by
  constructor
  intro pins s σ H R I h
  refine PyProof.Rows.Call_ (ld_blt I hg hm PyProof.Rows.boot_enumerate (PyProof.Rows.callWith_type1 (thn (ha.run pos pins s σ H _ I h) fun us s1 ⟨vs, H1, I1, r1, b, a, xs, ev, hq, q⟩ => ?_) hs rfl))
  subst ev
  cases r1 with
  | cons r rr =>
    cases rr
    cases r
    obtain ⟨its, rv, ct⟩ := contG I1 hq
    have hlt := contG_lt ct
    refine call_enum1 (beginsG b a its.toArray) ct fun h' he hit hk => wpAny_pyIter_enum he ?_
    have I2 : Inv X pins σ H1 { s1 with heap := h' } := I1.kept (t' := s1.toks) hk
    refine ⟨s1.heap.objs.size + 1, [s1.heap.objs.size + 1, s1.heap.objs.size], _, _, H1, rfl, I2, turn_enumG b a (s1.heap.objs.size + 1) s1.heap.objs.size, ⟨⟨.none, he⟩, IterG.new hit, Nat.succ_ne_self _, Nat.ne_of_gt (Nat.lt_succ_of_lt hlt), Nat.ne_of_lt hlt⟩, fun c hc => ?_, q⟩
    have hle : s1.heap.objs.size ≤ c := by
      rcases List.mem_cons.mp hc with z | z
      · rw [z]; exact Nat.le_succ _
      · rw [List.mem_singleton.mp z]; exact Nat.le_refl _
    exact I1.fpOk hle (I1.hok.fresh hle)
section
variable {X : Cx} {W : WX} {cl : Glb} {pos p tpos : Pos} {a b c e : Expr} {es elts : List Expr} {fa fb fc : DE} {g : DA} {kk : Nat}
theorem Sam.sqG {K : PySem.W.Frag} {H H' : Hp} {b : Bool} {a : Addr} {xs : List V} (e : Sam H H') (h : SqG K H b a xs) : SqG K H' b a xs := by
  cases b with
  | true => exact e.sqL h
  | false => exact e.sqT h
theorem rep_items {K : PySem.W.Frag} {H : Hp} {v : V} {d : D} {ds : List D} (r : Rep K cl H v d) (h : itemsOf d = some ds) : ∃ b a xs, v = .ref a ∧ SqG K H b a xs ∧ Reps K cl H xs ds ∧ ds.length ≤ sizeLine := by
  cases r with
  | lst s z r => cases h; exact ⟨true, _, _, rfl, .inl (.inl s), r, by rw [← r.length]; exact z⟩
  | tup s z r => cases h; exact ⟨false, _, _, rfl, sqT_of s, r, by rw [← r.length]; exact z⟩
  | scr s z => cases h; exact ⟨true, _, _, rfl, s, reps_ints _, by rw [List.length_map]; exact z⟩
  | _ => cases h
def enumFrom (k : Nat) : List D → List D
  | [] => []
  | d :: ds => .tup [.int (k : Nat), d] :: enumFrom (k + 1) ds
theorem enumFrom_len : ∀ (ds : List D) (k : Nat), (enumFrom k ds).length = ds.length
  | [], _ => rfl
  | _ :: ds, k => by simp only [enumFrom, List.length_cons]; rw [enumFrom_len ds]
theorem enumFrom_get : ∀ (ds : List D) (k i : Nat), (enumFrom k ds)[i]? = (ds[i]?).map fun d => .tup [.int ((k + i : Nat) : Int), d]
  | [], _, _ => by simp [enumFrom]
  | d :: ds, k, 0 => by simp [enumFrom]
  | d :: ds, k, i + 1 => by
    simp only [enumFrom, List.getElem?_cons_succ]
    rw [enumFrom_get ds (k + 1) i, show k + 1 + i = k + (i + 1) by omega]
def enumD : List D → Option (List D)
  | [d] => (itemsOf d).map (enumFrom 0)
  | _ => none
theorem it_enum {K : PySem.W.Frag} {Hv : Hp} {b : Bool} {l : Addr} {xs : List V} {ds : List D} (s : SqG K Hv b l xs) (r : Reps K cl Hv xs ds) : ItOk K cl (IteG K b l) Hv (enumFrom 0 ds) where
  go := fun i Hv' H sm vw h => by
    rw [enumFrom_len] at h
    obtain ⟨v, h1, _⟩ := r.get (i := i) (d := ds[i]) (by simp [h])
    exact ⟨xs, v, vw.s.sqG (sm.sqG s), h1⟩
  stop := fun i Hv' H sm vw h => ⟨xs, vw.s.sqG (sm.sqG s), by rw [enumFrom_len] at h; rw [r.length]; omega⟩
  yld := fun i Hv' H sm vw d h x H' ⟨T, y, e1, e2, e3, e4⟩ => by
    subst e1 e3
    rw [enumFrom_get, Option.map_eq_some_iff] at h
    obtain ⟨d', h1, rfl⟩ := h
    obtain ⟨v, g1, g2⟩ := r.get h1
    have := e4 xs (vw.s.sqG (sm.sqG s))
    rw [g1] at this; cases this
    refine ⟨_, Ext.new vw e2, .tup upd_same (by show 2 ≤ sizeLine; decide) (.cons ?_ (.cons ((g2.mono sm).mono (Ext.new vw e2).vv) .nil))⟩
    rw [Nat.zero_add]
    exact .int _
theorem si_enum (ha : SA X W cl [a] g) (hm : X.mg "enumerate" = none) (hg : Gl X "enumerate" := by rfl) (hs : starEach [a] X.env = [(false, eval a X.env)] := by rfl) : SI X W cl (.Tuple elts kk tpos) (.Call (.Name "enumerate" p) [a] [] pos) (dRng enumD g) := by
  obtain ⟨ta, pa, ha, hl⟩ := ha
  refine ⟨_, pi_enumG hg hm pa hs, fun Hv H σ ρ Q vw er pv => ?_⟩
  refine ha Hv H σ ρ _ vw er (bindP pv fun x Hv1 H1 ex e1 pv1 v rv => ?_)
  obtain ⟨ds, ed, q⟩ := ofO_ok pv1
  unfold enumD at ed
  split at ed
  · rw [Option.map_eq_some_iff] at ed
    obtain ⟨its, h1, rfl⟩ := ed
    cases rv with
    | cons r t =>
      cases t
      obtain ⟨b, l, xs, rfl, s, r2, z⟩ := rep_items r h1
      exact ⟨b, l, xs, rfl, e1.vh.s.sqG s, q Hv1 H1 (Ext.refl e1.vh) (by rw [enumFrom_len]; exact z) _ (it_enum s r2)⟩
  · cases ed
end
end Sm
namespace Sm
open PySem PySem.Spec L2
abbrev veB : List Value := [.type "ValueError", .type "Exception", .type "BaseException", .type "object"]
structure XC (K : PySem.W.Frag) (mg : Str → Option Value) (x : Str) (C : Addr) : Prop where
  g : mg x = some (.ref C)
  x : PySem.W.excIn K C veB "ValueError.__new__" = true
  k : PySem.W.keepIn K (.ref C) = true
  b : PySem.W.subIn K (.ref C) (.type "BaseException") = some true
  t : PySem.W.typeIn K (.ref C) = some (.type "type")
section
variable {X : Cx} {W : WX} {cl : Glb} {own own1 : List Nat} {pos p p2 pos' : Pos}
def dRaise (c : Nat) : DS := fun ρ => .err ρ c
theorem ss_raise {c j : Nat} {x m : Str} (gd : Gd X W) (F : XC X.K X.mg x (cl.c c)) (hg : Gl X x := by rfl) (hdb : (x == ("__debug__" : Str)) = false := by decide) :
    SS X W cl own own1 (.Raise (some (.Call (.Name x p) [.Constant (.str m) j p2] [] pos)) none pos') (dRaise c) := by
  refine ⟨_, ps_raise gd.calm gd.tk (pmk_own PySem.F.excBase_ValueError F.x F.g F.k (raises_own F.b F.t) hg hdb), fun Hv0 H0 ρ σ Hv H Dn sr hl po => ?_⟩
  obtain ⟨s1, s2⟩ := sr.freeze (own' := []) (by simp)
  exact po σ _ H s1 s2 hl
end
def dPick (pk : Nat → Int → Int) : List D → R D
  | [.scr0, .int k, .int m] => if 0 ≤ k ∧ 0 < m then .ok (.int (pk k.toNat m)) else .bad
  | [.scr1, .int k, .int m] => if 0 ≤ k ∧ 0 < m then .ok (.int (if 0 ≤ pk k.toNat (-m) ∧ pk k.toNat (-m) < m then pk k.toNat (-m) else 0)) else .bad
  | _ => .bad
end Sm
namespace Sm
open PySem PySem.Spec L2
section
variable {X : Cx} {W : WX} {cl : Glb} {pos p : Pos} {a b c e : Expr} {es : List Expr} {fa fb : DE} {g : DA} {own : List Nat}
end
end Sm
namespace Sm
open PySem PySem.Spec L2
section
variable {X : Cx} {pins : List (Addr × Obj)} {σ : St} {H : Hp} {s : Shared}
theorem excO_ok {P : Program} {w : World} {h : Heap} {a C : Addr} {oe : Obj} {vs : Array Value} (e : h.get? a = some oe) (z : Zc (.ref C) none oe) (d : oe.data = .fields vs) : ObjOk P w H h a (ExcO a C) :=
  ⟨⟨oe, vs, e, z, d⟩, ⟨oe, e⟩, fun _ _ ⟨o, v, q, r⟩ k => ⟨o, v, k o q, r⟩⟩
theorem inv_track {a C : Addr} {oe : Obj} {vs : Array Value} (I : Inv X pins σ H s) (na : H a = none) (he : s.heap.get? a = some oe) (hz : Zc (.ref C) none oe) (hd : oe.data = .fields vs) (n0 : X.s_0.heap.get? a = none) (nL : a ≠ X.env.locals)
    (nP : ∀ p ∈ X.pn ++ pins, p.1 ≠ a) : Inv X pins σ (upd H a (ExcO a C)) s := by
  refine ⟨I.ok, I.os, I.bare, ⟨I.base.keep, I.base.slot, fun b u q n hx => ?_, I.base.there, fun b xs q => ?_, fun b u xs q => ?_, fun b ps q => ?_⟩, I.loc, I.cell, ?_, fun x c q => ?_, fun p hp => ?_, I.hok.laidN (fun _ _ k => k) na (excO_ok he hz hd), I.len⟩
  · have nb : b ≠ a := fun y => by rw [y, n0] at q; cases q
    rw [upd_ne nb]; exact I.base.free b u q n hx
  · have z := I.base.tups b xs q
    rw [upd_ne (ne_of_none z na)]; exact z
  · have z := I.base.frzs b u xs q
    rw [upd_ne (ne_of_none z na)]; exact z
  · obtain ⟨more, z⟩ := I.base.tbls b ps q
    exact ⟨more, by rw [upd_ne (ne_of_none z na)]; exact z⟩
  · rw [upd_ne (Ne.symm nL)]; exact I.free
  · have nc : c ≠ a := fun y => by
      obtain ⟨v, o, d1, d2⟩ := I.cell x c q
      rw [y, he] at d1; cases d1
      rw [hd] at d2; cases d2
    rw [upd_ne nc]; exact I.freeC x c q
  · obtain ⟨g1, g2, g3, g4, g5⟩ := I.pin p hp
    exact ⟨g1, by rw [upd_ne (nP p hp)]; exact g2, g3, g4, g5⟩
abbrev cxS (X : Cx) (a : Addr) (pn : List (Addr × Obj)) : Cx := { X with A := X.A.mark (some (.ref a)), calm := false, pn := pn, xe := fun _ _ => False }
theorem inv_in {a : Addr} (I : Inv X pins σ H s) : Inv (cxS X a (X.pn ++ pins)) [] σ H s := by
  have ok := I.ok
  exact ⟨⟨ok.mod, ok.kind, ok.glob, ok.blt, ok.above, ok.inj, ok.has, ok.cab, fun y => Bool.noConfusion (show false = true from y), ok.frames, ok.stk, ok.exf, ok.bs, ok.bsz, ok.noex, ok.exfs, ok.funs, ok.frf⟩, I.os, I.bare, I.base, I.loc, I.cell, I.free, I.freeC,
    fun p hp => I.pin p (by rw [List.append_nil] at hp; exact hp), I.hok, I.len⟩
theorem inv_back {a : Addr} {q : List (Addr × Obj)} (I : Inv (cxS X a (X.pn ++ pins)) q σ H s) (ok : X.Ok) : Inv X pins σ H s :=
  ⟨ok, I.os, I.bare, I.base, I.loc, I.cell, I.free, I.freeC, fun p hp => I.pin p (List.mem_append_left _ hp), I.hok, I.len⟩
def wX (K : PySem.W.Frag) (c : Value) (i : Nat) (ts : Addr → TS) (Wo : WX) (D : Ends) : WX := fun cls d σ H =>
  ∃ b, PySem.W.exmOne K cls c = some b ∧ (b = true → ∃ C, cls = .ref C ∧ d = none ∧ ∀ a, H a = none →
    ts a { nx := fun σ' H' => D.nx (σ'.set i none) H', rt := D.rt, bk := fun σ' H' => D.bk (σ'.set i none) H', ct := fun σ' H' => D.ct (σ'.set i none) H' } (σ.set i (some (.ref a))) (upd H a (ExcO a C))) ∧ (b = false → Wo cls d σ H)
end
section
variable {X : Cx} {x n : Str} {c : Value} {i : Nat} {body suite : List Stmt} {b₀ : Stmt} {np pos pos' : Pos} {tb : WX → TS} {ts : Addr → TS} {Wo : WX}
theorem ps_try_x (hs : X.stack = X.env :: X.outer) (hf : X.env.frame = some X.env.locals) (hx : X.ex = []) (nd : X.N.Nodup) (hi : X.N[i]? = some n) (hln : X.env.kindOf n = some .local) (hc : Names X x c) (tk : Takes X Wo)
    (hb : ∀ (W : WX) (pn : List (Addr × Obj)) (xe : Value → Shared → Prop), Takes (X.tr pn xe) W → PassesOwn (model X.prog X.w) X.A X.env xe → PSs (X.tr pn xe) body (tb W))
    (hsu : ∀ (a : Addr) (pn : List (Addr × Obj)), PSs (cxS X a pn) (b₀ :: suite) (ts a)) :
    PS X (.Try body [.ExceptHandler (some (.Name x np)) (some n) (b₀ :: suite) pos'] [] [] pos) (fun D σ H => tb (wX X.K c i ts Wo D) D σ H) := by
  refine ⟨fun pins s σ H D I hw => ?_⟩
  have ok := I.ok
  have fr0 : X.A.frames = some (X.env :: X.outer) := by rw [ok.frames, hs]
  have hl0 : Loc X.env.scope n := .inl hln
  refine wpAny_Try_except (wpAny_mono ((hb (wX X.K c i ts Wo D) (X.pn ++ pins) (fun e t1 => wpAny (model X.prog X.w) X.A (noteFrame e X.env) (fun _ t2 => wpAny (model X.prog X.w) X.A (setFlight e none) (fun _ t3 =>
    wpAny (model X.prog X.w) X.A (handleBy e X.env [.ExceptHandler (some (.Name x np)) (some n) (b₀ :: suite) pos']) (SP X pins D) X.xe t3) X.xe t2) X.xe t1) (fun u s' air => ?_) PassesOwn.looking).run [] s σ H D (I.toTry _) hw) (fun f s1 fin => ?_) (fun e s1 z => z))
  · obtain ⟨a, B, sI, pins', σ', H', cls, d, rfl, J', nb, up, sky, na, os, ag, b, hm, yes, no⟩ := air
    have J : Inv X pins σ' H' sI := J'.ofTry ok
    have sky1 : Sky B (X.env :: X.outer) a (Zc cls d) X.env.locals s'.heap := by rw [← hs]; exact sky
    show wpAny (model X.prog X.w) X.A (noteFrame (.ref a) X.env) _ _ _
    refine Sky.land Zc.steady fr0 hf sky1 fun h3 fl up3 => ?_
    have J3 : Inv X pins σ' H' { s' with heap := h3 } := J.landed nb fl.1 (up.trans up3) os ag
    obtain ⟨o3, v3, g3, z3, d3⟩ := fl.there
    have off : a ∉ frs (X.env :: X.outer) := fun hm => by
      obtain ⟨_, o', q', bad⟩ := fl.2.2.1.mem hm
      rw [g3] at q'; cases q'
      exact bad _ d3
    have nL : a ≠ X.env.locals := fun z => off (List.mem_filterMap.mpr ⟨X.env, List.mem_cons_self, by rw [hf, z]⟩)
    have nI : sI.heap.get? a = none := by
      cases q : sI.heap.get? a with
      | none => rfl
      | some o =>
        have := nb a o q (by rw [hs]; exact off)
        rw [fl.2.1] at this; cases this
    have n0 : X.s_0.heap.get? a = none := by
      cases q : X.s_0.heap.get? a with
      | none => rfl
      | some o =>
        obtain ⟨o', q'⟩ := J.base.there a o q (by rw [hx]; simp)
        rw [nI] at q'; cases q'
    have nP : ∀ p ∈ X.pn ++ pins, p.1 ≠ a := fun p hp z => by
      have := (J.pin p hp).1
      rw [z, nI] at this; cases this
    refine wpAny_handleBy_cons (codeAny_handlers_test ?_) (by intro q; cases q)
    have ty : PySem.W.Looks (model X.prog X.w) h3 (typeOf (.ref a)) cls := fun A Q E t k q => wpAny_typeOf_ref (k _ _ g3) (by rw [z3.1]; exact q)
    have mt := PySem.W.exm_one (M := model X.prog X.w) J3.kIn ty hm
    have S3 := inv_in (a := a) J3
    have test : ∀ {Q : Value → Shared → Prop} {E : Value → Shared → Prop}, Q c { s' with heap := h3 } → wpAny (model X.prog X.w) (X.A.mark (some (.ref a))) (eval (.Name x np) X.env) Q E { s' with heap := h3 } := fun {Q E} q => by
      obtain ⟨hg, hdb, h1 | ⟨h1, h2, h4⟩⟩ := hc
      · exact ld_glob (X := cxS X a (X.pn ++ pins)) S3 hg h1 q hdb
      · exact ld_blt (X := cxS X a (X.pn ++ pins)) S3 hg h1 h2 q h4 hdb
    refine test (mt.here ?_)
    cases b with
    | true =>
      obtain ⟨C, rfl, rfl, go⟩ := yes rfl
      refine codeAny_handlers_suite_as (HandSPX.lands_againZ fl fun h4 fl4 up4 => ?_)
      have J4 : Inv X pins σ' H' { s' with heap := h4 } := J.landed nb fl4.1 ((up.trans up3).trans up4) os ag
      obtain ⟨o4, v4, g4, z4, d4⟩ := fl4.there
      have S4 := inv_in (a := a) (inv_track J4 na g4 z4 d4 n0 nL nP)
      refine store_ok (X := cxS X a (X.pn ++ pins)) (v := .ref a) S4 nd hi hl0 rfl (fun s5 S5 => ?_) (.inr hln)
      refine wpAny_mono ((hsu a (X.pn ++ pins)).run [] s5 _ _ _ S5 (go a na)) (fun f s6 fin => ?_) (fun _ _ z => False.elim z)
      have away : ∀ {σ6 : St} {H6 : Hp} {Q : Shared → Prop}, Inv (cxS X a (X.pn ++ pins)) [] σ6 H6 s6 → (∀ s7, Inv X pins (σ6.set i none) H6 s7 → Q s7) →
          wpAny (model X.prog X.w) X.A (do bindName X.env n .none; unbindBehindTheSuite X.env n pos') (fun _ s7 => Q s7) X.xe s6 := fun {σ6 H6 Q} S6 k => gone_ok (inv_back S6 ok) nd hi hln k
      cases f with
      | next => obtain ⟨σ6, H6, S6, q6⟩ := fin; exact away S6 fun s7 J7 => ⟨_, _, J7, q6⟩
      | brk => obtain ⟨σ6, H6, S6, q6⟩ := fin; exact away S6 fun s7 J7 => ⟨_, _, J7, q6⟩
      | cont => obtain ⟨σ6, H6, S6, q6⟩ := fin; exact away S6 fun s7 J7 => ⟨_, _, J7, q6⟩
      | ret u => obtain ⟨v6, σ6, H6, S6, r6, q6⟩ := fin; exact away S6 fun s7 J7 => ⟨_, _, _, J7, r6, q6⟩
    | false =>
      show wpAny _ X.A (handleBy (.ref a) X.env []) _ _ _
      refine wpAny_handleBy_nil ?_
      obtain ⟨_, _, _, oe, vs, T, oT, ts', q1, q2, q3, q4, _⟩ := id fl
      unfold PySem.passOn
      refine wpAny_bind (wpAny_field q1 q3 q4 ?_)
      rw [if_neg (show ¬ ((Value.ref T == Value.none) = true) by simp)]
      have off2 : wpAny (model X.prog X.w) X.A (setFlight (.ref a) X.env.frame) (fun _ s4 => wpAny (model X.prog X.w) X.A (throw (.ref a) : Sem Flow) (SP X pins D) X.xe s4) X.xe { s' with heap := h3 } := by
        rw [hf]
        exact HandSPX.setFlight_upZ fl fun h4 hh up4 => wpAny_throw (tk _ _ ⟨a, B, sI, pins, σ', H', cls, d, rfl, J, nb, (up.trans up3).trans up4, .inr (.inr (by rw [hs]; exact hh)), na, os, ag, no rfl⟩)
      first
        | exact wpAny_bind (wpAny_pure (wpAny_bind off2))
        | exact wpAny_bind off2
  · cases f with
    | next => obtain ⟨σ', H', J', q⟩ := fin; exact wpAny_execs_nil ⟨σ', H', J'.ofTry ok, q⟩
    | brk => obtain ⟨σ', H', J', q⟩ := fin; exact ⟨σ', H', J'.ofTry ok, q⟩
    | cont => obtain ⟨σ', H', J', q⟩ := fin; exact ⟨σ', H', J'.ofTry ok, q⟩
    | ret u => obtain ⟨v, σ', H', J', r, q⟩ := fin; exact ⟨v, σ', H', J'.ofTry ok, r, q⟩
end
end Sm
namespace Sm
open PySem PySem.Spec L2
section
variable {X : Cx} {W : WX} {cl : Glb} {pos p apos cpos : Pos} {a b c e o : Expr} {es : List Expr} {fa fb : DE} {g : DA} {own : List Nat}
theorem toPys_get : ∀ (ds : List D) (i : Nat), (toPys ds)[i]? = (ds[i]?).map toPy
  | [], i => by simp [toPys]
  | d :: ds, 0 => by simp [toPys]
  | d :: ds, i + 1 => by simpa [toPys] using toPys_get ds i
theorem toPys_count (k : D) : ∀ ds : List D, ((toPys ds).countP fun z => PyData.eqv z (toPy k)) = ds.countP fun z => deq z k
  | [] => by simp [toPys]
  | d :: ds => by simp only [toPys, List.countP_cons]; rw [deq_py, toPys_count k ds]
def rCntD (K : PySem.W.Frag) : V → List V → Hp → VK → Prop := fun x xs H Q => ∃ (a : Addr) (y : V) (d : PyData) (ds : List PyData), x = V.ref a ∧ xs = [y] ∧ Dp K H (V.ref a) (.list ds) ∧ Dp K H y d ∧
  SeqAt.shaped (.list ds) = true ∧ SeqAt.shaped d = true ∧ Q (.int (ds.countP fun z => PyData.eqv z d : Nat)) H
theorem mt_cntD (hu : X.A.units + 65 < cLine) : MtR X "list.count" (rCntD X.K) := by
  intro pins s σ H x xs v us Q I rx rxs h
  obtain ⟨a, y, d, ds, rfl, rfl, hl, hy, sl, sd, q⟩ := h
  cases rx
  cases rxs with
  | cons ry rt =>
    rename_i uy ut
    cases rt
    obtain ⟨bs, rb⟩ := Dp.reads I d y uy hy ry
    have lay : PyData.canLayAll0 ds = true := SeqAt.canLay_of_shaped sl
    have room : X.A.units + 1 + min (PyData.depthAll ds) d.depth < cLine := PyProof.Rows.room_in_shaped sd hu
    cases hl with
    | lst hs ha =>
      obtain ⟨its, rv, ⟨⟨cls, dd, data, sls⟩, n, ho, hc, hdn, hdt⟩, hlen⟩ := I.list hs
      simp only at hc hdt
      subst hc hdt
      obtain ⟨as, all⟩ := Dp.readsAll I ds _ its ha rv
      have same : its.map (SeqAt.readOf s.heap) = ds := SeqAt.readsAll_map ds its as lay all
      refine call_meets PySem.F.slot_list_count ⟨_, ho, rfl⟩ PySem.F.entry_list_count (PySem.F.args_list_count_2 _ _)
        (SeqAt.list_countAt a its.toArray n dd sls uy (fun u => PyData.eqv (SeqAt.readOf s.heap u) d)) ⟨ho, SeqAt.items_eqAt (vs := its.toArray) (show ReadsAll s.heap its.toArray.toList ds as from all) rb lay (SeqAt.canLay_of_shaped sd) room, ?_⟩
      have cnt : its.toArray.toList.countP (fun u => PyData.eqv (SeqAt.readOf s.heap u) d) = ds.countP fun z => PyData.eqv z d := by
        rw [← same, List.countP_map]; rfl
      rw [cnt]
      exact ⟨.int (ds.countP fun z => PyData.eqv z d : Nat), H, I.tok _, ⟨_, rfl⟩, q⟩
def dMeth (o : List D → D → Option D) (f g : DE) : DE := fun ρ => (f ρ).bind fun a => match a with | .lst ds => (g ρ).bind fun b => ofO (o ds b) | _ => .bad
def oCount (ds : List D) (b : D) : Option D := if pln 64 b && pln 64 (.lst ds) then some (.int (ds.countP fun z => deq z b : Nat)) else none
def oIndex (ds : List D) (b : D) : Option D := if pln 64 b && pln 64 (.lst ds) then (ds.findIdx? fun z => deq z b).map fun j => .int (j : Nat) else none
theorem meth_run {K : PySem.W.Frag} {om : List D → D → Option D} {r : V → List V → Hp → VK → Prop} {ta tb : TE} (hK : K = X.K) (ha : RunE X W cl fa ta) (hb : RunE X W cl fb tb)
    (hr : ∀ (Hv H : Hp) (l : Addr) (vs : List V) (ds : List D) (u : V) (b d : D) (Q : VK), Vw cl Hv H → Hv l = some (.lst vs) → Rep X.K cl Hv (.ref l) (.lst ds) → Rep X.K cl Hv u b → om ds b = some d → (∀ v, Rep X.K cl Hv v d → Q v H) → r (.ref l) [u] H Q) : RunE X W cl (dMeth om fa fb) (tBM K "list" r ta (tCons tb tNil)) := by
  subst hK
  intro Hv H σ ρ Q vw er pv
  refine ha Hv H σ ρ _ vw er (bindP pv fun x Hv1 H1 _ e1 pv1 v rv => ?_)
  cases x with
  | lst ds =>
    cases rv with
    | lst s z r =>
      refine ⟨.inl ⟨rfl, _, .inl (.inl (e1.vh.s _ _ s rfl))⟩, ?_⟩
      refine hb Hv1 H1 σ ρ _ e1.vh (er.mono e1.vv) (bindP pv1 fun y Hv2 H2 _ e2 pv2 u ru => ?_)
      obtain ⟨d, ed, q⟩ := ofO_ok pv2
      exact hr Hv2 H2 _ _ ds u y d Q e2.vh (e2.vv _ _ s rfl) (.lst (e2.vv _ _ s rfl) z (r.mono e2.vv)) ru ed fun v' r' => q _ _ (Ext.refl e2.vh) v' r'
  | _ => exact pv1.elim
theorem se_count (hu : X.A.units + 65 < cLine) (ha : SE X W cl o fa) (hb : SE X W cl e fb) (hbase : attributeBase o "count" X.env (eval o X.env) = eval o X.env := by rfl)
    (hfew : ((backTo cpos (starEach [e] X.env)).all (fun x => !x.1) && (backToKw cpos (keywordEach [] X.env)).all (fun x => x.1.isSome) && decide ([e].length + ([] : List Keyword).length + (if ([] : List Keyword).isEmpty then 0 else 1) < 30)) = true := by rfl)
    (hline : (apos.endLine == cpos.line) = true := by rfl) (hs : starEach [e] X.env = [(false, eval e X.env)] := by rfl) : SE X W cl (.Call (.Attribute o "count" apos) [e] [] cpos) (dMeth oCount fa fb) := by
  obtain ⟨ta, pa, ha⟩ := ha
  obtain ⟨tb, pb, hb⟩ := hb
  refine ⟨_, pe_bm PySem.F.plainAttrs_list PySem.F.slot_list_count PySem.F.type_list_count (mt_cntD hu) pa (pa_cons pb pa_nil hs) hbase hfew hline hs rfl, meth_run rfl ha hb fun Hv H l vs ds u b d Q vw hl rl ru ed q => ?_⟩
  unfold oCount at ed
  split at ed
  · rename_i hp
    cases ed
    simp only [Bool.and_eq_true] at hp
    have d2 := (rl.mono vw.s).dp hp.2
    rw [toPy] at d2
    have sh := pln_shaped hp.2
    rw [toPy] at sh
    refine ⟨_, _, _, _, rfl, rfl, d2, (ru.mono vw.s).dp hp.1, sh, pln_shaped hp.1, ?_⟩
    rw [toPys_count]
    exact q _ (.int _)
  · cases ed
theorem se_index (hu : X.A.units + 65 < cLine) (ha : SE X W cl o fa) (hb : SE X W cl e fb) (hbase : attributeBase o "index" X.env (eval o X.env) = eval o X.env := by rfl)
    (hfew : ((backTo cpos (starEach [e] X.env)).all (fun x => !x.1) && (backToKw cpos (keywordEach [] X.env)).all (fun x => x.1.isSome) && decide ([e].length + ([] : List Keyword).length + (if ([] : List Keyword).isEmpty then 0 else 1) < 30)) = true := by rfl)
    (hline : (apos.endLine == cpos.line) = true := by rfl) (hs : starEach [e] X.env = [(false, eval e X.env)] := by rfl) : SE X W cl (.Call (.Attribute o "index" apos) [e] [] cpos) (dMeth oIndex fa fb) := by
  obtain ⟨ta, pa, ha⟩ := ha
  obtain ⟨tb, pb, hb⟩ := hb
  refine ⟨_, pe_bm PySem.F.plainAttrs_list PySem.F.slot_list_index PySem.F.type_list_index (mt_indexD hu) pa (pa_cons pb pa_nil hs) hbase hfew hline hs rfl, meth_run rfl ha hb fun Hv H l vs ds u b d Q vw hl rl ru ed q => ?_⟩
  unfold oIndex at ed
  split at ed
  · rename_i hp
    simp only [Bool.and_eq_true] at hp
    rw [Option.map_eq_some_iff] at ed
    obtain ⟨j, hj, rfl⟩ := ed
    rw [List.findIdx?_eq_some_iff_getElem] at hj
    obtain ⟨h1, h2, h3⟩ := hj
    have d2 := (rl.mono vw.s).dp hp.2
    rw [toPy] at d2
    have sh := pln_shaped hp.2
    rw [toPy] at sh
    refine ⟨_, _, _, _, j, toPy ds[j], rfl, rfl, d2, (ru.mono vw.s).dp hp.1, sh, pln_shaped hp.1, ?_, ?_, fun m z hm hz => ?_, q _ (.int _)⟩
    · rw [toPys_get, List.getElem?_eq_getElem h1]; rfl
    · rw [deq_py]; exact h2
    · rw [toPys_get, List.getElem?_eq_getElem (show m < ds.length by omega)] at hz
      cases hz
      rw [deq_py]
      simpa using h3 m hm
  · cases ed
end
end Sm
namespace Sm
open PySem PySem.Spec L2
theorem u65 {k : Nat} {A : Around} (r : Room k A) : A.units + 65 < cLine := by have := r.un; omega
structure XT (K : PySem.W.Frag) (c : Nat → Addr) (codes : List Nat) : Prop where
  ex : ∀ k ∈ codes, ExcC K (c k)
section
variable {X : Cx} {W : WX} {cl : Glb} {pos p p1 apos cpos : Pos} {a b c e o : Expr} {es : List Expr} {fa fb : DE} {g : DA} {own own1 : List Nat}
def rIsX (K : PySem.W.Frag) : List V → Hp → VK → Prop := fun xs H Q => ∃ (a C : Addr) (c : V) (cv : Value) (b : Bool), xs = [.ref a, c] ∧ H a = some (ExcO a C) ∧ ExcC K C ∧ (∀ u, RelV c u → u = cv) ∧ PySem.W.kitOne K (.ref C) cv = some b ∧ Q (.bl b) H
theorem call_isX : CallR X (.builtin "isinstance") (rIsX X.K) := by
  intro pins s σ H xs us Q I r h
  obtain ⟨a, C, c, cv, b, rfl, hH, ec, hcv, e, q⟩ := h
  cases r with
  | cons rx rr =>
    cases rr with
    | cons rt rr =>
      cases rr
      cases rx
      have := hcv _ rt
      subst this
      obtain ⟨⟨oe, vs, g1, g2, g3⟩, _⟩ := I.hok a _ hH
      have J : PySem.W.InstAt s.heap a oe C none := by
        obtain ⟨oc, od, oda, osl⟩ := oe
        obtain ⟨h1, h2⟩ := g2
        dsimp only at h1 h2 g3
        subst h1 h2 g3
        exact ⟨g1, rfl, rfl, trivial⟩
      exact PySem.W.kia_one (PySem.W.handS_kitx_exc ec.hg ec.hk ec.hs ec.hd ec.ha ec.hn ec.ht ec.hm) I.kIn J e (fun z => nomatch z) fun tk => ⟨.bl b, H, I.kept (t' := tk) fun _ _ z => z, rfl, q⟩
def oIsX (codes : List Nat) (t : Nat → Bool) : D → Option D
  | .exc c => if codes.contains c then some (.bl (t c)) else none
  | _ => none
theorem isX_run {codes : List Nat} {t : Nat → Bool} {u : V} {cv : Value} {ta : TE} {tc : TE} (T : XT X.K cl.c codes) (ht : ∀ k ∈ codes, PySem.W.kitOne X.K (.ref (cl.c k)) cv = some (t k)) (hcv : ∀ w, RelV u w → w = cv) (htc : tc = tC u)
    (ha : RunE X W cl fa ta) : RunE X W cl (dUn (oIsX codes t) fa) (tCB (rIsX X.K) (tCons ta (tCons tc tNil))) := by
  subst htc
  intro Hv H σ ρ Q vw er pv
  refine ha Hv H σ ρ _ vw er (bindP pv fun x Hv1 H1 _ e1 pv1 v rv => ?_)
  obtain ⟨d, ed, q⟩ := ofO_ok pv1
  cases x with
  | exc k =>
    simp only [oIsX] at ed
    split at ed
    · rename_i hk
      cases ed
      have hk : k ∈ codes := by simpa using hk
      cases rv with
      | exc h => exact ⟨_, _, u, cv, _, rfl, e1.vh.s _ _ h rfl, T.ex k hk, hcv, ht k hk, q _ _ (Ext.refl e1.vh) _ (.bl _)⟩
    · cases ed
  | _ => cases ed
theorem se_isiC {codes : List Nat} {t : Nat → Bool} {x : Str} {C : Addr} (T : XT X.K cl.c codes) (ht : ∀ k ∈ codes, PySem.W.kitOne X.K (.ref (cl.c k)) (.ref C) = some (t k)) (hC : X.mg x = some (.ref C)) (ha : SE X W cl a fa) (hm : X.mg "isinstance" = none) (hg : Gl X "isinstance" := by rfl) (hgx : Gl X x := by rfl)
    (hdb : (x == ("__debug__" : Str)) = false := by decide)
    (he : starEach [a, .Name x p1] X.env = (false, eval a X.env) :: starEach [.Name x p1] X.env := by rfl) (he2 : starEach [.Name x p1] X.env = [(false, eval (.Name x p1) X.env)] := by rfl) (hpl : (backTo pos (starEach [.Name x p1] X.env)).any (·.1) = false := by rfl) :
    SE X W cl (.Call (.Name "isinstance" p) [a, .Name x p1] [] pos) (dUn (oIsX codes t) fa) := by
  obtain ⟨ta, pa, ha⟩ := ha
  exact ⟨_, pe_callB call_isX hg hm (by decide +kernel) (pa_cons pa (pa_cons (pe_glob (v := .ref C) hgx hC rfl hdb) pa_nil he2) he) (by decide) (by decide) he hpl, isX_run (u := .ref C) T ht (fun w h => h) rfl ha⟩
theorem se_isiB {codes : List Nat} {t : Nat → Bool} {x : Str} {S : String} (T : XT X.K cl.c codes) (ht : ∀ k ∈ codes, PySem.W.kitOne X.K (.ref (cl.c k)) (.type S) = some (t k)) (hb : bootBuiltins x = some (.type S)) (ha : SE X W cl a fa) (hm : X.mg "isinstance" = none) (hT : X.mg x = none) (hg : Gl X "isinstance" := by rfl) (hgx : Gl X x := by rfl)
    (hn : x ≠ "__name__" := by decide) (hdb : (x == ("__debug__" : Str)) = false := by decide)
    (he : starEach [a, .Name x p1] X.env = (false, eval a X.env) :: starEach [.Name x p1] X.env := by rfl) (he2 : starEach [.Name x p1] X.env = [(false, eval (.Name x p1) X.env)] := by rfl) (hpl : (backTo pos (starEach [.Name x p1] X.env)).any (·.1) = false := by rfl) :
    SE X W cl (.Call (.Name "isinstance" p) [a, .Name x p1] [] pos) (dUn (oIsX codes t) fa) := by
  obtain ⟨ta, pa, ha⟩ := ha
  exact ⟨_, pe_callB call_isX hg hm (by decide +kernel) (pa_cons pa (pa_cons (pe_bltn (v := .ty S) hgx hT hb rfl hn hdb) pa_nil he2) he) (by decide) (by decide) he hpl, isX_run (u := .ty S) T ht (fun w h => h) rfl ha⟩
def tS (K : PySem.W.Frag) (N : List Str) (W : WX) (cl : Glb) (own own' : List Nat) (f : DS) : TS := fun Dn σ H => ∃ Hv0 H0 ρ Hv, SR K cl Hv0 H0 own ρ σ Hv H ∧ σ.length = N.length ∧
  (match f ρ with
  | .nx ρ' => ∀ σ' Hv' H', SR K cl Hv0 H0 own' ρ' σ' Hv' H' → Sam Hv Hv' → σ'.length = N.length → Dn.nx σ' H'
  | .ret d => ∀ v Hv' H', Ext cl Hv0 H0 Hv' H' → Rep K cl Hv' v d → Dn.rt v H'
  | .err ρ' c => ∀ σ' Hv' H', SR K cl Hv0 H0 [] ρ' σ' Hv' H' → Sam Hv Hv' → σ'.length = N.length → W (.ref (cl.c c)) none σ' H'
  | .bad => False)
theorem SSs.pss {sts : List Stmt} {f : DS} (h : SSs X W cl own own1 sts f) : PSs X sts (tS X.K X.N W cl own own1 f) := by
  obtain ⟨t, pt, hr⟩ := h
  refine ⟨fun pins s σ H D I ⟨Hv0, H0, ρ, Hv, sr, hl, po⟩ => pt.run pins s σ H D I (hr Hv0 H0 ρ σ Hv H D sr hl ?_)⟩
  cases q : f ρ with
  | nx ρ' => rw [q] at po; exact po
  | ret d => rw [q] at po; exact po
  | err ρ' c => rw [q] at po; exact po
  | bad => rw [q] at po; exact po
theorem SR.setNone {K : PySem.W.Frag} {Hv0 H0 Hv H : Hp} {ρ : Env} {σ : St} {i : Nat} (s : SR K cl Hv0 H0 [] ρ σ Hv H) : SR K cl Hv0 H0 [] (ρ.set i none) (σ.set i none) Hv H where
  ext := s.ext
  len := by rw [List.length_set, List.length_set]; exact s.len
  sh := fun j d h1 h2 => by
    by_cases hj : j = i
    · subst hj
      by_cases hi : j < ρ.length
      · rw [List.getElem?_set_self hi] at h2; cases h2
      · rw [List.getElem?_eq_none (by rw [List.length_set]; omega)] at h2; cases h2
    · rw [List.getElem?_set_ne (Ne.symm hj)] at h2 ⊢
      exact s.sh j d h1 h2
  ow := fun j hj => absurd hj (by simp)
  ap := fun j k p hj => absurd hj (by simp)
def dTryK (codes : List Nat) (k j : Nat) (f : DS) : DS := fun ρ => match f ρ with
  | .err ρ' c => if codes.contains c then .nx ((ρ'.set k (some (.exc c))).set j none) else .bad
  | r => r
theorem ss_tryK {body : List Stmt} {f : DS} {codes : List Nat} {k j : Nat} {x n y : Str} {CS : Addr} {np pos pos' p2 p3 pos2 : Pos} (gd : Gd X W) (hs : X.stack = X.env :: X.outer) (hf : X.env.frame = some X.env.locals) (hx : X.ex = []) (hm : X.mg x = some (.ref CS))
    (hsub : ∀ c ∈ codes, PySem.W.exmOne X.K (.ref (cl.c c)) (.ref CS) = some true)
    (hb : ∀ (W' : WX) (pn : List (Addr × Obj)) (xe : Value → Shared → Prop), Gd (X.tr pn xe) W' → SSs (X.tr pn xe) W' cl own own1 body f)
    (hj : X.N[j]? = some n := by rfl) (hk : X.N[k]? = some y := by rfl) (hkj : k ≠ j := by decide) (hln : X.env.kindOf n = some .local := by rfl) (hly : X.env.scope.names.lookup y = some .local := by rfl) (hg : Gl X x := by rfl) (hdb : (x == ("__debug__" : Str)) = false := by decide)
    (hd : (n == ("__debug__" : Str)) = false := by decide) (hcd : (n == ("__classdict__" : Str)) = false := by decide)
    (hsw : ∀ (a : Addr) (pn : List (Addr × Obj)), swapsWith (.Name n p3) (some (.Name y p2)) pos2.line (cxS X a pn).env = pure false := by intro _ _; rfl) :
    SS X W cl own [] (.Try body [.ExceptHandler (some (.Name x np)) (some n) [.Assign [.Name y p2] (.Name n p3) pos2] pos'] [] [] pos) (dTryK codes k j f) := by
  refine ⟨_, ps_try_x (i := j) (ts := fun a => _) (tb := fun W' => tS X.K X.N W' cl own own1 f) hs hf hx gd.nd hj hln ⟨hg, hdb, .inl hm⟩ gd.tk (fun W' pn xe tk po => (hb W' pn xe ⟨gd.calm, gd.nd, tk, po⟩).pss)
    (fun a pn => pss_one (ps_set (X := cxS X a pn) (i := k) gd.nd hk (Or.inl hly) (pe_var (i := j) hj (Or.inl hln) hd hcd) (hsw a pn) (.inr hly))), fun Hv0 H0 ρ σ Hv H Dn sr hl po => ?_⟩
  refine ⟨Hv0, H0, ρ, Hv, sr, hl, ?_⟩
  unfold dTryK at po
  cases q : f ρ with
  | nx ρ' =>
    rw [q] at po
    intro σ' Hv' H' s1 sm l1
    obtain ⟨s2, sm2⟩ := s1.freeze (own' := []) (by simp)
    exact po σ' _ H' s2 (sm.trans sm2) l1
  | ret d => rw [q] at po; exact po
  | bad => rw [q] at po; exact po.elim
  | err ρ' c =>
    rw [q] at po
    simp only at po
    split at po
    · rename_i hc
      intro σ' Hv' H' s1 sm1 l1
      refine ⟨true, hsub c (by simpa using hc), fun _ => ⟨_, rfl, rfl, fun a na => ?_⟩, fun z => nomatch z⟩
      have jl := ilt hj l1
      have ex := Ext.new (o := ExcO a (cl.c c)) s1.ext.vh na
      have s2 := s1.step ex
      refine ⟨.ref a, List.getElem?_set_self jl, ?_⟩
      have s3 := s2.set (own' := []) (i := k) (v := .ref a) (d := .exc c) (by simp) (.exc upd_same) (by simp)
      have s4 := s3.setNone (i := j)
      have e1 : (((σ'.set j (some (V.ref a))).set k (some (V.ref a))).set j none) = (σ'.set k (some (V.ref a))).set j none := by
        rw [List.set_comm _ _ hkj.symm, List.set_set]
      show Dn.nx (((σ'.set j (some (V.ref a))).set k (some (V.ref a))).set j none) _
      rw [e1]
      exact po _ _ _ s4 (sm1.trans ex.vv) (by rw [List.length_set, List.length_set]; exact l1)
    · exact po.elim
end
end Sm
namespace Sm
open PySem PySem.Spec L2
section
variable {α : Type} (le : α → α → Bool)
end
section
variable {prog : Program} {w : World} {A : Around} {s : Shared} {h : Heap}
open PySem.W PyProof.Rows
section
variable {E : Value → Shared → Prop} {β : Type} {vs : List Value} {bs : List β} {enc : β → PyData} {R : Value → β → Prop}
end
end
section
variable {X : Cx} {W : WX} {cl : Glb}
open PySem.W PyProof.Rows
theorem CallS.or {f : Value} {o o' : List D → Option D} (h : CallS X cl f o) (h' : CallS X cl f o') : CallS X cl f (fun ds => match o ds with | some d => some d | none => o' ds) := by
  obtain ⟨r, hr, hs⟩ := h
  obtain ⟨r', hr', hs'⟩ := h'
  refine ⟨_, CallR.or hr hr', fun Hv H xs ds d Q vw rr e q => ?_⟩
  simp only at e
  cases ho : o ds with
  | some d' =>
    rw [ho] at e
    cases e
    exact .inl (hs Hv H xs ds _ Q vw rr ho q)
  | none =>
    rw [ho] at e
    exact .inr (hs' Hv H xs ds d Q vw rr e q)
end
end Sm
namespace Sm
open PySem PySem.Spec L2
section
variable {X : Cx} {W : WX} {cl : Glb} {pos p apos npos : Pos} {tg : Expr} {own : List Nat}
def dPop (i : Nat) (pt : Pat) : DS := fun ρ => match ρ[i]? with
  | some (some (.lst ds)) => match ds.getLast? with
    | some d => match bindPat pt d (ρ.set i (some (.lst ds.dropLast))) with
      | some ρ' => .nx ρ'
      | none => .bad
    | none => .bad
  | _ => .bad
end
end Sm
set_option maxHeartbeats 3200000
namespace Sm
open PySem PySem.Spec L2 PyProof.Rows
section
variable {P : Program} {w : World} {A : Around} {E : Value → Shared → Prop} {s : Shared}
end
end Sm
namespace Sm
open PySem PySem.Spec L2
def dd : List (List Int) → List (List Int)
  | [] => []
  | x :: l => if x ∈ dd l then dd l else x :: dd l
section
variable {P : Program} {w : World} {A : Around} {E : Value → Shared → Prop} {s : Shared}
open PySem.W PyProof.Rows
end
end Sm
namespace Sm
open PySem PySem.Spec L2
section
variable {X : Cx} {W : WX} {cl : Glb}
end
end Sm
namespace Sm
open PySem PySem.Spec L2
def putE (t : D → Bool) (k v : D) (es : List (D × D)) : List (D × D) :=
  if es.any fun e => t e.1 then es.map fun e => if t e.1 then (e.1, v) else e else es ++ [(k, v)]
section
variable {K : PySem.W.Frag} {cl : Glb} {H : Hp}
theorem inl_inj {k a : List Int} (h : k.map (Sum.inl (β := Str)) = a.map Sum.inl) : k = a := by
  induction k generalizing a with
  | nil => cases a with
    | nil => rfl
    | cons _ _ => cases h
  | cons x k ih =>
    cases a with
    | nil => cases h
    | cons y a =>
      rw [List.map_cons, List.map_cons] at h
      injection h with h1 h2
      injection h1 with h1
      rw [h1, ih h2]
theorem isKT_iff {k a : List Int} : isKT a (.tup (k.map .int)) = decide (k = a) := by
  simp only [isKT, intsD_map]
  by_cases h : k = a
  · subst h; simp
  · simp [h]
theorem RepsK.val {i : Int} : ∀ {kvs : List (L2.Key × V)} {es : List (D × D)}, RepsK K cl H kvs es → (match findE (isKI i) es with
    | some d => ∃ v, valV kvs (Sum.inl i) = some v ∧ Rep K cl H v d
    | none => valV kvs (Sum.inl i) = none)
  | _, _, .nil => rfl
  | _, _, .cons (i := j) (v := v) (d := d) (r := r) (es := es) hv t => by
    have ih := RepsK.val (i := i) t
    by_cases h : j = i
    · subst h
      have e1 : findE (isKI j) ((D.int j, d) :: es) = some d := by simp [findE, isKI]
      rw [e1]
      exact ⟨v, valV_pos rfl, hv⟩
    · have e1 : findE (isKI i) ((D.int j, d) :: es) = findE (isKI i) es := by simp [findE, isKI, h]
      rw [e1, valV_neg (p := (Sum.inl j, v)) (k := Sum.inl i) (fun e => h (Sum.inl.inj e))]
      exact ih
theorem RepsT.val {i : List Int} : ∀ {kvs : List (List L2.Key × V)} {es : List (D × D)}, RepsT K cl H kvs es → (match findE (isKT i) es with
    | some d => ∃ v, valV kvs (i.map Sum.inl) = some v ∧ Rep K cl H v d
    | none => valV kvs (i.map Sum.inl) = none)
  | _, _, .nil => rfl
  | _, _, .cons (k := j) (v := v) (d := d) (r := r) (es := es) hv t => by
    have ih := RepsT.val (i := i) t
    by_cases h : j = i
    · subst h
      have e1 : findE (isKT j) ((D.tup (j.map .int), d) :: es) = some d := by simp [findE, isKT_iff]
      rw [e1]
      exact ⟨v, valV_pos rfl, hv⟩
    · have e1 : findE (isKT i) ((D.tup (j.map .int), d) :: es) = findE (isKT i) es := by simp [findE, isKT_iff, h]
      rw [e1, valV_neg (p := (j.map Sum.inl, v)) (k := i.map Sum.inl) (fun e => h (inl_inj e))]
      exact ih
theorem RepsK.anyE {i : Int} : ∀ {kvs : List (L2.Key × V)} {es : List (D × D)}, RepsK K cl H kvs es → (kvs.any fun kv => decide (kv.1 = Sum.inl i)) = es.any fun e => isKI i e.1
  | _, _, .nil => rfl
  | _, _, .cons (i := j) hv t => by
    rw [List.any_cons, List.any_cons, RepsK.anyE t]
    congr 1
    show decide ((Sum.inl j : L2.Key) = Sum.inl i) = (j == i)
    by_cases h : j = i
    · subst h; simp
    · rw [decide_eq_false (fun q => h (Sum.inl.inj q))]; simp [h]
theorem RepsT.anyE {i : List Int} : ∀ {kvs : List (List L2.Key × V)} {es : List (D × D)}, RepsT K cl H kvs es → (kvs.any fun kv => decide (kv.1 = i.map Sum.inl)) = es.any fun e => isKT i e.1
  | _, _, .nil => rfl
  | _, _, .cons (k := j) hv t => by
    rw [List.any_cons, List.any_cons, RepsT.anyE t]
    congr 1
    rw [isKT_iff, Bool.eq_iff_iff, decide_eq_true_eq, decide_eq_true_eq]
    exact ⟨inl_inj, fun e => by rw [e]⟩
theorem RepsK.snoc {i : Int} {v : V} {d : D} (hv : Rep K cl H v d) : ∀ {kvs : List (L2.Key × V)} {es : List (D × D)}, RepsK K cl H kvs es → RepsK K cl H (kvs ++ [(Sum.inl i, v)]) (es ++ [(.int i, d)])
  | _, _, .nil => .cons hv .nil
  | _, _, .cons h t => .cons h (RepsK.snoc hv t)
theorem RepsT.snoc {i : List Int} {v : V} {d : D} (hv : Rep K cl H v d) : ∀ {kvs : List (List L2.Key × V)} {es : List (D × D)}, RepsT K cl H kvs es → RepsT K cl H (kvs ++ [(i.map Sum.inl, v)]) (es ++ [(.tup (i.map .int), d)])
  | _, _, .nil => .cons hv .nil
  | _, _, .cons h t => .cons h (RepsT.snoc hv t)
theorem RepsK.repl {i : Int} {v : V} {d : D} (hv : Rep K cl H v d) : ∀ {kvs : List (L2.Key × V)} {es : List (D × D)}, RepsK K cl H kvs es → RepsK K cl H (kvs.map fun kv => if kv.1 = Sum.inl i then (kv.1, v) else kv) (es.map fun e => if isKI i e.1 then (e.1, d) else e)
  | _, _, .nil => .nil
  | _, _, .cons (i := j) h t => by
    have ih := RepsK.repl (i := i) hv t
    rw [List.map_cons, List.map_cons]
    by_cases e : j = i
    · subst e
      rw [if_pos rfl, if_pos (by simp [isKI])]
      exact .cons hv ih
    · rw [if_neg (fun q => e (Sum.inl.inj q)), if_neg (by simp [isKI, e])]
      exact .cons h ih
theorem RepsT.repl {i : List Int} {v : V} {d : D} (hv : Rep K cl H v d) : ∀ {kvs : List (List L2.Key × V)} {es : List (D × D)}, RepsT K cl H kvs es → RepsT K cl H (kvs.map fun kv => if kv.1 = i.map Sum.inl then (kv.1, v) else kv) (es.map fun e => if isKT i e.1 then (e.1, d) else e)
  | _, _, .nil => .nil
  | _, _, .cons (k := j) h t => by
    have ih := RepsT.repl (i := i) hv t
    rw [List.map_cons, List.map_cons]
    by_cases e : j = i
    · subst e
      rw [if_pos rfl, if_pos (by simp [isKT_iff])]
      exact .cons hv ih
    · rw [if_neg (fun q => e (inl_inj q)), if_neg (by simp [isKT_iff, e])]
      exact .cons h ih
theorem RepsK.put {i : Int} {v : V} {d : D} {kvs : List (L2.Key × V)} {es : List (D × D)} (r : RepsK K cl H kvs es) (hv : Rep K cl H v d) : RepsK K cl H (putK kvs (Sum.inl i) v) (putE (isKI i) (.int i) d es) := by
  unfold putK putE
  rw [r.anyE]
  split
  · exact r.repl hv
  · exact r.snoc hv
theorem RepsT.put {i : List Int} {v : V} {d : D} {kvs : List (List L2.Key × V)} {es : List (D × D)} (r : RepsT K cl H kvs es) (hv : Rep K cl H v d) : RepsT K cl H (putK kvs (i.map Sum.inl) v) (putE (isKT i) (.tup (i.map .int)) d es) := by
  unfold putK putE
  rw [r.anyE]
  split
  · exact r.repl hv
  · exact r.snoc hv
theorem rep_dctI {v : V} {es : List (D × D)} (r : Rep K cl H v (.dct es)) (h : (es.all fun e => kInt e.1) = true) : ∃ a kvs, v = .ref a ∧ H a = some (.dK kvs) ∧ RepsK K cl H kvs es := by
  cases r with
  | dctK h1 h2 => exact ⟨_, _, rfl, h1, h2⟩
  | dctT h1 h0 h2 =>
    cases h2 with
    | nil => exact (h0 rfl).elim
    | cons _ _ => simp [kInt] at h
theorem rep_dctT {v : V} {es : List (D × D)} (r : Rep K cl H v (.dct es)) (h0 : es ≠ []) (h : (es.all fun e => kTup e.1) = true) : ∃ a kvs, v = .ref a ∧ H a = some (.dT kvs) ∧ RepsT K cl H kvs es := by
  cases r with
  | dctT h1 h0 h2 => exact ⟨_, _, rfl, h1, h2⟩
  | dctK h1 h2 =>
    cases h2 with
    | nil => exact (h0 rfl).elim
    | cons _ _ => simp [kTup] at h
theorem rep_dclI {v : V} {es : List (D × D)} (r : Rep K cl H v (.dcl es)) (h : (es.all fun e => kInt e.1) = true) : ∃ a o kvs, v = .ref a ∧ H a = some (.frz o (.dK kvs)) ∧ RepsK K cl H kvs es := by
  cases r with
  | dclK h1 h2 => exact ⟨_, _, _, rfl, h1, h2⟩
  | dclT h1 h0 h2 =>
    cases h2 with
    | nil => exact (h0 rfl).elim
    | cons _ _ => simp [kInt] at h
theorem rep_dclT {v : V} {es : List (D × D)} (r : Rep K cl H v (.dcl es)) (h0 : es ≠ []) (h : (es.all fun e => kTup e.1) = true) : ∃ a o kvs, v = .ref a ∧ H a = some (.frz o (.dT kvs)) ∧ RepsT K cl H kvs es := by
  cases r with
  | dclT h1 h0 h2 => exact ⟨_, _, _, rfl, h1, h2⟩
  | dclK h1 h2 =>
    cases h2 with
    | nil => exact (h0 rfl).elim
    | cons _ _ => simp [kTup] at h
theorem reps_ints_eq : ∀ {k : List Int} {xs : List V}, Reps K cl H xs (k.map .int) → xs = k.map V.int
  | [], _, .nil => rfl
  | i :: k, _, .cons r t => by
    cases r; rw [reps_ints_eq t]; rfl
theorem kV_ints (k : List Int) : (k.map Sum.inl).map kV = k.map V.int := by rw [List.map_map]; rfl
theorem rep_key {v : V} {k : List Int} (r : Rep K cl H v (.tup (k.map .int))) : ∃ b, v = .ref b ∧ H b = some (.tup ((k.map Sum.inl).map kV)) := by
  cases r with
  | tup s z rs => rw [reps_ints_eq rs] at s; exact ⟨_, rfl, by rw [kV_ints]; exact s⟩
def DGo (K : PySem.W.Frag) (cl : Glb) (Hv H : Hp) (a : Addr) (y : V) : Option D → Prop
  | some d => ∃ v, DGet H a y (some v) ∧ Rep K cl Hv v d
  | none => DGet H a y none
theorem dget_of {Hv : Hp} {x y : V} {es : List (D × D)} {k : D} {o : Option D} (vw : Vw cl Hv H) (rx : Rep K cl Hv x (.dct es)) (ry : Rep K cl Hv y k) (h : oGetK es k = some o) : ∃ a, x = .ref a ∧ DGo K cl Hv H a y o := by
  cases k with
  | int i =>
    simp only [oGetK] at h
    split at h
    · rename_i hal
      cases h
      obtain ⟨a, kvs, rfl, h1, h2⟩ := rep_dctI rx hal
      refine ⟨a, rfl, ?_⟩
      cases ry
      have hv := h2.val (i := i)
      have g := DGet.k (k := Sum.inl i) (vw.s _ _ h1 rfl)
      cases e : findE (isKI i) es with
      | none => rw [e] at hv; rw [show valV kvs (Sum.inl i) = none from hv] at g; exact g
      | some d =>
        rw [e] at hv
        obtain ⟨v, hv1, hv2⟩ := hv
        rw [hv1] at g
        exact ⟨v, g, hv2⟩
    · cases h
  | tup xs =>
    simp only [oGetK] at h
    split at h
    · rename_i k hk
      split at h
      · rename_i hal
        cases h
        have ek := intsD_eq hk
        subst ek
        obtain ⟨a, kvs, rfl, h1, h2⟩ := rep_dctT rx hal.1 hal.2
        obtain ⟨b, rfl, hb⟩ := rep_key ry
        refine ⟨a, rfl, ?_⟩
        have hv := h2.val (i := k)
        have g := DGet.t (vw.s _ _ h1 rfl) (vw.s _ _ hb rfl)
        cases e : findE (isKT k) es with
        | none => rw [e] at hv; rw [show valV kvs (k.map Sum.inl) = none from hv] at g; exact g
        | some d =>
          rw [e] at hv
          obtain ⟨v, hv1, hv2⟩ := hv
          rw [hv1] at g
          exact ⟨v, g, hv2⟩
      · cases h
    · cases h
  | _ => cases h
theorem dgel_of {Hv : Hp} {x y : V} {es : List (D × D)} {k : D} {o : Option D} (vw : Vw cl Hv H) (rx : Rep K cl Hv x (.dcl es)) (ry : Rep K cl Hv y k) (h : oGetK es k = some o) : ∃ a, x = .ref a ∧ DGo K cl Hv H a y o := by
  cases k with
  | int i =>
    simp only [oGetK] at h
    split at h
    · rename_i hal
      cases h
      obtain ⟨a, oo, kvs, rfl, h1, h2⟩ := rep_dclI rx hal
      refine ⟨a, rfl, ?_⟩
      cases ry
      have hv := h2.val (i := i)
      have g : DGet H a (kV (Sum.inl i)) (valV kvs (Sum.inl i)) := .inl ⟨kvs, Sum.inl i, .inr ⟨oo, vw.s _ _ h1 rfl⟩, rfl, rfl⟩
      cases e : findE (isKI i) es with
      | none => rw [e] at hv; rw [show valV kvs (Sum.inl i) = none from hv] at g; exact g
      | some d =>
        rw [e] at hv
        obtain ⟨v, hv1, hv2⟩ := hv
        rw [hv1] at g
        exact ⟨v, g, hv2⟩
    · cases h
  | tup xs =>
    simp only [oGetK] at h
    split at h
    · rename_i k hk
      split at h
      · rename_i hal
        cases h
        have ek := intsD_eq hk
        subst ek
        obtain ⟨a, oo, kvs, rfl, h1, h2⟩ := rep_dclT rx hal.1 hal.2
        obtain ⟨b, rfl, hb⟩ := rep_key ry
        refine ⟨a, rfl, ?_⟩
        have hv := h2.val (i := k)
        have g : DGet H a (.ref b) (valV kvs (k.map Sum.inl)) := .inr ⟨kvs, k.map Sum.inl, b, .inr ⟨oo, vw.s _ _ h1 rfl⟩, rfl, vw.s _ _ hb rfl, rfl⟩
        cases e : findE (isKT k) es with
        | none => rw [e] at hv; rw [show valV kvs (k.map Sum.inl) = none from hv] at g; exact g
        | some d =>
          rw [e] at hv
          obtain ⟨v, hv1, hv2⟩ := hv
          rw [hv1] at g
          exact ⟨v, g, hv2⟩
      · cases h
    · cases h
  | _ => cases h
end
section
variable {X : Cx} {W : WX} {cl : Glb} {a b : Expr} {fa fb : DE} {pos : Pos}
theorem PE.or {e : Expr} {t1 t2 : TE} (h1 : PE X e t1) (h2 : PE X e t2) : PE X e (fun σ H Q => t1 σ H Q ∨ t2 σ H Q) :=
  ⟨fun pins s σ H Q I h => h.elim (fun h => h1.run pins s σ H Q I h) fun h => h2.run pins s σ H Q I h⟩
theorem oIx_not {a b : D} (h : ∀ es, a ≠ .dct es) (h' : ∀ es, a ≠ .dcl es) : oIx a b = oIxS a b := by
  cases a <;> first | exact (h _ rfl).elim | exact (h' _ rfl).elim | (cases b <;> rfl)
theorem se_ixD (hu : X.A.units + 65 < cLine) (ha : SE X W cl a fa) (hb : SE X W cl b fb) (hs : PlainIx b := by intro _ _; rfl) : SE X W cl (.Subscript a b pos) (dBin oIx fa fb) := by
  obtain ⟨t1, p1, r1⟩ := se_ix (pos := pos) ha hb hs
  obtain ⟨ta, pa, ha⟩ := ha
  obtain ⟨tb, pb, hb⟩ := hb
  refine ⟨_, PE.or p1 (pe_dget (by omega) pa pb hs), fun Hv H σ ρ Q vw er pv => ?_⟩
  by_cases hd : ∃ es, fa ρ = .ok (.dct es)
  · obtain ⟨es, hd⟩ := hd
    right
    refine ha Hv H σ ρ _ vw er (bindP pv fun x Hv1 H1 ex e1 pv1 v rv => ?_)
    rw [hd] at ex
    cases ex
    refine hb Hv1 H1 σ ρ _ e1.vh (er.mono e1.vv) (bindP pv1 fun y Hv2 H2 _ e2 pv2 u ru => ?_)
    obtain ⟨d, ed, q⟩ := ofO_ok pv2
    simp only [oIx, Option.bind_eq_some_iff, id_eq] at ed
    obtain ⟨o, h1, rfl⟩ := ed
    obtain ⟨ad, rfl, v', g, rv'⟩ := dget_of e2.vh (rv.mono e2.vv) ru h1
    exact ⟨ad, v', rfl, g, q _ _ (Ext.refl e2.vh) v' rv'⟩
  by_cases hd' : ∃ es, fa ρ = .ok (.dcl es)
  · obtain ⟨es, hd⟩ := hd'
    right
    refine ha Hv H σ ρ _ vw er (bindP pv fun x Hv1 H1 ex e1 pv1 v rv => ?_)
    rw [hd] at ex
    cases ex
    refine hb Hv1 H1 σ ρ _ e1.vh (er.mono e1.vv) (bindP pv1 fun y Hv2 H2 _ e2 pv2 u ru => ?_)
    obtain ⟨d, ed, q⟩ := ofO_ok pv2
    simp only [oIx, Option.bind_eq_some_iff, id_eq] at ed
    obtain ⟨o, h1, rfl⟩ := ed
    obtain ⟨ad, rfl, v', g, rv'⟩ := dgel_of e2.vh (rv.mono e2.vv) ru h1
    exact ⟨ad, v', rfl, g, q _ _ (Ext.refl e2.vh) v' rv'⟩
  · left
    refine r1 Hv H σ ρ Q vw er ?_
    have e : dBin oIx fa fb ρ = dBin oIxS fa fb ρ := by
      unfold dBin
      cases h : fa ρ with
      | err c => rfl
      | bad => rfl
      | ok x =>
        show ((fb ρ).bind fun b => ofO (oIx x b)) = (fb ρ).bind fun b => ofO (oIxS x b)
        congr 1
        funext y
        rw [oIx_not (fun es e => hd ⟨es, by rw [h, e]⟩) fun es e => hd' ⟨es, by rw [h, e]⟩]
    rw [← e]
    exact pv
end
end Sm
namespace Sm
open PySem PySem.Spec L2
section
variable {X : Cx} {W : WX} {cl : Glb}
abbrev PT (K : PySem.W.Frag) (H : Hp) : List Addr → List (List Key × Addr × V) → Prop := Paired fun p kv => SqT K H p [.ref kv.2.1, kv.2.2] ∧ H kv.2.1 = some (.tup (kv.1.map kV))
end
end Sm
namespace Sm
open PySem PySem.Spec L2
section
variable {X : Cx} {W : WX} {cl : Glb} {Hv0 H0 Hv Hv1 H : Hp} {own own1 : List Nat} {Dn : Ends} {pos p apos npos spos cpos : Pos} {a b c e f o : Expr} {es : List Expr} {fa fb fc : DE} {g : DA}
theorem RepsK.length {K : PySem.W.Frag} {H : Hp} : ∀ {kvs : List (L2.Key × V)} {es : List (D × D)}, RepsK K cl H kvs es → kvs.length = es.length
  | _, _, .nil => rfl
  | _, _, .cons _ t => by rw [List.length_cons, List.length_cons, RepsK.length t]
end
end Sm
namespace Sm
open PySem PySem.Spec L2
section
variable {X : Cx} {W : WX} {cl : Glb}
open PySem.W PyProof.Rows
end
end Sm
namespace Sm
open PySem PySem.Spec L2
section
variable {X : Cx} {W : WX} {cl : Glb} {pos p p1 p2 : Pos} {a b c e i fe : Expr} {es ns : List Expr} {fi : DE} {g : DA} {k n : Nat}
end
theorem exm_of {K : PySem.W.Frag} {C Ck : Addr} (h1 : PySem.W.subIn K (.ref C) (.type "BaseException") = some true) (h2 : (PySem.W.clsIn K C).isSome = true) (h3 : PySem.W.typeIn K (.ref C) = some (.type "type")) (h4 : PySem.W.subIn K (.ref Ck) (.ref C) = some true) :
    PySem.W.exmOne K (.ref Ck) (.ref C) = some true := by
  unfold PySem.W.exmOne PySem.W.kitCls
  rw [h1]
  simp only [h2, h3, h4, beq_self_eq_true, Bool.and_self, if_true]
end Sm
namespace Sm
open PySem PySem.Spec L2 PyProof.Rows
theorem rev_pick (xs : Array Value) : ((List.range xs.size).filterMap fun (k : Nat) => xs[((xs.size : Int) - 1 + (k : Int) * (-1)).toNat]?) = xs.toList.reverse := by
  have gen : ∀ (l : List Nat), (∀ k ∈ l, k < xs.size) → (l.filterMap fun (k : Nat) => xs[((xs.size : Int) - 1 + (k : Int) * (-1)).toNat]?) = l.map fun k => xs.toList.reverse.getD k .none := by
    intro l
    induction l with
    | nil => intro _; rfl
    | cons k l ih =>
      intro hl
      have hk := hl k (by simp)
      have e : ((xs.size : Int) - 1 + (k : Int) * (-1)).toNat = xs.size - 1 - k := by omega
      have hk2 : k < xs.toList.reverse.length := by simpa using hk
      have e2 : xs[((xs.size : Int) - 1 + (k : Int) * (-1)).toNat]? = some (xs.toList.reverse.getD k .none) := by
        rw [e, List.getD_eq_getElem?_getD, List.getElem?_eq_getElem hk2, Option.getD_some, List.getElem_reverse]
        rw [Array.getElem?_eq_getElem (by omega)]
        simp
      rw [List.filterMap_cons, e2, List.map_cons, ih fun j hj => hl j (by simp [hj])]
  have h := gen (List.range xs.size) fun k hk => List.mem_range.mp hk
  rw [h]
  apply List.ext_getElem?
  intro i
  rw [List.getElem?_map]
  by_cases hi : i < xs.size
  · rw [List.getElem?_range hi]
    have : i < xs.toList.reverse.length := by simpa using hi
    rw [List.getElem?_eq_getElem this]
    simp [List.getD_eq_getElem?_getD, List.getElem?_eq_getElem this]
  · rw [List.getElem?_eq_none (by simpa using hi), List.getElem?_eq_none (by simpa using hi)]
    rfl
section
variable {prog : Program} {w : World} {A : Around} {E : Value → Shared → Prop} {s : Shared}
theorem getItem_tuple_rev {t sl : Addr} {items : Array Value} {vl vu vs : Value} {Q : Value → Shared → Prop} (ht : IsTup s.heap t items) (hs : s.heap.IsSliceOf sl vl vu vs) (pl : IsPart vl none) (pu : IsPart vu none) (ps : IsPart vs (some (-1)))
    (h : Q (.ref s.heap.objs.size) { s with heap := s.heap.push { cls := .type "tuple", data := .seq items.toList.reverse.toArray } }) (hsz : items.size ≤ sizeLine) : wpAny (model prog w) A (getItem (.ref t) (.ref sl)) Q E s := by
  have htake : sizeOk (.seq items.toList.reverse.toArray) := by
    show items.toList.reverse.toArray.size ≤ sizeLine
    simpa using hsz
  obtain ⟨os, hos, hcs, hds⟩ := id hs
  have hTs : s.TypeIs (.ref sl) "slice" := ⟨os, hos, hcs⟩
  unfold getItem
  try with_reducible refine wpAny_holding ?_
  first | refine wpAny_bind (wpAny_pure ?_) | skip
  refine wpAny_bind (wpAny_sequenceKey ht.typeIs (by decide) ?_)
  refine wpAny_bind (wpAny_callSpecial?_slot (name := Str.ofString "__getitem__") ht.typeIs PyProof.Rows.slot_tuple_getitem
    (wpAny_call_entry PyProof.Rows.slot_tuple_getitem ht.typeIs entry_tuple_getitem ?_ (args_tuple_getitem _ _)))
  show wpAny _ _ (Builtin.Tuple.tupleItemsOf (.ref t) >>= _) _ _ s
  refine wpAny_bind (tupleItemsOf_ ht ?_)
  refine wpAny_bind (wpAny_typeOf hTs ?_)
  rw [if_pos (by decide)]
  have ap : ∀ {R : Int × Int × Nat → Shared → Prop}, R ((items.size : Int) - 1, -1, items.size) s → wpAny (model prog w) A.in1 (Builtin.Slice.sliceApplied (.ref sl) (pure (items.size : Int))) R E s := fun {R} hr => by
    unfold Builtin.Slice.sliceApplied Builtin.Slice.sliceFields
    refine wpAny_bind (wpAny_bind (wpAny_field hos hds (x := vl) rfl (wpAny_bind (wpAny_field hos hds (x := vu) rfl (wpAny_bind (wpAny_field hos hds (x := vs) rfl (wpAny_pure ?_)))))))
    refine wpAny_bind (HT.slicePart_ ps ?_)
    show wpAny _ _ (if ((-1 : Int) == 0) = true then _ else _) _ _ s
    rw [if_neg (by decide)]
    refine wpAny_bind (HT.slicePart_ pl (wpAny_bind (HT.slicePart_ pu (wpAny_bind (wpAny_pure ?_)))))
    have e1 : Builtin.Slice.sliceAdjust none none (-1) (items.size : Int) = ((items.size : Int) - 1, -1) := rfl
    have e2 : Builtin.Slice.slicePlaces ((items.size : Int) - 1) (-1) (-1) = items.size := by
      unfold Builtin.Slice.slicePlaces
      rw [if_neg (by decide), show (-(-1) : Int) = 1 by decide, Int.ediv_one]
      split <;> omega
    show wpAny _ _ (match Builtin.Slice.sliceAdjust none none (-1) (items.size : Int) with | (lo, hi) => pure (lo, (-1 : Int), Builtin.Slice.slicePlaces lo hi (-1))) _ _ s
    rw [e1]
    show wpAny _ _ (pure ((items.size : Int) - 1, (-1 : Int), Builtin.Slice.slicePlaces ((items.size : Int) - 1) (-1) (-1))) _ _ s
    rw [e2]
    exact wpAny_pure hr
  refine wpAny_bind (ap ?_)
  show wpAny _ _ (if ((((items.size : Int) - 1) == 0 && (-1 : Int) == 1 && items.size == items.size) = true) then _ else _) _ _ s
  rw [if_neg (by simp), rev_pick]
  first
    | exact wpAny_bind (m := Builtin.Tuple.tupleExact _) (wpAny_newObj_type (wpAny_pure ⟨_, rfl, wpAny_pure h⟩) htake)
    | exact wpAny_bind (m := Builtin.Tuple.tupleExact _) (wpAny_newObj_type (wpAny_bind (wpAny_pure (wpAny_pure ⟨_, rfl, wpAny_pure h⟩))) htake)
    | exact wpAny_bind (wpAny_bind (m := Builtin.Tuple.tupleExact _) (wpAny_newObj_type (wpAny_pure (wpAny_pure ⟨_, rfl, wpAny_pure h⟩)) htake))
    | exact wpAny_bind (wpAny_bind (m := Builtin.Tuple.tupleExact _) (wpAny_newObj_type (wpAny_pure ⟨_, rfl, wpAny_pure h⟩) htake))
end
section
variable {X : Cx} {W : WX} {cl : Glb} {a : Expr} {fa : DE} {pos : Pos}
def tRevT (K : PySem.W.Frag) (te : TE) : TE := fun σ H Q => te σ H fun x H1 => ∃ a xs, x = .ref a ∧ SqT K H1 a xs ∧ ∀ p, H1 p = none → Q (.ref p) (upd H1 p (.tup xs.reverse))
theorem pe_revT {e : Expr} {te : TE} {k : Nat} {p1 p2 p3 : Pos} (he : PE X e te) : PE X (.Subscript e (.Slice none none (some (.UnaryOp .USub (.Constant (.int 1) k p1) p2)) p3) pos) (tRevT X.K te) := by
  refine ⟨fun pins s σ H Q I h => ?_⟩
  refine Subscript_ (thn (he.run pins s σ H _ I h) fun v s1 ⟨x, H1, I1, r1, q1⟩ => ?_)
  obtain ⟨a, xs, ex, hx, q⟩ := q1
  subst ex
  cases r1
  have hst : PO X (some (.UnaryOp .USub (.Constant (.int 1) k p1) p2)) (tPart (tUn (rU fun i => .int (-i)) (tC (.int 1)))) := po_some (pe_un un_neg pe_int)
  refine wpAny_Slice (thn (po_none.run pins s1 σ H1 (fun o H2 => o = none ∧ H2 = H1) I1 ⟨rfl, rfl⟩) fun vl s2 ⟨l, H2, I2, pl, el, e2⟩ => ?_)
  subst el e2
  refine thn (po_none.run pins s2 σ H2 (fun o H3 => o = none ∧ H3 = H2) I2 ⟨rfl, rfl⟩) fun vu s3 ⟨u, H3, I3, pu, eu, e3⟩ => ?_
  subst eu e3
  refine thn (hst.run pins s3 σ H3 (fun o H4 => o = some (-1) ∧ H4 = H3) I3 ⟨1, rfl, -1, rfl, rfl, rfl⟩) fun vs s4 ⟨o, H4, I4, ps, eo, e4⟩ => ?_
  subst eo e4
  have I5 : Inv X pins σ H4 { s4 with heap := s4.heap.push { cls := .type "slice", data := .fields #[vl, vu, vs] } } := I4.kept (t' := s4.toks) fun b ob q => Heap.get?_push_of_some _ q
  obtain ⟨its, r, ht, hz⟩ := I5.tuple hx
  have hlen := r.length
  show wpAny (model X.prog X.w) X.A (subscriptTail e (.Slice none none (some (.UnaryOp .USub (.Constant (.int 1) k p1) p2)) p3) (.ref a) (.ref s4.heap.objs.size)) (EP X pins σ Q) X.xe { s4 with heap := s4.heap.push { cls := .type "slice", data := .fields #[vl, vu, vs] } }
  refine tail_any (ops := [.ref a, .ref s4.heap.objs.size]) ht.typeIs (PyProof.Rows.slot_tuple_getitem.lookup) ?_ (by with_unfolding_all rfl)
  refine getItem_tuple_rev ht (Heap.IsSliceOf.new _ vl vu vs) pl pu ps ?_ (by rw [List.size_toArray]; omega)
  refine ⟨.ref _, _, I5.laid (t' := s4.toks) (o := .tup xs.reverse) (fun b ob q => Heap.get?_push_of_some _ q) (Nat.le_refl _) ?_, rfl, q _ (I5.hok.fresh (Nat.le_refl _))⟩
  exact ⟨by rw [List.length_reverse]; exact hz, _, by simpa using r.reverse, IsTup.new _ _⟩
def oRevA : D → Option D
  | .lst ds => some (.lst ds.reverse)
  | .tup ds => some (.tup ds.reverse)
  | _ => none
theorem se_revA {k : Nat} {p1 p2 p3 : Pos} (ha : SE X W cl a fa) : SE X W cl (.Subscript a (.Slice none none (some (.UnaryOp .USub (.Constant (.int 1) k p1) p2)) p3) pos) (dUn oRevA fa) := by
  obtain ⟨ta, pa, ha⟩ := ha
  refine ⟨_, PE.or (pe_revL pa) (pe_revT pa), fun Hv H σ ρ Q vw er pv => ?_⟩
  by_cases hd : ∃ ds, fa ρ = .ok (.tup ds)
  · obtain ⟨ds, hd⟩ := hd
    right
    refine ha Hv H σ ρ _ vw er (bindP pv fun x Hv1 H1 ex e1 pv1 v rv => ?_)
    rw [hd] at ex
    cases ex
    cases rv with
    | tup s z r => exact ⟨_, _, rfl, e1.vh.s.sqU s, new_tup e1.vh r.reverse (by rw [List.length_reverse]; exact z) fun v Hv' H' ex r => pv1 Hv' H' ex v r⟩
  · left
    refine ha Hv H σ ρ _ vw er (bindP pv fun x Hv1 H1 ex e1 pv1 v rv => ?_)
    obtain ⟨d, ed, q⟩ := ofO_ok pv1
    cases rv with
    | lst s z r =>
      cases ed
      exact ⟨_, _, rfl, .inl (.inl (e1.vh.s _ _ s rfl)), new_lst e1.vh r.reverse (by rw [List.length_reverse]; exact z) fun v Hv' H' ex r => q Hv' H' ex v r⟩
    | tup s z r => exact (hd ⟨_, ex⟩).elim
    | _ => cases ed
end
end Sm
namespace Sm
open PySem PySem.Spec L2
abbrev Zf := Addr → Option Obj
def Fz (o : Obj) : HO := .frz o (.own 0)
section
variable {Z : Zf} {H H' : Hp} {b : Addr} {o : Obj} {u : HO}
def Hld (Z : Zf) (H : Hp) : Prop := ∀ b o, Z b = some o → H b = some (Fz o)
theorem Hld.mono (f : Hld Z H) (s : Sam H H') : Hld Z H' := fun b o h => s b _ (f b o h) rfl
end
section
variable {Z : Zf} {H H' : Hp} {P : Program} {w : World} {outer : List PySem.Env} {s s' : Shared} {Q Q' : VK} {E E' : XK} {r : Result}
end
section
variable {Z : Zf} {cl cl' : Glb} {Hv H Hv' H' : Hp}
end
section
variable {Z : Zf} {K : PySem.W.Frag} {cl cl' : Glb} {Hv : Hp}
end
end Sm
namespace Sm
open PySem PySem.Spec L2
structure Gro (H H1 : Hp) : Prop where
  get : ∀ b o, H b = some o → isTbl o = false → H1 b = some o
  dom : ∀ b, H1 b = none → H b = none
  tt : ∀ b ps, H b = some (.tbl ps) → ∃ ps', H1 b = some (.tbl ps')
theorem Gro.ext {cl : Glb} {Hv H H1 : Hp} (g : Gro H H1) (vw : Vw cl Hv H) (t : LamX.Tabs cl.T H1) : Ext cl Hv H (lift Hv H H1) H1 := by
  refine ext_lift vw (Hv' := H1) ⟨g.get, g.get, Vw.refl t, fun b o h n => ?_, g.dom, g.tt⟩
  rw [h] at n; cases n
theorem Gro.new {H : Hp} {a : Addr} {o : HO} (n : H a = none) : Gro H (upd H a o) where
  get := fun b u e _ => (upd_ne (ne_of_none e n)).trans e
  dom := fun b e => (upd_none e).2
  tt := fun b ps e => ⟨ps, (upd_ne (ne_of_none e n)).trans e⟩
theorem Gro.tbl {H : Hp} {a : Addr} {ps ps' : Array Value} (h : H a = some (.tbl ps)) : Gro H (upd H a (.tbl ps')) where
  get := fun b u e n => by
    by_cases z : b = a
    · rw [z, h] at e; cases e; cases n
    · exact (upd_ne z).trans e
  dom := fun b e => (upd_none e).2
  tt := fun b qs e => by
    by_cases z : b = a
    · exact ⟨ps', by rw [z]; exact upd_same⟩
    · exact ⟨qs, (upd_ne z).trans e⟩
theorem Gro.trans {H H1 H2 : Hp} (a : Gro H H1) (b : Gro H1 H2) : Gro H H2 where
  get := fun c o e n => b.get c o (a.get c o e n) n
  dom := fun c e => a.dom c (b.dom c e)
  tt := fun c ps e => let ⟨_, e'⟩ := a.tt c ps e; b.tt c _ e'
section
variable {X : Cx} {pins : List (Addr × Obj)} {σ : St} {H : Hp} {s : Shared}
end
section
variable {X : Cx} {W : WX} {cl : Glb} {params : Arguments} {body e : Expr} {scope : Scope} {lpos : Pos} {es : List Expr} {fa : DE} {g : DA}
end
end Sm
namespace Sm
open PySem PySem.Spec L2
section
variable {X : Cx} {W : WX} {cl : Glb} {pos p : Pos} {e : Expr} {es : List Expr} {g : DA} {k n i : Nat} {x : Str} {F : List D → R D} {t : TA}
end
end Sm
namespace Sm
open PySem PySem.Spec L2
section
variable {X : Cx} {W : WX} {cl : Glb} {params : Arguments} {body e : Expr} {scope : Scope} {pos p : Pos} {es : List Expr} {g : DA} {k kb m : Nat} {x : Str} {gA : Addr} {fr ps : List Str} {js : List Nat} {t : TA} {fb : DE} {FF : (List D → R D) → List D → R D}
end
end Sm
namespace Sm
open PySem PySem.Spec L2
end Sm
namespace Sm
open PySem PySem.Spec L2
structure RoomN (k : Nat) (A : Around) : Prop where
  dp : A.depth + 3 * k + 5 < recursionLimit
  un : A.units + 16 * k + 200 < cLine
theorem RoomN.of {k : Nat} {A : Around} (r : Room k A) : RoomN k A := ⟨r.dp, r.un⟩
theorem RoomN.mono {j k : Nat} {A : Around} (r : RoomN k A) (h : j ≤ k) : RoomN j A := ⟨by have := r.dp; omega, by have := r.un; omega⟩
theorem RoomN.u65 {k : Nat} {A : Around} (r : RoomN k A) : A.units + 65 < cLine := by have := r.un; omega
theorem RoomN.units {k : Nat} {A : Around} (r : RoomN k A) : A.units + 64 < cLine := by have := r.un; omega
theorem RoomN.mark {k : Nat} {A : Around} {v : Option Value} (r : RoomN k A) : RoomN k (A.mark v) := ⟨r.dp, r.un⟩
theorem RoomN.deeper {k : Nat} {A : Around} (r : RoomN (k + 1) A) (env : PySem.Env) : RoomN k (A.deeper env) :=
  ⟨by have := r.dp; show A.depth + 1 + 3 * k + 5 < _; omega, by have := r.un; show A.units + 3 + 16 * k + 200 < _; omega⟩
section
variable {X : Cx} {W : WX} {cl : Glb} {pos p : Pos} {a e e1 e2 : Expr} {es : List Expr} {g : DA} {k n i : Nat} {x : Str} {F : List D → R D} {fa f1 f2 : DE} {own : List Nat}
end
end Sm
namespace Sm
open PySem PySem.Spec L2
def oPowI : D → D → Option D | .int i, .int j => if 0 ≤ j ∧ j ≤ 1000000 ∧ i.natAbs < 2 ^ 64 then some (.int (i ^ j.toNat)) else none | _, _ => none
section
variable {X : Cx} {W : WX} {cl : Glb} {pos p : Pos} {a b c e : Expr} {es : List Expr} {fa fb : DE} {g : DA} {own : List Nat}
theorem os_pow : OpS X cl (binaryOp .Pow) oPowI := opI_ofC (h := fun i j => .int (i ^ j.toNat)) op_pow (fun _ _ _ => .int _) fun a b d e => by
  cases a <;> cases b <;> simp only [oPowI] at e <;> try cases e
  split at e
  · rename_i h
    cases e
    exact ⟨_, _, rfl, rfl, h, rfl⟩
  · cases e
end
section
variable {K : PySem.W.Frag} {cl : Glb} {Hv0 H0 Hv H Hv' H' : Hp} {own : List Nat} {ρ : Env} {σ : St}
theorem SR.hid {i : Nat} {p : Addr} {o : HO} {d : D} (s : SR K cl Hv0 H0 own ρ σ Hv H) (hp : H p = some o) (hv : Hv p = none) (h0 : H0 p = none) (r : OwnO K cl Hv o d) (hi : i < σ.length) (hq : ∀ j ∈ own, σ[j]? ≠ some (some (.ref p))) :
    SR K cl Hv0 H0 (i :: nots own i) (ρ.set i (some d)) (σ.set i (some (.ref p))) Hv H := by
  have mem : ∀ j, j ∈ i :: nots own i → j ≠ i → j ∈ own := fun j h n => by
    rcases List.mem_cons.mp h with z | z
    · exact absurd z n
    · exact (nots_mem j z).1
  refine ⟨s.ext, ?_, fun j d h1 h2 => ?_, fun j hj => ?_, fun j k q h1 h2 e1 e2 => ?_⟩
  · rw [List.length_set, List.length_set]; exact s.len
  · have hj : j ≠ i := fun z => h1 (by rw [z]; exact List.mem_cons_self)
    rw [List.getElem?_set_ne (Ne.symm hj)] at h2 ⊢
    exact s.sh j d (fun z => h1 (List.mem_cons_of_mem _ ((nots_or j z).resolve_right hj))) h2
  · by_cases hji : j = i
    · subst hji
      exact ⟨p, d, List.getElem?_set_self (by rw [s.len]; exact hi), List.getElem?_set_self hi, hv, h0, o, hp, r⟩
    · rw [List.getElem?_set_ne (Ne.symm hji), List.getElem?_set_ne (Ne.symm hji)]
      exact s.ow j (mem j hj hji)
  · have key : ∀ m, m ∈ i :: nots own i → m ≠ i → (σ.set i (some (.ref p)))[m]? = some (some (.ref p)) → False := fun m hm n e => by
      rw [List.getElem?_set_ne (Ne.symm n)] at e
      exact hq m (mem m hm n) e
    have self : (σ.set i (some (.ref p)))[i]? = some (some (.ref p)) := List.getElem?_set_self hi
    by_cases hj : j = i
    · by_cases hk : k = i
      · rw [hj, hk]
      · rw [hj, self] at e1
        cases e1
        exact (key k h2 hk e2).elim
    · by_cases hk : k = i
      · rw [hk, self] at e2
        cases e2
        exact (key j h1 hj e1).elim
      · rw [List.getElem?_set_ne (Ne.symm hj)] at e1
        rw [List.getElem?_set_ne (Ne.symm hk)] at e2
        exact s.ap j k q (mem j h1 hj) (mem k h2 hk) e1 e2
def RO (K : PySem.W.Frag) (cl : Glb) (Hv H : Hp) : List Bool → Hp → List V → List D → Prop
  | [], _, [], [] => True
  | false :: bs, H0, v :: vs, d :: ds => Rep K cl Hv v d ∧ RO K cl Hv H bs H0 vs ds
  | true :: bs, H0, v :: vs, d :: ds => ∃ p o H1, v = .ref p ∧ H0 p = none ∧ H1 p = some o ∧ (∀ b, H1 b = none → H0 b = none) ∧ Hv p = none ∧ H p = some o ∧ OwnO K cl Hv o d ∧ RO K cl Hv H bs H1 vs ds
  | _, _, _, _ => False
end
section
variable {X : Cx} {W : WX} {cl : Glb} {pos p : Pos} {a b c e : Expr} {es : List Expr} {fa fb : DE} {g g1 : DA} {own : List Nat} {fl : List Bool}
def SAo (X : Cx) (W : WX) (cl : Glb) (es : List Expr) (f : DA) (fl : List Bool) : Prop := ∃ t, PA X es t ∧ ∀ (Hv H : Hp) (σ : St) (ρ : Env) (Q : List V → Hp → Prop), Vw cl Hv H → ER X.K cl Hv ρ σ →
  Pst cl W σ Hv H (fun Hv' H' ds => ∀ vs, RO X.K cl Hv' H' fl H vs ds → Q vs H') (f ρ) → t σ H Q
theorem SAo.len : ∀ {fl : List Bool} {K : PySem.W.Frag} {Hv H H0 : Hp} {vs : List V} {ds : List D}, RO K cl Hv H fl H0 vs ds → vs.length = fl.length ∧ ds.length = fl.length
  | [], _, _, _, _, [], [], _ => ⟨rfl, rfl⟩
  | false :: fl, _, _, _, _, v :: vs, d :: ds, h => by have := SAo.len h.2; simp [this.1, this.2]
  | true :: fl, _, _, _, _, v :: vs, d :: ds, ⟨_, _, _, _, _, _, _, _, _, _, h⟩ => by have := SAo.len h; simp [this.1, this.2]
  | [], _, _, _, _, _ :: _, _, h => h.elim
  | [], _, _, _, _, [], _ :: _, h => h.elim
  | true :: _, _, _, _, _, [], _, h => h.elim
  | true :: _, _, _, _, _, _ :: _, [], h => h.elim
  | false :: _, _, _, _, _, [], _, h => h.elim
  | false :: _, _, _, _, _, _ :: _, [], h => h.elim
end
end Sm
namespace Sm
open PySem PySem.Spec L2
section
variable {K : PySem.W.Frag} {cl : Glb} {H Hv : Hp} {a : Addr} {x y : HO}
end
section
variable {X : Cx} {W : WX} {cl : Glb} {pos p : Pos} {a b c e tg : Expr} {es : List Expr} {fa fb f : DE}
theorem RepsT.length {K : PySem.W.Frag} {H : Hp} : ∀ {kvs : List (List L2.Key × V)} {es : List (D × D)}, RepsT K cl H kvs es → kvs.length = es.length
  | _, _, .nil => rfl
  | _, _, .cons _ t => by rw [List.length_cons, List.length_cons, RepsT.length t]
end
end Sm
namespace Sm
open PySem PySem.Spec L2
section
variable {X : Cx} {W : WX} {cl : Glb} {pos : Pos} {e elt tg iter : Expr} {ifs : List Expr} {scope : Scope} {own : List (Str × Nat)} {pt : Pat} {it : DI} {t : DT} {f : DE} {ow ow1 : List Nat}
end
end Sm
namespace Sm
open PySem PySem.Spec L2
structure Pl where
  own : D
  now : D
  past : List D
  later : List D
abbrev PLS := List Pl
inductive RP (α : Type) where
  | ok (a : α) (ps : PLS) | err (c : Nat) (ps : PLS) | bad
def RP.bind {α β : Type} : RP α → (α → PLS → RP β) → RP β
  | .ok a ps, k => k a ps
  | .err c ps, _ => .err c ps
  | .bad, _ => .bad
def R.up {α : Type} (ps : PLS) : R α → RP α
  | .ok a => .ok a ps
  | .err c => .err c ps
  | .bad => .bad
structure Ft where
  x : Addr
  dx : Addr
  p : Addr
  l : Addr
def Ft.all (f : Ft) : List Addr := [f.x, f.dx, f.p, f.l]
def feet (F : List Ft) : List Addr := F.flatMap Ft.all
def obA (F : List Ft) : Nat → Addr → Prop := fun k a => (F[k]?).map Ft.x = some a
def Glb.at (cl : Glb) (F : List Ft) : Glb := { cl with ob := obA F }
theorem mem_feet {F : List Ft} {b : Addr} : b ∈ feet F ↔ ∃ f ∈ F, b ∈ f.all := by unfold feet; exact List.mem_flatMap
section
variable {K : PySem.W.Frag} {cl : Glb} {F F' : List Ft}
theorem Vw.to {cl' : Glb} {Hv H : Hp} (v : Vw cl Hv H) (h : cl'.T = cl.T) : Vw cl' Hv H := ⟨v.s, v.d, v.t, v.z, by rw [h]; exact v.tab, v.x⟩
theorem Vw.at {Hv H : Hp} (v : Vw cl Hv H) : Vw (cl.at F) Hv H := v.to rfl
theorem Vw.un {Hv H : Hp} (v : Vw (cl.at F) Hv H) : Vw cl Hv H := v.to rfl
mutual
theorem Rep.ob {H : Hp} (h : ∀ k a, obA F k a → obA F' k a) : ∀ {v : V} {d : D}, Rep K (cl.at F) H v d → Rep K (cl.at F') H v d
  | _, _, .non => .non
  | _, _, .bl b => .bl b
  | _, _, .int i => .int i
  | _, _, .str x => .str x
  | _, _, .lst e n r => .lst e n (Reps.ob h r)
  | _, _, .scr e n => .scr e n
  | _, _, .scr0 e n => .scr0 e n
  | _, _, .tup e n r => .tup e n (Reps.ob h r)
  | _, _, .dctK e r => .dctK e (RepsK.ob h r)
  | _, _, .dctT e n r => .dctT e n (RepsT.ob h r)
  | _, _, .exc e => .exc e
  | _, _, .fnv e => .fnv e
  | _, _, .obj e => .obj (h _ _ e)
  | _, _, .dclK e r => .dclK e (RepsK.ob h r)
  | _, _, .dclT e n r => .dclT e n (RepsT.ob h r)
  | _, _, .scr1 e n => .scr1 e n
theorem Reps.ob {H : Hp} (h : ∀ k a, obA F k a → obA F' k a) : ∀ {v : List V} {d : List D}, Reps K (cl.at F) H v d → Reps K (cl.at F') H v d
  | _, _, .nil => .nil
  | _, _, .cons r t => .cons (Rep.ob h r) (Reps.ob h t)
theorem RepsK.ob {H : Hp} (h : ∀ k a, obA F k a → obA F' k a) : ∀ {v : List (L2.Key × V)} {d : List (D × D)}, RepsK K (cl.at F) H v d → RepsK K (cl.at F') H v d
  | _, _, .nil => .nil
  | _, _, .cons r t => .cons (Rep.ob h r) (RepsK.ob h t)
theorem RepsT.ob {H : Hp} (h : ∀ k a, obA F k a → obA F' k a) : ∀ {v : List (List L2.Key × V)} {d : List (D × D)}, RepsT K (cl.at F) H v d → RepsT K (cl.at F') H v d
  | _, _, .nil => .nil
  | _, _, .cons r t => .cons (Rep.ob h r) (RepsT.ob h t)
end
end
structure ExtE (cl : Glb) (F : List Ft) (Hv H : Hp) (F' : List Ft) (Hv' H' : Hp) : Prop where
  hh : ∀ b o, H b = some o → isTbl o = false → b ∉ feet F → H' b = some o
  vv : Sam Hv Hv'
  vh : Vw cl Hv' H'
  old : ∀ b o, H b = some o → Hv b = none → Hv' b = none
  dom : ∀ b, H' b = none → H b = none
  tt : ∀ b ps, H b = some (.tbl ps) → ∃ ps', H' b = some (.tbl ps')
  ob : ∀ k a, obA F k a → obA F' k a
  ft : ∀ b, b ∈ feet F' → b ∈ feet F ∨ H b = none
section
variable {K : PySem.W.Frag} {cl : Glb} {F F1 F2 F' : List Ft} {Hv H Hv1 H1 Hv2 H2 Hv' H' : Hp}
theorem ExtE.refl (v : Vw cl Hv H) : ExtE cl F Hv H F Hv H := ⟨fun _ _ h _ _ => h, Sam.refl _, v, fun _ _ _ h => h, fun _ h => h, fun _ ps h => ⟨ps, h⟩, fun _ _ h => h, fun _ h => .inl h⟩
theorem ExtE.trans (a : ExtE cl F Hv H F1 Hv1 H1) (b : ExtE cl F1 Hv1 H1 F2 Hv2 H2) : ExtE cl F Hv H F2 Hv2 H2 where
  hh := fun c o h n hf => b.hh c o (a.hh c o h n hf) n fun z => (a.ft c z).elim hf fun y => by rw [h] at y; cases y
  vv := a.vv.trans b.vv
  vh := b.vh
  old := fun c o h n => by
    cases q : H1 c with
    | none => rw [a.dom c q] at h; cases h
    | some u => exact b.old c u q (a.old c o h n)
  dom := fun c h => a.dom c (b.dom c h)
  tt := fun c ps h => let ⟨ps', h'⟩ := a.tt c ps h; b.tt c ps' h'
  ob := fun k x h => b.ob k x (a.ob k x h)
  ft := fun c h => by
    rcases b.ft c h with h | h
    · exact a.ft c h
    · exact .inr (a.dom c h)
theorem ExtE.of (e : Ext (cl.at F) Hv H Hv' H') : ExtE cl F Hv H F Hv' H' := ⟨fun b o h n _ => e.hh b o h n, e.vv, e.vh.un, e.old, e.dom, e.tt, fun _ _ h => h, fun _ h => .inl h⟩
theorem Rep.ee {v : V} {d : D} (r : Rep K (cl.at F) Hv v d) (e : ExtE cl F Hv H F' Hv' H') : Rep K (cl.at F') Hv' v d := (r.ob e.ob).mono e.vv
theorem Reps.ee {v : List V} {d : List D} (r : Reps K (cl.at F) Hv v d) (e : ExtE cl F Hv H F' Hv' H') : Reps K (cl.at F') Hv' v d := (r.ob e.ob).mono e.vv
theorem ER.ee {ρ : Env} {σ : St} (r : ER K (cl.at F) Hv ρ σ) (e : ExtE cl F Hv H F' Hv' H') : ER K (cl.at F') Hv' ρ σ := ⟨fun i d h => let ⟨v, h1, h2⟩ := r.get i d h; ⟨v, h1, h2.ee e⟩, r.len⟩
end
structure PlAt (K : PySem.W.Frag) (cl : Glb) (C : Addr) (Hv H : Hp) (f : Ft) (pl : Pl) : Prop where
  ins : ∃ vo vn, H f.x = some (.ins C f.dx [("own", vo), ("now", vn), ("past", .ref f.p), ("later", .ref f.l)]) ∧ Rep K cl Hv vo pl.own ∧ Rep K cl Hv vn pl.now
  own : H f.dx = some (.own f.x)
  past : ∃ vs, H f.p = some (.lst vs) ∧ vs.length ≤ sizeLine ∧ Reps K cl Hv vs pl.past
  later : ∃ vs, H f.l = some (.lst vs) ∧ vs.length ≤ sizeLine ∧ Reps K cl Hv vs pl.later
  hid : ∀ a ∈ f.all, Hv a = none
structure Pls (K : PySem.W.Frag) (cl : Glb) (C : Addr) (F : List Ft) (ps : PLS) (Hv H : Hp) : Prop where
  len : F.length = ps.length
  pl : ∀ (k : Nat) f q, F[k]? = some f → ps[k]? = some q → PlAt K (cl.at F) C Hv H f q
  nd : (feet F).Nodup
  ob0 : ∀ k a, cl.ob k a → obA F k a
section
variable {K : PySem.W.Frag} {cl : Glb} {C : Addr} {F F1 F2 F' : List Ft} {Hv H Hv1 H1 Hv2 H2 Hv' H' : Hp} {ps : PLS}
theorem PlAt.full {f : Ft} {q : Pl} (h : PlAt K cl C Hv H f q) : ∀ a ∈ f.all, ∃ o, H a = some o ∧ isTbl o = false := fun a ha => by
  obtain ⟨vo, vn, h1, _⟩ := h.ins
  obtain ⟨vs, h2, _⟩ := h.past
  obtain ⟨us, h3, _⟩ := h.later
  simp only [Ft.all, List.mem_cons, List.not_mem_nil, or_false] at ha
  rcases ha with rfl | rfl | rfl | rfl
  · exact ⟨_, h1, rfl⟩
  · exact ⟨_, h.own, rfl⟩
  · exact ⟨_, h2, rfl⟩
  · exact ⟨_, h3, rfl⟩
theorem PlAt.mono {f : Ft} {q : Pl} (h : PlAt K cl C Hv H f q) (hs : ∀ a ∈ f.all, ∀ o, H a = some o → isTbl o = false → H' a = some o) (hv : Sam Hv Hv') (hn : ∀ a ∈ f.all, Hv' a = none) : PlAt K cl C Hv' H' f q := by
  obtain ⟨vo, vn, h1, r1, r2⟩ := h.ins
  obtain ⟨vs, h2, z2, r3⟩ := h.past
  obtain ⟨us, h3, z3, r4⟩ := h.later
  exact ⟨⟨vo, vn, hs f.x (by simp [Ft.all]) _ h1 rfl, r1.mono hv, r2.mono hv⟩, hs f.dx (by simp [Ft.all]) _ h.own rfl, ⟨vs, hs f.p (by simp [Ft.all]) _ h2 rfl, z2, r3.mono hv⟩, ⟨us, hs f.l (by simp [Ft.all]) _ h3 rfl, z3, r4.mono hv⟩, hn⟩
theorem Pls.get (h : Pls K cl C F ps Hv H) {k : Nat} {f : Ft} (hf : F[k]? = some f) : ∃ q, ps[k]? = some q ∧ PlAt K (cl.at F) C Hv H f q := by
  have hk := (List.getElem?_eq_some_iff.mp hf).1
  have hk2 : k < ps.length := by rw [← h.len]; exact hk
  have : ps[k]? = some ps[k] := by simp [hk2]
  exact ⟨_, this, h.pl k f _ hf this⟩
theorem Pls.foot (h : Pls K cl C F ps Hv H) {b : Addr} (hb : b ∈ feet F) : Hv b = none ∧ ∃ o, H b = some o ∧ isTbl o = false := by
  obtain ⟨f, hf, hb⟩ := mem_feet.mp hb
  obtain ⟨k, hk⟩ := List.getElem?_of_mem hf
  obtain ⟨q, _, hp⟩ := h.get hk
  exact ⟨hp.hid b hb, hp.full b hb⟩
theorem Pls.ext (h : Pls K cl C F ps Hv H) (e : Ext (cl.at F) Hv H Hv' H') : Pls K cl C F ps Hv' H' := ⟨h.len, fun k f q hf hq => (h.pl k f q hf hq).mono (fun a _ o ha n => e.hh a o ha n) e.vv (fun a ha => by
  obtain ⟨o, ho, _⟩ := (h.pl k f q hf hq).full a ha
  exact e.old a o ho ((h.pl k f q hf hq).hid a ha)), h.nd, h.ob0⟩
theorem Pls.at_obj (h : Pls K cl C F ps Hv H) {k : Nat} {a : Addr} (ho : (cl.at F).ob k a) : ∃ f q, F[k]? = some f ∧ f.x = a ∧ ps[k]? = some q ∧ PlAt K (cl.at F) C Hv H f q := by
  have ho : (F[k]?).map Ft.x = some a := ho
  rw [Option.map_eq_some_iff] at ho
  obtain ⟨f, hf, hx⟩ := ho
  obtain ⟨q, hq, hp⟩ := h.get hf
  exact ⟨f, q, hf, hx, hq, hp⟩
end
section
variable (K : PySem.W.Frag) (cl : Glb) (C : Addr) (W : WX) (σ : St)
def PstE {α : Type} (F : List Ft) (Hv H : Hp) (T : List Ft → Hp → Hp → α → Prop) : RP α → Prop
  | .ok a ps => ∀ F' Hv' H', ExtE cl F Hv H F' Hv' H' → Pls K cl C F' ps Hv' H' → T F' Hv' H' a
  | .err c ps => ∀ F' Hv' H', ExtE cl F Hv H F' Hv' H' → Pls K cl C F' ps Hv' H' → W (.ref (cl.c c)) none σ H'
  | .bad => False
end
section
variable {K : PySem.W.Frag} {cl : Glb} {C : Addr} {W : WX} {σ : St} {F F1 : List Ft} {Hv H Hv1 H1 : Hp} {α β : Type}
theorem PstE.ext {T : List Ft → Hp → Hp → α → Prop} {r : RP α} (h : PstE K cl C W σ F Hv H T r) (e : ExtE cl F Hv H F1 Hv1 H1) : PstE K cl C W σ F1 Hv1 H1 T r := by
  cases r with
  | ok d ps => exact fun F' Hv' H' e' => h F' Hv' H' (e.trans e')
  | err c ps => exact fun F' Hv' H' e' => h F' Hv' H' (e.trans e')
  | bad => exact h
theorem up_pst {T : List Ft → Hp → Hp → α → Prop} {r : R α} {ps : PLS} (pl : Pls K cl C F ps Hv H) (h : PstE K cl C W σ F Hv H T (r.up ps)) : Pst (cl.at F) W σ Hv H (fun Hv' H' a => T F Hv' H' a) r := by
  cases r with
  | ok d => exact fun Hv' H' e => h F Hv' H' (.of e) (pl.ext e)
  | err c => exact fun Hv' H' e => h F Hv' H' (.of e) (pl.ext e)
  | bad => exact h
end
def TVe (K : PySem.W.Frag) (cl : Glb) (Q : VK) : List Ft → Hp → Hp → D → Prop := fun F Hv H d => ∀ v, Rep K (cl.at F) Hv v d → Q v H
def TBe (Q : Bool → Hp → Prop) : List Ft → Hp → Hp → Bool → Prop := fun _ _ H b => Q b H
abbrev EE := Env → PLS → RP D
abbrev EA := Env → PLS → RP (List D)
abbrev ET := Env → PLS → RP Bool
section
variable (X : Cx) (W : WX) (cl : Glb) (C : Addr)
def RunEe (f : EE) (t : TE) : Prop := ∀ (F : List Ft) (Hv H : Hp) (σ : St) (ρ : Env) (ps : PLS) (Q : VK), Vw cl Hv H → Pls X.K cl C F ps Hv H → ER X.K (cl.at F) Hv ρ σ → PstE X.K cl C W σ F Hv H (TVe X.K cl Q) (f ρ ps) → t σ H Q
def RunTe (f : ET) (t : TT) : Prop := ∀ (F : List Ft) (Hv H : Hp) (σ : St) (ρ : Env) (ps : PLS) (Q : Bool → Hp → Prop), Vw cl Hv H → Pls X.K cl C F ps Hv H → ER X.K (cl.at F) Hv ρ σ → PstE X.K cl C W σ F Hv H (TBe Q) (f ρ ps) → t σ H Q
def SEe (e : Expr) (f : EE) : Prop := ∃ t, PE X e t ∧ RunEe X W cl C f t
def STe (e : Expr) (f : ET) : Prop := ∃ t, L2.PT X e t ∧ RunTe X W cl C f t
def SWe (e : Expr) (f : ET) : Prop := ∃ t, PW X e t ∧ RunTe X W cl C f t
end
section
variable {X : Cx} {W : WX} {cl : Glb} {C : Addr} {pos p : Pos} {a b c e : Expr} {es : List Expr} {fa fb fc : EE} {g : EA}
theorem SWe.st {f : ET} (h : SWe X W cl C e f) : STe X W cl C e f := by
  obtain ⟨t, pt, h⟩ := h
  exact ⟨t, pt.pt, h⟩
end
end Sm
namespace Sm
open PySem PySem.Spec L2
inductive OE where
  | nx (ρ : Env) (ps : PLS) | ret (d : D) (ps : PLS) | err (ρ : Env) (c : Nat) (ps : PLS) | bad
abbrev DSe := Env → PLS → OE
def OE.seq : OE → DSe → OE
  | .nx ρ ps, k => k ρ ps
  | .ret d ps, _ => .ret d ps
  | .err ρ c ps, _ => .err ρ c ps
  | .bad, _ => .bad
def RP.to {α : Type} (ρ : Env) : RP α → (α → PLS → OE) → OE
  | .ok a ps, k => k a ps
  | .err c ps, _ => .err ρ c ps
  | .bad, _ => .bad
def O.up (ps : PLS) : O → OE
  | .nx ρ => .nx ρ ps
  | .ret d => .ret d ps
  | .err ρ c => .err ρ c ps
  | .bad => .bad
structure SRe (K : PySem.W.Frag) (cl : Glb) (C : Addr) (F0 : List Ft) (Hv0 H0 : Hp) (own : List Nat) (ρ : Env) (σ : St) (ps : PLS) (F : List Ft) (Hv H : Hp) : Prop where
  ext : ExtE cl F0 Hv0 H0 F Hv H
  pls : Pls K cl C F ps Hv H
  len : ρ.length = σ.length
  sh : ∀ (i : Nat) d, i ∉ own → ρ[i]? = some (some d) → ∃ v, σ[i]? = some (some v) ∧ Rep K (cl.at F) Hv v d
  ow : ∀ i, i ∈ own → ∃ p d, ρ[i]? = some (some d) ∧ σ[i]? = some (some (.ref p)) ∧ Hv p = none ∧ H0 p = none ∧ p ∉ feet F ∧ OwnR K (cl.at F) Hv H p d
  ap : ∀ (i j : Nat) p, i ∈ own → j ∈ own → σ[i]? = some (some (.ref p)) → σ[j]? = some (some (.ref p)) → i = j
def IsOw (own : List Nat) (σ : St) (b : Addr) : Prop := ∃ i, i ∈ own ∧ σ[i]? = some (some (.ref b))
open Classical in
noncomputable def lessH (own : List Nat) (σ : St) (H : Hp) : Hp := fun b => if IsOw own σ b then none else H b
section
variable {K : PySem.W.Frag} {cl : Glb} {C : Addr} {F0 F F' : List Ft} {Hv0 H0 Hv H Hv' H' : Hp} {own own' : List Nat} {ρ ρ' : Env} {σ σ' : St} {ps ps' : PLS}
theorem less_ow {b : Addr} (h : IsOw own σ b) : lessH own σ H b = none := if_pos h
theorem less_no {b : Addr} (h : ¬ IsOw own σ b) : lessH own σ H b = H b := if_neg h
theorem less_some {b : Addr} {o : HO} (h : lessH own σ H b = some o) : ¬ IsOw own σ b ∧ H b = some o := by
  by_cases z : IsOw own σ b
  · rw [less_ow z] at h; cases h
  · rw [less_no z] at h; exact ⟨z, h⟩
theorem SRe.isOw (s : SRe K cl C F0 Hv0 H0 own ρ σ ps F Hv H) {b : Addr} (h : IsOw own σ b) : Hv b = none ∧ H0 b = none ∧ b ∉ feet F := by
  obtain ⟨i, hi, e⟩ := h
  obtain ⟨p, d, _, e2, e3, e4, e5, _⟩ := s.ow i hi
  rw [e] at e2; cases e2
  exact ⟨e3, e4, e5⟩
theorem SRe.sr (s : SRe K cl C F0 Hv0 H0 own ρ σ ps F Hv H) : SR K (cl.at F) Hv (lessH own σ H) own ρ σ Hv H where
  ext := ⟨fun b o h _ => (less_some h).2, Sam.refl _, s.ext.vh.at, fun b o h n => n, fun b h => by
    by_cases z : IsOw own σ b
    · exact less_ow z
    · rw [less_no z]; exact h, fun b ps h => ⟨ps, (less_some h).2⟩⟩
  len := s.len
  sh := s.sh
  ow := fun i hi => by
    obtain ⟨p, d, e1, e2, e3, e4, e5, e6⟩ := s.ow i hi
    exact ⟨p, d, e1, e2, e3, less_ow ⟨i, hi, e2⟩, e6⟩
  ap := s.ap
theorem SRe.backX (s : SRe K cl C F0 Hv0 H0 own ρ σ ps F Hv H) (e : Ext (cl.at F) Hv (lessH own σ H) Hv' H') : ExtE cl F0 Hv0 H0 F Hv' H' ∧ Pls K cl C F ps Hv' H' := by
  have no : ∀ {b o}, H0 b = some o → ¬ IsOw own σ b := fun {b o} h z => by rw [(s.isOw z).2.1] at h; cases h
  have fo : ∀ {b}, b ∈ feet F → ¬ IsOw own σ b := fun {b} h z => (s.isOw z).2.2 h
  refine ⟨⟨fun b o h n hf => ?_, s.ext.vv.trans e.vv, e.vh.un, fun b o h n => ?_, fun b h => ?_, fun b ps h => ?_, s.ext.ob, s.ext.ft⟩, ⟨s.pls.len, fun k f q hf hq => ?_, s.pls.nd, s.pls.ob0⟩⟩
  · exact e.hh b o (by rw [less_no (no h)]; exact s.ext.hh b o h n hf) n
  · cases q : H b with
    | none => rw [s.ext.dom b q] at h; cases h
    | some u => exact e.old b u (by rw [less_no (no h)]; exact q) (s.ext.old b o h n)
  · have := e.dom b h
    by_cases z : IsOw own σ b
    · exact (s.isOw z).2.1
    · rw [less_no z] at this
      exact s.ext.dom b this
  · obtain ⟨ps', h'⟩ := s.ext.tt b ps h
    exact e.tt b ps' (by rw [less_no (no h)]; exact h')
  · have mf : ∀ a ∈ f.all, a ∈ feet F := fun a ha => mem_feet.mpr ⟨f, List.mem_of_getElem? hf, ha⟩
    refine (s.pls.pl k f q hf hq).mono (fun a ha o h n => e.hh a o (by rw [less_no (fo (mf a ha))]; exact h) n) e.vv fun a ha => ?_
    obtain ⟨hv, o, ho, _⟩ := s.pls.foot (mf a ha)
    exact e.old a o (by rw [less_no (fo (mf a ha))]; exact ho) hv
theorem SRe.back (s : SRe K cl C F0 Hv0 H0 own ρ σ ps F Hv H) (r : SR K (cl.at F) Hv (lessH own σ H) own' ρ' σ' Hv' H') : SRe K cl C F0 Hv0 H0 own' ρ' σ' ps F Hv' H' := by
  obtain ⟨e1, e2⟩ := s.backX r.ext
  refine ⟨e1, e2, r.len, r.sh, fun i hi => ?_, r.ap⟩
  obtain ⟨p, d, a1, a2, a3, a4, a5⟩ := r.ow i hi
  refine ⟨p, d, a1, a2, a3, ?_, fun hf => ?_, a5⟩
  · by_cases z : IsOw own σ p
    · exact (s.isOw z).2.1
    · rw [less_no z] at a4
      exact s.ext.dom p a4
  · obtain ⟨_, o, ho, _⟩ := s.pls.foot hf
    rw [less_no fun z => (s.isOw z).2.2 hf, ho] at a4
    cases a4
theorem SRe.er (s : SRe K cl C F0 Hv0 H0 own ρ σ ps F Hv H) : ER K (cl.at F) Hv (mask own ρ) σ := s.sr.er
theorem SRe.step (s : SRe K cl C F0 Hv0 H0 own ρ σ ps F Hv H) (e : ExtE cl F Hv H F' Hv' H') (pl : Pls K cl C F' ps' Hv' H') : SRe K cl C F0 Hv0 H0 own ρ σ ps' F' Hv' H' where
  ext := s.ext.trans e
  pls := pl
  len := s.len
  sh := fun i d h1 h2 => let ⟨v, h3, h4⟩ := s.sh i d h1 h2; ⟨v, h3, h4.ee e⟩
  ow := fun i hi => by
    obtain ⟨p, d, h1, h2, h3, h4, h5, o, h6, h7⟩ := s.ow i hi
    refine ⟨p, d, h1, h2, e.old p _ h6 h3, h4, fun hf => (e.ft p hf).elim h5 fun z => (by rw [h6] at z; cases z), o, e.hh _ _ h6 h7.tbl h5, ?_⟩
    cases h7 with
    | lst z r => exact .lst z (r.ee e)
    | dct z r => exact .dct z ((r.ob e.ob).mono e.vv)
  ap := s.ap
theorem SRe.freeze (s : SRe K cl C F0 Hv0 H0 own ρ σ ps F Hv H) (hs : ∀ i ∈ own', i ∈ own) : SRe K cl C F0 Hv0 H0 own' ρ σ ps F (thaw own own' σ Hv H) H ∧ Sam Hv (thaw own own' σ Hv H) := by
  obtain ⟨h1, h2⟩ := s.sr.freeze hs
  exact ⟨s.back h1, h2⟩
end
section
variable (X : Cx) (W : WX) (cl : Glb) (C : Addr)
def PSOe (F0 : List Ft) (Hv0 H0 : Hp) (own : List Nat) (F : List Ft) (Hv : Hp) (Dn : Ends) : OE → Prop
  | .nx ρ' ps' => ∀ σ' F' Hv' H', SRe X.K cl C F0 Hv0 H0 own ρ' σ' ps' F' Hv' H' → Sam Hv Hv' → (∀ k a, obA F k a → obA F' k a) → σ'.length = X.N.length → Dn.nx σ' H'
  | .ret d ps' => ∀ v F' Hv' H', ExtE cl F0 Hv0 H0 F' Hv' H' → Pls X.K cl C F' ps' Hv' H' → Rep X.K (cl.at F') Hv' v d → Dn.rt v H'
  | .err ρ' c ps' => ∀ σ' F' Hv' H', SRe X.K cl C F0 Hv0 H0 [] ρ' σ' ps' F' Hv' H' → Sam Hv Hv' → (∀ k a, obA F k a → obA F' k a) → σ'.length = X.N.length → W (.ref (cl.c c)) none σ' H'
  | .bad => False
def RunSe (own own' : List Nat) (f : DSe) (t : TS) : Prop := ∀ (F0 : List Ft) (Hv0 H0 : Hp) (ρ : Env) (σ : St) (ps : PLS) (F : List Ft) (Hv H : Hp) (Dn : Ends), SRe X.K cl C F0 Hv0 H0 own ρ σ ps F Hv H → σ.length = X.N.length → PSOe X W cl C F0 Hv0 H0 own' F Hv Dn (f ρ ps) → t Dn σ H
def SSe (own own' : List Nat) (st : Stmt) (f : DSe) : Prop := ∃ t, PS X st t ∧ RunSe X W cl C own own' f t
def SSes (own own' : List Nat) (st : List Stmt) (f : DSe) : Prop := ∃ t, PSs X st t ∧ RunSe X W cl C own own' f t
end
section
variable {X : Cx} {W : WX} {cl : Glb} {C : Addr} {F0 F F1 : List Ft} {Hv0 H0 Hv Hv1 H : Hp} {own own1 own2 own3 : List Nat} {Dn : Ends} {pos p : Pos} {a b c e tg iter : Expr} {es : List Expr} {fa fb : EE} {g : EA} {st : Stmt} {sts : List Stmt}
theorem PSOe.mono {r : OE} (h : PSOe X W cl C F0 Hv0 H0 own F Hv Dn r) (s : Sam Hv Hv1) (so : ∀ k a, obA F k a → obA F1 k a) : PSOe X W cl C F0 Hv0 H0 own F1 Hv1 Dn r := by
  cases r with
  | nx ρ ps => exact fun σ' F' Hv' H' sr sm ob hl => h σ' F' Hv' H' sr (s.trans sm) (fun k a z => ob k a (so k a z)) hl
  | ret d ps => exact h
  | err ρ c ps => exact fun σ' F' Hv' H' sr sm ob hl => h σ' F' Hv' H' sr (s.trans sm) (fun k a z => ob k a (so k a z)) hl
  | bad => exact h
theorem PSOe.less {r : OE} (h : PSOe X W cl C F0 Hv0 H0 own2 F Hv Dn r) (hs : ∀ i ∈ own2, i ∈ own1) : PSOe X W cl C F0 Hv0 H0 own1 F Hv Dn r := by
  cases r with
  | nx ρ ps =>
    intro σ' F' Hv' H' sr sm ob hl
    obtain ⟨s1, s2⟩ := sr.freeze hs
    exact h σ' F' _ H' s1 (sm.trans s2) ob hl
  | ret d ps => exact h
  | err ρ c ps => exact h
  | bad => exact h
theorem SSe.pre {f : DSe} (h : SSe X W cl C own1 own2 st f) (hs : sub own1 own = true := by rfl) : SSe X W cl C own own2 st f := by
  obtain ⟨t, pt, h⟩ := h
  refine ⟨t, pt, fun F0 Hv0 H0 ρ σ ps F Hv H Dn sr hl po => ?_⟩
  obtain ⟨s1, s2⟩ := sr.freeze (sub_mem hs)
  exact h F0 Hv0 H0 ρ σ ps F _ H Dn s1 hl (po.mono s2 fun _ _ z => z)
theorem SSes.post {f : DSe} (h : SSes X W cl C own own1 sts f) (hs : sub own2 own1 = true := by rfl) : SSes X W cl C own own2 sts f := by
  obtain ⟨t, pt, h⟩ := h
  exact ⟨t, pt, fun F0 Hv0 H0 ρ σ ps F Hv H Dn sr hl po => h F0 Hv0 H0 ρ σ ps F Hv H Dn sr hl (po.less (sub_mem hs))⟩
theorem SS.ps {f : DS} (h : SS X W cl own own1 st f) : PS X st (tS X.K X.N W cl own own1 f) := by
  obtain ⟨t, pt, hr⟩ := h
  refine ⟨fun pins s σ H D I ⟨Hv0, H0, ρ, Hv, sr, hl, po⟩ => pt.run pins s σ H D I (hr Hv0 H0 ρ σ Hv H D sr hl ?_)⟩
  cases q : f ρ with
  | nx ρ' => rw [q] at po; exact po
  | ret d => rw [q] at po; exact po
  | err ρ' c => rw [q] at po; exact po
  | bad => rw [q] at po; exact po
end
end Sm
namespace Sm
open PySem PySem.Spec L2
section
variable {X : Cx} {W : WX} {cl : Glb} {C : Addr} {F0 F F1 : List Ft} {Hv0 H0 Hv Hv1 H : Hp} {own own1 own2 own3 : List Nat} {Dn : Ends} {pos p : Pos} {a b c e o tg iter : Expr} {es : List Expr} {fa fb : EE} {g : EA} {st : Stmt} {sts : List Stmt}
theorem ItOk.at {K : PySem.W.Frag} {J : It} {ds : List D} (h : ItOk K (cl.at F) J Hv ds) (ho : ∀ k a, obA F k a → obA F1 k a) : ItOk K (cl.at F1) J Hv ds where
  go := fun i Hv' H' sm vw hi => h.go i Hv' H' sm vw.un.at hi
  stop := fun i Hv' H' sm vw hi => h.stop i Hv' H' sm vw.un.at hi
  yld := fun i Hv' H' sm vw d hd x H2 y => by
    obtain ⟨Hv2, e, r⟩ := h.yld i Hv' H' sm vw.un.at d hd x H2 y
    exact ⟨Hv2, ⟨e.hh, e.vv, e.vh.un.at, e.old, e.dom, e.tt⟩, r.ob ho⟩
end
def spE (K : PySem.W.Frag) (cl : Glb) (C : Addr) (n : Nat) (Fd : List D → PLS → RP D) : Sp := fun vs H Q E => vs.length = n ∧ ∃ F Hv ds ps, Vw cl Hv H ∧ Pls K cl C F ps Hv H ∧ Reps K (cl.at F) Hv vs ds ∧ PstE K cl C (fun c d _ H => E c d H) [] F Hv H (TVe K cl Q) (Fd ds ps)
section
variable {P : Program} {w : World} {K : PySem.W.Frag} {mg : Str → Option Value} {base : Heap} {cl : Glb} {C : Addr}
end
structure FnA (P : Program) (w : World) (K : PySem.W.Frag) (mg : Str → Option Value) (base : Heap) (cl : Glb) (C : Addr) (k : Nat) (x : Str) (n : Nat) (Fd : List D → PLS → RP D) : Prop where
  ex : ∃ f, FnR P w K mg base (L2.CX P w) k f (spE K cl C n Fd) ∧ mg x = some (.ref f) ∧ PySem.W.keepIn K (.ref f) = true
structure FnM (P : Program) (w : World) (K : PySem.W.Frag) (mg : Str → Option Value) (base : Heap) (cl : Glb) (C : Addr) (k : Nat) (m : Str) (n : Nat) (Fd : List D → PLS → RP D) : Prop where
  ex : ∃ f, FnR P w K mg base (L2.CX P w) k f (spE K cl C n Fd) ∧ Meth K C m f
section
variable {P : Program} {w : World} {K : PySem.W.Frag} {mg : Str → Option Value} {base : Heap} {cl : Glb} {C : Addr} {k n m : Nat} {x q : Str}
theorem FnOk.rawN {f : Addr} {fd : FuncData} {ps : List Str} {sp : Sp} {CX : CXT} (F : FnOk P w K mg base CX k f fd ps sp) (hb : Binds K fd ps []) : FnR P w K mg base CX k f sp := (F.raw hb .nil).imp fun vs H Q E h => by rw [List.append_nil]; exact h
theorem FnA.mono {k' : Nat} {Fd : List D → PLS → RP D} (h : FnA P w K mg base cl C k x n Fd) (hk : k ≤ k') : FnA P w K mg base cl C k' x n Fd := let ⟨f, h1, h2, h3⟩ := h.ex; ⟨f, h1.mono hk, h2, h3⟩
theorem FnM.mono {k' : Nat} {Fd : List D → PLS → RP D} (h : FnM P w K mg base cl C k x n Fd) (hk : k ≤ k') : FnM P w K mg base cl C k' x n Fd := let ⟨f, h1, h2⟩ := h.ex; ⟨f, h1.mono hk, h2⟩
def upF (Fp : List D → R D) : List D → PLS → RP D := fun ds ps => (Fp ds).up ps
theorem FnA.of {Fp : List D → R D} (G : ∀ F, Fn P w K mg base (cl.at F) k x n Fp) : FnA P w K mg base cl C k x n (upF Fp) := by
  obtain ⟨f, fd, ps, h1, h2, h3, h4, h5⟩ := G []
  refine ⟨f, ?_, h2, h3⟩
  intro A outer s H us vs Q E hr e0 r ⟨hl, F, Hv, ds, ps', vw, pl, rs, pv⟩
  obtain ⟨f', fd', ps'', g1, g2, g3, g4, g5⟩ := G F
  rw [h2] at g2; cases g2
  exact FnOk.rawN g1 g4 A outer s H us vs Q E hr e0 r ⟨hl, Hv, ds, vw.at, rs, up_pst pl pv⟩
end
section
variable {X : Cx} {CX : CXT} {k : Nat} {f C : Addr} {sp : Sp} {E : St → XK} {x m : Str} {p pos apos : Pos} {e o : Expr} {es : List Expr} {ta : TE} {t : TA}
end
section
variable {X : Cx} {W : WX} {cl : Glb} {C : Addr} {pos p apos : Pos} {a b c e o : Expr} {es : List Expr} {fa fb : EE} {g : EA}
end
end Sm
namespace Sm
open PySem PySem.Spec L2
def Pl.get (q : Pl) : Bool → List D | true => q.past | false => q.later
def Pl.put (q : Pl) : Bool → List D → Pl | true, ds => { q with past := ds } | false, ds => { q with later := ds }
def Ft.at (f : Ft) : Bool → Addr | true => f.p | false => f.l
section
variable {K : PySem.W.Frag} {cl : Glb} {C : Addr} {F F' : List Ft} {Hv H Hv' H' : Hp} {ps : PLS}
theorem PlAt.lst {f : Ft} {q : Pl} (h : PlAt K cl C Hv H f q) (b : Bool) : ∃ vs, H (f.at b) = some (.lst vs) ∧ vs.length ≤ sizeLine ∧ Reps K cl Hv vs (q.get b) := by
  cases b
  · exact h.later
  · exact h.past
theorem PlAt.off {f : Ft} {q : Pl} {a : Addr} {o : HO} (h : PlAt K cl C Hv H f q) (ha : a ∉ f.all) : PlAt K cl C Hv (upd H a o) f q := h.mono (fun b hb u hu _ => by rw [upd_ne (show b ≠ a from fun z => ha (by rw [← z]; exact hb))]; exact hu) (Sam.refl _) h.hid
theorem Pls.set (h : Pls K cl C F ps Hv H) {k : Nat} {f : Ft} {q : Pl} (hf : F[k]? = some f) (hs : ∀ (j : Nat) g u, j ≠ k → F[j]? = some g → PlAt K (cl.at F) C Hv H g u → PlAt K (cl.at F) C Hv H' g u) (hp : PlAt K (cl.at F) C Hv H' f q) : Pls K cl C F (ps.set k q) Hv H' := by
  refine ⟨by rw [List.length_set]; exact h.len, fun j g u hg hu => ?_, h.nd, h.ob0⟩
  by_cases z : j = k
  · subst z
    rw [hf] at hg; cases hg
    have : j < ps.length := by rw [← h.len]; exact (List.getElem?_eq_some_iff.mp hf).1
    rw [List.getElem?_set_self this] at hu; cases hu
    exact hp
  · rw [List.getElem?_set_ne (Ne.symm z)] at hu
    exact hs j g u z hg (h.pl j g u hg hu)
theorem PlAt.ob {f : Ft} {q : Pl} (h : PlAt K (cl.at F) C Hv H f q) (ho : ∀ k a, obA F k a → obA F' k a) : PlAt K (cl.at F') C Hv H f q := by
  obtain ⟨vo, vn, h1, r1, r2⟩ := h.ins
  obtain ⟨vp, h2, z2, r3⟩ := h.past
  obtain ⟨vl, h3, z3, r4⟩ := h.later
  exact ⟨⟨vo, vn, h1, r1.ob ho, r2.ob ho⟩, h.own, ⟨vp, h2, z2, r3.ob ho⟩, ⟨vl, h3, z3, r4.ob ho⟩, h.hid⟩
end
end Sm
namespace Sm
open PySem PySem.Spec L2
section
variable {X : Cx} {W : WX} {cl : Glb} {C : Addr} {F0 F F1 : List Ft} {Hv0 H0 Hv Hv1 H : Hp} {own own1 own2 own3 : List Nat} {Dn : Ends} {pos pos' p p1 p2 p3 p4 apos : Pos} {a b c e o tg iter : Expr} {es : List Expr} {fa fb : EE} {g : EA} {st : Stmt} {sts : List Stmt} {ρ : Env} {σ : St} {ps : PLS}
end
end Sm
namespace Sm
open PySem PySem.Spec L2
section
variable {X : Cx} {W : WX} {cl : Glb} {C : Addr} {F0 F F1 : List Ft} {Hv0 H0 Hv Hv1 H : Hp} {own own1 own2 own3 : List Nat} {Dn : Ends} {pos pos' p p1 p2 p3 p4 apos : Pos} {a b c e o tg iter : Expr} {es : List Expr} {fa fb : EE} {g : EA} {st : Stmt} {sts : List Stmt} {ρ : Env} {σ : St} {ps : PLS}
end
end Sm
namespace Sm
open PySem PySem.Spec L2
section
variable {X : Cx} {CX : CXT} {k i : Nat} {f C : Addr} {sp : Sp} {E : St → XK} {x : Str} {e fe : Expr} {es : List Expr} {te tf : TE} {t : TA} {p pos : Pos}
end
section
variable {X : Cx} {W : WX} {cl : Glb} {C : Addr} {pos p : Pos} {e : Expr} {fa : EE}
end
section
variable {K : PySem.W.Frag} {cl : Glb} {C : Addr} {F0 F : List Ft} {Hv0 H0 Hv H H' : Hp} {ps : PLS}
end
end Sm
namespace Sm
open PySem PySem.Spec L2
section
variable {X : Cx} {W : WX} {cl : Glb} {C : Addr} {pos p : Pos}
end
end Sm
namespace Sm
open PySem PySem.Spec L2
section
variable {Z : Zf} {K : PySem.W.Frag} {cl cl' : Glb} {C : Addr} {F F' : List Ft} {Hv H Hv' H' : Hp} {ps : PLS}
end
section
variable {X : Cx} {W : WX} {cl : Glb} {C : Addr} {pos p : Pos} {k i : Nat} {x : Str} {Fd : PLS → RP D}
end
end Sm
namespace Sm
open PySem PySem.Spec L2
section
variable {X : Cx} {W : WX} {cl : Glb} {C : Addr} {params : Arguments} {body e : Expr} {scope : Scope} {pos p lpos : Pos} {es : List Expr} {k kb m : Nat} {x : Str} {gA : Addr} {fr : List Str} {js : List Nat} {t : TA} {fb : EE} {FF : (PLS → RP D) → List D → PLS → RP D}
end
section
variable {X : Cx} {W : WX} {cl : Glb} {C : Addr} {pos p : Pos} {a e e1 e2 : Expr} {es : List Expr} {k n i : Nat} {x : Str} {own : List Nat}
def tEe (K : PySem.W.Frag) (cl : Glb) (C : Addr) (W : WX) (f : EE) : TE := fun σ H Q => ∃ F Hv ρ ps, Vw cl Hv H ∧ Pls K cl C F ps Hv H ∧ ER K (cl.at F) Hv ρ σ ∧ PstE K cl C W σ F Hv H (TVe K cl Q) (f ρ ps)
theorem SEe.pe {f : EE} (h : SEe X W cl C e f) : PE X e (tEe X.K cl C W f) := by
  obtain ⟨t, pt, h⟩ := h
  exact ⟨fun pins s σ H Q I ⟨F, Hv, ρ, ps, vw, pl, er, pv⟩ => pt.run pins s σ H Q I (h F Hv H σ ρ ps Q vw pl er pv)⟩
end
end Sm
namespace Sm
open PySem PySem.Spec L2
section
variable {X : Cx} {W : WX} {cl : Glb} {C : Addr} {F0 F F1 : List Ft} {Hv0 H0 Hv Hv1 H : Hp} {own own1 own2 own3 : List Nat} {Dn : Ends} {pos pos' p lp : Pos} {a b c e : Expr} {es : List Expr} {fa fb : EE} {g : EA} {st : Stmt} {sts : List Stmt}
end
end Sm
namespace Sm
open PySem PySem.Spec L2
def TVle (K : PySem.W.Frag) (cl : Glb) (H0 : Hp) (Q : VK) : List Ft → Hp → Hp → D → Prop := fun F Hv H d => match d with
  | .lst es => ∀ p vs, Hv p = none → H0 p = none → p ∉ feet F → H p = some (.lst vs) → vs.length ≤ sizeLine → Reps K (cl.at F) Hv vs es → Q (.ref p) H
  | _ => False
theorem TVle.mono {K : PySem.W.Frag} {cl : Glb} {H0 H1 : Hp} {Q : VK} {F : List Ft} {Hv H : Hp} {d : D} (h : TVle K cl H0 Q F Hv H d) (hs : ∀ b, H1 b = none → H0 b = none) : TVle K cl H1 Q F Hv H d := by
  cases d with
  | lst es => exact fun p vs a b c d e f => h p vs a (hs p b) c d e f
  | _ => exact h
def SNe (X : Cx) (W : WX) (cl : Glb) (C : Addr) (e : Expr) (f : EE) : Prop := ∃ t, PE X e t ∧ ∀ (F : List Ft) (Hv H : Hp) (σ : St) (ρ : Env) (ps : PLS) (Q : VK), Vw cl Hv H → Pls X.K cl C F ps Hv H → ER X.K (cl.at F) Hv ρ σ → PstE X.K cl C W σ F Hv H (TVle X.K cl H Q) (f ρ ps) → t σ H Q
section
variable {K : PySem.W.Frag} {cl : Glb} {C : Addr} {F : List Ft} {Hv H : Hp} {ps : PLS}
end
section
variable {X : Cx} {W : WX} {cl : Glb} {C : Addr} {pos p : Pos} {a b c e : Expr} {es : List Expr} {fa fb : EE} {g : EA}
theorem SNe.ee {f : EE} (h : SNe X W cl C e f) (hl : ∀ ρ ps d ps', f ρ ps = .ok d ps' → ∃ es, d = .lst es) : SEe X W cl C e f := by
  obtain ⟨t, pt, h⟩ := h
  refine ⟨t, pt, fun F Hv H σ ρ ps Q vw pl er pv => h F Hv H σ ρ ps Q vw pl er ?_⟩
  cases q : f ρ ps with
  | bad => rw [q] at pv; exact pv
  | err c ps' => rw [q] at pv; exact pv
  | ok d ps' =>
    rw [q] at pv
    obtain ⟨es, rfl⟩ := hl ρ ps d ps' q
    intro F' Hv' H' ex pl' p vs h1 h2 h3 h4 h5 h6
    have sm : Sam Hv' (upd Hv' p (.lst vs)) := .of (same_upd h1)
    have vw' : Vw cl (upd Hv' p (.lst vs)) H' := by
      have v := ex.vh
      refine ⟨fun b o hb n => ?_, fun b hb => ?_, fun b xs hb => ?_, fun b o u hb => ?_, v.tab, fun b φ hb => ?_⟩
      · by_cases z : b = p
        · subst z; rw [upd_same] at hb; cases hb; exact h4
        · rw [upd_ne z] at hb; exact v.s b o hb n
      · by_cases z : b = p
        · subst z; rw [h4] at hb; cases hb
        · rw [upd_ne z]; exact v.d b hb
      · rw [upd_ne (show b ≠ p from fun z => by rw [z, h4] at hb; cases hb)]; exact v.t b xs hb
      · rw [upd_ne (show b ≠ p from fun z => by rw [z, h4] at hb; cases hb)]; exact v.z b o u hb
      · rw [upd_ne (show b ≠ p from fun z => by rw [z, h4] at hb; cases hb)]; exact v.x b φ hb
    have ex2 : ExtE cl F Hv H F' (upd Hv' p (.lst vs)) H' := ⟨ex.hh, ex.vv.trans sm, vw', fun b o hb n => by
      rw [upd_ne (show b ≠ p from fun z => by rw [z, h2] at hb; cases hb)]; exact ex.old b o hb n, ex.dom, ex.tt, ex.ob, ex.ft⟩
    have pl2 : Pls X.K cl C F' ps' (upd Hv' p (.lst vs)) H' := ⟨pl'.len, fun k f q hf hq => (pl'.pl k f q hf hq).mono (fun a _ o ha _ => ha) sm (fun a ha => by
      rw [upd_ne (show a ≠ p from fun z => h3 (z ▸ mem_feet.mpr ⟨f, List.mem_of_getElem? hf, ha⟩))]; exact (pl'.pl k f q hf hq).hid a ha), pl'.nd, pl'.ob0⟩
    exact pv F' _ H' ex2 pl2 (.ref p) (.lst upd_same h5 (h6.mono sm))
end
section
variable {X : Cx} {W : WX} {cl : Glb} {C : Addr} {pos p apos : Pos} {a b c e o : Expr} {es : List Expr} {fa fb : EE} {g : EA}
theorem PstE.wk {K : PySem.W.Frag} {σ : St} {F : List Ft} {Hv H H1 : Hp} {Q : VK} {r : RP D} (h : PstE K cl C W σ F Hv H1 (TVle K cl H Q) r) (hs : ∀ b, H1 b = none → H b = none) : PstE K cl C W σ F Hv H1 (TVle K cl H1 Q) r := by
  cases r with
  | ok d ps => exact fun F' Hv' H' e pl => (h F' Hv' H' e pl).mono hs
  | err c ps => exact h
  | bad => exact h
end
end Sm
namespace Sm
open PySem PySem.Spec L2
def PSOl (X : Cx) (W : WX) (cl : Glb) (C : Addr) (F0 : List Ft) (Hv0 H0 : Hp) (F : List Ft) (Hv : Hp) (Dn : Ends) : OE → Prop
  | .nx ρ' ps' => ∀ σ' F' Hv' H', SRe X.K cl C F0 Hv0 H0 [] ρ' σ' ps' F' Hv' H' → False
  | .ret d ps' => ∀ F' Hv' H', ExtE cl F0 Hv0 H0 F' Hv' H' → Pls X.K cl C F' ps' Hv' H' → TVle X.K cl H0 Dn.rt F' Hv' H' d
  | .err ρ' c ps' => ∀ σ' F' Hv' H', SRe X.K cl C F0 Hv0 H0 [] ρ' σ' ps' F' Hv' H' → Sam Hv Hv' → (∀ k a, obA F k a → obA F' k a) → σ'.length = X.N.length → W (.ref (cl.c c)) none σ' H'
  | .bad => False
section
variable {X : Cx} {W : WX} {cl : Glb} {C : Addr} {F0 F F1 : List Ft} {Hv0 H0 Hv Hv1 H : Hp} {own own1 own2 own3 : List Nat} {Dn : Ends} {pos p : Pos} {a b c e tg iter : Expr} {es : List Expr} {fa fb : EE} {g : EA} {st : Stmt} {sts : List Stmt}
theorem PSOl.mono {r : OE} (h : PSOl X W cl C F0 Hv0 H0 F Hv Dn r) (s : Sam Hv Hv1) (so : ∀ k a, obA F k a → obA F1 k a) : PSOl X W cl C F0 Hv0 H0 F1 Hv1 Dn r := by
  cases r with
  | nx ρ ps => exact h
  | ret d ps => exact h
  | err ρ c ps => exact fun σ' F' Hv' H' sr sm ob hl => h σ' F' Hv' H' sr (s.trans sm) (fun k a z => ob k a (so k a z)) hl
  | bad => exact h
end
section
variable {P : Program} {w : World} {K : PySem.W.Frag} {mg : Str → Option Value} {base : Heap} {cl : Glb} {C : Addr} {k n m : Nat} {x q : Str}
end
end Sm
namespace Sm
open PySem PySem.Spec L2
section
variable {X : Cx} {W : WX} {cl : Glb} {C : Addr} {pos p : Pos} {k i : Nat} {x : Str} {Fd : PLS → RP D}
end
section
variable {X : Cx} {W : WX} {cl : Glb} {C : Addr} {params : Arguments} {body e : Expr} {scope : Scope} {pos p lpos : Pos} {es : List Expr} {k kb m : Nat} {x : Str} {gA : Addr} {fr : List Str} {js : List Nat} {t : TA} {fb : EE} {FF : (PLS → RP D) → List D → PLS → RP D}
end
section
variable {X : Cx} {W : WX} {cl : Glb} {C : Addr} {F0 F F1 : List Ft} {Hv0 H0 Hv Hv1 H : Hp} {own own1 own2 own3 : List Nat} {Dn : Ends} {pos p p1 p2 p3 : Pos} {a b c e tg iter : Expr} {es : List Expr} {fa fb : EE} {g : EA} {st : Stmt} {sts : List Stmt}
end
end Sm
namespace Sm
open PySem PySem.Spec L2
section
variable {X : Cx} {W : WX} {cl : Glb} {C : Addr} {own : List Nat} {pos p p1 p2 p3 apos cpos : Pos} {a e o : Expr} {fa : DE}
end
section
variable {X : Cx} {W : WX} {cl : Glb} {C : Addr} {own : List Nat} {pos p p1 p2 p3 apos cpos : Pos} {a e o : Expr} {fa : DE}
end
section
variable {X : Cx} {W : WX} {cl : Glb} {C : Addr} {F0 F F1 : List Ft} {Hv0 H0 Hv Hv1 H : Hp} {own own1 own2 own3 : List Nat} {Dn : Ends} {pos pos' p p1 p2 p3 p4 apos : Pos} {a b c e o tg iter : Expr} {es : List Expr} {fa fb : EE} {g : EA} {st : Stmt} {sts : List Stmt} {ρ : Env} {σ : St} {ps : PLS}
end
end Sm
namespace Sm
open PySem PySem.Spec L2
section
variable {K : PySem.W.Frag} {cl : Glb} {Hv0 H0 Hv H Hv' H' : Hp}
theorem RO.ext : ∀ {bs : List Bool} {H0 : Hp} {vs : List V} {ds : List D}, RO K cl Hv H bs H0 vs ds → Ext cl Hv H Hv' H' → RO K cl Hv' H' bs H0 vs ds
  | [], _, [], [], _, _ => trivial
  | false :: bs, _, v :: vs, d :: ds, h, e => ⟨h.1.mono e.vv, RO.ext h.2 e⟩
  | true :: bs, _, v :: vs, d :: ds, ⟨p, o, H2, e0, h1, h2, h3, h4, h5, h6, h7⟩, e => ⟨p, o, H2, e0, h1, h2, h3, e.old p o h5 h4, e.hh p o h5 h6.tbl, h6.mono e.vv, RO.ext h7 e⟩
  | [], _, _ :: _, _, h, _ => h.elim
  | [], _, [], _ :: _, h, _ => h.elim
  | true :: _, _, [], _, h, _ => h.elim
  | true :: _, _, _ :: _, [], h, _ => h.elim
  | false :: _, _, [], _, h, _ => h.elim
  | false :: _, _, _ :: _, [], h, _ => h.elim
end
section
variable {X : Cx} {W : WX} {cl : Glb} {pos p : Pos} {a b c e : Expr} {es : List Expr} {fa fb : DE} {g g1 : DA} {own : List Nat} {fl : List Bool}
end
end Sm
namespace Sm
open PySem PySem.Spec L2
section
variable {K : PySem.W.Frag} {cl : Glb} {H Hv : Hp} {a : Addr} {x y : HO}
end
section
variable {X : Cx} {W : WX} {cl : Glb} {st : Stmt} {f : DS} {own : List Nat}
end
end Sm
namespace Sm
open PySem PySem.Spec L2 PyProof.Rows
section
variable {P : Program} {w : World} {A : Around} {E : Value → Shared → Prop} {z : Shared}
end
section
variable {X : Cx} {W : WX} {cl : Glb}
end
end Sm
namespace Sm
open PySem PySem.Spec L2
abbrev PLB := List D
def Ft.one (f : Ft) : List Addr := [f.x]
def feetB (F : List Ft) : List Addr := F.flatMap Ft.one
theorem mem_feetB {F : List Ft} {b : Addr} : b ∈ feetB F ↔ ∃ f ∈ F, b ∈ f.one := by unfold feetB; exact List.mem_flatMap
structure BxAt (K : PySem.W.Frag) (cl : Glb) (C : Addr) (Hv H : Hp) (f : Ft) (d : D) : Prop where
  own : ∃ o, H f.x = some o ∧ OwnO K cl Hv o d
  hid : ∀ a ∈ f.one, Hv a = none
section
variable {K : PySem.W.Frag} {cl : Glb} {C : Addr} {Hv H Hv' H' : Hp}
theorem BxAt.full {f : Ft} {q : D} (h : BxAt K cl C Hv H f q) : ∀ a ∈ f.one, ∃ o, H a = some o ∧ isTbl o = false := fun a ha => by
  obtain ⟨o, h1, h2⟩ := h.own
  rw [List.mem_singleton.mp ha]
  exact ⟨o, h1, h2.tbl⟩
theorem BxAt.mono {f : Ft} {q : D} (h : BxAt K cl C Hv H f q) (hs : ∀ a ∈ f.one, ∀ o, H a = some o → isTbl o = false → H' a = some o) (hv : Sam Hv Hv') (hn : ∀ a ∈ f.one, Hv' a = none) : BxAt K cl C Hv' H' f q := by
  obtain ⟨o, h1, h2⟩ := h.own
  exact ⟨⟨o, hs f.x (by simp [Ft.one]) _ h1 h2.tbl, h2.mono hv⟩, hn⟩
end
inductive RPB (α : Type) where
  | ok (a : α) (ps : PLB) | err (c : Nat) (ps : PLB) | bad
def RPB.bind {α β : Type} : RPB α → (α → PLB → RPB β) → RPB β
  | .ok a ps, k => k a ps
  | .err c ps, _ => .err c ps
  | .bad, _ => .bad
def R.upB {α : Type} (ps : PLB) : R α → RPB α
  | .ok a => .ok a ps
  | .err c => .err c ps
  | .bad => .bad
section
variable {K : PySem.W.Frag} {cl : Glb} {F F' : List Ft}
end
structure ExtEB (cl : Glb) (F : List Ft) (Hv H : Hp) (F' : List Ft) (Hv' H' : Hp) : Prop where
  hh : ∀ b o, H b = some o → isTbl o = false → b ∉ feetB F → H' b = some o
  vv : Sam Hv Hv'
  vh : Vw cl Hv' H'
  old : ∀ b o, H b = some o → Hv b = none → Hv' b = none
  dom : ∀ b, H' b = none → H b = none
  tt : ∀ b ps, H b = some (.tbl ps) → ∃ ps', H' b = some (.tbl ps')
  ob : ∀ k a, obA F k a → obA F' k a
  ft : ∀ b, b ∈ feetB F' → b ∈ feetB F ∨ H b = none
section
variable {K : PySem.W.Frag} {cl : Glb} {F F1 F2 F' : List Ft} {Hv H Hv1 H1 Hv2 H2 Hv' H' : Hp}
theorem ExtEB.refl (v : Vw cl Hv H) : ExtEB cl F Hv H F Hv H := ⟨fun _ _ h _ _ => h, Sam.refl _, v, fun _ _ _ h => h, fun _ h => h, fun _ ps h => ⟨ps, h⟩, fun _ _ h => h, fun _ h => .inl h⟩
theorem ExtEB.trans (a : ExtEB cl F Hv H F1 Hv1 H1) (b : ExtEB cl F1 Hv1 H1 F2 Hv2 H2) : ExtEB cl F Hv H F2 Hv2 H2 where
  hh := fun c o h n hf => b.hh c o (a.hh c o h n hf) n fun z => (a.ft c z).elim hf fun y => by rw [h] at y; cases y
  vv := a.vv.trans b.vv
  vh := b.vh
  old := fun c o h n => by
    cases q : H1 c with
    | none => rw [a.dom c q] at h; cases h
    | some u => exact b.old c u q (a.old c o h n)
  dom := fun c h => a.dom c (b.dom c h)
  tt := fun c ps h => let ⟨ps', h'⟩ := a.tt c ps h; b.tt c ps' h'
  ob := fun k x h => b.ob k x (a.ob k x h)
  ft := fun c h => by
    rcases b.ft c h with h | h
    · exact a.ft c h
    · exact .inr (a.dom c h)
theorem ExtEB.of (e : Ext (cl.at F) Hv H Hv' H') : ExtEB cl F Hv H F Hv' H' := ⟨fun b o h n _ => e.hh b o h n, e.vv, e.vh.un, e.old, e.dom, e.tt, fun _ _ h => h, fun _ h => .inl h⟩
theorem Rep.eb {v : V} {d : D} (r : Rep K (cl.at F) Hv v d) (e : ExtEB cl F Hv H F' Hv' H') : Rep K (cl.at F') Hv' v d := (r.ob e.ob).mono e.vv
theorem Reps.eb {v : List V} {d : List D} (r : Reps K (cl.at F) Hv v d) (e : ExtEB cl F Hv H F' Hv' H') : Reps K (cl.at F') Hv' v d := (r.ob e.ob).mono e.vv
theorem ER.eb {ρ : Env} {σ : St} (r : ER K (cl.at F) Hv ρ σ) (e : ExtEB cl F Hv H F' Hv' H') : ER K (cl.at F') Hv' ρ σ := ⟨fun i d h => let ⟨v, h1, h2⟩ := r.get i d h; ⟨v, h1, h2.eb e⟩, r.len⟩
end
structure PlsB (K : PySem.W.Frag) (cl : Glb) (C : Addr) (F : List Ft) (ps : PLB) (Hv H : Hp) : Prop where
  len : F.length = ps.length
  pl : ∀ (k : Nat) f q, F[k]? = some f → ps[k]? = some q → BxAt K (cl.at F) C Hv H f q
  nd : (feetB F).Nodup
  ob0 : ∀ k a, cl.ob k a → obA F k a
section
variable {K : PySem.W.Frag} {cl : Glb} {C : Addr} {F F1 F2 F' : List Ft} {Hv H Hv1 H1 Hv2 H2 Hv' H' : Hp} {ps : PLB}
theorem PlsB.get (h : PlsB K cl C F ps Hv H) {k : Nat} {f : Ft} (hf : F[k]? = some f) : ∃ q, ps[k]? = some q ∧ BxAt K (cl.at F) C Hv H f q := by
  have hk := (List.getElem?_eq_some_iff.mp hf).1
  have hk2 : k < ps.length := by rw [← h.len]; exact hk
  have : ps[k]? = some ps[k] := by simp [hk2]
  exact ⟨_, this, h.pl k f _ hf this⟩
theorem PlsB.foot (h : PlsB K cl C F ps Hv H) {b : Addr} (hb : b ∈ feetB F) : Hv b = none ∧ ∃ o, H b = some o ∧ isTbl o = false := by
  obtain ⟨f, hf, hb⟩ := mem_feetB.mp hb
  obtain ⟨k, hk⟩ := List.getElem?_of_mem hf
  obtain ⟨q, _, hp⟩ := h.get hk
  exact ⟨hp.hid b hb, hp.full b hb⟩
theorem PlsB.ext (h : PlsB K cl C F ps Hv H) (e : Ext (cl.at F) Hv H Hv' H') : PlsB K cl C F ps Hv' H' := ⟨h.len, fun k f q hf hq => (h.pl k f q hf hq).mono (fun a _ o ha n => e.hh a o ha n) e.vv (fun a ha => by
  obtain ⟨o, ho, _⟩ := (h.pl k f q hf hq).full a ha
  exact e.old a o ho ((h.pl k f q hf hq).hid a ha)), h.nd, h.ob0⟩
theorem PlsB.at_obj (h : PlsB K cl C F ps Hv H) {k : Nat} {a : Addr} (ho : (cl.at F).ob k a) : ∃ f q, F[k]? = some f ∧ f.x = a ∧ ps[k]? = some q ∧ BxAt K (cl.at F) C Hv H f q := by
  have ho : (F[k]?).map Ft.x = some a := ho
  rw [Option.map_eq_some_iff] at ho
  obtain ⟨f, hf, hx⟩ := ho
  obtain ⟨q, hq, hp⟩ := h.get hf
  exact ⟨f, q, hf, hx, hq, hp⟩
end
section
variable (K : PySem.W.Frag) (cl : Glb) (C : Addr) (W : WX) (σ : St)
def PstEB {α : Type} (F : List Ft) (Hv H : Hp) (T : List Ft → Hp → Hp → α → Prop) : RPB α → Prop
  | .ok a ps => ∀ F' Hv' H', ExtEB cl F Hv H F' Hv' H' → PlsB K cl C F' ps Hv' H' → T F' Hv' H' a
  | .err c ps => ∀ F' Hv' H', ExtEB cl F Hv H F' Hv' H' → PlsB K cl C F' ps Hv' H' → W (.ref (cl.c c)) none σ H'
  | .bad => False
end
section
variable {K : PySem.W.Frag} {cl : Glb} {C : Addr} {W : WX} {σ : St} {F F1 : List Ft} {Hv H Hv1 H1 : Hp} {α β : Type}
theorem PstEB.ext {T : List Ft → Hp → Hp → α → Prop} {r : RPB α} (h : PstEB K cl C W σ F Hv H T r) (e : ExtEB cl F Hv H F1 Hv1 H1) : PstEB K cl C W σ F1 Hv1 H1 T r := by
  cases r with
  | ok d ps => exact fun F' Hv' H' e' => h F' Hv' H' (e.trans e')
  | err c ps => exact fun F' Hv' H' e' => h F' Hv' H' (e.trans e')
  | bad => exact h
theorem up_pstB {T : List Ft → Hp → Hp → α → Prop} {r : R α} {ps : PLB} (pl : PlsB K cl C F ps Hv H) (h : PstEB K cl C W σ F Hv H T (r.upB ps)) : Pst (cl.at F) W σ Hv H (fun Hv' H' a => T F Hv' H' a) r := by
  cases r with
  | ok d => exact fun Hv' H' e => h F Hv' H' (.of e) (pl.ext e)
  | err c => exact fun Hv' H' e => h F Hv' H' (.of e) (pl.ext e)
  | bad => exact h
end
def TVeB (K : PySem.W.Frag) (cl : Glb) (Q : VK) : List Ft → Hp → Hp → D → Prop := fun F Hv H d => ∀ v, Rep K (cl.at F) Hv v d → Q v H
def TBeB (Q : Bool → Hp → Prop) : List Ft → Hp → Hp → Bool → Prop := fun _ _ H b => Q b H
abbrev EEB := Env → PLB → RPB D
abbrev EAB := Env → PLB → RPB (List D)
abbrev ETB := Env → PLB → RPB Bool
section
variable (X : Cx) (W : WX) (cl : Glb) (C : Addr)
def RunTeB (f : ETB) (t : TT) : Prop := ∀ (F : List Ft) (Hv H : Hp) (σ : St) (ρ : Env) (ps : PLB) (Q : Bool → Hp → Prop), Vw cl Hv H → PlsB X.K cl C F ps Hv H → ER X.K (cl.at F) Hv ρ σ → PstEB X.K cl C W σ F Hv H (TBeB Q) (f ρ ps) → t σ H Q
def STeB (e : Expr) (f : ETB) : Prop := ∃ t, L2.PT X e t ∧ RunTeB X W cl C f t
def SWeB (e : Expr) (f : ETB) : Prop := ∃ t, PW X e t ∧ RunTeB X W cl C f t
end
section
variable {X : Cx} {W : WX} {cl : Glb} {C : Addr} {pos p : Pos} {a b c e : Expr} {es : List Expr} {fa fb fc : EEB} {g : EAB}
theorem SWeB.st {f : ETB} (h : SWeB X W cl C e f) : STeB X W cl C e f := by
  obtain ⟨t, pt, h⟩ := h
  exact ⟨t, pt.pt, h⟩
end
inductive OEB where
  | nx (ρ : Env) (ps : PLB) | ret (d : D) (ps : PLB) | err (ρ : Env) (c : Nat) (ps : PLB) | bad
abbrev DSeB := Env → PLB → OEB
def OEB.seq : OEB → DSeB → OEB
  | .nx ρ ps, k => k ρ ps
  | .ret d ps, _ => .ret d ps
  | .err ρ c ps, _ => .err ρ c ps
  | .bad, _ => .bad
def RPB.to {α : Type} (ρ : Env) : RPB α → (α → PLB → OEB) → OEB
  | .ok a ps, k => k a ps
  | .err c ps, _ => .err ρ c ps
  | .bad, _ => .bad
def O.upB (ps : PLB) : O → OEB
  | .nx ρ => .nx ρ ps
  | .ret d => .ret d ps
  | .err ρ c => .err ρ c ps
  | .bad => .bad
structure SReB (K : PySem.W.Frag) (cl : Glb) (C : Addr) (F0 : List Ft) (Hv0 H0 : Hp) (own : List Nat) (ρ : Env) (σ : St) (ps : PLB) (F : List Ft) (Hv H : Hp) : Prop where
  ext : ExtEB cl F0 Hv0 H0 F Hv H
  pls : PlsB K cl C F ps Hv H
  len : ρ.length = σ.length
  sh : ∀ (i : Nat) d, i ∉ own → ρ[i]? = some (some d) → ∃ v, σ[i]? = some (some v) ∧ Rep K (cl.at F) Hv v d
  ow : ∀ i, i ∈ own → ∃ p d, ρ[i]? = some (some d) ∧ σ[i]? = some (some (.ref p)) ∧ Hv p = none ∧ H0 p = none ∧ p ∉ feetB F ∧ OwnR K (cl.at F) Hv H p d
  ap : ∀ (i j : Nat) p, i ∈ own → j ∈ own → σ[i]? = some (some (.ref p)) → σ[j]? = some (some (.ref p)) → i = j
section
variable {K : PySem.W.Frag} {cl : Glb} {C : Addr} {F0 F F' : List Ft} {Hv0 H0 Hv H Hv' H' : Hp} {own own' : List Nat} {ρ ρ' : Env} {σ σ' : St} {ps ps' : PLB}
theorem SReB.isOw (s : SReB K cl C F0 Hv0 H0 own ρ σ ps F Hv H) {b : Addr} (h : IsOw own σ b) : Hv b = none ∧ H0 b = none ∧ b ∉ feetB F := by
  obtain ⟨i, hi, e⟩ := h
  obtain ⟨p, d, _, e2, e3, e4, e5, _⟩ := s.ow i hi
  rw [e] at e2; cases e2
  exact ⟨e3, e4, e5⟩
theorem SReB.sr (s : SReB K cl C F0 Hv0 H0 own ρ σ ps F Hv H) : SR K (cl.at F) Hv (lessH own σ H) own ρ σ Hv H where
  ext := ⟨fun b o h _ => (less_some h).2, Sam.refl _, s.ext.vh.at, fun b o h n => n, fun b h => by
    by_cases z : IsOw own σ b
    · exact less_ow z
    · rw [less_no z]; exact h, fun b ps h => ⟨ps, (less_some h).2⟩⟩
  len := s.len
  sh := s.sh
  ow := fun i hi => by
    obtain ⟨p, d, e1, e2, e3, e4, e5, e6⟩ := s.ow i hi
    exact ⟨p, d, e1, e2, e3, less_ow ⟨i, hi, e2⟩, e6⟩
  ap := s.ap
theorem SReB.backX (s : SReB K cl C F0 Hv0 H0 own ρ σ ps F Hv H) (e : Ext (cl.at F) Hv (lessH own σ H) Hv' H') : ExtEB cl F0 Hv0 H0 F Hv' H' ∧ PlsB K cl C F ps Hv' H' := by
  have no : ∀ {b o}, H0 b = some o → ¬ IsOw own σ b := fun {b o} h z => by rw [(s.isOw z).2.1] at h; cases h
  have fo : ∀ {b}, b ∈ feetB F → ¬ IsOw own σ b := fun {b} h z => (s.isOw z).2.2 h
  refine ⟨⟨fun b o h n hf => ?_, s.ext.vv.trans e.vv, e.vh.un, fun b o h n => ?_, fun b h => ?_, fun b ps h => ?_, s.ext.ob, s.ext.ft⟩, ⟨s.pls.len, fun k f q hf hq => ?_, s.pls.nd, s.pls.ob0⟩⟩
  · exact e.hh b o (by rw [less_no (no h)]; exact s.ext.hh b o h n hf) n
  · cases q : H b with
    | none => rw [s.ext.dom b q] at h; cases h
    | some u => exact e.old b u (by rw [less_no (no h)]; exact q) (s.ext.old b o h n)
  · have := e.dom b h
    by_cases z : IsOw own σ b
    · exact (s.isOw z).2.1
    · rw [less_no z] at this
      exact s.ext.dom b this
  · obtain ⟨ps', h'⟩ := s.ext.tt b ps h
    exact e.tt b ps' (by rw [less_no (no h)]; exact h')
  · have mf : ∀ a ∈ f.one, a ∈ feetB F := fun a ha => mem_feetB.mpr ⟨f, List.mem_of_getElem? hf, ha⟩
    refine (s.pls.pl k f q hf hq).mono (fun a ha o h n => e.hh a o (by rw [less_no (fo (mf a ha))]; exact h) n) e.vv fun a ha => ?_
    obtain ⟨hv, o, ho, _⟩ := s.pls.foot (mf a ha)
    exact e.old a o (by rw [less_no (fo (mf a ha))]; exact ho) hv
theorem SReB.back (s : SReB K cl C F0 Hv0 H0 own ρ σ ps F Hv H) (r : SR K (cl.at F) Hv (lessH own σ H) own' ρ' σ' Hv' H') : SReB K cl C F0 Hv0 H0 own' ρ' σ' ps F Hv' H' := by
  obtain ⟨e1, e2⟩ := s.backX r.ext
  refine ⟨e1, e2, r.len, r.sh, fun i hi => ?_, r.ap⟩
  obtain ⟨p, d, a1, a2, a3, a4, a5⟩ := r.ow i hi
  refine ⟨p, d, a1, a2, a3, ?_, fun hf => ?_, a5⟩
  · by_cases z : IsOw own σ p
    · exact (s.isOw z).2.1
    · rw [less_no z] at a4
      exact s.ext.dom p a4
  · obtain ⟨_, o, ho, _⟩ := s.pls.foot hf
    rw [less_no fun z => (s.isOw z).2.2 hf, ho] at a4
    cases a4
theorem SReB.er (s : SReB K cl C F0 Hv0 H0 own ρ σ ps F Hv H) : ER K (cl.at F) Hv (mask own ρ) σ := s.sr.er
theorem SReB.step (s : SReB K cl C F0 Hv0 H0 own ρ σ ps F Hv H) (e : ExtEB cl F Hv H F' Hv' H') (pl : PlsB K cl C F' ps' Hv' H') : SReB K cl C F0 Hv0 H0 own ρ σ ps' F' Hv' H' where
  ext := s.ext.trans e
  pls := pl
  len := s.len
  sh := fun i d h1 h2 => let ⟨v, h3, h4⟩ := s.sh i d h1 h2; ⟨v, h3, h4.eb e⟩
  ow := fun i hi => by
    obtain ⟨p, d, h1, h2, h3, h4, h5, o, h6, h7⟩ := s.ow i hi
    refine ⟨p, d, h1, h2, e.old p _ h6 h3, h4, fun hf => (e.ft p hf).elim h5 fun z => (by rw [h6] at z; cases z), o, e.hh _ _ h6 h7.tbl h5, ?_⟩
    cases h7 with
    | lst z r => exact .lst z (r.eb e)
    | dct z r => exact .dct z ((r.ob e.ob).mono e.vv)
  ap := s.ap
theorem SReB.freeze (s : SReB K cl C F0 Hv0 H0 own ρ σ ps F Hv H) (hs : ∀ i ∈ own', i ∈ own) : SReB K cl C F0 Hv0 H0 own' ρ σ ps F (thaw own own' σ Hv H) H ∧ Sam Hv (thaw own own' σ Hv H) := by
  obtain ⟨h1, h2⟩ := s.sr.freeze hs
  exact ⟨s.back h1, h2⟩
end
section
variable (X : Cx) (W : WX) (cl : Glb) (C : Addr)
def PSOeB (F0 : List Ft) (Hv0 H0 : Hp) (own : List Nat) (F : List Ft) (Hv : Hp) (Dn : Ends) : OEB → Prop
  | .nx ρ' ps' => ∀ σ' F' Hv' H', SReB X.K cl C F0 Hv0 H0 own ρ' σ' ps' F' Hv' H' → Sam Hv Hv' → (∀ k a, obA F k a → obA F' k a) → σ'.length = X.N.length → Dn.nx σ' H'
  | .ret d ps' => ∀ v F' Hv' H', ExtEB cl F0 Hv0 H0 F' Hv' H' → PlsB X.K cl C F' ps' Hv' H' → Rep X.K (cl.at F') Hv' v d → Dn.rt v H'
  | .err ρ' c ps' => ∀ σ' F' Hv' H', SReB X.K cl C F0 Hv0 H0 [] ρ' σ' ps' F' Hv' H' → Sam Hv Hv' → (∀ k a, obA F k a → obA F' k a) → σ'.length = X.N.length → W (.ref (cl.c c)) none σ' H'
  | .bad => False
def RunSeB (own own' : List Nat) (f : DSeB) (t : TS) : Prop := ∀ (F0 : List Ft) (Hv0 H0 : Hp) (ρ : Env) (σ : St) (ps : PLB) (F : List Ft) (Hv H : Hp) (Dn : Ends), SReB X.K cl C F0 Hv0 H0 own ρ σ ps F Hv H → σ.length = X.N.length → PSOeB X W cl C F0 Hv0 H0 own' F Hv Dn (f ρ ps) → t Dn σ H
def SSeB (own own' : List Nat) (st : Stmt) (f : DSeB) : Prop := ∃ t, PS X st t ∧ RunSeB X W cl C own own' f t
def SSesB (own own' : List Nat) (st : List Stmt) (f : DSeB) : Prop := ∃ t, PSs X st t ∧ RunSeB X W cl C own own' f t
end
section
variable {X : Cx} {W : WX} {cl : Glb} {C : Addr} {F0 F F1 : List Ft} {Hv0 H0 Hv Hv1 H : Hp} {own own1 own2 own3 : List Nat} {Dn : Ends} {pos p : Pos} {a b c e tg iter : Expr} {es : List Expr} {fa fb : EEB} {g : EAB} {st : Stmt} {sts : List Stmt}
theorem PSOeB.mono {r : OEB} (h : PSOeB X W cl C F0 Hv0 H0 own F Hv Dn r) (s : Sam Hv Hv1) (so : ∀ k a, obA F k a → obA F1 k a) : PSOeB X W cl C F0 Hv0 H0 own F1 Hv1 Dn r := by
  cases r with
  | nx ρ ps => exact fun σ' F' Hv' H' sr sm ob hl => h σ' F' Hv' H' sr (s.trans sm) (fun k a z => ob k a (so k a z)) hl
  | ret d ps => exact h
  | err ρ c ps => exact fun σ' F' Hv' H' sr sm ob hl => h σ' F' Hv' H' sr (s.trans sm) (fun k a z => ob k a (so k a z)) hl
  | bad => exact h
theorem PSOeB.less {r : OEB} (h : PSOeB X W cl C F0 Hv0 H0 own2 F Hv Dn r) (hs : ∀ i ∈ own2, i ∈ own1) : PSOeB X W cl C F0 Hv0 H0 own1 F Hv Dn r := by
  cases r with
  | nx ρ ps =>
    intro σ' F' Hv' H' sr sm ob hl
    obtain ⟨s1, s2⟩ := sr.freeze hs
    exact h σ' F' _ H' s1 (sm.trans s2) ob hl
  | ret d ps => exact h
  | err ρ c ps => exact h
  | bad => exact h
theorem SSeB.pre {f : DSeB} (h : SSeB X W cl C own1 own2 st f) (hs : sub own1 own = true := by rfl) : SSeB X W cl C own own2 st f := by
  obtain ⟨t, pt, h⟩ := h
  refine ⟨t, pt, fun F0 Hv0 H0 ρ σ ps F Hv H Dn sr hl po => ?_⟩
  obtain ⟨s1, s2⟩ := sr.freeze (sub_mem hs)
  exact h F0 Hv0 H0 ρ σ ps F _ H Dn s1 hl (po.mono s2 fun _ _ z => z)
theorem SSesB.post {f : DSeB} (h : SSesB X W cl C own own1 sts f) (hs : sub own2 own1 = true := by rfl) : SSesB X W cl C own own2 sts f := by
  obtain ⟨t, pt, h⟩ := h
  exact ⟨t, pt, fun F0 Hv0 H0 ρ σ ps F Hv H Dn sr hl po => h F0 Hv0 H0 ρ σ ps F Hv H Dn sr hl (po.less (sub_mem hs))⟩
end
section
variable {X : Cx} {W : WX} {cl : Glb} {C : Addr} {F0 F F1 : List Ft} {Hv0 H0 Hv Hv1 H : Hp} {own own1 own2 own3 : List Nat} {Dn : Ends} {pos p : Pos} {a b c e o tg iter : Expr} {es : List Expr} {fa fb : EEB} {g : EAB} {st : Stmt} {sts : List Stmt}
end
def spEB (K : PySem.W.Frag) (cl : Glb) (C : Addr) (n : Nat) (Fd : List D → PLB → RPB D) : Sp := fun vs H Q E => vs.length = n ∧ ∃ F Hv ds ps, Vw cl Hv H ∧ PlsB K cl C F ps Hv H ∧ Reps K (cl.at F) Hv vs ds ∧ PstEB K cl C (fun c d _ H => E c d H) [] F Hv H (TVeB K cl Q) (Fd ds ps)
section
variable {P : Program} {w : World} {K : PySem.W.Frag} {mg : Str → Option Value} {base : Heap} {cl : Glb} {C : Addr}
end
structure FnAB (P : Program) (w : World) (K : PySem.W.Frag) (mg : Str → Option Value) (base : Heap) (cl : Glb) (C : Addr) (k : Nat) (x : Str) (n : Nat) (Fd : List D → PLB → RPB D) : Prop where
  ex : ∃ f, FnR P w K mg base (L2.CX P w) k f (spEB K cl C n Fd) ∧ mg x = some (.ref f) ∧ PySem.W.keepIn K (.ref f) = true
section
variable {P : Program} {w : World} {K : PySem.W.Frag} {mg : Str → Option Value} {base : Heap} {cl : Glb} {C : Addr} {k n m : Nat} {x q : Str}
theorem FnAB.mono {k' : Nat} {Fd : List D → PLB → RPB D} (h : FnAB P w K mg base cl C k x n Fd) (hk : k ≤ k') : FnAB P w K mg base cl C k' x n Fd := let ⟨f, h1, h2, h3⟩ := h.ex; ⟨f, h1.mono hk, h2, h3⟩
def upFB (Fp : List D → R D) : List D → PLB → RPB D := fun ds ps => (Fp ds).upB ps
theorem FnAB.of {Fp : List D → R D} (G : ∀ F, Fn P w K mg base (cl.at F) k x n Fp) : FnAB P w K mg base cl C k x n (upFB Fp) := by
  obtain ⟨f, fd, ps, h1, h2, h3, h4, h5⟩ := G []
  refine ⟨f, ?_, h2, h3⟩
  intro A outer s H us vs Q E hr e0 r ⟨hl, F, Hv, ds, ps', vw, pl, rs, pv⟩
  obtain ⟨f', fd', ps'', g1, g2, g3, g4, g5⟩ := G F
  rw [h2] at g2; cases g2
  exact FnOk.rawN g1 g4 A outer s H us vs Q E hr e0 r ⟨hl, Hv, ds, vw.at, rs, up_pstB pl pv⟩
end
section
variable {X : Cx} {CX : CXT} {k : Nat} {f C : Addr} {sp : Sp} {E : St → XK} {x m : Str} {p pos apos : Pos} {e o : Expr} {es : List Expr} {ta : TE} {t : TA}
end
section
variable {X : Cx} {W : WX} {cl : Glb} {C : Addr} {pos p apos : Pos} {a b c e o : Expr} {es : List Expr} {fa fb : EEB} {g : EAB}
end
section
variable {X : Cx} {W : WX} {cl : Glb} {C : Addr} {F0 F F1 : List Ft} {Hv0 H0 Hv Hv1 H : Hp} {own own1 own2 own3 : List Nat} {Dn : Ends} {pos pos' p lp : Pos} {a b c e : Expr} {es : List Expr} {fa fb : EEB} {g : EAB} {st : Stmt} {sts : List Stmt}
end
end Sm
namespace Sm
open PySem PySem.Spec L2
section
variable {K : PySem.W.Frag} {cl : Glb} {C : Addr} {F F' : List Ft} {Hv H Hv' H' : Hp} {ps : PLB} {o o' : HO} {d d' : D} {p : Addr}
end
def objs : Nat → Nat → List D
  | _, 0 => []
  | m, n + 1 => .obj m :: objs (m + 1) n
section
variable {X : Cx} {W : WX} {cl : Glb} {C : Addr} {pos p lp apos : Pos} {a o e : Expr} {es : List Expr} {own : List Nat} {fo : DE} {fa : EEB}
end
mutual
def noOb : D → Bool
  | .obj _ => false
  | .tup xs => noObs xs
  | .lst xs => noObs xs
  | .dct es => noObp es
  | .dcl es => noObp es
  | _ => true
def noObs : List D → Bool
  | [] => true
  | x :: xs => noOb x && noObs xs
def noObp : List (D × D) → Bool
  | [] => true
  | (_, x) :: xs => noOb x && noObp xs
end
section
variable {K : PySem.W.Frag} {cl : Glb} {F : List Ft}
mutual
theorem Rep.no {H : Hp} : ∀ {v : V} {d : D}, Rep K (cl.at F) H v d → noOb d = true → Rep K cl H v d
  | _, _, .non, _ => .non
  | _, _, .bl b, _ => .bl b
  | _, _, .int i, _ => .int i
  | _, _, .str x, _ => .str x
  | _, _, .lst e n r, h => .lst e n (Reps.no r (by rw [noOb] at h; exact h))
  | _, _, .scr e n, _ => .scr e n
  | _, _, .scr0 e n, _ => .scr0 e n
  | _, _, .tup e n r, h => .tup e n (Reps.no r (by rw [noOb] at h; exact h))
  | _, _, .dctK e r, h => .dctK e (RepsK.no r (by rw [noOb] at h; exact h))
  | _, _, .dctT e n r, h => .dctT e n (RepsT.no r (by rw [noOb] at h; exact h))
  | _, _, .exc e, _ => .exc e
  | _, _, .fnv e, _ => .fnv e
  | _, _, .obj e, h => by rw [noOb] at h; cases h
  | _, _, .dclK e r, h => .dclK e (RepsK.no r (by rw [noOb] at h; exact h))
  | _, _, .dclT e n r, h => .dclT e n (RepsT.no r (by rw [noOb] at h; exact h))
  | _, _, .scr1 e n, _ => .scr1 e n
theorem Reps.no {H : Hp} : ∀ {v : List V} {d : List D}, Reps K (cl.at F) H v d → noObs d = true → Reps K cl H v d
  | _, _, .nil, _ => .nil
  | _, _, .cons r t, h => by
    rw [noObs, Bool.and_eq_true] at h
    exact .cons (Rep.no r h.1) (Reps.no t h.2)
theorem RepsK.no {H : Hp} : ∀ {v : List (L2.Key × V)} {d : List (D × D)}, RepsK K (cl.at F) H v d → noObp d = true → RepsK K cl H v d
  | _, _, .nil, _ => .nil
  | _, _, .cons r t, h => by
    rw [noObp, Bool.and_eq_true] at h
    exact .cons (Rep.no r h.1) (RepsK.no t h.2)
theorem RepsT.no {H : Hp} : ∀ {v : List (List L2.Key × V)} {d : List (D × D)}, RepsT K (cl.at F) H v d → noObp d = true → RepsT K cl H v d
  | _, _, .nil, _ => .nil
  | _, _, .cons r t, h => by
    rw [noObp, Bool.and_eq_true] at h
    exact .cons (Rep.no r h.1) (RepsT.no t h.2)
end
theorem OwnO.no {Hv : Hp} {o : HO} {d : D} (r : OwnO K (cl.at F) Hv o d) (h : noOb d = true) : OwnO K cl Hv o d := by
  cases r with
  | lst z r => exact .lst z (r.no (by rw [noOb] at h; exact h))
  | dct z r => exact .dct z (r.no (by rw [noOb] at h; exact h))
end
def opns (ps : PLB) : List D → Option (List D)
  | [] => some []
  | .obj k :: ds => match ps[k]?, opns ps ds with
    | some d, some r => if noOb d then some (d :: r) else none
    | _, _ => none
  | _ => none
def opn (ps : PLB) (d : D) : Option D := if noOb d then some d else match d with
  | .lst ds => (opns ps ds).map .lst
  | _ => none
def opnE (ps : PLB) (ρ : Env) : Env := ρ.map fun o => o.bind (opn ps)
open Classical in
noncomputable def shB (F : List Ft) (Hv H : Hp) : Hp := fun b => if b ∈ feetB F then H b else Hv b
theorem shB_in {F : List Ft} {Hv H : Hp} {b : Addr} (h : b ∈ feetB F) : shB F Hv H b = H b := if_pos h
theorem shB_no {F : List Ft} {Hv H : Hp} {b : Addr} (h : b ∉ feetB F) : shB F Hv H b = Hv b := if_neg h
section
variable {K : PySem.W.Frag} {cl : Glb} {C : Addr} {F : List Ft} {Hv0 H0 Hv H : Hp} {ρ : Env} {σ : St} {ps : PLB}
theorem sam_shB (pl : PlsB K cl C F ps Hv H) : Sam Hv (shB F Hv H) := fun b o h _ => by
  rw [shB_no fun z => ?_]
  · exact h
  · rw [(pl.foot z).1] at h; cases h
theorem opns_rep (pl : PlsB K cl C F ps Hv H) : ∀ {vs : List V} {ds r : List D}, Reps K (cl.at F) Hv vs ds → opns ps ds = some r → Reps K cl (shB F Hv H) vs r
  | _, _, _, .nil, h => by cases h; exact .nil
  | _, _, _, .cons (d := d) (ds := ds) rv t, h => by
    cases d with
    | obj k => ?_
    | _ => cases h
    rw [opns] at h
    cases rv with
    | obj hk => ?_
    obtain ⟨f, q, hf, hx, hq, ⟨o1, h1, h2⟩, hid⟩ := pl.at_obj hk
    subst hx
    rw [hq] at h
    cases w : opns ps ds with
    | none => rw [w] at h; cases h
    | some r' =>
      rw [w] at h
      simp only at h
      split at h
      · rename_i hn
        cases h
        have hi : f.x ∈ feetB F := mem_feetB.mpr ⟨f, List.mem_of_getElem? hf, by simp [Ft.one]⟩
        exact .cons (((h2.no hn).mono (sam_shB pl)).rep ((shB_in hi).trans h1)) (opns_rep pl t w)
      · cases h
theorem opn_rep (pl : PlsB K cl C F ps Hv H) {v : V} {d r : D} (rv : Rep K (cl.at F) Hv v d) (h : opn ps d = some r) : Rep K cl (shB F Hv H) v r := by
  unfold opn at h
  split at h
  · rename_i hn
    cases h
    exact (rv.no hn).mono (sam_shB pl)
  · cases d with
    | lst ds =>
      simp only [Option.map_eq_some_iff] at h
      obtain ⟨rs, h1, rfl⟩ := h
      cases rv with
      | lst e n t =>
        have := opns_rep pl t h1
        exact .lst (sam_shB pl _ _ e rfl) n this
    | _ => cases h
theorem SReB.open (s : SReB K cl C [] Hv0 H0 [] ρ σ ps F Hv H) : SR K cl Hv0 H0 [] (opnE ps ρ) σ (shB F Hv H) H := by
  have pl := s.pls
  have vw := s.ext.vh
  have sm := sam_shB pl
  have fr : ∀ b ∈ feetB F, H0 b = none := fun b hb => (s.ext.ft b hb).elim (fun z => by simp [feetB] at z) id
  refine ⟨⟨fun b o h n => s.ext.hh b o h n (by simp [feetB]), s.ext.vv.trans sm, ⟨fun b o h n => ?_, fun b h => ?_, fun b xs h => ?_, fun b o u h => ?_, vw.tab, fun b φ h => ?_⟩, fun b o h n => ?_, s.ext.dom, s.ext.tt⟩, by rw [opnE, List.length_map]; exact s.len, fun i d _ h => ?_, fun i hi => (by cases hi), fun i j p hi => (by cases hi)⟩
  · by_cases z : b ∈ feetB F
    · rw [shB_in z] at h; exact h
    · rw [shB_no z] at h; exact vw.s b o h n
  · by_cases z : b ∈ feetB F
    · rw [shB_in z]; exact h
    · rw [shB_no z]; exact vw.d b h
  · by_cases z : b ∈ feetB F
    · rw [shB_in z]; exact h
    · rw [shB_no z]; exact vw.t b xs h
  · by_cases z : b ∈ feetB F
    · rw [shB_in z]; exact h
    · rw [shB_no z]; exact vw.z b o u h
  · by_cases z : b ∈ feetB F
    · rw [shB_in z]; exact h
    · rw [shB_no z]; exact vw.x b φ h
  · rw [shB_no fun z => ?_]
    · exact s.ext.old b o h n
    · rw [fr b z] at h; cases h
  · unfold opnE at h
    rw [List.getElem?_map, Option.map_eq_some_iff] at h
    obtain ⟨u, h1, h2⟩ := h
    rw [Option.bind_eq_some_iff] at h2
    obtain ⟨d', rfl, h3⟩ := h2
    obtain ⟨v, e1, e2⟩ := s.sh i d' (by simp) h1
    exact ⟨v, e1, opn_rep pl e2 h3⟩
end
section
variable {X : Cx} {W : WX} {cl : Glb} {C : Addr} {own1 own2 own3 : List Nat} {s1 s2 : Stmt} {sts : List Stmt} {f1 f2 : DSeB} {g : DS}
end
end Sm
namespace Sm
open PySem PySem.Spec L2
def strsOf : List D → Option (List Str)
  | [] => some []
  | .str x :: ds => (strsOf ds).map fun ys => x :: ys
  | _ => none
def oJoin : D → D → Option D
  | .str a, .lst ds => (strsOf ds).bind fun ys => if (ys.map (·.length)).sum + ys.length * a.length ≤ 16777216 then some (.str (Txt.join a ys)) else none
  | _, _ => none
section
variable {K : PySem.W.Frag} {cl : Glb} {Hv : Hp}
theorem strs_rep : ∀ {ds : List D} {vs : List V} {ys : List Str}, Reps K cl Hv vs ds → strsOf ds = some ys → vs = ys.map V.str
  | _, _, _, .nil, h => by cases h; rfl
  | _, _, _, .cons (d := d) (ds := ds) r t, h => by
    cases d with
    | str x => ?_
    | _ => cases h
    rw [strsOf, Option.map_eq_some_iff] at h
    obtain ⟨ys, h1, rfl⟩ := h
    cases r
    rw [strs_rep t h1]
    rfl
end
section
variable {X : Cx} {W : WX} {cl : Glb} {pos apos : Pos} {o e : Expr} {fa fb : DE}
def dS1 (o : D → D → Option D) (f g : DE) : DE := fun ρ => (f ρ).bind fun a => match a with
  | .str x => (g ρ).bind fun b => ofO (o (.str x) b)
  | _ => .bad
theorem s1_run {om : D → D → Option D} {r : V → List V → Hp → VK → Prop} {ta tb : TE} (ha : RunE X W cl fa ta) (hb : RunE X W cl fb tb)
    (hr : ∀ (Hv H : Hp) (a : Str) (u : V) (b d : D) (Q : VK), Vw cl Hv H → Rep X.K cl Hv u b → om (.str a) b = some d → (∀ v Hv' H', Ext cl Hv H Hv' H' → Rep X.K cl Hv' v d → Q v H') → r (.str a) [u] H Q) : RunE X W cl (dS1 om fa fb) (tM1 r ta tb) := by
  intro Hv H σ ρ Q vw er pv
  refine ha Hv H σ ρ _ vw er (bindP pv fun x Hv1 H1 _ e1 pv1 v rv => ?_)
  cases x with
  | str a =>
    cases rv
    refine ⟨⟨a, rfl⟩, ?_⟩
    refine hb Hv1 H1 σ ρ _ e1.vh (er.mono e1.vv) (bindP pv1 fun y Hv2 H2 _ e2 pv2 u ru => ?_)
    obtain ⟨d, ed, q⟩ := ofO_ok pv2
    exact hr Hv2 H2 a u y d Q e2.vh ru ed fun v' Hv' H' e' r' => q _ _ e' v' r'
  | _ => exact pv1.elim
theorem se_join (ha : SE X W cl o fa) (hb : SE X W cl e fb) (hs : starEach [e] X.env = [(false, eval e X.env)] := by rfl) (hbase : attributeBase o "join" X.env (eval o X.env) = eval o X.env := by rfl) (hline : (apos.endLine == pos.line) = true := by rfl) :
    SE X W cl (.Call (.Attribute o "join" apos) [e] [] pos) (dS1 oJoin fa fb) := by
  obtain ⟨ta, pa, ha⟩ := ha
  obtain ⟨tb, pb, hb⟩ := hb
  refine ⟨_, pe_join pa pb hs hbase hline, s1_run ha hb fun Hv H a u b d Q vw ru ed q => ?_⟩
  cases b with
  | lst ds => ?_
  | _ => cases ed
  simp only [oJoin, Option.bind_eq_some_iff] at ed
  obtain ⟨ys, h1, h2⟩ := ed
  split at h2
  · rename_i hz
    cases h2
    cases ru with
    | lst s z r =>
      have := strs_rep r h1
      subst this
      exact ⟨a, _, ys, rfl, rfl, .inl (.inl (.inl (vw.s _ _ s rfl))), hz, q _ _ _ (Ext.refl vw) (.str _)⟩
  · cases h2
def oInS : D → D → Option D
  | .str a, .str b => some (.bl (!(Builtin.Str.occurrences b a 0 b.length 1).isEmpty))
  | _, _ => none
theorem os_inS : OpS X cl (compareOp .In) oInS := by
  refine ⟨_, op_in_str, fun Hv H x y a b d Q vw rx ry e q => ?_⟩
  cases a with
  | str a => ?_
  | _ => cases e
  cases b with
  | str b => ?_
  | _ => cases e
  cases e
  cases rx
  cases ry
  exact ⟨a, b, rfl, rfl, q _ _ _ (Ext.refl vw) (.bl _)⟩
end
end Sm
namespace Sm
open PySem PySem.Spec L2
theorem oAdd_ii (i j : Int) : oAdd (.int i) (.int j) = some (.int (i + j)) := rfl
theorem oNe_int (i j : Int) : oNe (.int i) (.int j) = some (.bl (!(i == j))) := by simp [oNe, pln, deq]
theorem oEq_int (i j : Int) : oEq (.int i) (.int j) = some (.bl (i == j)) := by simp [oEq, pln, deq]
def Sz (n : Nat) (q : Rat) : Prop := q.num.natAbs < 2 ^ n ∧ q.den < 2 ^ n
theorem log2_lt {x n : Nat} (h : x < 2 ^ n) (hn : 0 < n) : x.log2 < n := by
  by_cases h0 : x = 0
  · subst h0; simpa using hn
  · exact (Nat.log2_lt h0).mpr h
theorem divInt_sz {u d : Int} {m n : Nat} (hd : d ≠ 0) (hu : u.natAbs < 2 ^ m) (h : d.natAbs < 2 ^ n) : (Rat.divInt u d).num.natAbs < 2 ^ m ∧ (Rat.divInt u d).den < 2 ^ n := by
  rw [Rat.num_divInt, Rat.den_divInt, if_neg hd]
  constructor
  · refine Nat.lt_of_le_of_lt ?_ hu
    rw [Int.natAbs_ediv_of_dvd (Int.dvd_mul_of_dvd_right (Int.gcd_dvd_right ..)), Int.natAbs_mul]
    refine Nat.le_trans (Nat.div_le_self ..) ?_
    rw [Int.natAbs_sign_of_ne_zero hd]; omega
  · exact Nat.lt_of_le_of_lt (Nat.div_le_self ..) h
theorem oMul_ok {i j : Int} (h : mulOk i j = true) : oMul (.int i) (.int j) = some (.int (i * j)) := by simp only [oMul, h, if_true]
theorem two_pow_mul {x y m n : Nat} (hx : x < 2 ^ m) (hy : y < 2 ^ n) : x * y < 2 ^ (m + n) := by
  rw [Nat.pow_add]
  exact Nat.mul_lt_mul'' hx hy
theorem abs_mul_lt {x y : Int} {m n : Nat} (hx : x.natAbs < 2 ^ m) (hy : y.natAbs < 2 ^ n) : (x * y).natAbs < 2 ^ (m + n) := by
  rw [Int.natAbs_mul]
  exact two_pow_mul hx hy
theorem abs_add_lt {x y : Int} {n : Nat} (hx : x.natAbs < 2 ^ n) (hy : y.natAbs < 2 ^ n) : (x + y).natAbs < 2 ^ (n + 1) := by
  rw [Nat.pow_succ]; omega
theorem abs_sub_lt {x y : Int} {n : Nat} (hx : x.natAbs < 2 ^ n) (hy : y.natAbs < 2 ^ n) : (x - y).natAbs < 2 ^ (n + 1) := by
  rw [Nat.pow_succ]; omega
theorem den_nat {q : Rat} {n : Nat} (h : Sz n q) : ((q.den : Nat) : Int).natAbs < 2 ^ n := by rw [Int.natAbs_natCast]; exact h.2
theorem den_ne (a b : Rat) : ((a.den : Nat) : Int) * (b.den : Nat) ≠ 0 := by
  have := a.den_pos
  have := b.den_pos
  exact Int.mul_ne_zero (by omega) (by omega)
theorem Sz.mono {m n : Nat} {q : Rat} (h : Sz m q) (hm : m ≤ n) : Sz n q :=
  ⟨Nat.lt_of_lt_of_le h.1 (Nat.pow_le_pow_right (by omega) hm), Nat.lt_of_lt_of_le h.2 (Nat.pow_le_pow_right (by omega) hm)⟩
theorem add_q (a b : Rat) : Rat.divInt (a.num * (b.den : Nat) + b.num * (a.den : Nat)) ((a.den : Nat) * (b.den : Nat)) = a + b := by
  rw [Rat.add_def', ← Rat.divInt_ofNat, Int.natCast_mul]
theorem sub_q (a b : Rat) : Rat.divInt (a.num * (b.den : Nat) - b.num * (a.den : Nat)) ((a.den : Nat) * (b.den : Nat)) = a - b := by
  rw [Rat.sub_def', ← Rat.divInt_ofNat, Int.natCast_mul]
theorem Sz.add {m n : Nat} {a b : Rat} (ha : Sz m a) (hb : Sz n b) : Sz (m + n + 1) (a + b) := by
  rw [← add_q]
  have h1 := abs_mul_lt ha.1 (den_nat hb)
  have h2 := abs_mul_lt hb.1 (den_nat ha)
  rw [Nat.add_comm n m] at h2
  obtain ⟨g1, g2⟩ := divInt_sz (den_ne a b) (abs_add_lt h1 h2) (abs_mul_lt (den_nat ha) (den_nat hb))
  exact ⟨g1, Nat.lt_trans g2 (Nat.pow_lt_pow_right (by omega) (Nat.lt_succ_self _))⟩
theorem Sz.sub {m n : Nat} {a b : Rat} (ha : Sz m a) (hb : Sz n b) : Sz (m + n + 1) (a - b) := by
  rw [← sub_q]
  have h1 := abs_mul_lt ha.1 (den_nat hb)
  have h2 := abs_mul_lt hb.1 (den_nat ha)
  rw [Nat.add_comm n m] at h2
  obtain ⟨g1, g2⟩ := divInt_sz (den_ne a b) (abs_sub_lt h1 h2) (abs_mul_lt (den_nat ha) (den_nat hb))
  exact ⟨g1, Nat.lt_trans g2 (Nat.pow_lt_pow_right (by omega) (Nat.lt_succ_self _))⟩
theorem Sz.int {n : Nat} {i : Int} (h : i.natAbs < 2 ^ n) (hn : 0 < n) : Sz n (i : Rat) := ⟨by rw [Rat.num_intCast]; exact h, by rw [Rat.den_intCast]; exact Nat.one_lt_two_pow (by omega)⟩
def qsum : List Rat → Rat
  | [] => 0
  | q :: qs => q + qsum qs
def cellI (ns : List Int) (k : Nat) : Int := if k < ns.length then ns.getD k 0 else if ns = [] then 0 else ns.getD (k % ns.length) 0 * 31 + k
def drawI (ns : List Int) (k : Nat) : Int := (cellI ns k + 6151 * ((k : Int) + 1)) * 40692 % 2147483399
def pickI (ns : List Int) (k : Nat) (m : Int) : Int := (drawI ns k * drawI ns k + drawI ns k / 31) % 2147483629 % m
theorem pickI_nonneg (ns : List Int) (k : Nat) {m : Int} (h : 0 < m) : 0 ≤ pickI ns k m := Int.emod_nonneg _ (by omega)
theorem pickI_lt (ns : List Int) (k : Nat) {m : Int} (h : 0 < m) : pickI ns k m < m := Int.emod_lt_of_pos _ h
theorem atI_nat' {α : Type} {xs : List α} {k : Nat} (h : k < xs.length) : atI xs (k : Int) = xs[k]? := by
  obtain ⟨x, e⟩ : ∃ x, xs[k]? = some x := ⟨xs[k], by simp [h]⟩
  rw [e]; exact atI_nat e
theorem ns_at {ns : List Int} {k : Nat} (h : k < ns.length) : ns[k]? = some (ns.getD k 0) := by simp [h]
theorem mulOk_r {i j : Int} (h : -(2 ^ 64) < j ∧ j < 2 ^ 64) : mulOk i j = true := by unfold mulOk; rw [decide_eq_true h, Bool.or_true]
theorem mulOk_l {i j : Int} (h : -(2 ^ 64) < i ∧ i < 2 ^ 64) : mulOk i j = true := by unfold mulOk; rw [decide_eq_true h, Bool.or_true, Bool.true_or]
end Sm
namespace Kx
open PySem PySem.Spec L2 Sm
def b_is_whole : DS :=
  (dRet (dAnd (dUn oIsInt (dVar 0)) (dAnd (dNot (dUn oIsBool (dVar 0))) (dChain oLe oLe (dVar 1) (dVar 0) (dVar 2)))))
def d_is_whole : List D → R D := defD 3 3 (b_is_whole)
def b_is_game_in (self : List D → R D) : DS :=
  (dSeq (dIfS (dOrT (asB (dBin oEq (dVar 1) (dC (.int 0)))) (dOrT (dNotT (dTru (dUn oIsTup (dVar 0)))) (dOrT (dNotT (dTru (dVar 0))) (dNotT (dTru (dCall d_is_whole (dCons (dBin oIx (dVar 0) (dC (.int 0))) (dCons (dBin oSubI (dC (.int 0)) (dC (.int 20))) (dCons (dC (.int 20)) dNil))))))))) (dRet (dC (.bl false))) .nx)
    (dSeq (dIfS (asB (dBin oEq (dB oLen (dCons (dVar 0) dNil)) (dC (.int 1)))) (dRet (dC (.bl true))) .nx)
    (dSeq (dIfS (dOrT (asB (dBin oNe (dB oLen (dCons (dVar 0) dNil)) (dC (.int 2)))) (dOrT (dNotT (dTru (dUn oIsTup (dBin oIx (dVar 0) (dC (.int 1)))))) (dNotT (asB (dChain oLe oLe (dC (.int 1)) (dB oLen (dCons (dBin oIx (dVar 0) (dC (.int 1))) dNil)) (dC (.int 3))))))) (dRet (dC (.bl false))) .nx)
    (dSeq (dFor [] (.v 2) (dItems (dBin oIx (dVar 0) (dC (.int 1)))) (dIfS (dOrT (dNotT (dTru (dUn oIsTup (dVar 2)))) (dOrT (asB (dBin oNe (dB oLen (dCons (dVar 2) dNil)) (dC (.int 2)))) (dNotT (dTru (dCall d_is_whole (dCons (dBin oIx (dVar 2) (dC (.int 0))) (dCons (dC (.int 1)) (dCons (dC (.int 9)) dNil)))))))) (dRet (dC (.bl false))) .nx))
    (dRet (dB oAll (dCons (dLc [2] (.v 2) (dItems (dBin oIx (dVar 0) (dC (.int 1)))) dYes (dCall self (dCons (dBin oIx (dVar 2) (dC (.int 1))) (dCons (dBin oSubI (dVar 1) (dC (.int 1))) dNil)))) dNil)))))))
def d_is_game_in : Nat → List D → R D
  | 0 => fun _ => .bad
  | n + 1 => defD 2 3 (b_is_game_in (d_is_game_in n))
def b_is_game : DS :=
  (dRet (dCall (d_is_game_in 8) (dCons (dVar 0) (dCons (dC (.int 4)) dNil))))
def d_is_game : List D → R D := defD 1 1 (b_is_game)
def b_look_game : DS :=
  (dIfS (dNotT (dTru (dCall d_is_game (dCons (dVar 0) dNil)))) (dRaise 1) .nx)
def d_look_game : List D → R D := defD 1 1 (b_look_game)
def b_ways_of : DS :=
  (dRet (dIf (asB (dBin oEq (dB oLen (dCons (dVar 0) dNil)) (dC (.int 2)))) (dBin oIx (dVar 0) (dC (.int 1))) (dTup dNil)))
def d_ways_of : List D → R D := defD 1 1 (b_ways_of)
def b__law_cell : DS :=
  (dSeq (dIfS (asB (dBin oLt (dVar 1) (dB oLen (dCons (dVar 0) dNil)))) (dRet (dBin oIx (dVar 0) (dVar 1))) .nx)
    (dSeq (dIfS (asB (dBin oEq (dVar 0) (dLst dNil))) (dRet (dC (.int 0))) .nx)
    (dRet (dBin oAdd (dBin oMul (dBin oIx (dVar 0) (dBin oModI (dVar 1) (dB oLen (dCons (dVar 0) dNil)))) (dC (.int 31))) (dVar 1)))))
def d__law_cell : List D → R D := defD 2 2 (b__law_cell)
def b__law_pick : DS :=
  (dSeq (dSet [] 3 (dBin oModI (dBin oMul (dBin oAdd (dCall d__law_cell (dCons (dVar 0) (dCons (dVar 1) dNil))) (dBin oMul (dC (.int 6151)) (dBin oAdd (dVar 1) (dC (.int 1))))) (dC (.int 40692))) (dC (.int 2147483399))))
    (dRet (dBin oModI (dBin oModI (dBin oAdd (dBin oMul (dVar 3) (dVar 3)) (dBin oDivI (dVar 3) (dC (.int 31)))) (dC (.int 2147483629))) (dVar 2))))
def d__law_pick : List D → R D := defD 3 4 (b__law_pick)
def b__law_game (pk : Nat → Int → Int) (self : List D → R D) : DS :=
  (dSeq (dSet [] 5 (dBin oMul (dC (.int 20)) (dVar 1)))
    (dSeq (dSet [] 6 (dBin oIx (dLst (dCons (dC (.int 0)) (dCons (dC (.int 1)) (dCons (dC (.int 2)) (dCons (dC (.int 2)) (dCons (dC (.int 3)) dNil)))))) (dCall (dPick pk) (dCons (dVar 0) (dCons (dVar 5) (dCons (dC (.int 5)) dNil))))))
    (dSeq (dIfS (asB (dBin oEq (dVar 1) (dC (.int 1)))) (dSet [] 6 (dB oMax2 (dCons (dC (.int 1)) (dCons (dVar 6) dNil)))) .nx)
    (dSeq (dIfS (dOrT (asB (dBin oEq (dVar 3) (dC (.int 1)))) (asB (dBin oEq (dVar 6) (dC (.int 0))))) (dRet (dTup (dCons (dVar 2) dNil))) .nx)
    (dSeq (dSetN [] 7 dNil)
    (dSeq (dIfS (dTru (dVar 4)) (dSeq (dPar [7] 12 13 (dCons (dBin oAdd (dC (.int 1)) (dCall (dPick pk) (dCons (dVar 0) (dCons (dBin oAdd (dVar 5) (dC (.int 1))) (dCons (dC (.int 3)) dNil))))) (dCons (dBin oAdd (dC (.int 1)) (dCall (dPick pk) (dCons (dVar 0) (dCons (dBin oAdd (dVar 5) (dC (.int 2))) (dCons (dC (.int 3)) dNil))))) dNil)))
    (dSeq (dSetN [7] 7 (dCons (dTup (dCons (dVar 13) (dCons (dVar 12) dNil))) (dCons (dTup (dCons (dVar 12) (dCons (dBin oSubI (dC (.int 0)) (dVar 13)) dNil))) (dCons (dTup (dCons (dBin oAdd (dC (.int 1)) (dCall (dPick pk) (dCons (dVar 0) (dCons (dBin oAdd (dVar 5) (dC (.int 3))) (dCons (dC (.int 9)) dNil))))) (dCons (dC (.int 0)) dNil))) dNil))))
    (dSet [] 7 (dIf (asB (dBin oEq (dVar 6) (dC (.int 1)))) (dSl (dVar 7) (dSo (dC (.int 2))) dNo) (dSl (dVar 7) dNo (dSo (dVar 6))))))) (dFor [7] (.v 9) (dRng rng1 (dCons (dVar 6) dNil)) (dApp [7] 7 (dTup (dCons (dBin oAdd (dC (.int 1)) (dCall (dPick pk) (dCons (dVar 0) (dCons (dBin oAdd (dBin oAdd (dVar 5) (dC (.int 5))) (dVar 9)) (dCons (dC (.int 9)) dNil))))) (dCons (dBin oSubI (dCall (dPick pk) (dCons (dVar 0) (dCons (dBin oAdd (dBin oAdd (dVar 5) (dC (.int 8))) (dVar 9)) (dCons (dC (.int 7)) dNil)))) (dC (.int 3))) dNil))))))
    (dSeq (dIfS (asB (dBin oEq (dCall (dPick pk) (dCons (dVar 0) (dCons (dBin oAdd (dVar 5) (dC (.int 4))) (dCons (dC (.int 2)) dNil)))) (dC (.int 0)))) (dSet [] 7 (dUn oRevA (dVar 7))) .nx)
    (dSeq (dSetN [] 8 dNil)
    (dSeq (dFor [8] (.t [(.v 9), (.t [(.v 10), (.v 11)])]) (dRng enumD (dCons (dVar 7) dNil)) (dApp [8] 8 (dTup (dCons (dVar 10) (dCons (dCall self (dCons (dVar 0) (dCons (dBin oAdd (dBin oAdd (dBin oMul (dC (.int 4)) (dVar 1)) (dC (.int 1))) (dVar 9)) (dCons (dBin oAdd (dVar 2) (dVar 11)) (dCons (dBin oSubI (dVar 3) (dC (.int 1))) (dCons (dVar 4) dNil)))))) dNil)))))
    (dRet (dTup (dCons (dVar 2) (dCons (dB oTuple (dCons (dVar 8) dNil)) dNil)))))))))))))
def d__law_game (pk : Nat → Int → Int) : Nat → List D → R D
  | 0 => fun _ => .bad
  | n + 1 => defD 5 14 (b__law_game pk (d__law_game pk n))
def b__law_drawn (pk : Nat → Int → Int) : DS :=
  (dRet (dCall (d__law_game pk 8) (dCons (dVar 0) (dCons (dC (.int 1)) (dCons (dBin oSubI (dCall (dPick pk) (dCons (dVar 0) (dCons (dC (.int 0)) (dCons (dC (.int 13)) dNil)))) (dC (.int 6))) (dCons (dVar 1) (dCons (dBin oEq (dCall (dPick pk) (dCons (dVar 0) (dCons (dC (.int 1)) (dCons (dC (.int 2)) dNil)))) (dC (.int 0))) dNil)))))))
def d__law_drawn (pk : Nat → Int → Int) : List D → R D := defD 2 2 (b__law_drawn pk)
def b__law_places (self : List D → R D) : DS :=
  (dSeq (dSetN [] 1 (dCons (dTup dNil) dNil))
    (dSeq (dIfS (dTru (dUn oIsTup (dVar 0))) (dFor [1] (.v 2) (dRng rng1 (dCons (dB oLen (dCons (dVar 0) dNil)) dNil)) (dExt [1] 1 (dLc [3] (.v 3) (dItems (dCall self (dCons (dBin oIx (dVar 0) (dVar 2)) dNil))) dYes (dBin oAdd (dTup (dCons (dVar 2) dNil)) (dVar 3))))) .nx)
    (dRet (dVar 1))))
def d__law_places : Nat → List D → R D
  | 0 => fun _ => .bad
  | n + 1 => defD 1 4 (b__law_places (d__law_places n))
def b__law_put (self : List D → R D) : DS :=
  (dSeq (dIfS (asB (dBin oEq (dVar 1) (dTup dNil))) (dRet (dVar 2)) .nx)
    (dSeq (dSet [] 3 (dBin oIx (dVar 1) (dC (.int 0))))
    (dRet (dBin oAdd (dBin oAdd (dSl (dVar 0) dNo (dSo (dVar 3))) (dTup (dCons (dCall self (dCons (dBin oIx (dVar 0) (dVar 3)) (dCons (dSl (dVar 1) (dSo (dC (.int 1))) dNo) (dCons (dVar 2) dNil)))) dNil))) (dSl (dVar 0) (dSo (dBin oAdd (dVar 3) (dC (.int 1)))) dNo)))))
def d__law_put : Nat → List D → R D
  | 0 => fun _ => .bad
  | n + 1 => defD 3 4 (b__law_put (d__law_put n))
def b__law_spoilt_thing (pk : Nat → Int → Int) : DS :=
  (dSeq (dSet [] 3 (dCall (d__law_places 24) (dCons (dVar 2) dNil)))
    (dSeq (dSet [] 4 (dBin oIx (dVar 3) (dCall (dPick pk) (dCons (dVar 0) (dCons (dVar 1) (dCons (dB oLen (dCons (dVar 3) dNil)) dNil))))))
    (dSeq (dSet [] 5 (dVar 2))
    (dSeq (dFor [] (.v 6) (dItems (dVar 4)) (dSet [] 5 (dBin oIx (dVar 5) (dVar 6))))
    (dSeq (dSet [] 7 (dLst (dCons (dC (.int 0)) (dCons (dC (.int 1)) (dCons (dC (.int 9)) (dCons (dC (.int 10)) (dCons (dC (.int 20)) (dCons (dC (.int 21)) (dCons (dUn oNeg (dC (.int 20))) (dCons (dUn oNeg (dC (.int 21))) (dCons (dC (.bl true)) (dCons (dC .non) (dCons (dC (.str "1")) (dCons (dTup dNil) (dCons (dTup (dCons (dC (.int 1)) dNil)) (dCons (dTup (dCons (dC (.int 0)) (dCons (dC (.int 1)) dNil))) (dCons (dLst (dCons (dC (.int 0)) dNil)) (dCons (dTup (dCons (dVar 5) dNil)) (dCons (dTup (dCons (dVar 5) (dCons (dVar 5) dNil))) dNil)))))))))))))))))))
    (dSeq (dSet [] 8 (dCall (dPick pk) (dCons (dVar 0) (dCons (dBin oAdd (dVar 1) (dC (.int 1))) (dCons (dC (.int 23)) dNil)))))
    (dSeq (dIfS (asB (dBin oLt (dVar 8) (dC (.int 17)))) (dRet (dCall (d__law_put 24) (dCons (dVar 2) (dCons (dVar 4) (dCons (dBin oIx (dVar 7) (dVar 8)) dNil))))) .nx)
    (dSeq (dIfS (dAndT (dTru (dUn oIsTup (dVar 5))) (asB (dBin oNe (dVar 5) (dTup dNil)))) (dSeq (dSet [] 6 (dCall (dPick pk) (dCons (dVar 0) (dCons (dBin oAdd (dVar 1) (dC (.int 2))) (dCons (dB oLen (dCons (dVar 5) dNil)) dNil)))))
    (dRet (dCall (d__law_put 24) (dCons (dVar 2) (dCons (dVar 4) (dCons (dIf (asB (dBin oLt (dVar 8) (dC (.int 20)))) (dBin oAdd (dSl (dVar 5) dNo (dSo (dVar 6))) (dSl (dVar 5) (dSo (dBin oAdd (dVar 6) (dC (.int 1)))) dNo)) (dBin oAdd (dSl (dVar 5) dNo (dSo (dBin oAdd (dVar 6) (dC (.int 1))))) (dSl (dVar 5) (dSo (dVar 6)) dNo))) dNil)))))) .nx)
    (dRet (dCall (d__law_put 24) (dCons (dVar 2) (dCons (dVar 4) (dCons (dIf (dTru (dUn oIsInt (dVar 5))) (dBin oSubI (dC (.int 0)) (dVar 5)) (dC (.int 7))) dNil)))))))))))))
def d__law_spoilt_thing (pk : Nat → Int → Int) : List D → R D := defD 3 9 (b__law_spoilt_thing pk)
def b__law_whole : DS :=
  (dRet (dAnd (dUn oIsInt (dVar 0)) (dAnd (dNot (dUn oIsBool (dVar 0))) (dChain oLe oLe (dVar 1) (dVar 0) (dVar 2)))))
def d__law_whole : List D → R D := defD 3 3 (b__law_whole)
def b__law_is_game (self : List D → R D) : DS :=
  (dSeq (dIfS (dOrT (asB (dBin oLt (dVar 1) (dC (.int 1)))) (dOrT (dNotT (dTru (dUn oIsTup (dVar 0)))) (dOrT (dNotT (asB (dChain oLe oLe (dC (.int 1)) (dB oLen (dCons (dVar 0) dNil)) (dC (.int 2))))) (dNotT (dTru (dCall d__law_whole (dCons (dBin oIx (dVar 0) (dC (.int 0))) (dCons (dUn oNeg (dC (.int 20))) (dCons (dC (.int 20)) dNil))))))))) (dRet (dC (.bl false))) .nx)
    (dSeq (dIfS (asB (dBin oEq (dB oLen (dCons (dVar 0) dNil)) (dC (.int 1)))) (dRet (dC (.bl true))) .nx)
    (dSeq (dIfS (dOrT (dNotT (dTru (dUn oIsTup (dBin oIx (dVar 0) (dC (.int 1)))))) (dNotT (asB (dChain oLe oLe (dC (.int 1)) (dB oLen (dCons (dBin oIx (dVar 0) (dC (.int 1))) dNil)) (dC (.int 3)))))) (dRet (dC (.bl false))) .nx)
    (dSeq (dFor [] (.v 2) (dItems (dBin oIx (dVar 0) (dC (.int 1)))) (dSeq (dIfS (dOrT (dNotT (dTru (dUn oIsTup (dVar 2)))) (dOrT (asB (dBin oNe (dB oLen (dCons (dVar 2) dNil)) (dC (.int 2)))) (dNotT (dTru (dCall d__law_whole (dCons (dBin oIx (dVar 2) (dC (.int 0))) (dCons (dC (.int 1)) (dCons (dC (.int 9)) dNil)))))))) (dRet (dC (.bl false))) .nx)
    (dIfS (dNotT (dTru (dCall self (dCons (dBin oIx (dVar 2) (dC (.int 1))) (dCons (dBin oSubI (dVar 1) (dC (.int 1))) dNil))))) (dRet (dC (.bl false))) .nx)))
    (dRet (dC (.bl true)))))))
def d__law_is_game : Nat → List D → R D
  | 0 => fun _ => .bad
  | n + 1 => defD 2 3 (b__law_is_game (d__law_is_game n))
def b__law_word : DS :=
  (dSeq (dSetN [] 1 (dCons (dUn (oIsX [1, 2, 3, 4, 5, 6] (fun k => k == 4)) (dVar 0)) (dCons (dUn (oIsX [1, 2, 3, 4, 5, 6] (fun k => k == 1)) (dVar 0)) (dCons (dUn (oIsX [1, 2, 3, 4, 5, 6] (fun k => k == 2)) (dVar 0)) (dCons (dUn (oIsX [1, 2, 3, 4, 5, 6] (fun k => k == 3)) (dVar 0)) dNil)))))
    (dSeq (dExt [1] 1 (dLst (dCons (dUn (oIsX [1, 2, 3, 4, 5, 6] (fun k => k == 6)) (dVar 0)) (dCons (dUn (oIsX [1, 2, 3, 4, 5, 6] (fun k => k == 5)) (dVar 0)) dNil))))
    (dSeq (dIfS (dOrT (asB (dBin oNe (dMeth oCount (dVar 1) (dC (.bl true))) (dC (.int 1)))) (dNotT (dTru (dUn (oIsX [1, 2, 3, 4, 5, 6] (fun _ => true)) (dVar 0))))) (dRet (dC (.str "wrong"))) .nx)
    (dRet (dBin oIx (dLst (dCons (dC (.str "no bets")) (dCons (dC (.str "no game")) (dCons (dC (.str "no path")) (dCons (dC (.str "no rule")) (dCons (dC (.str "no text")) (dCons (dC (.str "unpaid")) dNil))))))) (dMeth oIndex (dVar 1) (dC (.bl true))))))))
def d__law_word : List D → R D := defD 1 2 (b__law_word)
def b_text_of (self : List D → R D) : DS :=
  (dSeq (dIfS (asB (dBin oEq (dB oLen (dCons (dVar 0) dNil)) (dC (.int 1)))) (dRet (dB oStr (dCons (dBin oIx (dVar 0) (dC (.int 0))) dNil))) .nx)
    (dRet (dBin oAdd (dBin oAdd (dBin oAdd (dB oStr (dCons (dBin oIx (dVar 0) (dC (.int 0))) dNil)) (dC (.str "("))) (dS1 oJoin (dC (.str " ")) (dLc [1, 2] (.t [(.v 1), (.v 2)]) (dItems (dCall d_ways_of (dCons (dVar 0) dNil))) dYes (dBin oAdd (dBin oAdd (dB oStr (dCons (dVar 1) dNil)) (dC (.str ":"))) (dCall self (dCons (dVar 2) dNil)))))) (dC (.str ")")))))
def d_text_of : Nat → List D → R D
  | 0 => fun _ => .bad
  | n + 1 => defD 1 3 (b_text_of (d_text_of n))
def b_game_text : DS :=
  (dSeq (dDrop (dCall d_look_game (dCons (dVar 0) dNil)))
    (dRet (dCall (d_text_of 8) (dCons (dVar 0) dNil))))
def d_game_text : List D → R D := defD 1 1 (b_game_text)
def b_number_at : DS :=
  (dSeq (dSet [] 2 (dBin oAdd (dVar 1) (dB oInt (dCons (dBin oEq (dSl (dVar 0) (dSo (dVar 1)) (dSo (dBin oAdd (dVar 1) (dC (.int 1))))) (dC (.str "-"))) dNil))))
    (dSeq (dSet [] 3 (dVar 2))
    (dSeq (dWhile (fun _ => 4) (dAndT (asB (dBin oLt (dVar 2) (dB oLen (dCons (dVar 0) dNil)))) (dAndT (asB (dBin oInS (dBin oIx (dVar 0) (dVar 2)) (dC (.str "0123456789")))) (asB (dBin oLt (dBin oSubI (dVar 2) (dVar 3)) (dC (.int 2)))))) (dSet [] 2 (dBin oAdd (dVar 2) (dC (.int 1)))))
    (dSeq (dIfS (asB (dBin oEq (dVar 2) (dVar 3))) (dRaise 6) .nx)
    (dRet (dTup (dCons (dB oInt (dCons (dSl (dVar 0) (dSo (dVar 1)) (dSo (dVar 2))) dNil)) (dCons (dVar 2) dNil))))))))
def d_number_at : List D → R D := defD 2 4 (b_number_at)
def b_game_at (self : List D → R D) : DS :=
  (dSeq (dIfS (asB (dBin oEq (dVar 2) (dC (.int 0)))) (dRaise 6) .nx)
    (dSeq (dAsg [] (.t [(.v 3), (.v 1)]) (dCall d_number_at (dCons (dVar 0) (dCons (dVar 1) dNil))))
    (dSeq (dIfS (asB (dBin oNe (dSl (dVar 0) (dSo (dVar 1)) (dSo (dBin oAdd (dVar 1) (dC (.int 1))))) (dC (.str "(")))) (dRet (dTup (dCons (dTup (dCons (dVar 3) dNil)) (dCons (dVar 1) dNil)))) .nx)
    (dSeq (dSetN [] 4 dNil)
    (dSeq (dSet [4] 1 (dBin oAdd (dVar 1) (dC (.int 1))))
    (dSeq (dWhile (fun _ => 1000) (dOrT (asB (dBin oEq (dVar 4) (dLst dNil))) (asB (dBin oEq (dSl (dVar 0) (dSo (dVar 1)) (dSo (dBin oAdd (dVar 1) (dC (.int 1))))) (dC (.str " "))))) (dSeq (dSetP 1 (dBin oAdd (dVar 1) (dB oInt (dCons (dBin oNe (dVar 4) (dLst dNil)) dNil))))
    (dSeq (dAsg [4] (.t [(.v 5), (.v 1)]) (dCall d_number_at (dCons (dVar 0) (dCons (dVar 1) dNil))))
    (dSeq (dIfS (asB (dBin oNe (dSl (dVar 0) (dSo (dVar 1)) (dSo (dBin oAdd (dVar 1) (dC (.int 1))))) (dC (.str ":")))) (dRaise 6) .nx)
    (dSeq (dAsg [4] (.t [(.v 6), (.v 1)]) (dCall self (dCons (dVar 0) (dCons (dBin oAdd (dVar 1) (dC (.int 1))) (dCons (dBin oSubI (dVar 2) (dC (.int 1))) dNil)))))
    (dApp [4] 4 (dTup (dCons (dVar 5) (dCons (dVar 6) dNil)))))))))
    (dSeq (dIfS (asB (dBin oNe (dSl (dVar 0) (dSo (dVar 1)) (dSo (dBin oAdd (dVar 1) (dC (.int 1))))) (dC (.str ")")))) (dRaise 6) .nx)
    (dRet (dTup (dCons (dTup (dCons (dVar 3) (dCons (dB oTuple (dCons (dVar 4) dNil)) dNil))) (dCons (dBin oAdd (dVar 1) (dC (.int 1))) dNil)))))))))))
def d_game_at : Nat → List D → R D
  | 0 => fun _ => .bad
  | n + 1 => defD 3 7 (b_game_at (d_game_at n))
def b_read_game : DS :=
  (dSeq (dAsg [] (.t [(.v 1), (.v 2)]) (dCall (d_game_at 8) (dCons (dVar 0) (dCons (dC (.int 0)) (dCons (dC (.int 4)) dNil)))))
    (dSeq (dIfS (dOrT (asB (dBin oNe (dVar 2) (dB oLen (dCons (dVar 0) dNil)))) (dOrT (dNotT (dTru (dCall d_is_game (dCons (dVar 1) dNil)))) (asB (dBin oNe (dCall (d_text_of 8) (dCons (dVar 1) dNil)) (dVar 0))))) (dRaise 6) .nx)
    (dRet (dVar 1))))
def d_read_game : List D → R D := defD 1 3 (b_read_game)
def b__law_spoilt : DS :=
  (dSeq (dSet [] 3 (dBin oModI (dVar 1) (dBin oAdd (dB oLen (dCons (dVar 0) dNil)) (dC (.int 1)))))
    (dSeq (dSet [] 4 (dBin oIx (dVar 2) (dBin oModI (dBin oDivI (dVar 1) (dC (.int 1000))) (dB oLen (dCons (dVar 2) dNil)))))
    (dSeq (dSet [] 5 (dBin oAdd (dBin oAdd (dVar 3) (dC (.int 1))) (dBin oModI (dBin oDivI (dVar 1) (dC (.int 7))) (dC (.int 9)))))
    (dSeq (dSet [] 6 (dBin oModI (dBin oDivI (dVar 1) (dC (.int 100000))) (dC (.int 8))))
    (dSeq (dIfS (asB (dBin oLt (dVar 6) (dC (.int 2)))) (dRet (dBin oAdd (dBin oAdd (dSl (dVar 0) dNo (dSo (dVar 3))) (dVar 4)) (dSl (dVar 0) (dSo (dVar 3)) dNo))) .nx)
    (dSeq (dIfS (asB (dBin oEq (dVar 6) (dC (.int 2)))) (dRet (dBin oAdd (dSl (dVar 0) dNo (dSo (dVar 3))) (dSl (dVar 0) (dSo (dBin oAdd (dVar 3) (dC (.int 1)))) dNo))) .nx)
    (dSeq (dIfS (asB (dBin oLt (dVar 6) (dC (.int 5)))) (dRet (dBin oAdd (dBin oAdd (dSl (dVar 0) dNo (dSo (dVar 3))) (dVar 4)) (dSl (dVar 0) (dSo (dBin oAdd (dVar 3) (dC (.int 1)))) dNo))) .nx)
    (dSeq (dIfS (asB (dBin oEq (dVar 6) (dC (.int 5)))) (dRet (dBin oAdd (dSl (dVar 0) dNo (dSo (dVar 3))) (dSl (dVar 0) (dSo (dVar 5)) dNo))) .nx)
    (dSeq (dIfS (asB (dBin oEq (dVar 6) (dC (.int 6)))) (dRet (dBin oAdd (dSl (dVar 0) dNo (dSo (dVar 5))) (dSl (dVar 0) (dSo (dVar 3)) dNo))) .nx)
    (dRet (dBin oIx (dLst (dCons (dBin oAdd (dVar 0) (dC (.str " "))) (dCons (dBin oAdd (dC (.str " ")) (dVar 0)) (dCons (dBin oAdd (dSl (dVar 0) (dSo (dVar 3)) dNo) (dSl (dVar 0) dNo (dSo (dVar 3)))) (dCons (dC (.str "")) (dCons (dBin oAdd (dVar 0) (dVar 0)) dNil)))))) (dBin oModI (dVar 1) (dC (.int 5))))))))))))))
def d__law_spoilt : List D → R D := defD 3 7 (b__law_spoilt)
def b__law_text (self : List D → R D) : DS :=
  (dSeq (dSet [] 1 (dB oStr (dCons (dBin oIx (dVar 0) (dC (.int 0))) dNil)))
    (dSeq (dIfS (asB (dBin oEq (dB oLen (dCons (dVar 0) dNil)) (dC (.int 2)))) (dSeq (dSet [] 1 (dBin oAdd (dVar 1) (dC (.str "("))))
    (dSeq (dFor [] (.t [(.v 2), (.t [(.v 3), (.v 4)])]) (dRng enumD (dCons (dBin oIx (dVar 0) (dC (.int 1))) dNil)) (dSet [] 1 (dBin oAdd (dBin oAdd (dBin oAdd (dBin oAdd (dVar 1) (dIf (asB (dBin oGt (dVar 2) (dC (.int 0)))) (dC (.str " ")) (dC (.str "")))) (dB oStr (dCons (dVar 3) dNil))) (dC (.str ":"))) (dCall self (dCons (dVar 4) dNil)))))
    (dSet [] 1 (dBin oAdd (dVar 1) (dC (.str ")")))))) .nx)
    (dRet (dVar 1))))
def d__law_text : Nat → List D → R D
  | 0 => fun _ => .bad
  | n + 1 => defD 1 5 (b__law_text (d__law_text n))
end Kx
namespace Kx
open PySem PySem.Spec L2 Sm
theorem cell_ok (ns : List Int) (k : Nat) : d__law_cell [.scr ns, .int k] = .ok (.int (cellI ns k)) := by
  by_cases h : k < ns.length
  · have h' : ((k : Int) < (ns.length : Int)) := by omega
    simp only [d__law_cell, b__law_cell, oLen, decide_eq_true h', oIx, atI_nat' h, ns_at h, cellI, if_pos h, defD, args, dSeq, dSet, dSetP, dSetN, lstAt, dApp, dAppP, dAsg, dPar, dDrop, dWhile, dIfS, dRet, dB, dCall, dCons, dNil, dVar, dC, dBin, dChain, asB, dTru, dNotT, dAndT, dOrT, dAnd, dOr, dNot, dIf, dUn, dTup, dLst, dItems, dYes, R.bind, R.to, O.seq, outR, ofO, noErr, mask, Sm.putIn, bindPat, bindPats, itemsOf, tru, List.foldr_cons, List.foldr_nil, List.length_cons, List.length_nil, List.map_cons, List.map_nil, List.cons_append, List.nil_append, Nat.sub_self, List.replicate_zero, List.replicate_succ, List.getElem?_cons_succ, List.getElem?_cons_zero, List.set_cons_zero, List.set_cons_succ, Nat.reduceAdd, Nat.reduceSub, ↓reduceIte, Bool.not_true, Bool.not_false, Bool.and_true, Bool.true_and, Bool.false_and, Bool.and_false, if_true, if_false, Bool.false_eq_true, oNeg, oAddI, oSubI, oAdd_ii, oLt, oLe, oGt, oGe, Option.bind_some, Option.map_some, dFor, dRng, dLc, dLcs]
  · have h' : ¬ ((k : Int) < (ns.length : Int)) := by omega
    cases ns with
    | nil =>
      have h0 : ¬ ((k : Int) < ((0 : Nat) : Int)) := by omega
      have h1 : ¬ (k < 0) := by omega
      simp only [d__law_cell, b__law_cell, oLen, decide_eq_false h0, cellI, if_neg h1, oEq, pln, plns, deq, deqIs, defD, args, dSeq, dSet, dSetP, dSetN, lstAt, dApp, dAppP, dAsg, dPar, dDrop, dWhile, dIfS, dRet, dB, dCall, dCons, dNil, dVar, dC, dBin, dChain, asB, dTru, dNotT, dAndT, dOrT, dAnd, dOr, dNot, dIf, dUn, dTup, dLst, dItems, dYes, R.bind, R.to, O.seq, outR, ofO, noErr, mask, Sm.putIn, bindPat, bindPats, itemsOf, tru, List.foldr_cons, List.foldr_nil, List.length_cons, List.length_nil, List.map_cons, List.map_nil, List.cons_append, List.nil_append, Nat.sub_self, List.replicate_zero, List.replicate_succ, List.getElem?_cons_succ, List.getElem?_cons_zero, List.set_cons_zero, List.set_cons_succ, Nat.reduceAdd, Nat.reduceSub, ↓reduceIte, Bool.not_true, Bool.not_false, Bool.and_true, Bool.true_and, Bool.false_and, Bool.and_false, if_true, if_false, Bool.false_eq_true, oNeg, oAddI, oSubI, oAdd_ii, oLt, oLe, oGt, oGe, Option.bind_some, Option.map_some, dFor, dRng, dLc, dLcs]
    | cons a r =>
      have hl : (0 : Nat) < (a :: r).length := by simp
      have hm : k % (a :: r).length < (a :: r).length := Nat.mod_lt _ hl
      have e1 : (k : Int).fmod ((a :: r).length : Nat) = ((k % (a :: r).length : Nat) : Int) := by
        rw [Int.fmod_eq_emod_of_nonneg _ (by omega)]; rfl
      have hne : (((a :: r).length : Nat) : Int) ≠ 0 := by omega
      have hc : a :: r ≠ [] := by simp
      simp only [List.length_cons] at e1 hne hm h h'
      simp only [d__law_cell, b__law_cell, oLen, decide_eq_false h', cellI, if_neg h, if_neg hc, oEq, pln, plns, deq, deqIs, oModI, if_pos hne, e1, oIx, List.length_cons, atI_nat' (xs := a :: r) (k := k % (r.length + 1)) hm, ns_at (ns := a :: r) (k := k % (r.length + 1)) hm, oMul_ok (mulOk_r (i := (a :: r).getD (k % (r.length + 1)) 0) (j := 31) (by decide)), defD, args, dSeq, dSet, dSetP, dSetN, lstAt, dApp, dAppP, dAsg, dPar, dDrop, dWhile, dIfS, dRet, dB, dCall, dCons, dNil, dVar, dC, dBin, dChain, asB, dTru, dNotT, dAndT, dOrT, dAnd, dOr, dNot, dIf, dUn, dTup, dLst, dItems, dYes, R.bind, R.to, O.seq, outR, ofO, noErr, mask, Sm.putIn, bindPat, bindPats, itemsOf, tru, List.foldr_cons, List.foldr_nil, List.length_cons, List.length_nil, List.map_cons, List.map_nil, List.cons_append, List.nil_append, Nat.sub_self, List.replicate_zero, List.replicate_succ, List.getElem?_cons_succ, List.getElem?_cons_zero, List.set_cons_zero, List.set_cons_succ, Nat.reduceAdd, Nat.reduceSub, ↓reduceIte, Bool.not_true, Bool.not_false, Bool.and_true, Bool.true_and, Bool.false_and, Bool.and_false, if_true, if_false, Bool.false_eq_true, oNeg, oAddI, oSubI, oAdd_ii, oLt, oLe, oGt, oGe, Option.bind_some, Option.map_some, dFor, dRng, dLc, dLcs]
theorem pick_ok (ns : List Int) (k : Nat) {m : Int} (hm : 0 < m) : d__law_pick [.scr ns, .int k, .int m] = .ok (.int (pickI ns k m)) := by
  have f1 : ∀ a b : Int, 0 < b → a.fmod b = a % b := fun a b h => Int.fmod_eq_emod_of_nonneg _ (by omega)
  have f2 : ∀ a b : Int, 0 < b → a.fdiv b = a / b := fun a b h => Int.fdiv_eq_ediv_of_nonneg _ (by omega)
  have hd : 0 ≤ drawI ns k ∧ drawI ns k < 2147483399 := ⟨Int.emod_nonneg _ (by decide), Int.emod_lt_of_pos _ (by decide)⟩
  have ed : (cellI ns k + 6151 * ((k : Int) + 1)) * 40692 % 2147483399 = drawI ns k := rfl
  have o1 : oMul (.int 6151) (.int ((k : Int) + 1)) = some (.int (6151 * ((k : Int) + 1))) := oMul_ok (mulOk_l (by decide))
  have o2 : oMul (.int (cellI ns k + 6151 * ((k : Int) + 1))) (.int 40692) = some (.int ((cellI ns k + 6151 * ((k : Int) + 1)) * 40692)) := oMul_ok (mulOk_r (by decide))
  have o3 : oMul (.int (drawI ns k)) (.int (drawI ns k)) = some (.int (drawI ns k * drawI ns k)) := oMul_ok (mulOk_l (by omega))
  have c1 : (31 : Int) ≠ 0 ∧ (31 : Int).natAbs.log2 < 9000 := ⟨by decide, by decide⟩
  simp only [d__law_pick, b__law_pick, cell_ok, o1, o2, o3, oModI, oDivI, f1 _ 2147483399 (by decide), f1 _ 2147483629 (by decide), f2 _ 31 (by decide), f1 _ m hm, ed, if_pos c1, if_pos (show (2147483399 : Int) ≠ 0 by decide), if_pos (show (2147483629 : Int) ≠ 0 by decide), if_pos (show m ≠ 0 by omega), pickI, defD, args, dSeq, dSet, dSetP, dSetN, lstAt, dApp, dAppP, dAsg, dPar, dDrop, dWhile, dIfS, dRet, dB, dCall, dCons, dNil, dVar, dC, dBin, dChain, asB, dTru, dNotT, dAndT, dOrT, dAnd, dOr, dNot, dIf, dUn, dTup, dLst, dItems, dYes, R.bind, R.to, O.seq, outR, ofO, noErr, mask, Sm.putIn, bindPat, bindPats, itemsOf, tru, List.foldr_cons, List.foldr_nil, List.length_cons, List.length_nil, List.map_cons, List.map_nil, List.cons_append, List.nil_append, Nat.sub_self, List.replicate_zero, List.replicate_succ, List.getElem?_cons_succ, List.getElem?_cons_zero, List.set_cons_zero, List.set_cons_succ, Nat.reduceAdd, Nat.reduceSub, ↓reduceIte, Bool.not_true, Bool.not_false, Bool.and_true, Bool.true_and, Bool.false_and, Bool.and_false, if_true, if_false, Bool.false_eq_true, oNeg, oAddI, oSubI, oAdd_ii, oLt, oLe, oGt, oGe, Option.bind_some, Option.map_some, dFor, dRng, dLc, dLcs]
def PkOk (pk : Nat → Int → Int) : Prop := ∀ k m, 0 < m → 0 ≤ pk k m ∧ pk k m < m
theorem pickI_ok (ns : List Int) : PkOk (pickI ns) := fun k _ h => ⟨pickI_nonneg ns k h, pickI_lt ns k h⟩
def pickJ (ns : List Int) (k : Nat) (m : Int) : Int := if 0 < m then pickI ns k m else pickI (ns.map (· + 1)) k (-m)
theorem pickJ_ok (ns : List Int) : PkOk (pickJ ns) := fun k m h => by unfold pickJ; rw [if_pos h]; exact pickI_ok ns k m h
theorem pick_fn {P : Program} {w : World} {K : PySem.W.Frag} {mg : Str → Option Value} {base : Heap} {cl : Glb} {k : Nat} (h : Fn P w K mg base cl k "_law_pick" 3 d__law_pick) : Fn P w K mg base cl k "_law_pick" 3 (dPick (pickJ cl.ns)) := by
  refine h.imp fun ds => ?_
  by_cases hd1 : ∃ i m, ds = [.scr1, .int i, .int m] ∧ 0 ≤ i ∧ 0 < m
  · obtain ⟨i, m, rfl, h1, h2⟩ := hd1
    refine .inr ⟨[.scr (cl.ns.map (· + 1)), .int i, .int m], ?_, fun H vs r => ?_⟩
    · have := pick_ok (cl.ns.map (· + 1)) i.toNat h2
      rw [Int.toNat_of_nonneg h1] at this
      rw [this]
      have e : pickJ cl.ns i.toNat (-m) = pickI (cl.ns.map (· + 1)) i.toNat m := by
        unfold pickJ; rw [if_neg (by omega), Int.neg_neg]
      simp only [dPick, if_pos (And.intro h1 h2), e]
      rw [if_pos (pickI_ok _ _ _ h2)]
    · cases r with
      | cons r t =>
        cases r with
        | scr1 a b => exact .cons (.scr a (by rw [List.length_map]; exact b)) t
  by_cases hd : ∃ i m, ds = [.scr0, .int i, .int m] ∧ 0 ≤ i ∧ 0 < m
  · obtain ⟨i, m, rfl, h1, h2⟩ := hd
    refine .inr ⟨[.scr cl.ns, .int i, .int m], ?_, fun H vs r => ?_⟩
    · have := pick_ok cl.ns i.toNat h2
      rw [Int.toNat_of_nonneg h1] at this
      rw [this]
      simp only [dPick, if_pos (And.intro h1 h2), pickJ, if_pos h2]
    · cases r with
      | cons r t =>
        cases r with
        | scr0 a b => exact .cons (.scr a b) t
  · refine .inl ?_
    unfold dPick
    split
    · split
      · rename_i z; exact (hd ⟨_, _, rfl, z⟩).elim
      · rfl
    · split
      · rename_i z; exact (hd1 ⟨_, _, rfl, z⟩).elim
      · rfl
    · rfl
end Kx
namespace Sm
open PySem PySem.Spec L2
section
variable {α β : Type} {pt : Pat} {f g : DS} {ρ ρ1 : Env} {r : R D} {t : DT} {fe : DE}
theorem forGo_all (I : Env → Prop) : ∀ (ds : List D) (ρ : Env), I ρ → (∀ d ρ, d ∈ ds → I ρ → ∃ ρ1 ρ2, bindPat pt d ρ = some ρ1 ∧ f ρ1 = .nx ρ2 ∧ I ρ2) → ∃ ρ', forGo pt f ds ρ = .nx ρ' ∧ I ρ'
  | [], ρ, h, _ => ⟨ρ, rfl, h⟩
  | d :: ds, ρ, h, hs => by
    obtain ⟨ρ1, ρ2, e1, e2, e3⟩ := hs d ρ (by simp) h
    obtain ⟨ρ', e4, e5⟩ := forGo_all I ds ρ2 e3 fun d ρ hy => hs d ρ (by simp [hy])
    refine ⟨ρ', ?_, e5⟩
    simp only [forGo, e1, e2, O.seq]
    exact e4
theorem lcGo_map (enc : α → D) (p : α → Bool) (g : α → D) : ∀ (xs : List α), (∀ x ∈ xs, ∃ ρ1, bindPat pt (enc x) ρ = some ρ1 ∧ t ρ1 = .ok (p x) ∧ (p x = true → fe ρ1 = .ok (g x))) → lcGo pt t fe (xs.map enc) ρ = .ok ((xs.filter p).map g)
  | [], _ => rfl
  | x :: xs, h => by
    obtain ⟨ρ1, e1, e2, e3⟩ := h x (by simp)
    have ih := lcGo_map enc p g xs fun y hy => h y (by simp [hy])
    rw [List.map_cons]
    unfold lcGo
    rw [e1]
    simp only [e2, noErr, R.bind]
    cases q : p x with
    | true => simp only [e3 q, noErr, R.bind, ih, List.filter_cons_of_pos q, List.map_cons]
    | false => rw [List.filter_cons_of_neg (by simp [q])]; exact ih
theorem lcGo_all (enc : α → D) (g : α → D) (xs : List α) (h : ∀ x ∈ xs, ∃ ρ1, bindPat pt (enc x) ρ = some ρ1 ∧ fe ρ1 = .ok (g x)) : lcGo pt dYes fe (xs.map enc) ρ = .ok (xs.map g) := by
  have := lcGo_map (pt := pt) (ρ := ρ) (t := dYes) (fe := fe) enc (fun _ => true) g xs fun x hx => let ⟨ρ1, e1, e2⟩ := h x hx; ⟨ρ1, e1, rfl, fun _ => e2⟩
  rw [List.filter_eq_self.mpr (by simp)] at this
  exact this
theorem out_seq (h1 : f ρ = .nx ρ1) (h2 : outR (g ρ1) = r) : outR (dSeq f g ρ) = r := by
  unfold dSeq; rw [h1]; exact h2
theorem out_seqR {d : D} (h1 : f ρ = .ret d) : outR (dSeq f g ρ) = .ok d := by
  unfold dSeq; rw [h1]; rfl
theorem seq_nx {o : O} (h1 : f ρ = .nx ρ1) (h2 : g ρ1 = o) : dSeq f g ρ = o := by
  unfold dSeq; rw [h1]; exact h2
theorem seq_ret {d : D} (h1 : f ρ = .ret d) : dSeq f g ρ = .ret d := by
  unfold dSeq; rw [h1]; rfl
theorem seq_err {c : Nat} {ρ' : Env} (h1 : f ρ = .err ρ' c) : dSeq f g ρ = .err ρ' c := by
  unfold dSeq; rw [h1]; rfl
end
theorem defD_eq {n m : Nat} {f : DS} {ds : List D} {r : R D} (h : ds.length = n) (h2 : outR (f (args m ds)) = r) : defD n m f ds = r := by
  unfold defD; rw [if_pos h]; exact h2
section
variable {α β : Type} {own : List Nat} {pt : Pat} {it : DI} {f g : DS} {ρ ρ1 : Env} {r : R D} {o : O}
theorem for_nx {ds : List D} (I : Env → Prop) (hit : it (mask own ρ) = .ok ds) (h0 : I ρ) (st : ∀ d ρ, d ∈ ds → I ρ → ∃ ρ1 ρ2, bindPat pt d ρ = some ρ1 ∧ f ρ1 = .nx ρ2 ∧ I ρ2) : ∃ ρ', dFor own pt it f ρ = .nx ρ' ∧ I ρ' := by
  obtain ⟨ρ', e1, e2⟩ := forGo_all (pt := pt) (f := f) I ds ρ h0 st
  refine ⟨ρ', ?_, e2⟩
  unfold dFor
  rw [hit]; exact e1
theorem for_out {ds : List D} (I : Env → Prop) (hit : it (mask own ρ) = .ok ds) (h0 : I ρ) (st : ∀ d ρ, d ∈ ds → I ρ → ∃ ρ1 ρ2, bindPat pt d ρ = some ρ1 ∧ f ρ1 = .nx ρ2 ∧ I ρ2) (hk : ∀ ρ', I ρ' → outR (g ρ') = r) : outR (dSeq (dFor own pt it f) g ρ) = r := by
  obtain ⟨ρ', e1, e2⟩ := for_nx (own := own) (pt := pt) (f := f) I hit h0 st
  exact out_seq e1 (hk ρ' e2)
theorem lc_ok1 {vs : List Nat} {xs : List α} {enc : α → D} {fe : DE} (g : α → D) (hit : it ρ = .ok (xs.map enc)) (h : ∀ x ∈ xs, ∃ ρ1, bindPat pt (enc x) (mask vs ρ) = some ρ1 ∧ fe ρ1 = .ok (g x)) :
    dLcs vs pt it dYes fe ρ = .ok (xs.map g) := by
  unfold dLcs; rw [hit]; exact lcGo_all enc g xs h
theorem dLc_of {vs : List Nat} {t : DT} {fe : DE} {ds : List D} (h : dLcs vs pt it t fe ρ = .ok ds) : dLc vs pt it t fe ρ = .ok (.lst ds) := by
  unfold dLc; rw [h]; rfl
end
theorem rngD0 (n : Nat) : rngD 0 n = (List.range n).map fun i => D.int ((i : Nat) : Int) := by simp [rngD]
theorem rng1_ok {n : Nat} (h : n ≤ 16777216) : rng1 [.int (n : Int)] = some ((List.range n).map fun i => D.int ((i : Nat) : Int)) := by
  simp only [rng1]
  rw [if_pos ⟨by omega, by omega⟩, ← rngD0]
  rfl
theorem rng1_it {g : DA} {ρ : Env} {n : Nat} (hg : g ρ = .ok [.int (n : Int)]) (h : n ≤ 16777216) : dRng rng1 g ρ = .ok ((List.range n).map fun i => D.int ((i : Nat) : Int)) := by
  unfold dRng; rw [hg]
  show ofO (rng1 [.int (n : Int)]) = _
  rw [rng1_ok h]; rfl
theorem set_nx {own : List Nat} {i : Nat} {f : DE} {ρ : Env} {d : D} (h : f (mask own ρ) = .ok d) : dSet own i f ρ = .nx (ρ.set i (some d)) := by
  unfold dSet; rw [h]; rfl
theorem ret_of {f : DE} {ρ : Env} {r : R D} (h : f ρ = r) : outR (dRet f ρ) = r := by
  unfold dRet; rw [h]; cases r <;> rfl
theorem ifs_t {t : DT} {f g : DS} {ρ : Env} {o : O} (h : t ρ = .ok true) (hf : f ρ = o) : dIfS t f g ρ = o := by
  unfold dIfS; rw [h]; exact hf
theorem ifs_f {t : DT} {f g : DS} {ρ : Env} {o : O} (h : t ρ = .ok false) (hf : g ρ = o) : dIfS t f g ρ = o := by
  unfold dIfS; rw [h]; exact hf
mutual
def pl : Nat → D → Bool
  | _, .non => true
  | _, .bl _ => true
  | _, .int _ => true
  | _, .str x => PySem.PyData.strOk x
  | n + 1, .tup xs => pls n xs
  | n + 1, .lst xs => pls n xs
  | _, _ => false
def pls : Nat → List D → Bool
  | _, [] => true
  | n, x :: xs => pl n x && pls n xs
end
mutual
theorem pl_pln : ∀ (d : D) (n : Nat), pl n d = true → pln n d = true
  | .non, _, _ => by simp [pln]
  | .bl _, _, _ => by simp [pln]
  | .int _, _, _ => by simp [pln]
  | .str _, _, h => by simpa [pln, pl] using h
  | .tup xs, 0, h => by simp [pl] at h
  | .tup xs, n + 1, h => by simp only [pl] at h; simp only [pln]; exact pls_plns xs n h
  | .lst xs, 0, h => by simp [pl] at h
  | .lst xs, n + 1, h => by simp only [pl] at h; simp only [pln]; exact pls_plns xs n h
  | .dct _, n, h => by cases n <;> simp [pl] at h
  | .exc _, n, h => by cases n <;> simp [pl] at h
  | .scr _, n, h => by cases n <;> simp [pl] at h
  | .scr0, n, h => by cases n <;> simp [pl] at h
  | .fnv, n, h => by cases n <;> simp [pl] at h
  | .obj _, n, h => by cases n <;> simp [pl] at h
  | .dcl _, n, h => by cases n <;> simp [pl] at h
  | .scr1, n, h => by cases n <;> simp [pl] at h
theorem pls_plns : ∀ (ds : List D) (n : Nat), pls n ds = true → plns n ds = true
  | [], _, _ => by simp [plns]
  | d :: ds, n, h => by
    simp only [pls, Bool.and_eq_true] at h
    simp only [plns, Bool.and_eq_true]
    exact ⟨pl_pln d n h.1, pls_plns ds n h.2⟩
end
mutual
theorem deq_self : ∀ (d : D) (n : Nat), pl n d = true → deq d d = true
  | .non, _, _ => by simp [deq]
  | .bl _, _, _ => by simp [deq]
  | .int _, _, _ => by simp [deq]
  | .str _, _, h => by simp [deq]
  | .tup xs, 0, h => by simp [pl] at h
  | .tup xs, n + 1, h => by simp only [pl] at h; simp only [deq]; exact deqs_self xs n h
  | .lst xs, 0, h => by simp [pl] at h
  | .lst xs, n + 1, h => by simp only [pl] at h; simp only [deq]; exact deqs_self xs n h
  | .dct _, n, h => by cases n <;> simp [pl] at h
  | .exc _, n, h => by cases n <;> simp [pl] at h
  | .scr _, n, h => by cases n <;> simp [pl] at h
  | .scr0, n, h => by cases n <;> simp [pl] at h
  | .fnv, n, h => by cases n <;> simp [pl] at h
  | .obj _, n, h => by cases n <;> simp [pl] at h
  | .dcl _, n, h => by cases n <;> simp [pl] at h
  | .scr1, n, h => by cases n <;> simp [pl] at h
theorem deqs_self : ∀ (ds : List D) (n : Nat), pls n ds = true → deqs ds ds = true
  | [], _, _ => by simp [deqs]
  | d :: ds, n, h => by
    simp only [pls, Bool.and_eq_true] at h
    simp only [deqs, Bool.and_eq_true]
    exact ⟨deq_self d n h.1, deqs_self ds n h.2⟩
end
theorem oEq_self {d : D} (h : pl 64 d = true) : oEq d d = some (.bl true) := by
  unfold oEq; rw [pl_pln d 64 h, deq_self d 64 h]; rfl
theorem oNe_self {d : D} (h : pl 64 d = true) : oNe d d = some (.bl false) := by
  unfold oNe; rw [pl_pln d 64 h, deq_self d 64 h]; rfl
theorem oIx_t0 (a : D) (as : List D) : oIx (.tup (a :: as)) (.int 0) = some a := by
  simp [oIx, atI, ixN]
theorem oIx_t1 (a b : D) (as : List D) : oIx (.tup (a :: b :: as)) (.int 1) = some b := by
  show atI (a :: b :: as) ((1 : Nat) : Int) = _
  rw [atI_nat' (by simp)]; rfl
theorem pick_at {pk : Nat → Int → Int} (h : ∀ k m, 0 < m → 0 ≤ pk k m ∧ pk k m < m) (k : Nat) {m : Nat} (hm : 0 < m) : ∃ n : Nat, n < m ∧ pk k (m : Int) = (n : Int) := by
  obtain ⟨h1, h2⟩ := h k (m : Int) (by omega)
  exact ⟨(pk k (m : Int)).toNat, by omega, by omega⟩
theorem dPick_ok (pk : Nat → Int → Int) (k : Nat) {m : Int} (hm : 0 < m) : dPick pk [.scr0, .int (k : Int), .int m] = .ok (.int (pk k m)) := by
  simp only [dPick]
  rw [if_pos ⟨by omega, hm⟩]
  rfl
theorem at_map {α : Type} {g : α → D} {xs : List α} {i : Nat} {x : α} (h : xs[i]? = some x) : oIx (.lst (xs.map g)) (.int (i : Int)) = some (g x) := by
  have hl : i < (xs.map g).length := by
    rw [List.length_map]; exact (List.getElem?_eq_some_iff.mp h).1
  show atI (xs.map g) (i : Int) = _
  rw [atI_nat' hl, List.getElem?_map, h]; rfl
end Sm
namespace Kx
open PySem PySem.Spec L2 Sm
def b__law_do : DS :=
  (dSeq (dSet [] 2 (dC .non))
    (dSeq (dSet [] 3 (dC .non))
    (dSeq (dTryK [1, 2, 3, 4, 5, 6] 2 4 (dSet [] 3 (dIf (asB (dBin oEq (dVar 0) (dC (.int 0)))) (dCall d_game_text (dCons (dVar 1) dNil)) (dCall d_read_game (dCons (dVar 1) dNil)))))
    (dSeq (dIfS (asB (dBin oIs (dVar 2) (dC .non))) (dRet (dVar 3)) .nx)
    (dRet (dCall d__law_word (dCons (dVar 2) dNil)))))))
def d__law_do : List D → R D := defD 2 5 (b__law_do)
def b_law (pk : Nat → Int → Int) : DS :=
  (dSeq (dSet [] 1 (dCall (d__law_drawn pk) (dCons (dVar 0) (dCons (dC (.int 4)) dNil))))
    (dSeq (dSet [] 2 (dCall (d__law_text 8) (dCons (dVar 1) dNil)))
    (dSeq (dIfS (dOrT (asB (dBin oNe (dCall d__law_do (dCons (dC (.int 0)) (dCons (dVar 1) dNil))) (dVar 2))) (asB (dBin oNe (dCall d__law_do (dCons (dC (.int 1)) (dCons (dVar 2) dNil))) (dVar 1)))) (dRet (dC (.bl false))) .nx)
    (dSeq (dFor [] (.v 3) (dRng rng1 (dCons (dC (.int 5)) dNil)) (dSeq (dSet [] 6 (dC (.str "0123:( )-9")))
    (dSeq (dIfS (asB (dBin oGt (dVar 3) (dC (.int 2)))) (dSet [] 6 (dC (.str "0:( )-+\n!#$&'*,./;<=>?@ABZ[]^_abz{|}~"))) .nx)
    (dSeq (dSet [] 7 (dCall d__law_spoilt (dCons (dVar 2) (dCons (dCall (dPick pk) (dCons (dVar 0) (dCons (dBin oAdd (dC (.int 9000)) (dVar 3)) (dCons (dBin oPowI (dC (.int 10)) (dC (.int 9))) dNil)))) (dCons (dVar 6) dNil)))))
    (dSeq (dSet [] 8 (dCall d__law_do (dCons (dC (.int 1)) (dCons (dVar 7) dNil))))
    (dIfS (dAndT (asB (dBin oNe (dVar 8) (dC (.str "no text")))) (dOrT (dNotT (dTru (dCall (d__law_is_game 8) (dCons (dVar 8) (dCons (dC (.int 4)) dNil))))) (asB (dBin oNe (dCall (d__law_text 8) (dCons (dVar 8) dNil)) (dVar 7))))) (dRet (dC (.bl false))) .nx))))))
    (dSeq (dSetN [] 4 (dCons (dC (.str "")) (dCons (dC (.str "-")) (dCons (dC (.str "01")) (dCons (dC (.str "-0")) (dCons (dC (.str "21")) (dCons (dC (.str "100")) (dCons (dC (.str "1()")) (dCons (dC (.str "1(")) (dCons (dC (.str "1(1:2")) (dCons (dC (.str "1(1:2))")) (dCons (dC (.str "1(1:2  1:3)")) (dCons (dC (.str "1(0:2)")) dNil)))))))))))))
    (dSeq (dExt [4] 4 (dLst (dCons (dC (.str "1(10:2)")) (dCons (dC (.str "1 (1:2)")) dNil))))
    (dSeq (dExt [4] 4 (dLst (dCons (dC (.str "1(1:1 1:1 1:1 1:1)")) (dCons (dC (.str "1(1:1(1:1(1:1(1:1))))")) (dCons (dC (.str "1(1)")) (dCons (dC (.str "1(1:2 )")) (dCons (dC (.str "+1")) (dCons (dC (.str "1(01:2)")) (dCons (dC (.str "(1:2)")) (dCons (dC (.str "1:2")) dNil))))))))))
    (dSeq (dIfS (asB (dBin oNe (dCall d__law_do (dCons (dC (.int 1)) (dCons (dBin oIx (dVar 4) (dCall (dPick pk) (dCons (dVar 0) (dCons (dC (.int 9010)) (dCons (dC (.int 22)) dNil))))) dNil))) (dC (.str "no text")))) (dRet (dC (.bl false))) .nx)
    (dSeq (dSet [4] 5 (dCall (d__law_spoilt_thing pk) (dCons (dVar 0) (dCons (dC (.int 9050)) (dCons (dVar 1) dNil)))))
    (dRet (dOr (dCall (d__law_is_game 8) (dCons (dVar 5) (dCons (dC (.int 4)) dNil))) (dBin oEq (dCall d__law_do (dCons (dC (.int 0)) (dCons (dVar 5) dNil))) (dC (.str "no game"))))))))))))))
def d_law (pk : Nat → Int → Int) : List D → R D := defD 1 9 (b_law pk)
end Kx
namespace Sm
open PySem PySem.Spec L2
inductive Game where
  | node (w : Int) (ws : List (Int × Game))
namespace Game
def worth : Game → Int | .node w _ => w
def ways : Game → List (Int × Game) | .node _ ws => ws
theorem lt_of_mem {w : Int} {ws : List (Int × Game)} {p : Int × Game} (h : p ∈ ws) : sizeOf p.2 < sizeOf (Game.node w ws) := by
  have h1 := List.sizeOf_lt_of_mem h
  obtain ⟨a, b⟩ := p
  simp at h1 ⊢
  omega
theorem ind {P : Game → Prop} (h : ∀ w ws, (∀ p ∈ ws, P p.2) → P (.node w ws)) : ∀ g, P g
  | .node w ws => h w ws fun p hp => ind h p.2
termination_by g => sizeOf g
decreasing_by exact lt_of_mem hp
def enc : Game → D
  | .node w ws => if ws = [] then .tup [.int w] else .tup [.int w, .tup (ws.map fun p => .tup [.int p.1, p.2.enc])]
termination_by g => sizeOf g
decreasing_by exact lt_of_mem ‹_›
def Ok : Nat → Game → Prop
  | 0, _ => False
  | n + 1, .node w ws => (-20 ≤ w ∧ w ≤ 20) ∧ ws.length ≤ 3 ∧ ∀ p ∈ ws, (1 ≤ p.1 ∧ p.1 ≤ 9) ∧ Ok n p.2
theorem Ok.mono : ∀ {n m : Nat} {g : Game}, Ok n g → n ≤ m → Ok m g
  | 0, _, _, h, _ => h.elim
  | n + 1, 0, _, _, h => by omega
  | n + 1, m + 1, .node w ws, h, hm => ⟨h.1, h.2.1, fun p hp => ⟨(h.2.2 p hp).1, (h.2.2 p hp).2.mono (by omega)⟩⟩
def idxs : Nat → List (List (List Nat)) → List (List Nat)
  | _, [] => []
  | k, ps :: r => ps.map (k :: ·) ++ idxs (k + 1) r
def paths : Game → List (List Nat)
  | .node _ ws => [] :: idxs 0 (ws.map fun p => p.2.paths)
termination_by g => sizeOf g
decreasing_by exact lt_of_mem ‹_›
def part : Game → List Nat → Game
  | g, [] => g
  | g, i :: p => match g.ways[i]? with
    | some x => part x.2 p
    | none => g
def IsPath : Game → List Nat → Prop
  | _, [] => True
  | g, i :: p => match g.ways[i]? with
    | some x => IsPath x.2 p
    | none => False
def put : Game → List Nat → Game → Game
  | _, [], o => o
  | .node w ws, i :: p, o => match ws[i]? with
    | some x => .node w (ws.set i (x.1, put x.2 p o))
    | none => .node w ws
theorem mem_idxs {p : List Nat} : ∀ {l : List (List (List Nat))} {k : Nat}, p ∈ idxs k l ↔ ∃ i q, p = (k + i) :: q ∧ ∃ ps, l[i]? = some ps ∧ q ∈ ps
  | [], k => by simp [idxs]
  | ps :: r, k => by
    rw [idxs, List.mem_append, mem_idxs (l := r) (k := k + 1)]
    constructor
    · rintro (h | ⟨i, q, rfl, ps', h1, h2⟩)
      · obtain ⟨q, hq, rfl⟩ := List.mem_map.mp h
        exact ⟨0, q, rfl, ps, rfl, hq⟩
      · exact ⟨i + 1, q, by rw [show k + 1 + i = k + (i + 1) by omega], ps', h1, h2⟩
    · rintro ⟨i, q, rfl, ps', h1, h2⟩
      cases i with
      | zero =>
        cases h1
        exact .inl (List.mem_map.mpr ⟨q, h2, rfl⟩)
      | succ i => exact .inr ⟨i, q, by rw [show k + 1 + i = k + (i + 1) by omega], ps', h1, h2⟩
def total (g : Game) : Int := (g.ways.map (·.1)).sum
def chance : Game → List Nat → Rat
  | _, [] => 1
  | g, i :: p => match g.ways[i]? with
    | some x => Rat.divInt x.1 g.total * chance x.2 p
    | none => 0
end Game
end Sm
namespace Kx
open PySem PySem.Spec L2 Sm
theorem enc_end (w : Int) : (Game.node w []).enc = .tup [.int w] := by rw [Game.enc]; simp
theorem enc_go (w : Int) (x : Int × Game) (ws : List (Int × Game)) : (Game.node w (x :: ws)).enc = .tup [.int w, .tup ((x :: ws).map fun p => .tup [.int p.1, p.2.enc])] := by rw [Game.enc]; simp
def encW (ws : List (Int × Game)) : List D := ws.map fun p => .tup [.int p.1, p.2.enc]
def encP (p : List Nat) : D := .tup (p.map fun i : Nat => .int (i : Int))
theorem whole_ok (i lo hi : Int) : d_is_whole [.int i, .int lo, .int hi] = .ok (.bl (decide (lo ≤ i) && decide (i ≤ hi))) := by
  by_cases h : lo ≤ i
  · simp only [d_is_whole, b_is_whole, oIsInt, oIsBool, oLe, decide_eq_true h, defD, args, dSeq, dSet, dSetP, dSetN, lstAt, dApp, dAppP, dAsg, dPar, dDrop, dWhile, dIfS, dRet, dB, dCall, dCons, dNil, dVar, dC, dBin, dChain, asB, dTru, dNotT, dAndT, dOrT, dAnd, dOr, dNot, dIf, dUn, dTup, dLst, dItems, dYes, R.bind, R.to, O.seq, outR, ofO, noErr, mask, Sm.putIn, bindPat, bindPats, itemsOf, tru, List.foldr_cons, List.foldr_nil, List.length_cons, List.length_nil, List.map_cons, List.map_nil, List.cons_append, List.nil_append, Nat.sub_self, List.replicate_zero, List.replicate_succ, List.getElem?_cons_succ, List.getElem?_cons_zero, List.set_cons_zero, List.set_cons_succ, Nat.reduceAdd, Nat.reduceSub, ↓reduceIte, Bool.not_true, Bool.not_false, Bool.and_true, Bool.true_and, Bool.false_and, Bool.and_false, if_true, if_false, Bool.false_eq_true, oNeg, oAddI, oSubI, oAdd_ii, oLt, oLe, oGt, oGe, Option.bind_some, Option.map_some]
  · simp only [d_is_whole, b_is_whole, oIsInt, oIsBool, oLe, decide_eq_false h, defD, args, dSeq, dSet, dSetP, dSetN, lstAt, dApp, dAppP, dAsg, dPar, dDrop, dWhile, dIfS, dRet, dB, dCall, dCons, dNil, dVar, dC, dBin, dChain, asB, dTru, dNotT, dAndT, dOrT, dAnd, dOr, dNot, dIf, dUn, dTup, dLst, dItems, dYes, R.bind, R.to, O.seq, outR, ofO, noErr, mask, Sm.putIn, bindPat, bindPats, itemsOf, tru, List.foldr_cons, List.foldr_nil, List.length_cons, List.length_nil, List.map_cons, List.map_nil, List.cons_append, List.nil_append, Nat.sub_self, List.replicate_zero, List.replicate_succ, List.getElem?_cons_succ, List.getElem?_cons_zero, List.set_cons_zero, List.set_cons_succ, Nat.reduceAdd, Nat.reduceSub, ↓reduceIte, Bool.not_true, Bool.not_false, Bool.and_true, Bool.true_and, Bool.false_and, Bool.and_false, if_true, if_false, Bool.false_eq_true, oNeg, oAddI, oSubI, oAdd_ii, oLt, oLe, oGt, oGe, Option.bind_some, Option.map_some]
theorem ways_ok (g : Game) : d_ways_of [g.enc] = .ok (.tup (encW g.ways)) := by
  cases g with
  | node w ws =>
    cases ws with
    | nil =>
      rw [enc_end]
      simp only [d_ways_of, b_ways_of, oLen, oEq_int, Game.ways, encW, defD, args, dSeq, dSet, dSetP, dSetN, lstAt, dApp, dAppP, dAsg, dPar, dDrop, dWhile, dIfS, dRet, dB, dCall, dCons, dNil, dVar, dC, dBin, dChain, asB, dTru, dNotT, dAndT, dOrT, dAnd, dOr, dNot, dIf, dUn, dTup, dLst, dItems, dYes, R.bind, R.to, O.seq, outR, ofO, noErr, mask, Sm.putIn, bindPat, bindPats, itemsOf, tru, List.foldr_cons, List.foldr_nil, List.length_cons, List.length_nil, List.map_cons, List.map_nil, List.cons_append, List.nil_append, Nat.sub_self, List.replicate_zero, List.replicate_succ, List.getElem?_cons_succ, List.getElem?_cons_zero, List.set_cons_zero, List.set_cons_succ, Nat.reduceAdd, Nat.reduceSub, ↓reduceIte, Bool.not_true, Bool.not_false, Bool.and_true, Bool.true_and, Bool.false_and, Bool.and_false, if_true, if_false, Bool.false_eq_true, oNeg, oAddI, oSubI, oAdd_ii, oLt, oLe, oGt, oGe, Option.bind_some, Option.map_some]
      rfl
    | cons x ws =>
      rw [enc_go]
      simp only [d_ways_of, b_ways_of, oLen, oEq_int, Game.ways, encW, oIx_t1, defD, args, dSeq, dSet, dSetP, dSetN, lstAt, dApp, dAppP, dAsg, dPar, dDrop, dWhile, dIfS, dRet, dB, dCall, dCons, dNil, dVar, dC, dBin, dChain, asB, dTru, dNotT, dAndT, dOrT, dAnd, dOr, dNot, dIf, dUn, dTup, dLst, dItems, dYes, R.bind, R.to, O.seq, outR, ofO, noErr, mask, Sm.putIn, bindPat, bindPats, itemsOf, tru, List.foldr_cons, List.foldr_nil, List.length_cons, List.length_nil, List.map_cons, List.map_nil, List.cons_append, List.nil_append, Nat.sub_self, List.replicate_zero, List.replicate_succ, List.getElem?_cons_succ, List.getElem?_cons_zero, List.set_cons_zero, List.set_cons_succ, Nat.reduceAdd, Nat.reduceSub, ↓reduceIte, Bool.not_true, Bool.not_false, Bool.and_true, Bool.true_and, Bool.false_and, Bool.and_false, if_true, if_false, Bool.false_eq_true, oNeg, oAddI, oSubI, oAdd_ii, oLt, oLe, oGt, oGe, Option.bind_some, Option.map_some]
      rfl
theorem ix0_ok (g : Game) : oIx g.enc (.int 0) = some (.int g.worth) := by
  cases g with
  | node w ws =>
    cases ws with
    | nil => rw [enc_end]; exact oIx_t0 _ _
    | cons x ws => rw [enc_go]; exact oIx_t0 _ _
theorem all_true {α : Type} (l : List α) : oAll [.lst (l.map fun _ => D.bl true)] = some (.bl true) := by
  have bo : boolsOf (l.map fun _ => D.bl true) = some (l.map fun _ => true) := by
    induction l with
    | nil => rfl
    | cons a l ih => simp only [List.map_cons, boolsOf, ih, Option.map_some]
  simp only [oAll, bo, Option.map_some]
  simp
theorem game_in_ok : ∀ (n : Nat) (g : Game) (deep : Nat), deep < n → g.Ok deep → d_is_game_in n [g.enc, .int (deep : Int)] = .ok (.bl true)
  | 0, _, _, h, _ => by omega
  | n + 1, .node w ws, 0, _, h => h.elim
  | n + 1, .node w ws, deep + 1, hn, h => by
    have d0 : (((deep + 1 : Nat) : Int) == 0) = false := by simp; omega
    have wh := whole_ok w (0 - 20) 20
    rw [decide_eq_true (show 0 - 20 ≤ w by have := h.1.1; omega), decide_eq_true h.1.2] at wh
    refine defD_eq rfl ?_
    unfold b_is_game_in
    cases ws with
    | nil =>
      rw [enc_end]
      simp only [oEq_int, d0, oIsTup, oIx_t0, wh, oLen, List.isEmpty, defD, args, dSeq, dSet, dSetP, dSetN, lstAt, dApp, dAppP, dAsg, dPar, dDrop, dWhile, dIfS, dRet, dB, dCall, dCons, dNil, dVar, dC, dBin, dChain, asB, dTru, dNotT, dAndT, dOrT, dAnd, dOr, dNot, dIf, dUn, dTup, dLst, dItems, dYes, R.bind, R.to, O.seq, outR, ofO, noErr, mask, Sm.putIn, bindPat, bindPats, itemsOf, tru, List.foldr_cons, List.foldr_nil, List.length_cons, List.length_nil, List.map_cons, List.map_nil, List.cons_append, List.nil_append, Nat.sub_self, List.replicate_zero, List.replicate_succ, List.getElem?_cons_succ, List.getElem?_cons_zero, List.set_cons_zero, List.set_cons_succ, Nat.reduceAdd, Nat.reduceSub, ↓reduceIte, Bool.not_true, Bool.not_false, Bool.and_true, Bool.true_and, Bool.false_and, Bool.and_false, if_true, if_false, Bool.false_eq_true, oNeg, oAddI, oSubI, oAdd_ii, oLt, oLe, oGt, oGe, Option.bind_some, Option.map_some]
      simp
    | cons x ws =>
      rw [enc_go]
      have hl : (x :: ws).length ≤ 3 := h.2.1
      have hlen : ((x :: ws).map fun p => D.tup [.int p.1, p.2.enc]).length = (x :: ws).length := List.length_map ..
      generalize hE : ((x :: ws).map fun p => D.tup [.int p.1, p.2.enc]) = E at *
      refine out_seq (ρ1 := [some (.tup [.int w, .tup E]), some (.int ((deep + 1 : Nat) : Int)), none]) ?_ ?_
      · simp only [oEq_int, d0, oIsTup, oIx_t0, wh, oLen, List.isEmpty, defD, args, dSeq, dSet, dSetP, dSetN, lstAt, dApp, dAppP, dAsg, dPar, dDrop, dWhile, dIfS, dRet, dB, dCall, dCons, dNil, dVar, dC, dBin, dChain, asB, dTru, dNotT, dAndT, dOrT, dAnd, dOr, dNot, dIf, dUn, dTup, dLst, dItems, dYes, R.bind, R.to, O.seq, outR, ofO, noErr, mask, Sm.putIn, bindPat, bindPats, itemsOf, tru, List.foldr_cons, List.foldr_nil, List.length_cons, List.length_nil, List.map_cons, List.map_nil, List.cons_append, List.nil_append, Nat.sub_self, List.replicate_zero, List.replicate_succ, List.getElem?_cons_succ, List.getElem?_cons_zero, List.set_cons_zero, List.set_cons_succ, Nat.reduceAdd, Nat.reduceSub, ↓reduceIte, Bool.not_true, Bool.not_false, Bool.and_true, Bool.true_and, Bool.false_and, Bool.and_false, if_true, if_false, Bool.false_eq_true, oNeg, oAddI, oSubI, oAdd_ii, oLt, oLe, oGt, oGe, Option.bind_some, Option.map_some]
      refine out_seq (ρ1 := [some (.tup [.int w, .tup E]), some (.int ((deep + 1 : Nat) : Int)), none]) ?_ ?_
      · simp only [oEq_int, oLen, show ((((2 : Nat) : Int)) == 1) = false by decide, defD, args, dSeq, dSet, dSetP, dSetN, lstAt, dApp, dAppP, dAsg, dPar, dDrop, dWhile, dIfS, dRet, dB, dCall, dCons, dNil, dVar, dC, dBin, dChain, asB, dTru, dNotT, dAndT, dOrT, dAnd, dOr, dNot, dIf, dUn, dTup, dLst, dItems, dYes, R.bind, R.to, O.seq, outR, ofO, noErr, mask, Sm.putIn, bindPat, bindPats, itemsOf, tru, List.foldr_cons, List.foldr_nil, List.length_cons, List.length_nil, List.map_cons, List.map_nil, List.cons_append, List.nil_append, Nat.sub_self, List.replicate_zero, List.replicate_succ, List.getElem?_cons_succ, List.getElem?_cons_zero, List.set_cons_zero, List.set_cons_succ, Nat.reduceAdd, Nat.reduceSub, ↓reduceIte, Bool.not_true, Bool.not_false, Bool.and_true, Bool.true_and, Bool.false_and, Bool.and_false, if_true, if_false, Bool.false_eq_true, oNeg, oAddI, oSubI, oAdd_ii, oLt, oLe, oGt, oGe, Option.bind_some, Option.map_some]
      refine out_seq (ρ1 := [some (.tup [.int w, .tup E]), some (.int ((deep + 1 : Nat) : Int)), none]) ?_ ?_
      · have l1 : (1 : Int) ≤ (E.length : Int) := by rw [hlen]; simp; omega
        have l3 : (E.length : Int) ≤ 3 := by omega
        simp only [oNe_int, oLen, oIx_t1, oIsTup, show ((((2 : Nat) : Int)) == 2) = true by decide, decide_eq_true l1, decide_eq_true l3, defD, args, dSeq, dSet, dSetP, dSetN, lstAt, dApp, dAppP, dAsg, dPar, dDrop, dWhile, dIfS, dRet, dB, dCall, dCons, dNil, dVar, dC, dBin, dChain, asB, dTru, dNotT, dAndT, dOrT, dAnd, dOr, dNot, dIf, dUn, dTup, dLst, dItems, dYes, R.bind, R.to, O.seq, outR, ofO, noErr, mask, Sm.putIn, bindPat, bindPats, itemsOf, tru, List.foldr_cons, List.foldr_nil, List.length_cons, List.length_nil, List.map_cons, List.map_nil, List.cons_append, List.nil_append, Nat.sub_self, List.replicate_zero, List.replicate_succ, List.getElem?_cons_succ, List.getElem?_cons_zero, List.set_cons_zero, List.set_cons_succ, Nat.reduceAdd, Nat.reduceSub, ↓reduceIte, Bool.not_true, Bool.not_false, Bool.and_true, Bool.true_and, Bool.false_and, Bool.and_false, if_true, if_false, Bool.false_eq_true, oNeg, oAddI, oSubI, oAdd_ii, oLt, oLe, oGt, oGe, Option.bind_some, Option.map_some]
      refine for_out (ds := E) (fun ρ => ∃ y, ρ = [some (.tup [.int w, .tup E]), some (.int ((deep + 1 : Nat) : Int)), y]) ?_ ⟨none, rfl⟩ ?_ ?_
      · simp only [oIx_t1, defD, args, dSeq, dSet, dSetP, dSetN, lstAt, dApp, dAppP, dAsg, dPar, dDrop, dWhile, dIfS, dRet, dB, dCall, dCons, dNil, dVar, dC, dBin, dChain, asB, dTru, dNotT, dAndT, dOrT, dAnd, dOr, dNot, dIf, dUn, dTup, dLst, dItems, dYes, R.bind, R.to, O.seq, outR, ofO, noErr, mask, Sm.putIn, bindPat, bindPats, itemsOf, tru, List.foldr_cons, List.foldr_nil, List.length_cons, List.length_nil, List.map_cons, List.map_nil, List.cons_append, List.nil_append, Nat.sub_self, List.replicate_zero, List.replicate_succ, List.getElem?_cons_succ, List.getElem?_cons_zero, List.set_cons_zero, List.set_cons_succ, Nat.reduceAdd, Nat.reduceSub, ↓reduceIte, Bool.not_true, Bool.not_false, Bool.and_true, Bool.true_and, Bool.false_and, Bool.and_false, if_true, if_false, Bool.false_eq_true, oNeg, oAddI, oSubI, oAdd_ii, oLt, oLe, oGt, oGe, Option.bind_some, Option.map_some]
      · rintro d ρ hd ⟨y, rfl⟩
        rw [← hE] at hd
        obtain ⟨p, hp, rfl⟩ := List.mem_map.mp hd
        have wk := whole_ok p.1 1 9
        rw [decide_eq_true (h.2.2 p hp).1.1, decide_eq_true (h.2.2 p hp).1.2] at wk
        refine ⟨_, _, rfl, ?_, some (.tup [.int p.1, p.2.enc]), rfl⟩
        simp only [oIsTup, oNe_int, oLen, oIx_t0, wk, show ((((2 : Nat) : Int)) == 2) = true by decide, defD, args, dSeq, dSet, dSetP, dSetN, lstAt, dApp, dAppP, dAsg, dPar, dDrop, dWhile, dIfS, dRet, dB, dCall, dCons, dNil, dVar, dC, dBin, dChain, asB, dTru, dNotT, dAndT, dOrT, dAnd, dOr, dNot, dIf, dUn, dTup, dLst, dItems, dYes, R.bind, R.to, O.seq, outR, ofO, noErr, mask, Sm.putIn, bindPat, bindPats, itemsOf, tru, List.foldr_cons, List.foldr_nil, List.length_cons, List.length_nil, List.map_cons, List.map_nil, List.cons_append, List.nil_append, Nat.sub_self, List.replicate_zero, List.replicate_succ, List.getElem?_cons_succ, List.getElem?_cons_zero, List.set_cons_zero, List.set_cons_succ, Nat.reduceAdd, Nat.reduceSub, ↓reduceIte, Bool.not_true, Bool.not_false, Bool.and_true, Bool.true_and, Bool.false_and, Bool.and_false, if_true, if_false, Bool.false_eq_true, oNeg, oAddI, oSubI, oAdd_ii, oLt, oLe, oGt, oGe, Option.bind_some, Option.map_some]
      · rintro ρ' ⟨y, rfl⟩
        have lc : dLcs [2] (.v 2) (dItems (dBin oIx (dVar 0) (dC (.int 1)))) dYes (dCall (d_is_game_in n) (dCons (dBin oIx (dVar 2) (dC (.int 1))) (dCons (dBin oSubI (dVar 1) (dC (.int 1))) dNil))) [some (.tup [.int w, .tup E]), some (.int ((deep + 1 : Nat) : Int)), y] = .ok ((x :: ws).map fun _ => D.bl true) := by
          refine lc_ok1 (enc := fun p : Int × Game => D.tup [.int p.1, p.2.enc]) _ ?_ fun p hp => ⟨_, rfl, ?_⟩
          · simp only [oIx_t1, hE, defD, args, dSeq, dSet, dSetP, dSetN, lstAt, dApp, dAppP, dAsg, dPar, dDrop, dWhile, dIfS, dRet, dB, dCall, dCons, dNil, dVar, dC, dBin, dChain, asB, dTru, dNotT, dAndT, dOrT, dAnd, dOr, dNot, dIf, dUn, dTup, dLst, dItems, dYes, R.bind, R.to, O.seq, outR, ofO, noErr, mask, Sm.putIn, bindPat, bindPats, itemsOf, tru, List.foldr_cons, List.foldr_nil, List.length_cons, List.length_nil, List.map_cons, List.map_nil, List.cons_append, List.nil_append, Nat.sub_self, List.replicate_zero, List.replicate_succ, List.getElem?_cons_succ, List.getElem?_cons_zero, List.set_cons_zero, List.set_cons_succ, Nat.reduceAdd, Nat.reduceSub, ↓reduceIte, Bool.not_true, Bool.not_false, Bool.and_true, Bool.true_and, Bool.false_and, Bool.and_false, if_true, if_false, Bool.false_eq_true, oNeg, oAddI, oSubI, oAdd_ii, oLt, oLe, oGt, oGe, Option.bind_some, Option.map_some]
          · have ih := game_in_ok n p.2 deep (by omega) (h.2.2 p hp).2
            simp only [oIx_t1, show ((deep + 1 : Nat) : Int) - 1 = (deep : Int) by omega, ih, defD, args, dSeq, dSet, dSetP, dSetN, lstAt, dApp, dAppP, dAsg, dPar, dDrop, dWhile, dIfS, dRet, dB, dCall, dCons, dNil, dVar, dC, dBin, dChain, asB, dTru, dNotT, dAndT, dOrT, dAnd, dOr, dNot, dIf, dUn, dTup, dLst, dItems, dYes, R.bind, R.to, O.seq, outR, ofO, noErr, mask, Sm.putIn, bindPat, bindPats, itemsOf, tru, List.foldr_cons, List.foldr_nil, List.length_cons, List.length_nil, List.map_cons, List.map_nil, List.cons_append, List.nil_append, Nat.sub_self, List.replicate_zero, List.replicate_succ, List.getElem?_cons_succ, List.getElem?_cons_zero, List.set_cons_zero, List.set_cons_succ, Nat.reduceAdd, Nat.reduceSub, ↓reduceIte, Bool.not_true, Bool.not_false, Bool.and_true, Bool.true_and, Bool.false_and, Bool.and_false, if_true, if_false, Bool.false_eq_true, oNeg, oAddI, oSubI, oAdd_ii, oLt, oLe, oGt, oGe, Option.bind_some, Option.map_some]
        have al := all_true (x :: ws)
        generalize ((x :: ws).map fun _ => D.bl true) = L at *
        simp only [dLc, lc, al, defD, args, dSeq, dSet, dSetP, dSetN, lstAt, dApp, dAppP, dAsg, dPar, dDrop, dWhile, dIfS, dRet, dB, dCall, dCons, dNil, dVar, dC, dBin, dChain, asB, dTru, dNotT, dAndT, dOrT, dAnd, dOr, dNot, dIf, dUn, dTup, dLst, dItems, dYes, R.bind, R.to, O.seq, outR, ofO, noErr, mask, Sm.putIn, bindPat, bindPats, itemsOf, tru, List.foldr_cons, List.foldr_nil, List.length_cons, List.length_nil, List.map_cons, List.map_nil, List.cons_append, List.nil_append, Nat.sub_self, List.replicate_zero, List.replicate_succ, List.getElem?_cons_succ, List.getElem?_cons_zero, List.set_cons_zero, List.set_cons_succ, Nat.reduceAdd, Nat.reduceSub, ↓reduceIte, Bool.not_true, Bool.not_false, Bool.and_true, Bool.true_and, Bool.false_and, Bool.and_false, if_true, if_false, Bool.false_eq_true, oNeg, oAddI, oSubI, oAdd_ii, oLt, oLe, oGt, oGe, Option.bind_some, Option.map_some]
theorem game_ok {g : Game} (h : g.Ok 4) : d_is_game [g.enc] = .ok (.bl true) := by
  have := game_in_ok 8 g 4 (by decide) h
  simp only [d_is_game, b_is_game, show d_is_game_in 8 [g.enc, .int 4] = _ from this, defD, args, dSeq, dSet, dSetP, dSetN, lstAt, dApp, dAppP, dAsg, dPar, dDrop, dWhile, dIfS, dRet, dB, dCall, dCons, dNil, dVar, dC, dBin, dChain, asB, dTru, dNotT, dAndT, dOrT, dAnd, dOr, dNot, dIf, dUn, dTup, dLst, dItems, dYes, R.bind, R.to, O.seq, outR, ofO, noErr, mask, Sm.putIn, bindPat, bindPats, itemsOf, tru, List.foldr_cons, List.foldr_nil, List.length_cons, List.length_nil, List.map_cons, List.map_nil, List.cons_append, List.nil_append, Nat.sub_self, List.replicate_zero, List.replicate_succ, List.getElem?_cons_succ, List.getElem?_cons_zero, List.set_cons_zero, List.set_cons_succ, Nat.reduceAdd, Nat.reduceSub, ↓reduceIte, Bool.not_true, Bool.not_false, Bool.and_true, Bool.true_and, Bool.false_and, Bool.and_false, if_true, if_false, Bool.false_eq_true, oNeg, oAddI, oSubI, oAdd_ii, oLt, oLe, oGt, oGe, Option.bind_some, Option.map_some]
theorem look_ok {g : Game} (h : g.Ok 4) : d_look_game [g.enc] = .ok .non := by
  simp only [d_look_game, b_look_game, game_ok h, defD, args, dSeq, dSet, dSetP, dSetN, lstAt, dApp, dAppP, dAsg, dPar, dDrop, dWhile, dIfS, dRet, dB, dCall, dCons, dNil, dVar, dC, dBin, dChain, asB, dTru, dNotT, dAndT, dOrT, dAnd, dOr, dNot, dIf, dUn, dTup, dLst, dItems, dYes, R.bind, R.to, O.seq, outR, ofO, noErr, mask, Sm.putIn, bindPat, bindPats, itemsOf, tru, List.foldr_cons, List.foldr_nil, List.length_cons, List.length_nil, List.map_cons, List.map_nil, List.cons_append, List.nil_append, Nat.sub_self, List.replicate_zero, List.replicate_succ, List.getElem?_cons_succ, List.getElem?_cons_zero, List.set_cons_zero, List.set_cons_succ, Nat.reduceAdd, Nat.reduceSub, ↓reduceIte, Bool.not_true, Bool.not_false, Bool.and_true, Bool.true_and, Bool.false_and, Bool.and_false, if_true, if_false, Bool.false_eq_true, oNeg, oAddI, oSubI, oAdd_ii, oLt, oLe, oGt, oGe, Option.bind_some, Option.map_some]
theorem enum_it {g : DA} {ρ : Sm.Env} {ds : List D} (hg : g ρ = .ok [.tup ds]) : dRng enumD g ρ = .ok (enumFrom 0 ds) := by
  unfold dRng; rw [hg]; rfl
theorem enum_itL {g : DA} {ρ : Sm.Env} {ds : List D} (hg : g ρ = .ok [.lst ds]) : dRng enumD g ρ = .ok (enumFrom 0 ds) := by
  unfold dRng; rw [hg]; rfl
theorem sizeLine_big : (100000 : Nat) ≤ sizeLine := by decide
end Kx
namespace Kx
open PySem PySem.Spec L2 Sm
end Kx
namespace Sm
def Game.Fair : Nat → Game → Prop
  | 0, _ => True
  | n + 1, .node w ws => (ws.map fun p => p.1 * (p.2.worth - w)).sum = 0 ∧ ∀ p ∈ ws, Game.Fair n p.2
def Game.Steps : Nat → Game → Prop
  | 0, _ => True
  | n + 1, .node w ws => ∀ p ∈ ws, (-3 ≤ p.2.worth - w ∧ p.2.worth - w ≤ 3) ∧ Game.Steps n p.2
end Sm
namespace Kx
open PySem PySem.Spec L2 Sm
def prD (x : Int × Int) : D := .tup [.int x.1, .int x.2]
theorem pickD {pk : Nat → Int → Int} (ok : PkOk pk) {i m : Int} (hi : 0 ≤ i) (hm : 0 < m) : ∃ r, dPick pk [.scr0, .int i, .int m] = .ok (.int r) ∧ 0 ≤ r ∧ r < m := by
  refine ⟨pk i.toNat m, ?_, (ok _ _ hm).1, (ok _ _ hm).2⟩
  simp only [dPick]
  rw [if_pos ⟨hi, hm⟩]
theorem many_ok {p : Int} (h : 0 ≤ p ∧ p < 5) : ∃ m : Nat, m ≤ 3 ∧ oIx (.lst [.int 0, .int 1, .int 2, .int 2, .int 3]) (.int p) = some (.int (m : Int)) := by
  have : p = 0 ∨ p = 1 ∨ p = 2 ∨ p = 3 ∨ p = 4 := by omega
  rcases this with rfl | rfl | rfl | rfl | rfl
  · exact ⟨0, by omega, rfl⟩
  · exact ⟨1, by omega, rfl⟩
  · exact ⟨2, by omega, rfl⟩
  · exact ⟨2, by omega, rfl⟩
  · exact ⟨3, by omega, rfl⟩
structure Rows (m : Nat) (even : Bool) (rs : List (Int × Int)) : Prop where
  len : rs.length = m
  bd : ∀ x ∈ rs, (1 ≤ x.1 ∧ x.1 ≤ 9) ∧ (-3 ≤ x.2 ∧ x.2 ≤ 3)
  fair : even = true → (rs.map fun x => x.1 * x.2).sum = 0
theorem Rows.rev {m : Nat} {even : Bool} {rs : List (Int × Int)} (h : Rows m even rs) : Rows m even rs.reverse where
  len := by rw [List.length_reverse]; exact h.len
  bd := fun x hx => h.bd x (List.mem_reverse.mp hx)
  fair := fun e => by
    rw [List.map_reverse, List.sum_reverse]; exact h.fair e
def rowsS (pk : Nat → Int → Int) : DS := (dIfS (dTru (dVar 4)) (dSeq (dPar [7] 12 13 (dCons (dBin oAdd (dC (.int 1)) (dCall (dPick pk) (dCons (dVar 0) (dCons (dBin oAdd (dVar 5) (dC (.int 1))) (dCons (dC (.int 3)) dNil))))) (dCons (dBin oAdd (dC (.int 1)) (dCall (dPick pk) (dCons (dVar 0) (dCons (dBin oAdd (dVar 5) (dC (.int 2))) (dCons (dC (.int 3)) dNil))))) dNil)))
    (dSeq (dSetN [7] 7 (dCons (dTup (dCons (dVar 13) (dCons (dVar 12) dNil))) (dCons (dTup (dCons (dVar 12) (dCons (dBin oSubI (dC (.int 0)) (dVar 13)) dNil))) (dCons (dTup (dCons (dBin oAdd (dC (.int 1)) (dCall (dPick pk) (dCons (dVar 0) (dCons (dBin oAdd (dVar 5) (dC (.int 3))) (dCons (dC (.int 9)) dNil))))) (dCons (dC (.int 0)) dNil))) dNil))))
    (dSet [] 7 (dIf (asB (dBin oEq (dVar 6) (dC (.int 1)))) (dSl (dVar 7) (dSo (dC (.int 2))) dNo) (dSl (dVar 7) dNo (dSo (dVar 6))))))) (dFor [7] (.v 9) (dRng rng1 (dCons (dVar 6) dNil)) (dApp [7] 7 (dTup (dCons (dBin oAdd (dC (.int 1)) (dCall (dPick pk) (dCons (dVar 0) (dCons (dBin oAdd (dBin oAdd (dVar 5) (dC (.int 5))) (dVar 9)) (dCons (dC (.int 9)) dNil))))) (dCons (dBin oSubI (dCall (dPick pk) (dCons (dVar 0) (dCons (dBin oAdd (dBin oAdd (dVar 5) (dC (.int 8))) (dVar 9)) (dCons (dC (.int 7)) dNil)))) (dC (.int 3))) dNil))))))
def PickS (pk : Nat → Int → Int) (S : D) : Prop := ∀ {i m : Int}, 0 ≤ i → 0 < m → ∃ r, dPick pk [S, .int i, .int m] = .ok (.int r) ∧ 0 ≤ r ∧ r < m
theorem pickS0 {pk : Nat → Int → Int} (ok : PkOk pk) : PickS pk .scr0 := fun hi hm => pickD ok hi hm
theorem rows_okS {pk : Nat → Int → Int} {S : D} (ok : PickS pk S) (x1 x2 x3 : Option D) (even : Bool) {base : Int} (hb : 0 ≤ base) {m : Nat} (hm : 1 ≤ m ∧ m ≤ 3) :
    ∃ rs y9 y12 y13, Rows m even rs ∧ rowsS pk [some S, x1, x2, x3, some (.bl even), some (.int base), some (.int (m : Int)), some (.lst []), none, none, none, none, none, none] = .nx [some S, x1, x2, x3, some (.bl even), some (.int base), some (.int (m : Int)), some (.lst (rs.map prD)), none, y9, none, none, y12, y13] := by
  cases even with
  | true =>
    obtain ⟨a, ea, a1, a2⟩ := ok (i := base + 1) (m := 3) (by omega) (by decide)
    obtain ⟨b, eb, b1, b2⟩ := ok (i := base + 2) (m := 3) (by omega) (by decide)
    obtain ⟨c, ec, c1, c2⟩ := ok (i := base + 3) (m := 9) (by omega) (by decide)
    have : m = 1 ∨ m = 2 ∨ m = 3 := by omega
    rcases this with rfl | rfl | rfl
    · refine ⟨[(1 + c, 0)], none, some (.int (1 + a)), some (.int (1 + b)), ⟨rfl, by simp; omega, fun _ => by simp⟩, ?_⟩
      simp only [rowsS, ea, eb, ec, oEq_int, dSl, dSo, dNo, oSl, defD, args, dSeq, dSet, dSetP, dSetN, lstAt, dApp, dAppP, dAsg, dPar, dDrop, dWhile, dIfS, dRet, dB, dCall, dCons, dNil, dVar, dC, dBin, dChain, asB, dTru, dNotT, dAndT, dOrT, dAnd, dOr, dNot, dIf, dUn, dTup, dLst, dItems, dYes, R.bind, R.to, O.seq, outR, ofO, noErr, mask, Sm.putIn, bindPat, bindPats, itemsOf, tru, List.foldr_cons, List.foldr_nil, List.length_cons, List.length_nil, List.map_cons, List.map_nil, List.cons_append, List.nil_append, Nat.sub_self, List.replicate_zero, List.replicate_succ, List.getElem?_cons_succ, List.getElem?_cons_zero, List.set_cons_zero, List.set_cons_succ, Nat.reduceAdd, Nat.reduceSub, ↓reduceIte, Bool.not_true, Bool.not_false, Bool.and_true, Bool.true_and, Bool.false_and, Bool.and_false, if_true, if_false, Bool.false_eq_true, oNeg, oAddI, oSubI, oAdd_ii, oLt, oLe, oGt, oGe, Option.bind_some, Option.map_some]
      rfl
    · refine ⟨[(1 + b, 1 + a), (1 + a, 0 - (1 + b))], none, some (.int (1 + a)), some (.int (1 + b)), ⟨rfl, by simp; omega, fun _ => by simp; grind⟩, ?_⟩
      simp only [rowsS, ea, eb, ec, oEq_int, dSl, dSo, dNo, oSl, defD, args, dSeq, dSet, dSetP, dSetN, lstAt, dApp, dAppP, dAsg, dPar, dDrop, dWhile, dIfS, dRet, dB, dCall, dCons, dNil, dVar, dC, dBin, dChain, asB, dTru, dNotT, dAndT, dOrT, dAnd, dOr, dNot, dIf, dUn, dTup, dLst, dItems, dYes, R.bind, R.to, O.seq, outR, ofO, noErr, mask, Sm.putIn, bindPat, bindPats, itemsOf, tru, List.foldr_cons, List.foldr_nil, List.length_cons, List.length_nil, List.map_cons, List.map_nil, List.cons_append, List.nil_append, Nat.sub_self, List.replicate_zero, List.replicate_succ, List.getElem?_cons_succ, List.getElem?_cons_zero, List.set_cons_zero, List.set_cons_succ, Nat.reduceAdd, Nat.reduceSub, ↓reduceIte, Bool.not_true, Bool.not_false, Bool.and_true, Bool.true_and, Bool.false_and, Bool.and_false, if_true, if_false, Bool.false_eq_true, oNeg, oAddI, oSubI, oAdd_ii, oLt, oLe, oGt, oGe, Option.bind_some, Option.map_some]
      rfl
    · refine ⟨[(1 + b, 1 + a), (1 + a, 0 - (1 + b)), (1 + c, 0)], none, some (.int (1 + a)), some (.int (1 + b)), ⟨rfl, by simp; omega, fun _ => by simp; grind⟩, ?_⟩
      simp only [rowsS, ea, eb, ec, oEq_int, dSl, dSo, dNo, oSl, defD, args, dSeq, dSet, dSetP, dSetN, lstAt, dApp, dAppP, dAsg, dPar, dDrop, dWhile, dIfS, dRet, dB, dCall, dCons, dNil, dVar, dC, dBin, dChain, asB, dTru, dNotT, dAndT, dOrT, dAnd, dOr, dNot, dIf, dUn, dTup, dLst, dItems, dYes, R.bind, R.to, O.seq, outR, ofO, noErr, mask, Sm.putIn, bindPat, bindPats, itemsOf, tru, List.foldr_cons, List.foldr_nil, List.length_cons, List.length_nil, List.map_cons, List.map_nil, List.cons_append, List.nil_append, Nat.sub_self, List.replicate_zero, List.replicate_succ, List.getElem?_cons_succ, List.getElem?_cons_zero, List.set_cons_zero, List.set_cons_succ, Nat.reduceAdd, Nat.reduceSub, ↓reduceIte, Bool.not_true, Bool.not_false, Bool.and_true, Bool.true_and, Bool.false_and, Bool.and_false, if_true, if_false, Bool.false_eq_true, oNeg, oAddI, oSubI, oAdd_ii, oLt, oLe, oGt, oGe, Option.bind_some, Option.map_some]
      rfl
  | false =>
    have lp : ∀ (l : List Nat) (acc : List (Int × Int)) (x9 : Option D), acc.length + l.length ≤ 10 → (∀ x ∈ acc, (1 ≤ x.1 ∧ x.1 ≤ 9) ∧ (-3 ≤ x.2 ∧ x.2 ≤ 3)) →
        ∃ (rs : List (Int × Int)) (y9 : Option D), rs.length = acc.length + l.length ∧ (∀ x ∈ rs, (1 ≤ x.1 ∧ x.1 ≤ 9) ∧ (-3 ≤ x.2 ∧ x.2 ≤ 3)) ∧ forGo (.v 9) (dApp [7] 7 (dTup (dCons (dBin oAdd (dC (.int 1)) (dCall (dPick pk) (dCons (dVar 0) (dCons (dBin oAdd (dBin oAdd (dVar 5) (dC (.int 5))) (dVar 9)) (dCons (dC (.int 9)) dNil))))) (dCons (dBin oSubI (dCall (dPick pk) (dCons (dVar 0) (dCons (dBin oAdd (dBin oAdd (dVar 5) (dC (.int 8))) (dVar 9)) (dCons (dC (.int 7)) dNil)))) (dC (.int 3))) dNil)))) (l.map fun i => D.int ((i : Nat) : Int)) [some S, x1, x2, x3, some (.bl false), some (.int base), some (.int (m : Int)), some (.lst (acc.map prD)), none, x9, none, none, none, none]
          = .nx [some S, x1, x2, x3, some (.bl false), some (.int base), some (.int (m : Int)), some (.lst (rs.map prD)), none, y9, none, none, none, none] := by
      intro l
      induction l with
      | nil => intro acc x9 _ h; exact ⟨acc, x9, by simp, h, rfl⟩
      | cons i l ih =>
        intro acc x9 hl h
        rw [List.length_cons] at hl
        obtain ⟨a, ea, a1, a2⟩ := ok (i := base + 5 + (i : Int)) (m := 9) (by omega) (by decide)
        obtain ⟨b, eb, b1, b2⟩ := ok (i := base + 8 + (i : Int)) (m := 7) (by omega) (by decide)
        obtain ⟨rs, y9, r1, r2, r3⟩ := ih (acc ++ [(1 + a, b - 3)]) (some (.int (i : Int))) (by simp; omega) (by
          intro x hx
          rcases List.mem_append.mp hx with hx | hx
          · exact h x hx
          · simp at hx; subst hx; simp; omega)
        refine ⟨rs, y9, by rw [r1]; simp; omega, r2, ?_⟩
        have hz : (acc.map prD).length + 1 ≤ sizeLine := by rw [List.length_map]; exact Nat.le_trans (by omega) sizeLine_big
        rw [List.map_append] at r3
        simp only [List.map_cons, forGo, ea, eb, if_pos hz, defD, args, dSeq, dSet, dSetP, dSetN, lstAt, dApp, dAppP, dAsg, dPar, dDrop, dWhile, dIfS, dRet, dB, dCall, dCons, dNil, dVar, dC, dBin, dChain, asB, dTru, dNotT, dAndT, dOrT, dAnd, dOr, dNot, dIf, dUn, dTup, dLst, dItems, dYes, R.bind, R.to, O.seq, outR, ofO, noErr, mask, Sm.putIn, bindPat, bindPats, itemsOf, tru, List.foldr_cons, List.foldr_nil, List.length_cons, List.length_nil, List.map_cons, List.map_nil, List.cons_append, List.nil_append, Nat.sub_self, List.replicate_zero, List.replicate_succ, List.getElem?_cons_succ, List.getElem?_cons_zero, List.set_cons_zero, List.set_cons_succ, Nat.reduceAdd, Nat.reduceSub, ↓reduceIte, Bool.not_true, Bool.not_false, Bool.and_true, Bool.true_and, Bool.false_and, Bool.and_false, if_true, if_false, Bool.false_eq_true, oNeg, oAddI, oSubI, oAdd_ii, oLt, oLe, oGt, oGe, Option.bind_some, Option.map_some]
        exact r3
    obtain ⟨rs, y9, r1, r2, r3⟩ := lp (List.range m) [] none (by simp; omega) (by simp)
    refine ⟨rs, y9, none, none, ⟨by simpa using r1, r2, fun h => nomatch h⟩, ?_⟩
    refine ifs_f (by simp only [defD, args, dSeq, dSet, dSetP, dSetN, lstAt, dApp, dAppP, dAsg, dPar, dDrop, dWhile, dIfS, dRet, dB, dCall, dCons, dNil, dVar, dC, dBin, dChain, asB, dTru, dNotT, dAndT, dOrT, dAnd, dOr, dNot, dIf, dUn, dTup, dLst, dItems, dYes, R.bind, R.to, O.seq, outR, ofO, noErr, mask, Sm.putIn, bindPat, bindPats, itemsOf, tru, List.foldr_cons, List.foldr_nil, List.length_cons, List.length_nil, List.map_cons, List.map_nil, List.cons_append, List.nil_append, Nat.sub_self, List.replicate_zero, List.replicate_succ, List.getElem?_cons_succ, List.getElem?_cons_zero, List.set_cons_zero, List.set_cons_succ, Nat.reduceAdd, Nat.reduceSub, ↓reduceIte, Bool.not_true, Bool.not_false, Bool.and_true, Bool.true_and, Bool.false_and, Bool.and_false, if_true, if_false, Bool.false_eq_true, oNeg, oAddI, oSubI, oAdd_ii, oLt, oLe, oGt, oGe, Option.bind_some, Option.map_some]) ?_
    unfold dFor
    rw [rng1_it (n := m) (by simp only [defD, args, dSeq, dSet, dSetP, dSetN, lstAt, dApp, dAppP, dAsg, dPar, dDrop, dWhile, dIfS, dRet, dB, dCall, dCons, dNil, dVar, dC, dBin, dChain, asB, dTru, dNotT, dAndT, dOrT, dAnd, dOr, dNot, dIf, dUn, dTup, dLst, dItems, dYes, R.bind, R.to, O.seq, outR, ofO, noErr, mask, Sm.putIn, bindPat, bindPats, itemsOf, tru, List.foldr_cons, List.foldr_nil, List.length_cons, List.length_nil, List.map_cons, List.map_nil, List.cons_append, List.nil_append, Nat.sub_self, List.replicate_zero, List.replicate_succ, List.getElem?_cons_succ, List.getElem?_cons_zero, List.set_cons_zero, List.set_cons_succ, Nat.reduceAdd, Nat.reduceSub, ↓reduceIte, Bool.not_true, Bool.not_false, Bool.and_true, Bool.true_and, Bool.false_and, Bool.and_false, if_true, if_false, Bool.false_eq_true, oNeg, oAddI, oSubI, oAdd_ii, oLt, oLe, oGt, oGe, Option.bind_some, Option.map_some]) (by omega)]
    exact r3
def subsS (self : List D → R D) : DS := (dApp [8] 8 (dTup (dCons (dVar 10) (dCons (dCall self (dCons (dVar 0) (dCons (dBin oAdd (dBin oAdd (dBin oMul (dC (.int 4)) (dVar 1)) (dC (.int 1))) (dVar 9)) (dCons (dBin oAdd (dVar 2) (dVar 11)) (dCons (dBin oSubI (dVar 3) (dC (.int 1))) (dCons (dVar 4) dNil)))))) dNil))))
structure Drawn (deep : Nat) (top : Int) (even : Bool) (g : Game) : Prop where
  ok : g.Ok deep
  worth : g.worth = top
  fair : even = true → g.Fair deep
  steps : g.Steps deep
theorem subs_okS {pk : Nat → Int → Int} {S : D} {n deep : Nat} {at_ : Nat} {top : Int} {even : Bool} (x5 x6 x7 x12 x13 : Option D)
    (ih : ∀ (k : Nat) (t : Int), 2 ≤ k → (t.natAbs : Int) + 3 * ((deep : Int) - 1) ≤ 20 → ∃ g, d__law_game pk n [S, .int (k : Int), .int t, .int (deep : Int), .bl even] = .ok g.enc ∧ Drawn deep t even g) (hat : 1 ≤ at_) (ht : (top.natAbs : Int) + 3 * (deep : Int) ≤ 20) :
    ∀ (rs : List (Int × Int)) (k : Nat) (acc : List (Int × Game)) (x9 x10 x11 : Option D), (∀ x ∈ rs, (1 ≤ x.1 ∧ x.1 ≤ 9) ∧ (-3 ≤ x.2 ∧ x.2 ≤ 3)) → acc.length + rs.length ≤ 10 →
    ∃ (ws : List (Int × Game)) (y9 y10 y11 : Option D), ws.map (fun p => (p.1, p.2.worth - top)) = rs ∧ (∀ p ∈ ws, Drawn deep p.2.worth even p.2) ∧
      forGo (.t [(.v 9), (.t [(.v 10), (.v 11)])]) (subsS (d__law_game pk n)) (enumFrom k (rs.map prD)) [some S, some (.int (at_ : Int)), some (.int top), some (.int ((deep : Int) + 1)), some (.bl even), x5, x6, x7, some (.lst (encW acc)), x9, x10, x11, x12, x13]
        = .nx [some S, some (.int (at_ : Int)), some (.int top), some (.int ((deep : Int) + 1)), some (.bl even), x5, x6, x7, some (.lst (encW (acc ++ ws))), y9, y10, y11, x12, x13]
  | [], k, acc, x9, x10, x11, _, _ => ⟨[], x9, x10, x11, rfl, by simp, by simp [enumFrom, forGo]⟩
  | x :: rs, k, acc, x9, x10, x11, hb, hl => by
    rw [List.length_cons] at hl
    have hx := hb x (by simp)
    obtain ⟨g, eg, dg⟩ := ih (4 * at_ + 1 + k) (top + x.2) (by omega) (by omega)
    obtain ⟨ws, y9, y10, y11, e1, e2, e3⟩ := subs_okS x5 x6 x7 x12 x13 ih hat ht rs (k + 1) (acc ++ [(x.1, g)]) (some (.int (k : Int))) (some (.int x.1)) (some (.int x.2)) (fun y hy => hb y (by simp [hy])) (by simp; omega)
    refine ⟨(x.1, g) :: ws, y9, y10, y11, ?_, ?_, ?_⟩
    · rw [List.map_cons, e1, dg.worth]
      rw [show top + x.2 - top = x.2 by omega]
    · intro p hp
      rcases List.mem_cons.mp hp with rfl | hp
      · show Drawn deep g.worth even g
        rw [dg.worth]; exact dg
      · exact e2 p hp
    · rw [show enumFrom k ((x :: rs).map prD) = .tup [.int (k : Int), .tup [.int x.1, .int x.2]] :: enumFrom (k + 1) (rs.map prD) from rfl]
      unfold forGo
      rw [show bindPat (.t [(.v 9), (.t [(.v 10), (.v 11)])]) (.tup [.int (k : Int), .tup [.int x.1, .int x.2]]) [some S, some (.int (at_ : Int)), some (.int top), some (.int ((deep : Int) + 1)), some (.bl even), x5, x6, x7, some (.lst (encW acc)), x9, x10, x11, x12, x13]
        = some [some S, some (.int (at_ : Int)), some (.int top), some (.int ((deep : Int) + 1)), some (.bl even), x5, x6, x7, some (.lst (encW acc)), some (.int (k : Int)), some (.int x.1), some (.int x.2), x12, x13] from rfl]
      have m1 : oMul (.int 4) (.int (at_ : Int)) = some (.int (4 * (at_ : Int))) := oMul_ok (mulOk_l (by decide))
      have hz : (encW acc).length + 1 ≤ sizeLine := by unfold encW; rw [List.length_map]; exact Nat.le_trans (by omega) sizeLine_big
      rw [show ((4 * at_ + 1 + k : Nat) : Int) = 4 * (at_ : Int) + 1 + (k : Int) by omega] at eg
      have st : subsS (d__law_game pk n) [some S, some (.int (at_ : Int)), some (.int top), some (.int ((deep : Int) + 1)), some (.bl even), x5, x6, x7, some (.lst (encW acc)), some (.int (k : Int)), some (.int x.1), some (.int x.2), x12, x13]
          = .nx [some S, some (.int (at_ : Int)), some (.int top), some (.int ((deep : Int) + 1)), some (.bl even), x5, x6, x7, some (.lst (encW (acc ++ [(x.1, g)]))), some (.int (k : Int)), some (.int x.1), some (.int x.2), x12, x13] := by
        rw [show encW (acc ++ [(x.1, g)]) = encW acc ++ [.tup [.int x.1, g.enc]] by simp [encW]]
        simp only [subsS, m1, show (deep : Int) + 1 - 1 = (deep : Int) by omega, eg, if_pos hz, defD, args, dSeq, dSet, dSetP, dSetN, lstAt, dApp, dAppP, dAsg, dPar, dDrop, dWhile, dIfS, dRet, dB, dCall, dCons, dNil, dVar, dC, dBin, dChain, asB, dTru, dNotT, dAndT, dOrT, dAnd, dOr, dNot, dIf, dUn, dTup, dLst, dItems, dYes, R.bind, R.to, O.seq, outR, ofO, noErr, mask, Sm.putIn, bindPat, bindPats, itemsOf, tru, List.foldr_cons, List.foldr_nil, List.length_cons, List.length_nil, List.map_cons, List.map_nil, List.cons_append, List.nil_append, Nat.sub_self, List.replicate_zero, List.replicate_succ, List.getElem?_cons_succ, List.getElem?_cons_zero, List.set_cons_zero, List.set_cons_succ, Nat.reduceAdd, Nat.reduceSub, ↓reduceIte, Bool.not_true, Bool.not_false, Bool.and_true, Bool.true_and, Bool.false_and, Bool.and_false, if_true, if_false, Bool.false_eq_true, oNeg, oAddI, oSubI, oAdd_ii, oLt, oLe, oGt, oGe, Option.bind_some, Option.map_some]
      simp only [st, O.seq]
      rw [e3, List.append_assoc]
      rfl
theorem game_drawnS {pk : Nat → Int → Int} {S : D} (ok : PickS pk S) (even : Bool) : ∀ (deep n : Nat) (at_ : Nat) (top : Int), 1 ≤ deep → deep ≤ n → 1 ≤ at_ → (top.natAbs : Int) + 3 * ((deep : Int) - 1) ≤ 20 →
    ∃ g, d__law_game pk n [S, .int (at_ : Int), .int top, .int (deep : Int), .bl even] = .ok g.enc ∧ Drawn deep top even g ∧ (at_ = 1 → 2 ≤ deep → g.ways ≠ [])
  | 0, _, _, _, h, _, _, _ => by omega
  | deep + 1, 0, _, _, _, h, _, _ => by omega
  | deep + 1, n + 1, at_, top, _, hn, hat, ht => by
    obtain ⟨p, ep, p1, p2⟩ := ok (i := 20 * (at_ : Int)) (m := 5) (by omega) (by decide)
    obtain ⟨m0, hm0, e0⟩ := many_ok ⟨p1, p2⟩
    have m1 : oMul (.int 20) (.int (at_ : Int)) = some (.int (20 * (at_ : Int))) := oMul_ok (mulOk_l (by decide))
    obtain ⟨m, hm, hm1, st3⟩ : ∃ m : Nat, m ≤ 3 ∧ (at_ = 1 → 1 ≤ m) ∧ dIfS (asB (dBin oEq (dVar 1) (dC (.int 1)))) (dSet [] 6 (dB oMax2 (dCons (dC (.int 1)) (dCons (dVar 6) dNil)))) .nx [some S, some (.int (at_ : Int)), some (.int top), some (.int ((deep + 1 : Nat) : Int)), some (.bl even), some (.int (20 * (at_ : Int))), some (.int (m0 : Int)), none, none, none, none, none, none, none]
        = .nx [some S, some (.int (at_ : Int)), some (.int top), some (.int ((deep + 1 : Nat) : Int)), some (.bl even), some (.int (20 * (at_ : Int))), some (.int (m : Int)), none, none, none, none, none, none, none] := by
      by_cases ha : at_ = 1
      · have hb : ((at_ : Int) == 1) = true := by simp; omega
        refine ⟨max 1 m0, by omega, fun _ => by omega, ?_⟩
        have : (if (m0 : Int) > 1 then (m0 : Int) else 1) = ((max 1 m0 : Nat) : Int) := by split <;> omega
        simp only [oEq_int, hb, oMax2, this, defD, args, dSeq, dSet, dSetP, dSetN, lstAt, dApp, dAppP, dAsg, dPar, dDrop, dWhile, dIfS, dRet, dB, dCall, dCons, dNil, dVar, dC, dBin, dChain, asB, dTru, dNotT, dAndT, dOrT, dAnd, dOr, dNot, dIf, dUn, dTup, dLst, dItems, dYes, R.bind, R.to, O.seq, outR, ofO, noErr, mask, Sm.putIn, bindPat, bindPats, itemsOf, tru, List.foldr_cons, List.foldr_nil, List.length_cons, List.length_nil, List.map_cons, List.map_nil, List.cons_append, List.nil_append, Nat.sub_self, List.replicate_zero, List.replicate_succ, List.getElem?_cons_succ, List.getElem?_cons_zero, List.set_cons_zero, List.set_cons_succ, Nat.reduceAdd, Nat.reduceSub, ↓reduceIte, Bool.not_true, Bool.not_false, Bool.and_true, Bool.true_and, Bool.false_and, Bool.and_false, if_true, if_false, Bool.false_eq_true, oNeg, oAddI, oSubI, oAdd_ii, oLt, oLe, oGt, oGe, Option.bind_some, Option.map_some]
      · have hb : ((at_ : Int) == 1) = false := by simp; omega
        exact ⟨m0, hm0, fun h => absurd h ha, by simp only [oEq_int, hb, defD, args, dSeq, dSet, dSetP, dSetN, lstAt, dApp, dAppP, dAsg, dPar, dDrop, dWhile, dIfS, dRet, dB, dCall, dCons, dNil, dVar, dC, dBin, dChain, asB, dTru, dNotT, dAndT, dOrT, dAnd, dOr, dNot, dIf, dUn, dTup, dLst, dItems, dYes, R.bind, R.to, O.seq, outR, ofO, noErr, mask, Sm.putIn, bindPat, bindPats, itemsOf, tru, List.foldr_cons, List.foldr_nil, List.length_cons, List.length_nil, List.map_cons, List.map_nil, List.cons_append, List.nil_append, Nat.sub_self, List.replicate_zero, List.replicate_succ, List.getElem?_cons_succ, List.getElem?_cons_zero, List.set_cons_zero, List.set_cons_succ, Nat.reduceAdd, Nat.reduceSub, ↓reduceIte, Bool.not_true, Bool.not_false, Bool.and_true, Bool.true_and, Bool.false_and, Bool.and_false, if_true, if_false, Bool.false_eq_true, oNeg, oAddI, oSubI, oAdd_ii, oLt, oLe, oGt, oGe, Option.bind_some, Option.map_some]⟩
    have d1 : ((((deep + 1 : Nat) : Int)) == 1) = decide (deep = 0) := by
      by_cases h : deep = 0
      · subst h; rfl
      · rw [decide_eq_false h]; simp; omega
    have z1 : (((m : Nat) : Int) == 0) = decide (m = 0) := by
      by_cases h : m = 0
      · subst h; rfl
      · rw [decide_eq_false h]; simp; omega
    by_cases hend : deep = 0 ∨ m = 0
    · refine ⟨.node top [], ?_, ⟨⟨by omega, by simp, by simp⟩, rfl, fun _ => ⟨by simp, by simp⟩, fun p hp => nomatch hp⟩, fun h1 h2 => ?_⟩
      · refine defD_eq rfl ?_
        unfold b__law_game
        refine out_seq (ρ1 := [some S, some (.int (at_ : Int)), some (.int top), some (.int ((deep + 1 : Nat) : Int)), some (.bl even), some (.int (20 * (at_ : Int))), none, none, none, none, none, none, none, none]) ?_ ?_
        · simp only [m1, defD, args, dSeq, dSet, dSetP, dSetN, lstAt, dApp, dAppP, dAsg, dPar, dDrop, dWhile, dIfS, dRet, dB, dCall, dCons, dNil, dVar, dC, dBin, dChain, asB, dTru, dNotT, dAndT, dOrT, dAnd, dOr, dNot, dIf, dUn, dTup, dLst, dItems, dYes, R.bind, R.to, O.seq, outR, ofO, noErr, mask, Sm.putIn, bindPat, bindPats, itemsOf, tru, List.foldr_cons, List.foldr_nil, List.length_cons, List.length_nil, List.map_cons, List.map_nil, List.cons_append, List.nil_append, Nat.sub_self, List.replicate_zero, List.replicate_succ, List.getElem?_cons_succ, List.getElem?_cons_zero, List.set_cons_zero, List.set_cons_succ, Nat.reduceAdd, Nat.reduceSub, ↓reduceIte, Bool.not_true, Bool.not_false, Bool.and_true, Bool.true_and, Bool.false_and, Bool.and_false, if_true, if_false, Bool.false_eq_true, oNeg, oAddI, oSubI, oAdd_ii, oLt, oLe, oGt, oGe, Option.bind_some, Option.map_some]
        refine out_seq (ρ1 := [some S, some (.int (at_ : Int)), some (.int top), some (.int ((deep + 1 : Nat) : Int)), some (.bl even), some (.int (20 * (at_ : Int))), some (.int (m0 : Int)), none, none, none, none, none, none, none]) ?_ ?_
        · simp only [ep, e0, defD, args, dSeq, dSet, dSetP, dSetN, lstAt, dApp, dAppP, dAsg, dPar, dDrop, dWhile, dIfS, dRet, dB, dCall, dCons, dNil, dVar, dC, dBin, dChain, asB, dTru, dNotT, dAndT, dOrT, dAnd, dOr, dNot, dIf, dUn, dTup, dLst, dItems, dYes, R.bind, R.to, O.seq, outR, ofO, noErr, mask, Sm.putIn, bindPat, bindPats, itemsOf, tru, List.foldr_cons, List.foldr_nil, List.length_cons, List.length_nil, List.map_cons, List.map_nil, List.cons_append, List.nil_append, Nat.sub_self, List.replicate_zero, List.replicate_succ, List.getElem?_cons_succ, List.getElem?_cons_zero, List.set_cons_zero, List.set_cons_succ, Nat.reduceAdd, Nat.reduceSub, ↓reduceIte, Bool.not_true, Bool.not_false, Bool.and_true, Bool.true_and, Bool.false_and, Bool.and_false, if_true, if_false, Bool.false_eq_true, oNeg, oAddI, oSubI, oAdd_ii, oLt, oLe, oGt, oGe, Option.bind_some, Option.map_some]
        refine out_seq st3 (out_seqR ?_)
        rw [enc_end]
        by_cases h2 : deep = 0
        · rw [decide_eq_true h2] at d1
          simp only [oEq_int, d1, defD, args, dSeq, dSet, dSetP, dSetN, lstAt, dApp, dAppP, dAsg, dPar, dDrop, dWhile, dIfS, dRet, dB, dCall, dCons, dNil, dVar, dC, dBin, dChain, asB, dTru, dNotT, dAndT, dOrT, dAnd, dOr, dNot, dIf, dUn, dTup, dLst, dItems, dYes, R.bind, R.to, O.seq, outR, ofO, noErr, mask, Sm.putIn, bindPat, bindPats, itemsOf, tru, List.foldr_cons, List.foldr_nil, List.length_cons, List.length_nil, List.map_cons, List.map_nil, List.cons_append, List.nil_append, Nat.sub_self, List.replicate_zero, List.replicate_succ, List.getElem?_cons_succ, List.getElem?_cons_zero, List.set_cons_zero, List.set_cons_succ, Nat.reduceAdd, Nat.reduceSub, ↓reduceIte, Bool.not_true, Bool.not_false, Bool.and_true, Bool.true_and, Bool.false_and, Bool.and_false, if_true, if_false, Bool.false_eq_true, oNeg, oAddI, oSubI, oAdd_ii, oLt, oLe, oGt, oGe, Option.bind_some, Option.map_some]
        · have h : m = 0 := hend.resolve_left h2
          rw [decide_eq_false h2] at d1
          rw [decide_eq_true h] at z1
          simp only [oEq_int, d1, z1, defD, args, dSeq, dSet, dSetP, dSetN, lstAt, dApp, dAppP, dAsg, dPar, dDrop, dWhile, dIfS, dRet, dB, dCall, dCons, dNil, dVar, dC, dBin, dChain, asB, dTru, dNotT, dAndT, dOrT, dAnd, dOr, dNot, dIf, dUn, dTup, dLst, dItems, dYes, R.bind, R.to, O.seq, outR, ofO, noErr, mask, Sm.putIn, bindPat, bindPats, itemsOf, tru, List.foldr_cons, List.foldr_nil, List.length_cons, List.length_nil, List.map_cons, List.map_nil, List.cons_append, List.nil_append, Nat.sub_self, List.replicate_zero, List.replicate_succ, List.getElem?_cons_succ, List.getElem?_cons_zero, List.set_cons_zero, List.set_cons_succ, Nat.reduceAdd, Nat.reduceSub, ↓reduceIte, Bool.not_true, Bool.not_false, Bool.and_true, Bool.true_and, Bool.false_and, Bool.and_false, if_true, if_false, Bool.false_eq_true, oNeg, oAddI, oSubI, oAdd_ii, oLt, oLe, oGt, oGe, Option.bind_some, Option.map_some]
      · rcases hend with h | h
        · omega
        · have := hm1 h1; omega
    · have hd : deep ≠ 0 := fun h => hend (.inl h)
      have hm0' : m ≠ 0 := fun h => hend (.inr h)
      obtain ⟨rs, y9, y12, y13, hR, er⟩ := rows_okS ok (some (.int (at_ : Int))) (some (.int top)) (some (.int ((deep + 1 : Nat) : Int))) even (base := 20 * (at_ : Int)) (by omega) (m := m) (by omega)
      obtain ⟨q, eq, _, _⟩ := ok (i := 20 * (at_ : Int) + 4) (m := 2) (by omega) (by decide)
      obtain ⟨rs', hR', st7⟩ : ∃ rs', Rows m even rs' ∧ dIfS (asB (dBin oEq (dCall (dPick pk) (dCons (dVar 0) (dCons (dBin oAdd (dVar 5) (dC (.int 4))) (dCons (dC (.int 2)) dNil)))) (dC (.int 0)))) (dSet [] 7 (dUn oRevA (dVar 7))) .nx [some S, some (.int (at_ : Int)), some (.int top), some (.int ((deep + 1 : Nat) : Int)), some (.bl even), some (.int (20 * (at_ : Int))), some (.int (m : Int)), some (.lst (rs.map prD)), none, y9, none, none, y12, y13]
          = .nx [some S, some (.int (at_ : Int)), some (.int top), some (.int ((deep + 1 : Nat) : Int)), some (.bl even), some (.int (20 * (at_ : Int))), some (.int (m : Int)), some (.lst (rs'.map prD)), none, y9, none, none, y12, y13] := by
        cases hq : (q == 0) with
        | true => exact ⟨rs.reverse, hR.rev, by rw [List.map_reverse]; simp only [eq, oEq_int, hq, oRevA, defD, args, dSeq, dSet, dSetP, dSetN, lstAt, dApp, dAppP, dAsg, dPar, dDrop, dWhile, dIfS, dRet, dB, dCall, dCons, dNil, dVar, dC, dBin, dChain, asB, dTru, dNotT, dAndT, dOrT, dAnd, dOr, dNot, dIf, dUn, dTup, dLst, dItems, dYes, R.bind, R.to, O.seq, outR, ofO, noErr, mask, Sm.putIn, bindPat, bindPats, itemsOf, tru, List.foldr_cons, List.foldr_nil, List.length_cons, List.length_nil, List.map_cons, List.map_nil, List.cons_append, List.nil_append, Nat.sub_self, List.replicate_zero, List.replicate_succ, List.getElem?_cons_succ, List.getElem?_cons_zero, List.set_cons_zero, List.set_cons_succ, Nat.reduceAdd, Nat.reduceSub, ↓reduceIte, Bool.not_true, Bool.not_false, Bool.and_true, Bool.true_and, Bool.false_and, Bool.and_false, if_true, if_false, Bool.false_eq_true, oNeg, oAddI, oSubI, oAdd_ii, oLt, oLe, oGt, oGe, Option.bind_some, Option.map_some]⟩
        | false => exact ⟨rs, hR, by simp only [eq, oEq_int, hq, defD, args, dSeq, dSet, dSetP, dSetN, lstAt, dApp, dAppP, dAsg, dPar, dDrop, dWhile, dIfS, dRet, dB, dCall, dCons, dNil, dVar, dC, dBin, dChain, asB, dTru, dNotT, dAndT, dOrT, dAnd, dOr, dNot, dIf, dUn, dTup, dLst, dItems, dYes, R.bind, R.to, O.seq, outR, ofO, noErr, mask, Sm.putIn, bindPat, bindPats, itemsOf, tru, List.foldr_cons, List.foldr_nil, List.length_cons, List.length_nil, List.map_cons, List.map_nil, List.cons_append, List.nil_append, Nat.sub_self, List.replicate_zero, List.replicate_succ, List.getElem?_cons_succ, List.getElem?_cons_zero, List.set_cons_zero, List.set_cons_succ, Nat.reduceAdd, Nat.reduceSub, ↓reduceIte, Bool.not_true, Bool.not_false, Bool.and_true, Bool.true_and, Bool.false_and, Bool.and_false, if_true, if_false, Bool.false_eq_true, oNeg, oAddI, oSubI, oAdd_ii, oLt, oLe, oGt, oGe, Option.bind_some, Option.map_some]⟩
      obtain ⟨ws, z9, z10, z11, w1, w2, ew⟩ := subs_okS (pk := pk) (n := n) (deep := deep) (at_ := at_) (top := top) (even := even) (some (.int (20 * (at_ : Int)))) (some (.int (m : Int))) (some (.lst (rs'.map prD))) y12 y13
        (fun k t hk htt => by
          obtain ⟨g, a1, a2, _⟩ := game_drawnS ok even deep n k t (by omega) (by omega) (by omega) htt
          exact ⟨g, a1, a2⟩) hat (by omega) rs' 0 [] y9 none none hR'.bd (by rw [hR'.len]; simp; omega)
      have hlen : ws.length = m := by rw [← hR'.len, ← w1, List.length_map]
      have hne : ws ≠ [] := fun h => by rw [h] at hlen; simp at hlen; omega
      refine ⟨.node top ws, ?_, ⟨⟨by omega, by omega, fun p hp => ⟨?_, (w2 p hp).ok⟩⟩, rfl, fun he => ⟨?_, fun p hp => (w2 p hp).fair he⟩, fun p hp => ⟨?_, (w2 p hp).steps⟩⟩, fun _ _ => hne⟩
      · refine defD_eq rfl ?_
        unfold b__law_game
        refine out_seq (ρ1 := [some S, some (.int (at_ : Int)), some (.int top), some (.int ((deep + 1 : Nat) : Int)), some (.bl even), some (.int (20 * (at_ : Int))), none, none, none, none, none, none, none, none]) ?_ ?_
        · simp only [m1, defD, args, dSeq, dSet, dSetP, dSetN, lstAt, dApp, dAppP, dAsg, dPar, dDrop, dWhile, dIfS, dRet, dB, dCall, dCons, dNil, dVar, dC, dBin, dChain, asB, dTru, dNotT, dAndT, dOrT, dAnd, dOr, dNot, dIf, dUn, dTup, dLst, dItems, dYes, R.bind, R.to, O.seq, outR, ofO, noErr, mask, Sm.putIn, bindPat, bindPats, itemsOf, tru, List.foldr_cons, List.foldr_nil, List.length_cons, List.length_nil, List.map_cons, List.map_nil, List.cons_append, List.nil_append, Nat.sub_self, List.replicate_zero, List.replicate_succ, List.getElem?_cons_succ, List.getElem?_cons_zero, List.set_cons_zero, List.set_cons_succ, Nat.reduceAdd, Nat.reduceSub, ↓reduceIte, Bool.not_true, Bool.not_false, Bool.and_true, Bool.true_and, Bool.false_and, Bool.and_false, if_true, if_false, Bool.false_eq_true, oNeg, oAddI, oSubI, oAdd_ii, oLt, oLe, oGt, oGe, Option.bind_some, Option.map_some]
        refine out_seq (ρ1 := [some S, some (.int (at_ : Int)), some (.int top), some (.int ((deep + 1 : Nat) : Int)), some (.bl even), some (.int (20 * (at_ : Int))), some (.int (m0 : Int)), none, none, none, none, none, none, none]) ?_ ?_
        · simp only [ep, e0, defD, args, dSeq, dSet, dSetP, dSetN, lstAt, dApp, dAppP, dAsg, dPar, dDrop, dWhile, dIfS, dRet, dB, dCall, dCons, dNil, dVar, dC, dBin, dChain, asB, dTru, dNotT, dAndT, dOrT, dAnd, dOr, dNot, dIf, dUn, dTup, dLst, dItems, dYes, R.bind, R.to, O.seq, outR, ofO, noErr, mask, Sm.putIn, bindPat, bindPats, itemsOf, tru, List.foldr_cons, List.foldr_nil, List.length_cons, List.length_nil, List.map_cons, List.map_nil, List.cons_append, List.nil_append, Nat.sub_self, List.replicate_zero, List.replicate_succ, List.getElem?_cons_succ, List.getElem?_cons_zero, List.set_cons_zero, List.set_cons_succ, Nat.reduceAdd, Nat.reduceSub, ↓reduceIte, Bool.not_true, Bool.not_false, Bool.and_true, Bool.true_and, Bool.false_and, Bool.and_false, if_true, if_false, Bool.false_eq_true, oNeg, oAddI, oSubI, oAdd_ii, oLt, oLe, oGt, oGe, Option.bind_some, Option.map_some]
        refine out_seq st3 ?_
        refine out_seq (ρ1 := [some S, some (.int (at_ : Int)), some (.int top), some (.int ((deep + 1 : Nat) : Int)), some (.bl even), some (.int (20 * (at_ : Int))), some (.int (m : Int)), none, none, none, none, none, none, none]) ?_ ?_
        · simp only [oEq_int, d1, z1, decide_eq_false hd, decide_eq_false hm0', defD, args, dSeq, dSet, dSetP, dSetN, lstAt, dApp, dAppP, dAsg, dPar, dDrop, dWhile, dIfS, dRet, dB, dCall, dCons, dNil, dVar, dC, dBin, dChain, asB, dTru, dNotT, dAndT, dOrT, dAnd, dOr, dNot, dIf, dUn, dTup, dLst, dItems, dYes, R.bind, R.to, O.seq, outR, ofO, noErr, mask, Sm.putIn, bindPat, bindPats, itemsOf, tru, List.foldr_cons, List.foldr_nil, List.length_cons, List.length_nil, List.map_cons, List.map_nil, List.cons_append, List.nil_append, Nat.sub_self, List.replicate_zero, List.replicate_succ, List.getElem?_cons_succ, List.getElem?_cons_zero, List.set_cons_zero, List.set_cons_succ, Nat.reduceAdd, Nat.reduceSub, ↓reduceIte, Bool.not_true, Bool.not_false, Bool.and_true, Bool.true_and, Bool.false_and, Bool.and_false, if_true, if_false, Bool.false_eq_true, oNeg, oAddI, oSubI, oAdd_ii, oLt, oLe, oGt, oGe, Option.bind_some, Option.map_some]
        refine out_seq (ρ1 := [some S, some (.int (at_ : Int)), some (.int top), some (.int ((deep + 1 : Nat) : Int)), some (.bl even), some (.int (20 * (at_ : Int))), some (.int (m : Int)), some (.lst []), none, none, none, none, none, none]) ?_ ?_
        · simp only [defD, args, dSeq, dSet, dSetP, dSetN, lstAt, dApp, dAppP, dAsg, dPar, dDrop, dWhile, dIfS, dRet, dB, dCall, dCons, dNil, dVar, dC, dBin, dChain, asB, dTru, dNotT, dAndT, dOrT, dAnd, dOr, dNot, dIf, dUn, dTup, dLst, dItems, dYes, R.bind, R.to, O.seq, outR, ofO, noErr, mask, Sm.putIn, bindPat, bindPats, itemsOf, tru, List.foldr_cons, List.foldr_nil, List.length_cons, List.length_nil, List.map_cons, List.map_nil, List.cons_append, List.nil_append, Nat.sub_self, List.replicate_zero, List.replicate_succ, List.getElem?_cons_succ, List.getElem?_cons_zero, List.set_cons_zero, List.set_cons_succ, Nat.reduceAdd, Nat.reduceSub, ↓reduceIte, Bool.not_true, Bool.not_false, Bool.and_true, Bool.true_and, Bool.false_and, Bool.and_false, if_true, if_false, Bool.false_eq_true, oNeg, oAddI, oSubI, oAdd_ii, oLt, oLe, oGt, oGe, Option.bind_some, Option.map_some]
        refine out_seq er (out_seq st7 ?_)
        refine out_seq (ρ1 := [some S, some (.int (at_ : Int)), some (.int top), some (.int ((deep + 1 : Nat) : Int)), some (.bl even), some (.int (20 * (at_ : Int))), some (.int (m : Int)), some (.lst (rs'.map prD)), some (.lst []), y9, none, none, y12, y13]) ?_ ?_
        · simp only [defD, args, dSeq, dSet, dSetP, dSetN, lstAt, dApp, dAppP, dAsg, dPar, dDrop, dWhile, dIfS, dRet, dB, dCall, dCons, dNil, dVar, dC, dBin, dChain, asB, dTru, dNotT, dAndT, dOrT, dAnd, dOr, dNot, dIf, dUn, dTup, dLst, dItems, dYes, R.bind, R.to, O.seq, outR, ofO, noErr, mask, Sm.putIn, bindPat, bindPats, itemsOf, tru, List.foldr_cons, List.foldr_nil, List.length_cons, List.length_nil, List.map_cons, List.map_nil, List.cons_append, List.nil_append, Nat.sub_self, List.replicate_zero, List.replicate_succ, List.getElem?_cons_succ, List.getElem?_cons_zero, List.set_cons_zero, List.set_cons_succ, Nat.reduceAdd, Nat.reduceSub, ↓reduceIte, Bool.not_true, Bool.not_false, Bool.and_true, Bool.true_and, Bool.false_and, Bool.and_false, if_true, if_false, Bool.false_eq_true, oNeg, oAddI, oSubI, oAdd_ii, oLt, oLe, oGt, oGe, Option.bind_some, Option.map_some]
        refine out_seq (ρ1 := [some S, some (.int (at_ : Int)), some (.int top), some (.int ((deep : Int) + 1)), some (.bl even), some (.int (20 * (at_ : Int))), some (.int (m : Int)), some (.lst (rs'.map prD)), some (.lst (encW ([] ++ ws))), z9, z10, z11, y12, y13]) ?_ (ret_of ?_)
        · unfold dFor
          rw [enum_itL (ds := rs'.map prD) (by simp only [defD, args, dSeq, dSet, dSetP, dSetN, lstAt, dApp, dAppP, dAsg, dPar, dDrop, dWhile, dIfS, dRet, dB, dCall, dCons, dNil, dVar, dC, dBin, dChain, asB, dTru, dNotT, dAndT, dOrT, dAnd, dOr, dNot, dIf, dUn, dTup, dLst, dItems, dYes, R.bind, R.to, O.seq, outR, ofO, noErr, mask, Sm.putIn, bindPat, bindPats, itemsOf, tru, List.foldr_cons, List.foldr_nil, List.length_cons, List.length_nil, List.map_cons, List.map_nil, List.cons_append, List.nil_append, Nat.sub_self, List.replicate_zero, List.replicate_succ, List.getElem?_cons_succ, List.getElem?_cons_zero, List.set_cons_zero, List.set_cons_succ, Nat.reduceAdd, Nat.reduceSub, ↓reduceIte, Bool.not_true, Bool.not_false, Bool.and_true, Bool.true_and, Bool.false_and, Bool.and_false, if_true, if_false, Bool.false_eq_true, oNeg, oAddI, oSubI, oAdd_ii, oLt, oLe, oGt, oGe, Option.bind_some, Option.map_some])]
          exact ew
        · cases ws with
          | nil => exact absurd rfl hne
          | cons x ws =>
            rw [enc_go, List.nil_append]
            show _ = Sm.R.ok (D.tup [D.int top, D.tup (encW (x :: ws))])
            generalize encW (x :: ws) = E
            simp only [oTuple, defD, args, dSeq, dSet, dSetP, dSetN, lstAt, dApp, dAppP, dAsg, dPar, dDrop, dWhile, dIfS, dRet, dB, dCall, dCons, dNil, dVar, dC, dBin, dChain, asB, dTru, dNotT, dAndT, dOrT, dAnd, dOr, dNot, dIf, dUn, dTup, dLst, dItems, dYes, R.bind, R.to, O.seq, outR, ofO, noErr, mask, Sm.putIn, bindPat, bindPats, itemsOf, tru, List.foldr_cons, List.foldr_nil, List.length_cons, List.length_nil, List.map_cons, List.map_nil, List.cons_append, List.nil_append, Nat.sub_self, List.replicate_zero, List.replicate_succ, List.getElem?_cons_succ, List.getElem?_cons_zero, List.set_cons_zero, List.set_cons_succ, Nat.reduceAdd, Nat.reduceSub, ↓reduceIte, Bool.not_true, Bool.not_false, Bool.and_true, Bool.true_and, Bool.false_and, Bool.and_false, if_true, if_false, Bool.false_eq_true, oNeg, oAddI, oSubI, oAdd_ii, oLt, oLe, oGt, oGe, Option.bind_some, Option.map_some]
      · have : (p.1, p.2.worth - top) ∈ rs' := by rw [← w1]; exact List.mem_map.mpr ⟨p, hp, rfl⟩
        exact (hR'.bd _ this).1
      · have := hR'.fair he
        rw [← w1, List.map_map] at this
        exact this
      · have : (p.1, p.2.worth - top) ∈ rs' := by rw [← w1]; exact List.mem_map.mpr ⟨p, hp, rfl⟩
        exact (hR'.bd _ this).2
theorem game_drawn {pk : Nat → Int → Int} (ok : PkOk pk) (even : Bool) (deep n : Nat) (at_ : Nat) (top : Int) (h1 : 1 ≤ deep) (h2 : deep ≤ n) (h3 : 1 ≤ at_) (h4 : (top.natAbs : Int) + 3 * ((deep : Int) - 1) ≤ 20) :
    ∃ g, d__law_game pk n [.scr0, .int (at_ : Int), .int top, .int (deep : Int), .bl even] = .ok g.enc ∧ Drawn deep top even g ∧ (at_ = 1 → 2 ≤ deep → g.ways ≠ []) := game_drawnS (pickS0 ok) even deep n at_ top h1 h2 h3 h4
theorem drawn_ok {pk : Nat → Int → Int} (ok : PkOk pk) (deep : Nat) (hd : 1 ≤ deep ∧ deep ≤ 4) : ∃ g even top, d__law_drawn pk [.scr0, .int (deep : Int)] = .ok g.enc ∧ Drawn deep top even g ∧ (2 ≤ deep → g.ways ≠ []) ∧ even = (pk 1 2 == 0) ∧ -6 ≤ top ∧ top ≤ 6 := by
  obtain ⟨t, et, t1, t2⟩ := pickD ok (i := 0) (m := 13) (by decide) (by decide)
  have e1 := dPick_ok pk 1 (m := 2) (by decide)
  obtain ⟨g, eg, dg, hw⟩ := game_drawn ok (pk 1 2 == 0) deep 8 1 (t - 6) hd.1 (by omega) (by decide) (by omega)
  refine ⟨g, _, _, ?_, dg, hw rfl, rfl, by omega, by omega⟩
  simp only [d__law_drawn, b__law_drawn, et, show dPick pk [.scr0, .int 1, .int 2] = _ from e1, oEq_int, show d__law_game pk 8 [.scr0, .int 1, .int (t - 6), .int (deep : Int), .bl (pk 1 2 == 0)] = _ from eg, defD, args, dSeq, dSet, dSetP, dSetN, lstAt, dApp, dAppP, dAsg, dPar, dDrop, dWhile, dIfS, dRet, dB, dCall, dCons, dNil, dVar, dC, dBin, dChain, asB, dTru, dNotT, dAndT, dOrT, dAnd, dOr, dNot, dIf, dUn, dTup, dLst, dItems, dYes, R.bind, R.to, O.seq, outR, ofO, noErr, mask, Sm.putIn, bindPat, bindPats, itemsOf, tru, List.foldr_cons, List.foldr_nil, List.length_cons, List.length_nil, List.map_cons, List.map_nil, List.cons_append, List.nil_append, Nat.sub_self, List.replicate_zero, List.replicate_succ, List.getElem?_cons_succ, List.getElem?_cons_zero, List.set_cons_zero, List.set_cons_succ, Nat.reduceAdd, Nat.reduceSub, ↓reduceIte, Bool.not_true, Bool.not_false, Bool.and_true, Bool.true_and, Bool.false_and, Bool.and_false, if_true, if_false, Bool.false_eq_true, oNeg, oAddI, oSubI, oAdd_ii, oLt, oLe, oGt, oGe, Option.bind_some, Option.map_some]
end Kx
namespace Sm
open PySem PySem.Spec L2
theorem forGo_test {pt : Pat} {f : DS} (c : D → Bool) (r : D) (I : Env → Prop) : ∀ (ds : List D) (ρ : Env), I ρ → (∀ d ρ, d ∈ ds → I ρ → ∃ ρ1, bindPat pt d ρ = some ρ1 ∧ (c d = true → ∃ ρ2, f ρ1 = .nx ρ2 ∧ I ρ2) ∧ (c d = false → f ρ1 = .ret r)) →
    (ds.all c = true → ∃ ρ', forGo pt f ds ρ = .nx ρ' ∧ I ρ') ∧ (ds.all c = false → forGo pt f ds ρ = .ret r)
  | [], ρ, h, _ => ⟨fun _ => ⟨ρ, rfl, h⟩, fun h => by simp at h⟩
  | d :: ds, ρ, h, hs => by
    obtain ⟨ρ1, e1, e2, e3⟩ := hs d ρ (by simp) h
    cases hc : c d with
    | true =>
      obtain ⟨ρ2, e4, e5⟩ := e2 hc
      have ih := forGo_test c r I ds ρ2 e5 fun d ρ hd => hs d ρ (by simp [hd])
      rw [List.all_cons, hc, Bool.true_and]
      unfold forGo
      rw [e1]
      simp only [e4, O.seq]
      exact ih
    | false =>
      rw [List.all_cons, hc, Bool.false_and]
      refine ⟨fun h => (by cases h), fun _ => ?_⟩
      unfold forGo
      rw [e1]
      simp only [e3 hc, O.seq]
mutual
def okD : D → Bool
  | .non => true
  | .bl _ => true
  | .int _ => true
  | .str _ => true
  | .tup xs => okDs xs
  | .lst xs => okDs xs
  | _ => false
def okDs : List D → Bool
  | [] => true
  | x :: xs => okD x && okDs xs
end
theorem okDs_mem : ∀ {ds : List D} {d : D}, okDs ds = true → d ∈ ds → okD d = true
  | e :: ds, d, h, hd => by
    simp only [okDs, Bool.and_eq_true] at h
    rcases List.mem_cons.mp hd with rfl | hd
    · exact h.1
    · exact okDs_mem h.2 hd
theorem okDs_all : ∀ {ds : List D}, (∀ d ∈ ds, okD d = true) → okDs ds = true
  | [], _ => rfl
  | e :: ds, h => by simp only [okDs, h e (by simp), Bool.true_and]; exact okDs_all fun d hd => h d (by simp [hd])
def wh (d : D) (lo hi : Int) : Bool := match d with | .int i => decide (lo ≤ i) && decide (i ≤ hi) | _ => false
def isW (f : D → Bool) (d : D) : Bool := match d with | .tup [k, s] => wh k 1 9 && f s | _ => false
def isG : Nat → D → Bool
  | 0, _ => false
  | _ + 1, .tup [d] => wh d (-20) 20
  | n + 1, .tup [d, .tup ws] => wh d (-20) 20 && (decide (1 ≤ ws.length) && decide (ws.length ≤ 3) && ws.all (isW (isG n)))
  | _ + 1, _ => false
end Sm
namespace Kx
open PySem PySem.Spec L2 Sm
theorem whole_any {d : D} (h : okD d = true) (lo hi : Int) : d_is_whole [d, .int lo, .int hi] = .ok (.bl (wh d lo hi)) := by
  cases d with
  | int i => exact whole_ok i lo hi
  | dct _ => simp [okD] at h
  | exc _ => simp [okD] at h
  | scr _ => simp [okD] at h
  | scr0 => simp [okD] at h
  | fnv => simp [okD] at h
  | obj _ => simp [okD] at h
  | dcl _ => simp [okD] at h
  | scr1 => simp [okD] at h
  | _ => simp only [d_is_whole, b_is_whole, oIsInt, oIsBool, wh, defD, args, dSeq, dSet, dSetP, dSetN, lstAt, dApp, dAppP, dAsg, dPar, dDrop, dWhile, dIfS, dRet, dB, dCall, dCons, dNil, dVar, dC, dBin, dChain, asB, dTru, dNotT, dAndT, dOrT, dAnd, dOr, dNot, dIf, dUn, dTup, dLst, dItems, dYes, R.bind, R.to, O.seq, outR, ofO, noErr, mask, Sm.putIn, bindPat, bindPats, itemsOf, tru, List.foldr_cons, List.foldr_nil, List.length_cons, List.length_nil, List.map_cons, List.map_nil, List.cons_append, List.nil_append, Nat.sub_self, List.replicate_zero, List.replicate_succ, List.getElem?_cons_succ, List.getElem?_cons_zero, List.set_cons_zero, List.set_cons_succ, Nat.reduceAdd, Nat.reduceSub, ↓reduceIte, Bool.not_true, Bool.not_false, Bool.and_true, Bool.true_and, Bool.false_and, Bool.and_false, if_true, if_false, Bool.false_eq_true, oNeg, oAddI, oSubI, oAdd_ii, oLt, oLe, oGt, oGe, Option.bind_some, Option.map_some]
theorem lwhole_any {d : D} (h : okD d = true) (lo hi : Int) : d__law_whole [d, .int lo, .int hi] = .ok (.bl (wh d lo hi)) := whole_any h lo hi
theorem isG_not {n : Nat} {d : D} {xs : List D} (h : wh d (-20) 20 = false) : isG n (.tup (d :: xs)) = false := by
  cases n with
  | zero => rfl
  | succ n =>
    match xs with
    | [] => simp only [isG, h]
    | [.tup ws] => simp only [isG, h, Bool.false_and]
    | [.non] => rfl
    | [.bl _] => rfl
    | [.int _] => rfl
    | [.str _] => rfl
    | [.lst _] => rfl
    | [.dct _] => rfl
    | [.exc _] => rfl
    | [.scr _] => rfl
    | [.scr0] => rfl
    | [.fnv] => rfl
    | [.obj _] => rfl
    | [.dcl _] => rfl
    | [.scr1] => rfl
    | y :: _ :: _ => cases y <;> rfl
theorem len_ne1 {n : Nat} (h : n ≠ 1) : (((n : Nat) : Int) == 1) = false := by simp; omega
theorem len_ne2 {n : Nat} (h : n ≠ 2) : (((n : Nat) : Int) == 2) = false := by simp; omega
def wayT (d : D) : Bool := match d with | .tup [k, _] => wh k 1 9 | _ => false
theorem all_bools {α : Type} (f : α → Bool) (l : List α) : oAll [.lst (l.map fun x => D.bl (f x))] = some (.bl (l.all f)) := by
  have bo : boolsOf (l.map fun x => D.bl (f x)) = some (l.map f) := by
    induction l with
    | nil => rfl
    | cons a l ih => simp only [List.map_cons, boolsOf, ih, Option.map_some]
  simp only [oAll, bo, Option.map_some]
  simp [List.all_map]
theorem snd_of {d : D} (h : wayT d = true) : ∃ k s, d = .tup [k, s] ∧ wh k 1 9 = true := by
  unfold wayT at h
  split at h
  · exact ⟨_, _, rfl, h⟩
  · cases h
def wayTst (F : List D → R D) : DT := dOrT (dNotT (dTru (dUn oIsTup (dVar 2)))) (dOrT (asB (dBin oNe (dB oLen (dCons (dVar 2) dNil)) (dC (.int 2)))) (dNotT (dTru (dCall F (dCons (dBin oIx (dVar 2) (dC (.int 0))) (dCons (dC (.int 1)) (dCons (dC (.int 9)) dNil)))))))
theorem way_test {d : D} {x0 x1 : Option D} (ok : okD d = true) : wayTst d_is_whole [x0, x1, some d] = .ok (!wayT d) := by
  unfold wayTst
  cases d with
  | dct _ => simp [okD] at ok
  | exc _ => simp [okD] at ok
  | scr _ => simp [okD] at ok
  | scr0 => simp [okD] at ok
  | fnv => simp [okD] at ok
  | obj _ => simp [okD] at ok
  | dcl _ => simp [okD] at ok
  | scr1 => simp [okD] at ok
  | tup xs =>
    match xs, ok with
    | [], ok => simp only [oIsTup, oLen, oNe_int, wayT, len_ne2 (n := 0) (by decide), defD, args, dSeq, dSet, dSetP, dSetN, lstAt, dApp, dAppP, dAsg, dPar, dDrop, dWhile, dIfS, dRet, dB, dCall, dCons, dNil, dVar, dC, dBin, dChain, asB, dTru, dNotT, dAndT, dOrT, dAnd, dOr, dNot, dIf, dUn, dTup, dLst, dItems, dYes, R.bind, R.to, O.seq, outR, ofO, noErr, mask, Sm.putIn, bindPat, bindPats, itemsOf, tru, List.foldr_cons, List.foldr_nil, List.length_cons, List.length_nil, List.map_cons, List.map_nil, List.cons_append, List.nil_append, Nat.sub_self, List.replicate_zero, List.replicate_succ, List.getElem?_cons_succ, List.getElem?_cons_zero, List.set_cons_zero, List.set_cons_succ, Nat.reduceAdd, Nat.reduceSub, ↓reduceIte, Bool.not_true, Bool.not_false, Bool.and_true, Bool.true_and, Bool.false_and, Bool.and_false, if_true, if_false, Bool.false_eq_true, oNeg, oAddI, oSubI, oAdd_ii, oLt, oLe, oGt, oGe, Option.bind_some, Option.map_some]
    | [a], ok => simp only [oIsTup, oLen, oNe_int, wayT, len_ne2 (n := 1) (by decide), defD, args, dSeq, dSet, dSetP, dSetN, lstAt, dApp, dAppP, dAsg, dPar, dDrop, dWhile, dIfS, dRet, dB, dCall, dCons, dNil, dVar, dC, dBin, dChain, asB, dTru, dNotT, dAndT, dOrT, dAnd, dOr, dNot, dIf, dUn, dTup, dLst, dItems, dYes, R.bind, R.to, O.seq, outR, ofO, noErr, mask, Sm.putIn, bindPat, bindPats, itemsOf, tru, List.foldr_cons, List.foldr_nil, List.length_cons, List.length_nil, List.map_cons, List.map_nil, List.cons_append, List.nil_append, Nat.sub_self, List.replicate_zero, List.replicate_succ, List.getElem?_cons_succ, List.getElem?_cons_zero, List.set_cons_zero, List.set_cons_succ, Nat.reduceAdd, Nat.reduceSub, ↓reduceIte, Bool.not_true, Bool.not_false, Bool.and_true, Bool.true_and, Bool.false_and, Bool.and_false, if_true, if_false, Bool.false_eq_true, oNeg, oAddI, oSubI, oAdd_ii, oLt, oLe, oGt, oGe, Option.bind_some, Option.map_some]
    | [k, s], ok =>
      simp only [okD, okDs, Bool.and_eq_true] at ok
      simp only [oIsTup, oLen, oNe_int, wayT, show ((((2 : Nat) : Int)) == 2) = true by decide, oIx_t0, whole_any ok.1, defD, args, dSeq, dSet, dSetP, dSetN, lstAt, dApp, dAppP, dAsg, dPar, dDrop, dWhile, dIfS, dRet, dB, dCall, dCons, dNil, dVar, dC, dBin, dChain, asB, dTru, dNotT, dAndT, dOrT, dAnd, dOr, dNot, dIf, dUn, dTup, dLst, dItems, dYes, R.bind, R.to, O.seq, outR, ofO, noErr, mask, Sm.putIn, bindPat, bindPats, itemsOf, tru, List.foldr_cons, List.foldr_nil, List.length_cons, List.length_nil, List.map_cons, List.map_nil, List.cons_append, List.nil_append, Nat.sub_self, List.replicate_zero, List.replicate_succ, List.getElem?_cons_succ, List.getElem?_cons_zero, List.set_cons_zero, List.set_cons_succ, Nat.reduceAdd, Nat.reduceSub, ↓reduceIte, Bool.not_true, Bool.not_false, Bool.and_true, Bool.true_and, Bool.false_and, Bool.and_false, if_true, if_false, Bool.false_eq_true, oNeg, oAddI, oSubI, oAdd_ii, oLt, oLe, oGt, oGe, Option.bind_some, Option.map_some]
    | a :: b :: c :: r, ok =>
      have := len_ne2 (n := (a :: b :: c :: r).length) (by simp)
      simp only [List.length_cons] at this
      simp only [oIsTup, oLen, oNe_int, wayT, List.length_cons, this, defD, args, dSeq, dSet, dSetP, dSetN, lstAt, dApp, dAppP, dAsg, dPar, dDrop, dWhile, dIfS, dRet, dB, dCall, dCons, dNil, dVar, dC, dBin, dChain, asB, dTru, dNotT, dAndT, dOrT, dAnd, dOr, dNot, dIf, dUn, dTup, dLst, dItems, dYes, R.bind, R.to, O.seq, outR, ofO, noErr, mask, Sm.putIn, bindPat, bindPats, itemsOf, tru, List.foldr_cons, List.foldr_nil, List.length_cons, List.length_nil, List.map_cons, List.map_nil, List.cons_append, List.nil_append, Nat.sub_self, List.replicate_zero, List.replicate_succ, List.getElem?_cons_succ, List.getElem?_cons_zero, List.set_cons_zero, List.set_cons_succ, Nat.reduceAdd, Nat.reduceSub, ↓reduceIte, Bool.not_true, Bool.not_false, Bool.and_true, Bool.true_and, Bool.false_and, Bool.and_false, if_true, if_false, Bool.false_eq_true, oNeg, oAddI, oSubI, oAdd_ii, oLt, oLe, oGt, oGe, Option.bind_some, Option.map_some]
  | _ => simp only [oIsTup, wayT, defD, args, dSeq, dSet, dSetP, dSetN, lstAt, dApp, dAppP, dAsg, dPar, dDrop, dWhile, dIfS, dRet, dB, dCall, dCons, dNil, dVar, dC, dBin, dChain, asB, dTru, dNotT, dAndT, dOrT, dAnd, dOr, dNot, dIf, dUn, dTup, dLst, dItems, dYes, R.bind, R.to, O.seq, outR, ofO, noErr, mask, Sm.putIn, bindPat, bindPats, itemsOf, tru, List.foldr_cons, List.foldr_nil, List.length_cons, List.length_nil, List.map_cons, List.map_nil, List.cons_append, List.nil_append, Nat.sub_self, List.replicate_zero, List.replicate_succ, List.getElem?_cons_succ, List.getElem?_cons_zero, List.set_cons_zero, List.set_cons_succ, Nat.reduceAdd, Nat.reduceSub, ↓reduceIte, Bool.not_true, Bool.not_false, Bool.and_true, Bool.true_and, Bool.false_and, Bool.and_false, if_true, if_false, Bool.false_eq_true, oNeg, oAddI, oSubI, oAdd_ii, oLt, oLe, oGt, oGe, Option.bind_some, Option.map_some]
theorem isW_way {f : D → Bool} {d : D} (h : wayT d = false) : isW f d = false := by
  unfold wayT at h
  unfold isW
  split at h
  · simp only [h, Bool.false_and]
  · rfl
theorem isG_3 {n : Nat} {x y z : D} {zs : List D} : isG (n + 1) (.tup (x :: y :: z :: zs)) = false := by cases y <;> rfl
theorem ways_bad {f : D → Bool} {ws : List D} (h : ws.all wayT = false) : ws.all (isW f) = false := by
  rw [List.all_eq_false] at *
  obtain ⟨d, h1, h2⟩ := h
  exact ⟨d, h1, by rw [isW_way (by simpa using h2)]; simp⟩
theorem isG_y {n : Nat} {x y : D} (h : ∀ ws, y ≠ .tup ws) : isG (n + 1) (.tup [x, y]) = false := by
  cases y <;> first | exact (h _ rfl).elim | rfl
theorem isG_2 {n : Nat} {x : D} {ws : List D} (hx : wh x (-20) 20 = true) : isG (n + 1) (.tup [x, .tup ws]) = (decide (1 ≤ ws.length) && decide (ws.length ≤ 3) && ws.all (isW (isG n))) := by
  simp only [isG, hx, Bool.true_and]
theorem game_in_any : ∀ (n deep : Nat) (d : D), deep < n → okD d = true → d_is_game_in n [d, .int (deep : Int)] = .ok (.bl (isG deep d))
  | 0, _, _, h, _ => by omega
  | n + 1, 0, d, _, ok => by
    have e0 : (((0 : Nat) : Int) == 0) = true := by decide
    simp only [d_is_game_in, b_is_game_in, oEq_int, e0, isG, defD, args, dSeq, dSet, dSetP, dSetN, lstAt, dApp, dAppP, dAsg, dPar, dDrop, dWhile, dIfS, dRet, dB, dCall, dCons, dNil, dVar, dC, dBin, dChain, asB, dTru, dNotT, dAndT, dOrT, dAnd, dOr, dNot, dIf, dUn, dTup, dLst, dItems, dYes, R.bind, R.to, O.seq, outR, ofO, noErr, mask, Sm.putIn, bindPat, bindPats, itemsOf, tru, List.foldr_cons, List.foldr_nil, List.length_cons, List.length_nil, List.map_cons, List.map_nil, List.cons_append, List.nil_append, Nat.sub_self, List.replicate_zero, List.replicate_succ, List.getElem?_cons_succ, List.getElem?_cons_zero, List.set_cons_zero, List.set_cons_succ, Nat.reduceAdd, Nat.reduceSub, ↓reduceIte, Bool.not_true, Bool.not_false, Bool.and_true, Bool.true_and, Bool.false_and, Bool.and_false, if_true, if_false, Bool.false_eq_true, oNeg, oAddI, oSubI, oAdd_ii, oLt, oLe, oGt, oGe, Option.bind_some, Option.map_some]
  | n + 1, deep + 1, d, hn, ok => by
    have d0 : (((deep + 1 : Nat) : Int) == 0) = false := by simp; omega
    have nt : (∀ xs, d ≠ .tup xs) → oIsTup d = some (.bl false) → d_is_game_in (n + 1) [d, .int ((deep + 1 : Nat) : Int)] = .ok (.bl (isG (deep + 1) d)) := fun h ho => by
      have : isG (deep + 1) d = false := by
        unfold isG
        split
        · rfl
        · exact absurd rfl (h _)
        · exact absurd rfl (h _)
        · rfl
      rw [this]
      simp only [d_is_game_in, b_is_game_in, oEq_int, d0, ho, defD, args, dSeq, dSet, dSetP, dSetN, lstAt, dApp, dAppP, dAsg, dPar, dDrop, dWhile, dIfS, dRet, dB, dCall, dCons, dNil, dVar, dC, dBin, dChain, asB, dTru, dNotT, dAndT, dOrT, dAnd, dOr, dNot, dIf, dUn, dTup, dLst, dItems, dYes, R.bind, R.to, O.seq, outR, ofO, noErr, mask, Sm.putIn, bindPat, bindPats, itemsOf, tru, List.foldr_cons, List.foldr_nil, List.length_cons, List.length_nil, List.map_cons, List.map_nil, List.cons_append, List.nil_append, Nat.sub_self, List.replicate_zero, List.replicate_succ, List.getElem?_cons_succ, List.getElem?_cons_zero, List.set_cons_zero, List.set_cons_succ, Nat.reduceAdd, Nat.reduceSub, ↓reduceIte, Bool.not_true, Bool.not_false, Bool.and_true, Bool.true_and, Bool.false_and, Bool.and_false, if_true, if_false, Bool.false_eq_true, oNeg, oAddI, oSubI, oAdd_ii, oLt, oLe, oGt, oGe, Option.bind_some, Option.map_some]
    cases d with
    | non => exact nt (fun _ h => by cases h) rfl
    | bl _ => exact nt (fun _ h => by cases h) rfl
    | int _ => exact nt (fun _ h => by cases h) rfl
    | str _ => exact nt (fun _ h => by cases h) rfl
    | lst _ => exact nt (fun _ h => by cases h) rfl
    | dct _ => simp [okD] at ok
    | exc _ => simp [okD] at ok
    | scr _ => simp [okD] at ok
    | scr0 => simp [okD] at ok
    | fnv => simp [okD] at ok
    | obj _ => simp [okD] at ok
    | dcl _ => simp [okD] at ok
    | scr1 => simp [okD] at ok
    | tup xs =>
      cases xs with
      | nil =>
        have : isG (deep + 1) (.tup []) = false := rfl
        rw [this]
        simp only [d_is_game_in, b_is_game_in, oEq_int, d0, oIsTup, List.isEmpty, defD, args, dSeq, dSet, dSetP, dSetN, lstAt, dApp, dAppP, dAsg, dPar, dDrop, dWhile, dIfS, dRet, dB, dCall, dCons, dNil, dVar, dC, dBin, dChain, asB, dTru, dNotT, dAndT, dOrT, dAnd, dOr, dNot, dIf, dUn, dTup, dLst, dItems, dYes, R.bind, R.to, O.seq, outR, ofO, noErr, mask, Sm.putIn, bindPat, bindPats, itemsOf, tru, List.foldr_cons, List.foldr_nil, List.length_cons, List.length_nil, List.map_cons, List.map_nil, List.cons_append, List.nil_append, Nat.sub_self, List.replicate_zero, List.replicate_succ, List.getElem?_cons_succ, List.getElem?_cons_zero, List.set_cons_zero, List.set_cons_succ, Nat.reduceAdd, Nat.reduceSub, ↓reduceIte, Bool.not_true, Bool.not_false, Bool.and_true, Bool.true_and, Bool.false_and, Bool.and_false, if_true, if_false, Bool.false_eq_true, oNeg, oAddI, oSubI, oAdd_ii, oLt, oLe, oGt, oGe, Option.bind_some, Option.map_some]
      | cons x xs =>
        simp only [okD, okDs, Bool.and_eq_true] at ok
        have wx := whole_any ok.1 (0 - 20) 20
        rw [show (0 : Int) - 20 = -20 by decide] at wx
        cases hx : wh x (-20) 20 with
        | false =>
          rw [isG_not hx]
          rw [hx] at wx
          simp only [d_is_game_in, b_is_game_in, oEq_int, d0, oIsTup, List.isEmpty, oIx_t0, show (0 : Int) - 20 = -20 by decide, wx, defD, args, dSeq, dSet, dSetP, dSetN, lstAt, dApp, dAppP, dAsg, dPar, dDrop, dWhile, dIfS, dRet, dB, dCall, dCons, dNil, dVar, dC, dBin, dChain, asB, dTru, dNotT, dAndT, dOrT, dAnd, dOr, dNot, dIf, dUn, dTup, dLst, dItems, dYes, R.bind, R.to, O.seq, outR, ofO, noErr, mask, Sm.putIn, bindPat, bindPats, itemsOf, tru, List.foldr_cons, List.foldr_nil, List.length_cons, List.length_nil, List.map_cons, List.map_nil, List.cons_append, List.nil_append, Nat.sub_self, List.replicate_zero, List.replicate_succ, List.getElem?_cons_succ, List.getElem?_cons_zero, List.set_cons_zero, List.set_cons_succ, Nat.reduceAdd, Nat.reduceSub, ↓reduceIte, Bool.not_true, Bool.not_false, Bool.and_true, Bool.true_and, Bool.false_and, Bool.and_false, if_true, if_false, Bool.false_eq_true, oNeg, oAddI, oSubI, oAdd_ii, oLt, oLe, oGt, oGe, Option.bind_some, Option.map_some]
        | true =>
          rw [hx] at wx
          refine defD_eq rfl ?_
          unfold b_is_game_in
          refine out_seq (ρ1 := [some (.tup (x :: xs)), some (.int ((deep + 1 : Nat) : Int)), none]) ?_ ?_
          · simp only [oEq_int, d0, oIsTup, List.isEmpty, oIx_t0, show (0 : Int) - 20 = -20 by decide, wx, defD, args, dSeq, dSet, dSetP, dSetN, lstAt, dApp, dAppP, dAsg, dPar, dDrop, dWhile, dIfS, dRet, dB, dCall, dCons, dNil, dVar, dC, dBin, dChain, asB, dTru, dNotT, dAndT, dOrT, dAnd, dOr, dNot, dIf, dUn, dTup, dLst, dItems, dYes, R.bind, R.to, O.seq, outR, ofO, noErr, mask, Sm.putIn, bindPat, bindPats, itemsOf, tru, List.foldr_cons, List.foldr_nil, List.length_cons, List.length_nil, List.map_cons, List.map_nil, List.cons_append, List.nil_append, Nat.sub_self, List.replicate_zero, List.replicate_succ, List.getElem?_cons_succ, List.getElem?_cons_zero, List.set_cons_zero, List.set_cons_succ, Nat.reduceAdd, Nat.reduceSub, ↓reduceIte, Bool.not_true, Bool.not_false, Bool.and_true, Bool.true_and, Bool.false_and, Bool.and_false, if_true, if_false, Bool.false_eq_true, oNeg, oAddI, oSubI, oAdd_ii, oLt, oLe, oGt, oGe, Option.bind_some, Option.map_some]
          cases xs with
          | nil =>
            have : isG (deep + 1) (.tup [x]) = true := by simp only [isG, hx]
            rw [this]
            refine out_seqR ?_
            simp only [oLen, oEq_int, show ((((1 : Nat) : Int)) == 1) = true by decide, defD, args, dSeq, dSet, dSetP, dSetN, lstAt, dApp, dAppP, dAsg, dPar, dDrop, dWhile, dIfS, dRet, dB, dCall, dCons, dNil, dVar, dC, dBin, dChain, asB, dTru, dNotT, dAndT, dOrT, dAnd, dOr, dNot, dIf, dUn, dTup, dLst, dItems, dYes, R.bind, R.to, O.seq, outR, ofO, noErr, mask, Sm.putIn, bindPat, bindPats, itemsOf, tru, List.foldr_cons, List.foldr_nil, List.length_cons, List.length_nil, List.map_cons, List.map_nil, List.cons_append, List.nil_append, Nat.sub_self, List.replicate_zero, List.replicate_succ, List.getElem?_cons_succ, List.getElem?_cons_zero, List.set_cons_zero, List.set_cons_succ, Nat.reduceAdd, Nat.reduceSub, ↓reduceIte, Bool.not_true, Bool.not_false, Bool.and_true, Bool.true_and, Bool.false_and, Bool.and_false, if_true, if_false, Bool.false_eq_true, oNeg, oAddI, oSubI, oAdd_ii, oLt, oLe, oGt, oGe, Option.bind_some, Option.map_some]
          | cons y zs =>
            refine out_seq (ρ1 := [some (.tup (x :: y :: zs)), some (.int ((deep + 1 : Nat) : Int)), none]) ?_ ?_
            · have := len_ne1 (n := (x :: y :: zs).length) (by simp)
              simp only [List.length_cons] at this
              simp only [oLen, oEq_int, List.length_cons, this, defD, args, dSeq, dSet, dSetP, dSetN, lstAt, dApp, dAppP, dAsg, dPar, dDrop, dWhile, dIfS, dRet, dB, dCall, dCons, dNil, dVar, dC, dBin, dChain, asB, dTru, dNotT, dAndT, dOrT, dAnd, dOr, dNot, dIf, dUn, dTup, dLst, dItems, dYes, R.bind, R.to, O.seq, outR, ofO, noErr, mask, Sm.putIn, bindPat, bindPats, itemsOf, tru, List.foldr_cons, List.foldr_nil, List.length_cons, List.length_nil, List.map_cons, List.map_nil, List.cons_append, List.nil_append, Nat.sub_self, List.replicate_zero, List.replicate_succ, List.getElem?_cons_succ, List.getElem?_cons_zero, List.set_cons_zero, List.set_cons_succ, Nat.reduceAdd, Nat.reduceSub, ↓reduceIte, Bool.not_true, Bool.not_false, Bool.and_true, Bool.true_and, Bool.false_and, Bool.and_false, if_true, if_false, Bool.false_eq_true, oNeg, oAddI, oSubI, oAdd_ii, oLt, oLe, oGt, oGe, Option.bind_some, Option.map_some]
            cases zs with
            | cons z zs =>
              have : isG (deep + 1) (.tup (x :: y :: z :: zs)) = false := isG_3
              rw [this]
              refine out_seqR ?_
              have := len_ne2 (n := (x :: y :: z :: zs).length) (by simp)
              simp only [List.length_cons] at this
              simp only [oLen, oNe_int, List.length_cons, this, defD, args, dSeq, dSet, dSetP, dSetN, lstAt, dApp, dAppP, dAsg, dPar, dDrop, dWhile, dIfS, dRet, dB, dCall, dCons, dNil, dVar, dC, dBin, dChain, asB, dTru, dNotT, dAndT, dOrT, dAnd, dOr, dNot, dIf, dUn, dTup, dLst, dItems, dYes, R.bind, R.to, O.seq, outR, ofO, noErr, mask, Sm.putIn, bindPat, bindPats, itemsOf, tru, List.foldr_cons, List.foldr_nil, List.length_cons, List.length_nil, List.map_cons, List.map_nil, List.cons_append, List.nil_append, Nat.sub_self, List.replicate_zero, List.replicate_succ, List.getElem?_cons_succ, List.getElem?_cons_zero, List.set_cons_zero, List.set_cons_succ, Nat.reduceAdd, Nat.reduceSub, ↓reduceIte, Bool.not_true, Bool.not_false, Bool.and_true, Bool.true_and, Bool.false_and, Bool.and_false, if_true, if_false, Bool.false_eq_true, oNeg, oAddI, oSubI, oAdd_ii, oLt, oLe, oGt, oGe, Option.bind_some, Option.map_some]
            | nil =>
              simp only [okDs, Bool.and_eq_true] at ok
              have oky := ok.2.1
              cases y with
              | dct _ => simp [okD] at oky
              | exc _ => simp [okD] at oky
              | scr _ => simp [okD] at oky
              | scr0 => simp [okD] at oky
              | fnv => simp [okD] at oky
              | obj _ => simp [okD] at oky
              | dcl _ => simp [okD] at oky
              | scr1 => simp [okD] at oky
              | tup ws =>
                simp only [okD] at oky
                rw [isG_2 hx]
                cases hw : (decide (1 ≤ ws.length) && decide (ws.length ≤ 3)) with
                | false =>
                  rw [Bool.false_and]
                  refine out_seqR ?_
                  by_cases h1 : 1 ≤ ws.length
                  · rw [decide_eq_true h1, Bool.true_and, decide_eq_false_iff_not] at hw
                    simp only [oNe_int, oLen, oIx_t1, oIsTup, show ((((2 : Nat) : Int)) == 2) = true by decide, decide_eq_true (show (1 : Int) ≤ (ws.length : Int) by omega), decide_eq_false (show ¬ ((ws.length : Int) ≤ 3) by omega), defD, args, dSeq, dSet, dSetP, dSetN, lstAt, dApp, dAppP, dAsg, dPar, dDrop, dWhile, dIfS, dRet, dB, dCall, dCons, dNil, dVar, dC, dBin, dChain, asB, dTru, dNotT, dAndT, dOrT, dAnd, dOr, dNot, dIf, dUn, dTup, dLst, dItems, dYes, R.bind, R.to, O.seq, outR, ofO, noErr, mask, Sm.putIn, bindPat, bindPats, itemsOf, tru, List.foldr_cons, List.foldr_nil, List.length_cons, List.length_nil, List.map_cons, List.map_nil, List.cons_append, List.nil_append, Nat.sub_self, List.replicate_zero, List.replicate_succ, List.getElem?_cons_succ, List.getElem?_cons_zero, List.set_cons_zero, List.set_cons_succ, Nat.reduceAdd, Nat.reduceSub, ↓reduceIte, Bool.not_true, Bool.not_false, Bool.and_true, Bool.true_and, Bool.false_and, Bool.and_false, if_true, if_false, Bool.false_eq_true, oNeg, oAddI, oSubI, oAdd_ii, oLt, oLe, oGt, oGe, Option.bind_some, Option.map_some]
                  · simp only [oNe_int, oLen, oIx_t1, oIsTup, show ((((2 : Nat) : Int)) == 2) = true by decide, decide_eq_false (show ¬ ((1 : Int) ≤ (ws.length : Int)) by omega), defD, args, dSeq, dSet, dSetP, dSetN, lstAt, dApp, dAppP, dAsg, dPar, dDrop, dWhile, dIfS, dRet, dB, dCall, dCons, dNil, dVar, dC, dBin, dChain, asB, dTru, dNotT, dAndT, dOrT, dAnd, dOr, dNot, dIf, dUn, dTup, dLst, dItems, dYes, R.bind, R.to, O.seq, outR, ofO, noErr, mask, Sm.putIn, bindPat, bindPats, itemsOf, tru, List.foldr_cons, List.foldr_nil, List.length_cons, List.length_nil, List.map_cons, List.map_nil, List.cons_append, List.nil_append, Nat.sub_self, List.replicate_zero, List.replicate_succ, List.getElem?_cons_succ, List.getElem?_cons_zero, List.set_cons_zero, List.set_cons_succ, Nat.reduceAdd, Nat.reduceSub, ↓reduceIte, Bool.not_true, Bool.not_false, Bool.and_true, Bool.true_and, Bool.false_and, Bool.and_false, if_true, if_false, Bool.false_eq_true, oNeg, oAddI, oSubI, oAdd_ii, oLt, oLe, oGt, oGe, Option.bind_some, Option.map_some]
                | true =>
                  rw [Bool.true_and]
                  simp only [Bool.and_eq_true, decide_eq_true_eq] at hw
                  refine out_seq (ρ1 := [some (.tup [x, .tup ws]), some (.int ((deep + 1 : Nat) : Int)), none]) ?_ ?_
                  · simp only [oNe_int, oLen, oIx_t1, oIsTup, show ((((2 : Nat) : Int)) == 2) = true by decide, decide_eq_true (show (1 : Int) ≤ (ws.length : Int) by omega), decide_eq_true (show (ws.length : Int) ≤ 3 by omega), defD, args, dSeq, dSet, dSetP, dSetN, lstAt, dApp, dAppP, dAsg, dPar, dDrop, dWhile, dIfS, dRet, dB, dCall, dCons, dNil, dVar, dC, dBin, dChain, asB, dTru, dNotT, dAndT, dOrT, dAnd, dOr, dNot, dIf, dUn, dTup, dLst, dItems, dYes, R.bind, R.to, O.seq, outR, ofO, noErr, mask, Sm.putIn, bindPat, bindPats, itemsOf, tru, List.foldr_cons, List.foldr_nil, List.length_cons, List.length_nil, List.map_cons, List.map_nil, List.cons_append, List.nil_append, Nat.sub_self, List.replicate_zero, List.replicate_succ, List.getElem?_cons_succ, List.getElem?_cons_zero, List.set_cons_zero, List.set_cons_succ, Nat.reduceAdd, Nat.reduceSub, ↓reduceIte, Bool.not_true, Bool.not_false, Bool.and_true, Bool.true_and, Bool.false_and, Bool.and_false, if_true, if_false, Bool.false_eq_true, oNeg, oAddI, oSubI, oAdd_ii, oLt, oLe, oGt, oGe, Option.bind_some, Option.map_some]
                  obtain ⟨l1, l2⟩ := forGo_test (pt := .v 2) (f := dIfS (wayTst d_is_whole) (dRet (dC (.bl false))) .nx) wayT (.bl false) (fun ρ => ∃ z, ρ = [some (.tup [x, .tup ws]), some (.int ((deep + 1 : Nat) : Int)), z]) ws _ ⟨none, rfl⟩ (by
                    rintro d ρ hd ⟨z, rfl⟩
                    have wt := way_test (x0 := some (.tup [x, .tup ws])) (x1 := some (.int ((deep + 1 : Nat) : Int))) (okDs_mem oky hd)
                    refine ⟨_, rfl, fun h => ⟨_, ?_, some d, rfl⟩, fun h => ?_⟩
                    · refine ifs_f ?_ rfl
                      rw [h] at wt; exact wt
                    · refine ifs_t ?_ rfl
                      rw [h] at wt; exact wt)
                  cases hall : ws.all wayT with
                  | false =>
                    rw [ways_bad hall]
                    refine out_seqR ?_
                    unfold dFor
                    simp only [oIx_t1, defD, args, dSeq, dSet, dSetP, dSetN, lstAt, dApp, dAppP, dAsg, dPar, dDrop, dWhile, dIfS, dRet, dB, dCall, dCons, dNil, dVar, dC, dBin, dChain, asB, dTru, dNotT, dAndT, dOrT, dAnd, dOr, dNot, dIf, dUn, dTup, dLst, dItems, dYes, R.bind, R.to, O.seq, outR, ofO, noErr, mask, Sm.putIn, bindPat, bindPats, itemsOf, tru, List.foldr_cons, List.foldr_nil, List.length_cons, List.length_nil, List.map_cons, List.map_nil, List.cons_append, List.nil_append, Nat.sub_self, List.replicate_zero, List.replicate_succ, List.getElem?_cons_succ, List.getElem?_cons_zero, List.set_cons_zero, List.set_cons_succ, Nat.reduceAdd, Nat.reduceSub, ↓reduceIte, Bool.not_true, Bool.not_false, Bool.and_true, Bool.true_and, Bool.false_and, Bool.and_false, if_true, if_false, Bool.false_eq_true, oNeg, oAddI, oSubI, oAdd_ii, oLt, oLe, oGt, oGe, Option.bind_some, Option.map_some]
                    exact l2 hall
                  | true =>
                    obtain ⟨ρ', e1, z, rfl⟩ := l1 hall
                    refine out_seq (ρ1 := [some (.tup [x, .tup ws]), some (.int ((deep + 1 : Nat) : Int)), z]) ?_ (ret_of ?_)
                    · unfold dFor
                      simp only [oIx_t1, defD, args, dSeq, dSet, dSetP, dSetN, lstAt, dApp, dAppP, dAsg, dPar, dDrop, dWhile, dIfS, dRet, dB, dCall, dCons, dNil, dVar, dC, dBin, dChain, asB, dTru, dNotT, dAndT, dOrT, dAnd, dOr, dNot, dIf, dUn, dTup, dLst, dItems, dYes, R.bind, R.to, O.seq, outR, ofO, noErr, mask, Sm.putIn, bindPat, bindPats, itemsOf, tru, List.foldr_cons, List.foldr_nil, List.length_cons, List.length_nil, List.map_cons, List.map_nil, List.cons_append, List.nil_append, Nat.sub_self, List.replicate_zero, List.replicate_succ, List.getElem?_cons_succ, List.getElem?_cons_zero, List.set_cons_zero, List.set_cons_succ, Nat.reduceAdd, Nat.reduceSub, ↓reduceIte, Bool.not_true, Bool.not_false, Bool.and_true, Bool.true_and, Bool.false_and, Bool.and_false, if_true, if_false, Bool.false_eq_true, oNeg, oAddI, oSubI, oAdd_ii, oLt, oLe, oGt, oGe, Option.bind_some, Option.map_some]
                      exact e1
                    have lc : dLcs [2] (.v 2) (dItems (dBin oIx (dVar 0) (dC (.int 1)))) dYes (dCall (d_is_game_in n) (dCons (dBin oIx (dVar 2) (dC (.int 1))) (dCons (dBin oSubI (dVar 1) (dC (.int 1))) dNil))) [some (.tup [x, .tup ws]), some (.int ((deep + 1 : Nat) : Int)), z] = .ok (ws.map fun d => D.bl (isW (isG deep) d)) := by
                      refine lc_ok1 (enc := fun d : D => d) _ ?_ fun d hd => ⟨_, rfl, ?_⟩
                      · simp only [oIx_t1, List.map_id', defD, args, dSeq, dSet, dSetP, dSetN, lstAt, dApp, dAppP, dAsg, dPar, dDrop, dWhile, dIfS, dRet, dB, dCall, dCons, dNil, dVar, dC, dBin, dChain, asB, dTru, dNotT, dAndT, dOrT, dAnd, dOr, dNot, dIf, dUn, dTup, dLst, dItems, dYes, R.bind, R.to, O.seq, outR, ofO, noErr, mask, Sm.putIn, bindPat, bindPats, itemsOf, tru, List.foldr_cons, List.foldr_nil, List.length_cons, List.length_nil, List.map_cons, List.map_nil, List.cons_append, List.nil_append, Nat.sub_self, List.replicate_zero, List.replicate_succ, List.getElem?_cons_succ, List.getElem?_cons_zero, List.set_cons_zero, List.set_cons_succ, Nat.reduceAdd, Nat.reduceSub, ↓reduceIte, Bool.not_true, Bool.not_false, Bool.and_true, Bool.true_and, Bool.false_and, Bool.and_false, if_true, if_false, Bool.false_eq_true, oNeg, oAddI, oSubI, oAdd_ii, oLt, oLe, oGt, oGe, Option.bind_some, Option.map_some]
                      · obtain ⟨k, s, rfl, hk⟩ := snd_of (List.all_eq_true.mp hall d hd)
                        have oks := okDs_mem oky hd
                        simp only [okD, okDs, Bool.and_eq_true] at oks
                        have ih := game_in_any n deep s (by omega) oks.2.1
                        simp only [oIx_t1, show ((deep + 1 : Nat) : Int) - 1 = (deep : Int) by omega, ih, isW, hk, defD, args, dSeq, dSet, dSetP, dSetN, lstAt, dApp, dAppP, dAsg, dPar, dDrop, dWhile, dIfS, dRet, dB, dCall, dCons, dNil, dVar, dC, dBin, dChain, asB, dTru, dNotT, dAndT, dOrT, dAnd, dOr, dNot, dIf, dUn, dTup, dLst, dItems, dYes, R.bind, R.to, O.seq, outR, ofO, noErr, mask, Sm.putIn, bindPat, bindPats, itemsOf, tru, List.foldr_cons, List.foldr_nil, List.length_cons, List.length_nil, List.map_cons, List.map_nil, List.cons_append, List.nil_append, Nat.sub_self, List.replicate_zero, List.replicate_succ, List.getElem?_cons_succ, List.getElem?_cons_zero, List.set_cons_zero, List.set_cons_succ, Nat.reduceAdd, Nat.reduceSub, ↓reduceIte, Bool.not_true, Bool.not_false, Bool.and_true, Bool.true_and, Bool.false_and, Bool.and_false, if_true, if_false, Bool.false_eq_true, oNeg, oAddI, oSubI, oAdd_ii, oLt, oLe, oGt, oGe, Option.bind_some, Option.map_some]
                    have al := all_bools (isW (isG deep)) ws
                    generalize (ws.map fun d => D.bl (isW (isG deep) d)) = L at *
                    simp only [dLc, lc, al, defD, args, dSeq, dSet, dSetP, dSetN, lstAt, dApp, dAppP, dAsg, dPar, dDrop, dWhile, dIfS, dRet, dB, dCall, dCons, dNil, dVar, dC, dBin, dChain, asB, dTru, dNotT, dAndT, dOrT, dAnd, dOr, dNot, dIf, dUn, dTup, dLst, dItems, dYes, R.bind, R.to, O.seq, outR, ofO, noErr, mask, Sm.putIn, bindPat, bindPats, itemsOf, tru, List.foldr_cons, List.foldr_nil, List.length_cons, List.length_nil, List.map_cons, List.map_nil, List.cons_append, List.nil_append, Nat.sub_self, List.replicate_zero, List.replicate_succ, List.getElem?_cons_succ, List.getElem?_cons_zero, List.set_cons_zero, List.set_cons_succ, Nat.reduceAdd, Nat.reduceSub, ↓reduceIte, Bool.not_true, Bool.not_false, Bool.and_true, Bool.true_and, Bool.false_and, Bool.and_false, if_true, if_false, Bool.false_eq_true, oNeg, oAddI, oSubI, oAdd_ii, oLt, oLe, oGt, oGe, Option.bind_some, Option.map_some]
              | _ =>
                rw [isG_y (fun ws h => by cases h)]
                refine out_seqR ?_
                simp only [oNe_int, oLen, oIx_t1, oIsTup, show ((((2 : Nat) : Int)) == 2) = true by decide, defD, args, dSeq, dSet, dSetP, dSetN, lstAt, dApp, dAppP, dAsg, dPar, dDrop, dWhile, dIfS, dRet, dB, dCall, dCons, dNil, dVar, dC, dBin, dChain, asB, dTru, dNotT, dAndT, dOrT, dAnd, dOr, dNot, dIf, dUn, dTup, dLst, dItems, dYes, R.bind, R.to, O.seq, outR, ofO, noErr, mask, Sm.putIn, bindPat, bindPats, itemsOf, tru, List.foldr_cons, List.foldr_nil, List.length_cons, List.length_nil, List.map_cons, List.map_nil, List.cons_append, List.nil_append, Nat.sub_self, List.replicate_zero, List.replicate_succ, List.getElem?_cons_succ, List.getElem?_cons_zero, List.set_cons_zero, List.set_cons_succ, Nat.reduceAdd, Nat.reduceSub, ↓reduceIte, Bool.not_true, Bool.not_false, Bool.and_true, Bool.true_and, Bool.false_and, Bool.and_false, if_true, if_false, Bool.false_eq_true, oNeg, oAddI, oSubI, oAdd_ii, oLt, oLe, oGt, oGe, Option.bind_some, Option.map_some]
theorem game_any {d : D} (ok : okD d = true) : d_is_game [d] = .ok (.bl (isG 4 d)) := by
  have := game_in_any 8 4 d (by decide) ok
  simp only [d_is_game, b_is_game, show d_is_game_in 8 [d, .int 4] = _ from this, defD, args, dSeq, dSet, dSetP, dSetN, lstAt, dApp, dAppP, dAsg, dPar, dDrop, dWhile, dIfS, dRet, dB, dCall, dCons, dNil, dVar, dC, dBin, dChain, asB, dTru, dNotT, dAndT, dOrT, dAnd, dOr, dNot, dIf, dUn, dTup, dLst, dItems, dYes, R.bind, R.to, O.seq, outR, ofO, noErr, mask, Sm.putIn, bindPat, bindPats, itemsOf, tru, List.foldr_cons, List.foldr_nil, List.length_cons, List.length_nil, List.map_cons, List.map_nil, List.cons_append, List.nil_append, Nat.sub_self, List.replicate_zero, List.replicate_succ, List.getElem?_cons_succ, List.getElem?_cons_zero, List.set_cons_zero, List.set_cons_succ, Nat.reduceAdd, Nat.reduceSub, ↓reduceIte, Bool.not_true, Bool.not_false, Bool.and_true, Bool.true_and, Bool.false_and, Bool.and_false, if_true, if_false, Bool.false_eq_true, oNeg, oAddI, oSubI, oAdd_ii, oLt, oLe, oGt, oGe, Option.bind_some, Option.map_some]
theorem look_any {d : D} (ok : okD d = true) : d_look_game [d] = if isG 4 d then .ok .non else .err 1 := by
  cases h : isG 4 d with
  | true => simp only [d_look_game, b_look_game, game_any ok, h, defD, args, dSeq, dSet, dSetP, dSetN, lstAt, dApp, dAppP, dAsg, dPar, dDrop, dWhile, dIfS, dRet, dB, dCall, dCons, dNil, dVar, dC, dBin, dChain, asB, dTru, dNotT, dAndT, dOrT, dAnd, dOr, dNot, dIf, dUn, dTup, dLst, dItems, dYes, R.bind, R.to, O.seq, outR, ofO, noErr, mask, Sm.putIn, bindPat, bindPats, itemsOf, tru, List.foldr_cons, List.foldr_nil, List.length_cons, List.length_nil, List.map_cons, List.map_nil, List.cons_append, List.nil_append, Nat.sub_self, List.replicate_zero, List.replicate_succ, List.getElem?_cons_succ, List.getElem?_cons_zero, List.set_cons_zero, List.set_cons_succ, Nat.reduceAdd, Nat.reduceSub, ↓reduceIte, Bool.not_true, Bool.not_false, Bool.and_true, Bool.true_and, Bool.false_and, Bool.and_false, if_true, if_false, Bool.false_eq_true, oNeg, oAddI, oSubI, oAdd_ii, oLt, oLe, oGt, oGe, Option.bind_some, Option.map_some]
  | false => simp only [d_look_game, b_look_game, game_any ok, h, dRaise, defD, args, dSeq, dSet, dSetP, dSetN, lstAt, dApp, dAppP, dAsg, dPar, dDrop, dWhile, dIfS, dRet, dB, dCall, dCons, dNil, dVar, dC, dBin, dChain, asB, dTru, dNotT, dAndT, dOrT, dAnd, dOr, dNot, dIf, dUn, dTup, dLst, dItems, dYes, R.bind, R.to, O.seq, outR, ofO, noErr, mask, Sm.putIn, bindPat, bindPats, itemsOf, tru, List.foldr_cons, List.foldr_nil, List.length_cons, List.length_nil, List.map_cons, List.map_nil, List.cons_append, List.nil_append, Nat.sub_self, List.replicate_zero, List.replicate_succ, List.getElem?_cons_succ, List.getElem?_cons_zero, List.set_cons_zero, List.set_cons_succ, Nat.reduceAdd, Nat.reduceSub, ↓reduceIte, Bool.not_true, Bool.not_false, Bool.and_true, Bool.true_and, Bool.false_and, Bool.and_false, if_true, if_false, Bool.false_eq_true, oNeg, oAddI, oSubI, oAdd_ii, oLt, oLe, oGt, oGe, Option.bind_some, Option.map_some]
theorem lgame_any : ∀ (n deep : Nat) (d : D), deep < n → okD d = true → d__law_is_game n [d, .int (deep : Int)] = .ok (.bl (isG deep d))
  | 0, _, _, h, _ => by omega
  | n + 1, 0, d, _, ok => by
    have e0 : decide (((0 : Nat) : Int) < 1) = true := by decide
    simp only [d__law_is_game, b__law_is_game, e0, isG, defD, args, dSeq, dSet, dSetP, dSetN, lstAt, dApp, dAppP, dAsg, dPar, dDrop, dWhile, dIfS, dRet, dB, dCall, dCons, dNil, dVar, dC, dBin, dChain, asB, dTru, dNotT, dAndT, dOrT, dAnd, dOr, dNot, dIf, dUn, dTup, dLst, dItems, dYes, R.bind, R.to, O.seq, outR, ofO, noErr, mask, Sm.putIn, bindPat, bindPats, itemsOf, tru, List.foldr_cons, List.foldr_nil, List.length_cons, List.length_nil, List.map_cons, List.map_nil, List.cons_append, List.nil_append, Nat.sub_self, List.replicate_zero, List.replicate_succ, List.getElem?_cons_succ, List.getElem?_cons_zero, List.set_cons_zero, List.set_cons_succ, Nat.reduceAdd, Nat.reduceSub, ↓reduceIte, Bool.not_true, Bool.not_false, Bool.and_true, Bool.true_and, Bool.false_and, Bool.and_false, if_true, if_false, Bool.false_eq_true, oNeg, oAddI, oSubI, oAdd_ii, oLt, oLe, oGt, oGe, Option.bind_some, Option.map_some]
  | n + 1, deep + 1, d, hn, ok => by
    have d0 : decide (((deep + 1 : Nat) : Int) < 1) = false := by simp; omega
    have nt : (∀ xs, d ≠ .tup xs) → oIsTup d = some (.bl false) → d__law_is_game (n + 1) [d, .int ((deep + 1 : Nat) : Int)] = .ok (.bl (isG (deep + 1) d)) := fun h ho => by
      have : isG (deep + 1) d = false := by
        unfold isG
        split
        · rfl
        · exact absurd rfl (h _)
        · exact absurd rfl (h _)
        · rfl
      rw [this]
      simp only [d__law_is_game, b__law_is_game, d0, ho, defD, args, dSeq, dSet, dSetP, dSetN, lstAt, dApp, dAppP, dAsg, dPar, dDrop, dWhile, dIfS, dRet, dB, dCall, dCons, dNil, dVar, dC, dBin, dChain, asB, dTru, dNotT, dAndT, dOrT, dAnd, dOr, dNot, dIf, dUn, dTup, dLst, dItems, dYes, R.bind, R.to, O.seq, outR, ofO, noErr, mask, Sm.putIn, bindPat, bindPats, itemsOf, tru, List.foldr_cons, List.foldr_nil, List.length_cons, List.length_nil, List.map_cons, List.map_nil, List.cons_append, List.nil_append, Nat.sub_self, List.replicate_zero, List.replicate_succ, List.getElem?_cons_succ, List.getElem?_cons_zero, List.set_cons_zero, List.set_cons_succ, Nat.reduceAdd, Nat.reduceSub, ↓reduceIte, Bool.not_true, Bool.not_false, Bool.and_true, Bool.true_and, Bool.false_and, Bool.and_false, if_true, if_false, Bool.false_eq_true, oNeg, oAddI, oSubI, oAdd_ii, oLt, oLe, oGt, oGe, Option.bind_some, Option.map_some]
    cases d with
    | non => exact nt (fun _ h => by cases h) rfl
    | bl _ => exact nt (fun _ h => by cases h) rfl
    | int _ => exact nt (fun _ h => by cases h) rfl
    | str _ => exact nt (fun _ h => by cases h) rfl
    | lst _ => exact nt (fun _ h => by cases h) rfl
    | dct _ => simp [okD] at ok
    | exc _ => simp [okD] at ok
    | scr _ => simp [okD] at ok
    | scr0 => simp [okD] at ok
    | fnv => simp [okD] at ok
    | obj _ => simp [okD] at ok
    | dcl _ => simp [okD] at ok
    | scr1 => simp [okD] at ok
    | tup xs =>
      cases xs with
      | nil =>
        have : isG (deep + 1) (.tup []) = false := rfl
        rw [this]
        simp only [d__law_is_game, b__law_is_game, d0, oIsTup, oLen, show decide ((1 : Int) ≤ ((0 : Nat) : Int)) = false by decide, defD, args, dSeq, dSet, dSetP, dSetN, lstAt, dApp, dAppP, dAsg, dPar, dDrop, dWhile, dIfS, dRet, dB, dCall, dCons, dNil, dVar, dC, dBin, dChain, asB, dTru, dNotT, dAndT, dOrT, dAnd, dOr, dNot, dIf, dUn, dTup, dLst, dItems, dYes, R.bind, R.to, O.seq, outR, ofO, noErr, mask, Sm.putIn, bindPat, bindPats, itemsOf, tru, List.foldr_cons, List.foldr_nil, List.length_cons, List.length_nil, List.map_cons, List.map_nil, List.cons_append, List.nil_append, Nat.sub_self, List.replicate_zero, List.replicate_succ, List.getElem?_cons_succ, List.getElem?_cons_zero, List.set_cons_zero, List.set_cons_succ, Nat.reduceAdd, Nat.reduceSub, ↓reduceIte, Bool.not_true, Bool.not_false, Bool.and_true, Bool.true_and, Bool.false_and, Bool.and_false, if_true, if_false, Bool.false_eq_true, oNeg, oAddI, oSubI, oAdd_ii, oLt, oLe, oGt, oGe, Option.bind_some, Option.map_some]
      | cons x xs =>
        simp only [okD, okDs, Bool.and_eq_true] at ok
        have wx := lwhole_any ok.1 (-20) 20
        have l1 : decide ((1 : Int) ≤ (((x :: xs).length : Nat) : Int)) = true := by simp; omega
        by_cases hl2 : xs.length ≤ 1
        · have l2 : decide ((((x :: xs).length : Nat) : Int) ≤ 2) = true := by simp; omega
          simp only [List.length_cons] at l1 l2
          cases hx : wh x (-20) 20 with
          | false =>
            rw [isG_not hx]
            rw [hx] at wx
            simp only [d__law_is_game, b__law_is_game, d0, oIsTup, oLen, List.length_cons, l1, l2, oIx_t0, wx, defD, args, dSeq, dSet, dSetP, dSetN, lstAt, dApp, dAppP, dAsg, dPar, dDrop, dWhile, dIfS, dRet, dB, dCall, dCons, dNil, dVar, dC, dBin, dChain, asB, dTru, dNotT, dAndT, dOrT, dAnd, dOr, dNot, dIf, dUn, dTup, dLst, dItems, dYes, R.bind, R.to, O.seq, outR, ofO, noErr, mask, Sm.putIn, bindPat, bindPats, itemsOf, tru, List.foldr_cons, List.foldr_nil, List.length_cons, List.length_nil, List.map_cons, List.map_nil, List.cons_append, List.nil_append, Nat.sub_self, List.replicate_zero, List.replicate_succ, List.getElem?_cons_succ, List.getElem?_cons_zero, List.set_cons_zero, List.set_cons_succ, Nat.reduceAdd, Nat.reduceSub, ↓reduceIte, Bool.not_true, Bool.not_false, Bool.and_true, Bool.true_and, Bool.false_and, Bool.and_false, if_true, if_false, Bool.false_eq_true, oNeg, oAddI, oSubI, oAdd_ii, oLt, oLe, oGt, oGe, Option.bind_some, Option.map_some]
          | true =>
            rw [hx] at wx
            refine defD_eq rfl ?_
            unfold b__law_is_game
            refine out_seq (ρ1 := [some (.tup (x :: xs)), some (.int ((deep + 1 : Nat) : Int)), none]) ?_ ?_
            · simp only [d0, oIsTup, oLen, List.length_cons, l1, l2, oIx_t0, wx, defD, args, dSeq, dSet, dSetP, dSetN, lstAt, dApp, dAppP, dAsg, dPar, dDrop, dWhile, dIfS, dRet, dB, dCall, dCons, dNil, dVar, dC, dBin, dChain, asB, dTru, dNotT, dAndT, dOrT, dAnd, dOr, dNot, dIf, dUn, dTup, dLst, dItems, dYes, R.bind, R.to, O.seq, outR, ofO, noErr, mask, Sm.putIn, bindPat, bindPats, itemsOf, tru, List.foldr_cons, List.foldr_nil, List.length_cons, List.length_nil, List.map_cons, List.map_nil, List.cons_append, List.nil_append, Nat.sub_self, List.replicate_zero, List.replicate_succ, List.getElem?_cons_succ, List.getElem?_cons_zero, List.set_cons_zero, List.set_cons_succ, Nat.reduceAdd, Nat.reduceSub, ↓reduceIte, Bool.not_true, Bool.not_false, Bool.and_true, Bool.true_and, Bool.false_and, Bool.and_false, if_true, if_false, Bool.false_eq_true, oNeg, oAddI, oSubI, oAdd_ii, oLt, oLe, oGt, oGe, Option.bind_some, Option.map_some]
            match xs, hl2, ok with
            | [], _, ok =>
              have : isG (deep + 1) (.tup [x]) = true := by simp only [isG, hx]
              rw [this]
              refine out_seqR ?_
              simp only [oLen, oEq_int, show ((((1 : Nat) : Int)) == 1) = true by decide, defD, args, dSeq, dSet, dSetP, dSetN, lstAt, dApp, dAppP, dAsg, dPar, dDrop, dWhile, dIfS, dRet, dB, dCall, dCons, dNil, dVar, dC, dBin, dChain, asB, dTru, dNotT, dAndT, dOrT, dAnd, dOr, dNot, dIf, dUn, dTup, dLst, dItems, dYes, R.bind, R.to, O.seq, outR, ofO, noErr, mask, Sm.putIn, bindPat, bindPats, itemsOf, tru, List.foldr_cons, List.foldr_nil, List.length_cons, List.length_nil, List.map_cons, List.map_nil, List.cons_append, List.nil_append, Nat.sub_self, List.replicate_zero, List.replicate_succ, List.getElem?_cons_succ, List.getElem?_cons_zero, List.set_cons_zero, List.set_cons_succ, Nat.reduceAdd, Nat.reduceSub, ↓reduceIte, Bool.not_true, Bool.not_false, Bool.and_true, Bool.true_and, Bool.false_and, Bool.and_false, if_true, if_false, Bool.false_eq_true, oNeg, oAddI, oSubI, oAdd_ii, oLt, oLe, oGt, oGe, Option.bind_some, Option.map_some]
            | [y], _, ok =>
              refine out_seq (ρ1 := [some (.tup [x, y]), some (.int ((deep + 1 : Nat) : Int)), none]) ?_ ?_
              · simp only [oLen, oEq_int, show ((((2 : Nat) : Int)) == 1) = false by decide, defD, args, dSeq, dSet, dSetP, dSetN, lstAt, dApp, dAppP, dAsg, dPar, dDrop, dWhile, dIfS, dRet, dB, dCall, dCons, dNil, dVar, dC, dBin, dChain, asB, dTru, dNotT, dAndT, dOrT, dAnd, dOr, dNot, dIf, dUn, dTup, dLst, dItems, dYes, R.bind, R.to, O.seq, outR, ofO, noErr, mask, Sm.putIn, bindPat, bindPats, itemsOf, tru, List.foldr_cons, List.foldr_nil, List.length_cons, List.length_nil, List.map_cons, List.map_nil, List.cons_append, List.nil_append, Nat.sub_self, List.replicate_zero, List.replicate_succ, List.getElem?_cons_succ, List.getElem?_cons_zero, List.set_cons_zero, List.set_cons_succ, Nat.reduceAdd, Nat.reduceSub, ↓reduceIte, Bool.not_true, Bool.not_false, Bool.and_true, Bool.true_and, Bool.false_and, Bool.and_false, if_true, if_false, Bool.false_eq_true, oNeg, oAddI, oSubI, oAdd_ii, oLt, oLe, oGt, oGe, Option.bind_some, Option.map_some]
              simp only [okDs, Bool.and_eq_true] at ok
              have oky := ok.2.1
              cases y with
              | dct _ => simp [okD] at oky
              | exc _ => simp [okD] at oky
              | scr _ => simp [okD] at oky
              | scr0 => simp [okD] at oky
              | fnv => simp [okD] at oky
              | obj _ => simp [okD] at oky
              | dcl _ => simp [okD] at oky
              | scr1 => simp [okD] at oky
              | tup ws =>
                simp only [okD] at oky
                rw [isG_2 hx]
                cases hw : (decide (1 ≤ ws.length) && decide (ws.length ≤ 3)) with
                | false =>
                  rw [Bool.false_and]
                  refine out_seqR ?_
                  by_cases h1 : 1 ≤ ws.length
                  · rw [decide_eq_true h1, Bool.true_and, decide_eq_false_iff_not] at hw
                    simp only [oLen, oIx_t1, oIsTup, decide_eq_true (show (1 : Int) ≤ (ws.length : Int) by omega), decide_eq_false (show ¬ ((ws.length : Int) ≤ 3) by omega), defD, args, dSeq, dSet, dSetP, dSetN, lstAt, dApp, dAppP, dAsg, dPar, dDrop, dWhile, dIfS, dRet, dB, dCall, dCons, dNil, dVar, dC, dBin, dChain, asB, dTru, dNotT, dAndT, dOrT, dAnd, dOr, dNot, dIf, dUn, dTup, dLst, dItems, dYes, R.bind, R.to, O.seq, outR, ofO, noErr, mask, Sm.putIn, bindPat, bindPats, itemsOf, tru, List.foldr_cons, List.foldr_nil, List.length_cons, List.length_nil, List.map_cons, List.map_nil, List.cons_append, List.nil_append, Nat.sub_self, List.replicate_zero, List.replicate_succ, List.getElem?_cons_succ, List.getElem?_cons_zero, List.set_cons_zero, List.set_cons_succ, Nat.reduceAdd, Nat.reduceSub, ↓reduceIte, Bool.not_true, Bool.not_false, Bool.and_true, Bool.true_and, Bool.false_and, Bool.and_false, if_true, if_false, Bool.false_eq_true, oNeg, oAddI, oSubI, oAdd_ii, oLt, oLe, oGt, oGe, Option.bind_some, Option.map_some]
                  · simp only [oLen, oIx_t1, oIsTup, decide_eq_false (show ¬ ((1 : Int) ≤ (ws.length : Int)) by omega), defD, args, dSeq, dSet, dSetP, dSetN, lstAt, dApp, dAppP, dAsg, dPar, dDrop, dWhile, dIfS, dRet, dB, dCall, dCons, dNil, dVar, dC, dBin, dChain, asB, dTru, dNotT, dAndT, dOrT, dAnd, dOr, dNot, dIf, dUn, dTup, dLst, dItems, dYes, R.bind, R.to, O.seq, outR, ofO, noErr, mask, Sm.putIn, bindPat, bindPats, itemsOf, tru, List.foldr_cons, List.foldr_nil, List.length_cons, List.length_nil, List.map_cons, List.map_nil, List.cons_append, List.nil_append, Nat.sub_self, List.replicate_zero, List.replicate_succ, List.getElem?_cons_succ, List.getElem?_cons_zero, List.set_cons_zero, List.set_cons_succ, Nat.reduceAdd, Nat.reduceSub, ↓reduceIte, Bool.not_true, Bool.not_false, Bool.and_true, Bool.true_and, Bool.false_and, Bool.and_false, if_true, if_false, Bool.false_eq_true, oNeg, oAddI, oSubI, oAdd_ii, oLt, oLe, oGt, oGe, Option.bind_some, Option.map_some]
                | true =>
                  rw [Bool.true_and]
                  simp only [Bool.and_eq_true, decide_eq_true_eq] at hw
                  refine out_seq (ρ1 := [some (.tup [x, .tup ws]), some (.int ((deep + 1 : Nat) : Int)), none]) ?_ ?_
                  · simp only [oLen, oIx_t1, oIsTup, decide_eq_true (show (1 : Int) ≤ (ws.length : Int) by omega), decide_eq_true (show (ws.length : Int) ≤ 3 by omega), defD, args, dSeq, dSet, dSetP, dSetN, lstAt, dApp, dAppP, dAsg, dPar, dDrop, dWhile, dIfS, dRet, dB, dCall, dCons, dNil, dVar, dC, dBin, dChain, asB, dTru, dNotT, dAndT, dOrT, dAnd, dOr, dNot, dIf, dUn, dTup, dLst, dItems, dYes, R.bind, R.to, O.seq, outR, ofO, noErr, mask, Sm.putIn, bindPat, bindPats, itemsOf, tru, List.foldr_cons, List.foldr_nil, List.length_cons, List.length_nil, List.map_cons, List.map_nil, List.cons_append, List.nil_append, Nat.sub_self, List.replicate_zero, List.replicate_succ, List.getElem?_cons_succ, List.getElem?_cons_zero, List.set_cons_zero, List.set_cons_succ, Nat.reduceAdd, Nat.reduceSub, ↓reduceIte, Bool.not_true, Bool.not_false, Bool.and_true, Bool.true_and, Bool.false_and, Bool.and_false, if_true, if_false, Bool.false_eq_true, oNeg, oAddI, oSubI, oAdd_ii, oLt, oLe, oGt, oGe, Option.bind_some, Option.map_some]
                  obtain ⟨l1, l2⟩ := forGo_test (pt := .v 2) (f := dSeq (dIfS (wayTst d__law_whole) (dRet (dC (.bl false))) .nx) (dIfS (dNotT (dTru (dCall (d__law_is_game n) (dCons (dBin oIx (dVar 2) (dC (.int 1))) (dCons (dBin oSubI (dVar 1) (dC (.int 1))) dNil))))) (dRet (dC (.bl false))) .nx)) (isW (isG deep)) (.bl false) (fun ρ => ∃ z, ρ = [some (.tup [x, .tup ws]), some (.int ((deep + 1 : Nat) : Int)), z]) ws _ ⟨none, rfl⟩ (by
                    rintro d ρ hd ⟨z, rfl⟩
                    have okd := okDs_mem oky hd
                    have wt : wayTst d__law_whole [some (.tup [x, .tup ws]), some (.int ((deep + 1 : Nat) : Int)), some d] = _ := way_test (x0 := some (.tup [x, .tup ws])) (x1 := some (.int ((deep + 1 : Nat) : Int))) okd
                    refine ⟨_, rfl, ?_⟩
                    cases hwd : wayT d with
                    | false =>
                      rw [isW_way hwd]
                      rw [hwd] at wt
                      exact ⟨fun h => (by cases h), fun _ => seq_ret (ifs_t wt rfl)⟩
                    | true =>
                      rw [hwd] at wt
                      obtain ⟨k, s, rfl, hk⟩ := snd_of hwd
                      simp only [okD, okDs, Bool.and_eq_true] at okd
                      have ih := lgame_any n deep s (by omega) okd.2.1
                      have e2 : isW (isG deep) (.tup [k, s]) = isG deep s := by simp only [isW, hk, Bool.true_and]
                      rw [e2]
                      refine ⟨fun h => ⟨_, seq_nx (ifs_f wt rfl) ?_, some (.tup [k, s]), rfl⟩, fun h => seq_nx (ifs_f wt rfl) ?_⟩
                      · rw [h] at ih
                        simp only [oIx_t1, show ((deep + 1 : Nat) : Int) - 1 = (deep : Int) by omega, ih, defD, args, dSeq, dSet, dSetP, dSetN, lstAt, dApp, dAppP, dAsg, dPar, dDrop, dWhile, dIfS, dRet, dB, dCall, dCons, dNil, dVar, dC, dBin, dChain, asB, dTru, dNotT, dAndT, dOrT, dAnd, dOr, dNot, dIf, dUn, dTup, dLst, dItems, dYes, R.bind, R.to, O.seq, outR, ofO, noErr, mask, Sm.putIn, bindPat, bindPats, itemsOf, tru, List.foldr_cons, List.foldr_nil, List.length_cons, List.length_nil, List.map_cons, List.map_nil, List.cons_append, List.nil_append, Nat.sub_self, List.replicate_zero, List.replicate_succ, List.getElem?_cons_succ, List.getElem?_cons_zero, List.set_cons_zero, List.set_cons_succ, Nat.reduceAdd, Nat.reduceSub, ↓reduceIte, Bool.not_true, Bool.not_false, Bool.and_true, Bool.true_and, Bool.false_and, Bool.and_false, if_true, if_false, Bool.false_eq_true, oNeg, oAddI, oSubI, oAdd_ii, oLt, oLe, oGt, oGe, Option.bind_some, Option.map_some]
                      · rw [h] at ih
                        simp only [oIx_t1, show ((deep + 1 : Nat) : Int) - 1 = (deep : Int) by omega, ih, defD, args, dSeq, dSet, dSetP, dSetN, lstAt, dApp, dAppP, dAsg, dPar, dDrop, dWhile, dIfS, dRet, dB, dCall, dCons, dNil, dVar, dC, dBin, dChain, asB, dTru, dNotT, dAndT, dOrT, dAnd, dOr, dNot, dIf, dUn, dTup, dLst, dItems, dYes, R.bind, R.to, O.seq, outR, ofO, noErr, mask, Sm.putIn, bindPat, bindPats, itemsOf, tru, List.foldr_cons, List.foldr_nil, List.length_cons, List.length_nil, List.map_cons, List.map_nil, List.cons_append, List.nil_append, Nat.sub_self, List.replicate_zero, List.replicate_succ, List.getElem?_cons_succ, List.getElem?_cons_zero, List.set_cons_zero, List.set_cons_succ, Nat.reduceAdd, Nat.reduceSub, ↓reduceIte, Bool.not_true, Bool.not_false, Bool.and_true, Bool.true_and, Bool.false_and, Bool.and_false, if_true, if_false, Bool.false_eq_true, oNeg, oAddI, oSubI, oAdd_ii, oLt, oLe, oGt, oGe, Option.bind_some, Option.map_some])
                  cases hall : ws.all (isW (isG deep)) with
                  | false =>
                    refine out_seqR ?_
                    unfold dFor
                    simp only [oIx_t1, defD, args, dSeq, dSet, dSetP, dSetN, lstAt, dApp, dAppP, dAsg, dPar, dDrop, dWhile, dIfS, dRet, dB, dCall, dCons, dNil, dVar, dC, dBin, dChain, asB, dTru, dNotT, dAndT, dOrT, dAnd, dOr, dNot, dIf, dUn, dTup, dLst, dItems, dYes, R.bind, R.to, O.seq, outR, ofO, noErr, mask, Sm.putIn, bindPat, bindPats, itemsOf, tru, List.foldr_cons, List.foldr_nil, List.length_cons, List.length_nil, List.map_cons, List.map_nil, List.cons_append, List.nil_append, Nat.sub_self, List.replicate_zero, List.replicate_succ, List.getElem?_cons_succ, List.getElem?_cons_zero, List.set_cons_zero, List.set_cons_succ, Nat.reduceAdd, Nat.reduceSub, ↓reduceIte, Bool.not_true, Bool.not_false, Bool.and_true, Bool.true_and, Bool.false_and, Bool.and_false, if_true, if_false, Bool.false_eq_true, oNeg, oAddI, oSubI, oAdd_ii, oLt, oLe, oGt, oGe, Option.bind_some, Option.map_some]
                    exact l2 hall
                  | true =>
                    obtain ⟨ρ', e1, z, rfl⟩ := l1 hall
                    refine out_seq (ρ1 := [some (.tup [x, .tup ws]), some (.int ((deep + 1 : Nat) : Int)), z]) ?_ (ret_of rfl)
                    unfold dFor
                    simp only [oIx_t1, defD, args, dSeq, dSet, dSetP, dSetN, lstAt, dApp, dAppP, dAsg, dPar, dDrop, dWhile, dIfS, dRet, dB, dCall, dCons, dNil, dVar, dC, dBin, dChain, asB, dTru, dNotT, dAndT, dOrT, dAnd, dOr, dNot, dIf, dUn, dTup, dLst, dItems, dYes, R.bind, R.to, O.seq, outR, ofO, noErr, mask, Sm.putIn, bindPat, bindPats, itemsOf, tru, List.foldr_cons, List.foldr_nil, List.length_cons, List.length_nil, List.map_cons, List.map_nil, List.cons_append, List.nil_append, Nat.sub_self, List.replicate_zero, List.replicate_succ, List.getElem?_cons_succ, List.getElem?_cons_zero, List.set_cons_zero, List.set_cons_succ, Nat.reduceAdd, Nat.reduceSub, ↓reduceIte, Bool.not_true, Bool.not_false, Bool.and_true, Bool.true_and, Bool.false_and, Bool.and_false, if_true, if_false, Bool.false_eq_true, oNeg, oAddI, oSubI, oAdd_ii, oLt, oLe, oGt, oGe, Option.bind_some, Option.map_some]
                    exact e1
              | _ =>
                rw [isG_y (fun ws h => by cases h)]
                refine out_seqR ?_
                simp only [oIx_t1, oIsTup, defD, args, dSeq, dSet, dSetP, dSetN, lstAt, dApp, dAppP, dAsg, dPar, dDrop, dWhile, dIfS, dRet, dB, dCall, dCons, dNil, dVar, dC, dBin, dChain, asB, dTru, dNotT, dAndT, dOrT, dAnd, dOr, dNot, dIf, dUn, dTup, dLst, dItems, dYes, R.bind, R.to, O.seq, outR, ofO, noErr, mask, Sm.putIn, bindPat, bindPats, itemsOf, tru, List.foldr_cons, List.foldr_nil, List.length_cons, List.length_nil, List.map_cons, List.map_nil, List.cons_append, List.nil_append, Nat.sub_self, List.replicate_zero, List.replicate_succ, List.getElem?_cons_succ, List.getElem?_cons_zero, List.set_cons_zero, List.set_cons_succ, Nat.reduceAdd, Nat.reduceSub, ↓reduceIte, Bool.not_true, Bool.not_false, Bool.and_true, Bool.true_and, Bool.false_and, Bool.and_false, if_true, if_false, Bool.false_eq_true, oNeg, oAddI, oSubI, oAdd_ii, oLt, oLe, oGt, oGe, Option.bind_some, Option.map_some]
        · have l2 : decide ((((x :: xs).length : Nat) : Int) ≤ 2) = false := by simp; omega
          simp only [List.length_cons] at l1 l2
          have : isG (deep + 1) (.tup (x :: xs)) = false := by
            match xs, hl2 with
            | [], h => simp at h
            | [_], h => simp at h
            | y :: z :: zs, _ => exact isG_3
          rw [this]
          simp only [d__law_is_game, b__law_is_game, d0, oIsTup, oLen, List.length_cons, l1, l2, defD, args, dSeq, dSet, dSetP, dSetN, lstAt, dApp, dAppP, dAsg, dPar, dDrop, dWhile, dIfS, dRet, dB, dCall, dCons, dNil, dVar, dC, dBin, dChain, asB, dTru, dNotT, dAndT, dOrT, dAnd, dOr, dNot, dIf, dUn, dTup, dLst, dItems, dYes, R.bind, R.to, O.seq, outR, ofO, noErr, mask, Sm.putIn, bindPat, bindPats, itemsOf, tru, List.foldr_cons, List.foldr_nil, List.length_cons, List.length_nil, List.map_cons, List.map_nil, List.cons_append, List.nil_append, Nat.sub_self, List.replicate_zero, List.replicate_succ, List.getElem?_cons_succ, List.getElem?_cons_zero, List.set_cons_zero, List.set_cons_succ, Nat.reduceAdd, Nat.reduceSub, ↓reduceIte, Bool.not_true, Bool.not_false, Bool.and_true, Bool.true_and, Bool.false_and, Bool.and_false, if_true, if_false, Bool.false_eq_true, oNeg, oAddI, oSubI, oAdd_ii, oLt, oLe, oGt, oGe, Option.bind_some, Option.map_some]
end Kx
namespace Sm
namespace Game
theorem isPath_at {g : Game} {i : Nat} {p : List Nat} (h : IsPath g (i :: p)) : ∃ x, g.ways[i]? = some x ∧ IsPath x.2 p := by
  simp only [IsPath] at h
  cases hx : g.ways[i]? with
  | none => rw [hx] at h; exact h.elim
  | some x => rw [hx] at h; exact ⟨x, rfl, h⟩
theorem put_cons {g o : Game} {i : Nat} {p : List Nat} {x : Int × Game} (hx : g.ways[i]? = some x) : put g (i :: p) o = .node g.worth (g.ways.set i (x.1, put x.2 p o)) := by
  cases g with
  | node w ws => simp only [ways] at hx; simp only [put, hx, worth, ways]
theorem put_ok {o : Game} {m : Nat} (ho : Ok m o) : ∀ {p : List Nat} {g : Game} {n : Nat}, Ok n g → IsPath g p → p.length + m ≤ n → Ok n (put g p o)
  | [], g, n, h, _, hm => by
    have : put g [] o = o := by cases g; rfl
    rw [this]; exact ho.mono (by simpa using hm)
  | i :: p, .node w ws, 0, h, _, _ => h.elim
  | i :: p, .node w ws, n + 1, h, hp, hm => by
    obtain ⟨x, hx, hp⟩ := isPath_at hp
    have hx' : ws[i]? = some x := hx
    rw [put_cons hx]
    rw [List.length_cons] at hm
    have hk := h.2.2 x (List.mem_of_getElem? hx')
    refine ⟨h.1, by simp only [ways, List.length_set]; exact h.2.1, fun q hq => ?_⟩
    rcases List.mem_or_eq_of_mem_set hq with hq | rfl
    · exact h.2.2 q hq
    · exact ⟨hk.1, put_ok ho hk.2 hp (by omega)⟩
end Game
end Sm
namespace Kx
open PySem PySem.Spec L2 Sm
theorem pls_map {α : Type} {n : Nat} (f : α → D) (l : List α) (h : ∀ x ∈ l, pl n (f x) = true) : pls n (l.map f) = true := by
  induction l with
  | nil => rfl
  | cons a l ih => simp only [List.map_cons, pls, h a (by simp), Bool.true_and]; exact ih fun x hx => h x (by simp [hx])
theorem enc_pl : ∀ (d n : Nat) (g : Game), g.Ok d → 3 * d ≤ n → pl n g.enc = true
  | 0, _, _, h, _ => h.elim
  | d + 1, n, .node w ws, h, hn => by
    obtain ⟨n, rfl⟩ : ∃ m, n = m + 3 := ⟨n - 3, by omega⟩
    cases ws with
    | nil => rw [enc_end]; simp [pl, pls]
    | cons x ws =>
      rw [enc_go]
      simp only [pl, pls, Bool.true_and, Bool.and_true]
      exact pls_map _ _ fun p hp => by simp only [pl, pls, Bool.true_and, Bool.and_true]; exact enc_pl d n p.2 (h.2.2 p hp).2 (by omega)
theorem cut_drop {α : Type} (xs : List α) (k : Nat) : cutD xs (some (k : Int)) none = xs.drop k := by
  unfold cutD
  rw [show HT.sIx xs.length 0 (some (k : Int)) = min k xs.length from HT.sIx_nat .., show HT.sIx xs.length xs.length none = xs.length from rfl]
  rw [List.take_of_length_le (by rw [List.length_drop]; omega)]
  by_cases h : k ≤ xs.length
  · rw [Nat.min_eq_left h]
  · rw [Nat.min_eq_right (by omega), List.drop_length, List.drop_of_length_le (by omega)]
theorem cut_take {α : Type} (xs : List α) (k : Nat) : cutD xs none (some (k : Int)) = xs.take k := by
  unfold cutD
  rw [show HT.sIx xs.length xs.length (some (k : Int)) = min k xs.length from HT.sIx_nat .., show HT.sIx xs.length 0 none = 0 from rfl]
  rw [List.drop_zero, Nat.sub_zero]
  by_cases h : k ≤ xs.length
  · rw [Nat.min_eq_left h]
  · rw [Nat.min_eq_right (by omega), List.take_length, List.take_of_length_le (by omega)]
end Kx
namespace Sm
open PySem PySem.Spec L2
mutual
def nc : Nat → Nat → D → Bool
  | _, _, .non => true
  | _, _, .bl _ => true
  | _, _, .int _ => true
  | _, _, .str x => PySem.PyData.strOk x
  | n + 1, w, .tup xs => decide (xs.length ≤ w) && ncs n w xs
  | n + 1, w, .lst xs => decide (xs.length ≤ w) && ncs n w xs
  | _, _, _ => false
def ncs : Nat → Nat → List D → Bool
  | _, _, [] => true
  | n, w, x :: xs => nc n w x && ncs n w xs
end
mutual
def ti : Nat → Nat → D → Bool
  | _, _, .int _ => true
  | n + 1, w, .tup xs => decide (xs.length ≤ w) && tis n w xs
  | _, _, _ => false
def tis : Nat → Nat → List D → Bool
  | _, _, [] => true
  | n, w, x :: xs => ti n w x && tis n w xs
end
theorem ncs_iff {n w : Nat} : ∀ {ds : List D}, ncs n w ds = true ↔ ∀ d ∈ ds, nc n w d = true
  | [] => by simp [ncs]
  | d :: ds => by simp [ncs, ncs_iff (ds := ds)]
theorem tis_iff {n w : Nat} : ∀ {ds : List D}, tis n w ds = true ↔ ∀ d ∈ ds, ti n w d = true
  | [] => by simp [tis]
  | d :: ds => by simp [tis, tis_iff (ds := ds)]
theorem nc_tup {n w : Nat} {xs : List D} : nc (n + 1) w (.tup xs) = true ↔ xs.length ≤ w ∧ ∀ d ∈ xs, nc n w d = true := by
  simp only [nc, Bool.and_eq_true, decide_eq_true_eq, ncs_iff]
theorem nc_lst {n w : Nat} {xs : List D} : nc (n + 1) w (.lst xs) = true ↔ xs.length ≤ w ∧ ∀ d ∈ xs, nc n w d = true := by
  simp only [nc, Bool.and_eq_true, decide_eq_true_eq, ncs_iff]
theorem ti_tup {n w : Nat} {xs : List D} : ti (n + 1) w (.tup xs) = true ↔ xs.length ≤ w ∧ ∀ d ∈ xs, ti n w d = true := by
  simp only [ti, Bool.and_eq_true, decide_eq_true_eq, tis_iff]
mutual
theorem nc_pl : ∀ (d : D) (n w : Nat), nc n w d = true → pl n d = true ∧ okD d = true
  | .non, _, _, _ => by simp [pl, okD]
  | .bl _, _, _, _ => by simp [pl, okD]
  | .int _, _, _, _ => by simp [pl, okD]
  | .str _, n, _, h => by simp [nc] at h; simp [pl, okD, h]
  | .tup xs, 0, _, h => by simp [nc] at h
  | .tup xs, n + 1, w, h => by
    simp only [nc, Bool.and_eq_true] at h
    simp only [pl, okD]; exact ncs_pls xs n w h.2
  | .lst xs, 0, _, h => by simp [nc] at h
  | .lst xs, n + 1, w, h => by
    simp only [nc, Bool.and_eq_true] at h
    simp only [pl, okD]; exact ncs_pls xs n w h.2
  | .dct _, n, _, h => by cases n <;> simp [nc] at h
  | .exc _, n, _, h => by cases n <;> simp [nc] at h
  | .scr _, n, _, h => by cases n <;> simp [nc] at h
  | .scr0, n, _, h => by cases n <;> simp [nc] at h
  | .fnv, n, _, h => by cases n <;> simp [nc] at h
  | .obj _, n, _, h => by cases n <;> simp [nc] at h
  | .dcl _, n, _, h => by cases n <;> simp [nc] at h
  | .scr1, n, _, h => by cases n <;> simp [nc] at h
theorem ncs_pls : ∀ (ds : List D) (n w : Nat), ncs n w ds = true → pls n ds = true ∧ okDs ds = true
  | [], _, _, _ => by simp [pls, okDs]
  | d :: ds, n, w, h => by
    simp only [ncs, Bool.and_eq_true] at h
    obtain ⟨a, b⟩ := nc_pl d n w h.1
    obtain ⟨c, e⟩ := ncs_pls ds n w h.2
    simp [pls, okDs, a, b, c, e]
end
theorem nc_mono : ∀ {n m w v : Nat} {d : D}, nc n w d = true → n ≤ m → w ≤ v → nc m v d = true := by
  intro n
  induction n with
  | zero =>
    intro m w v d h hm hw
    cases d <;> cases m <;> simp_all [nc]
  | succ n ih =>
    intro m w v d h hm hw
    cases m with
    | zero => omega
    | succ m =>
      cases d with
      | tup xs =>
        rw [nc_tup] at *
        exact ⟨by omega, fun d hd => ih (h.2 d hd) (by omega) hw⟩
      | lst xs =>
        rw [nc_lst] at *
        exact ⟨by omega, fun d hd => ih (h.2 d hd) (by omega) hw⟩
      | _ => simp_all [nc]
theorem ti_nc : ∀ {n w : Nat} {d : D}, ti n w d = true → nc n w d = true := by
  intro n
  induction n with
  | zero => intro w d h; cases d <;> simp_all [ti, nc]
  | succ n ih =>
    intro w d h
    cases d with
    | tup xs =>
      rw [ti_tup] at h
      rw [nc_tup]
      exact ⟨h.1, fun d hd => ih (h.2 d hd)⟩
    | int _ => simp [nc]
    | _ => simp [ti] at h
theorem ti_mono : ∀ {n m w v : Nat} {d : D}, ti n w d = true → n ≤ m → w ≤ v → ti m v d = true := by
  intro n
  induction n with
  | zero =>
    intro m w v d h hm hw
    cases d <;> cases m <;> simp_all [ti]
  | succ n ih =>
    intro m w v d h hm hw
    cases m with
    | zero => omega
    | succ m =>
      cases d with
      | tup xs =>
        rw [ti_tup] at *
        exact ⟨by omega, fun d hd => ih (h.2 d hd) (by omega) hw⟩
      | int _ => simp [ti]
      | _ => simp [ti] at h
mutual
def plc : D → List (List Nat)
  | .tup xs => [] :: plcs 0 xs
  | _ => [[]]
def plcs : Nat → List D → List (List Nat)
  | _, [] => []
  | k, x :: xs => (plc x).map (k :: ·) ++ plcs (k + 1) xs
end
def atP : D → List Nat → Option D
  | d, [] => some d
  | .tup xs, k :: p => match xs[k]? with
    | some x => atP x p
    | none => none
  | _, _ :: _ => none
def putP : D → List Nat → D → D
  | _, [], new => new
  | .tup xs, k :: p, new => match xs[k]? with
    | some x => .tup (xs.set k (putP x p new))
    | none => .tup xs
  | d, _ :: _, _ => d
theorem mem_plcs {p : List Nat} : ∀ {xs : List D} {k : Nat}, p ∈ plcs k xs ↔ ∃ i x q, xs[i]? = some x ∧ p = (k + i) :: q ∧ q ∈ plc x
  | [], k => by simp [plcs]
  | x :: xs, k => by
    rw [plcs, List.mem_append, mem_plcs (xs := xs) (k := k + 1)]
    constructor
    · rintro (h | ⟨i, y, q, h1, rfl, h2⟩)
      · obtain ⟨q, hq, rfl⟩ := List.mem_map.mp h
        exact ⟨0, x, q, rfl, rfl, hq⟩
      · exact ⟨i + 1, y, q, h1, by rw [show k + 1 + i = k + (i + 1) by omega], h2⟩
    · rintro ⟨i, y, q, h1, rfl, h2⟩
      cases i with
      | zero => cases h1; exact .inl (List.mem_map.mpr ⟨q, h2, rfl⟩)
      | succ i => exact .inr ⟨i, y, q, h1, by rw [show k + 1 + i = k + (i + 1) by omega], h2⟩
theorem plc_at : ∀ {n w : Nat} {d : D} {p : List Nat}, ti n w d = true → p ∈ plc d → p.length ≤ n ∧ ∃ x, atP d p = some x ∧ ti n w x = true := by
  intro n
  induction n with
  | zero =>
    intro w d p h hp
    cases d with
    | int i => simp [plc] at hp; subst hp; exact ⟨Nat.le_refl _, _, rfl, h⟩
    | _ => simp [ti] at h
  | succ n ih =>
    intro w d p h hp
    cases d with
    | int i => simp [plc] at hp; subst hp; exact ⟨Nat.zero_le _, _, rfl, h⟩
    | tup xs =>
      rw [plc, List.mem_cons] at hp
      rcases hp with rfl | hp
      · exact ⟨Nat.zero_le _, _, rfl, h⟩
      · obtain ⟨i, x, q, h1, rfl, h2⟩ := mem_plcs.mp hp
        have hx := (ti_tup.mp h).2 x (List.mem_of_getElem? h1)
        obtain ⟨h3, y, h4, h5⟩ := ih hx h2
        refine ⟨by simp; omega, y, ?_, ti_mono h5 (by omega) (Nat.le_refl _)⟩
        simp only [atP, Nat.zero_add, h1, h4]
    | _ => simp [ti] at h
theorem plc_ne (d : D) : plc d ≠ [] := by cases d <;> simp [plc]
theorem putP_nc : ∀ {n w : Nat} {d new : D} {p : List Nat} {m v : Nat}, ti n w d = true → nc m v new = true → w ≤ v → nc (n + m) v (putP d p new) = true := by
  intro n
  induction n with
  | zero =>
    intro w d new p m v h hn hw
    cases p with
    | nil => simp only [putP]; exact nc_mono hn (by omega) (Nat.le_refl _)
    | cons k p =>
      cases d with
      | int i => simp [putP, nc]
      | _ => simp [ti] at h
  | succ n ih =>
    intro w d new p m v h hn hw
    cases p with
    | nil => simp only [putP]; exact nc_mono hn (by omega) (Nat.le_refl _)
    | cons k p =>
      cases d with
      | int i => simp [putP, nc]
      | tup xs =>
        obtain ⟨h1, h2⟩ := ti_tup.mp h
        simp only [putP]
        have all : ∀ x ∈ xs, nc (n + m) v x = true := fun x hx => nc_mono (ti_nc (h2 x hx)) (by omega) hw
        rw [show n + 1 + m = n + m + 1 by omega]
        cases hk : xs[k]? with
        | none => exact nc_tup.mpr ⟨by omega, all⟩
        | some x =>
          refine nc_tup.mpr ⟨by rw [List.length_set]; omega, fun y hy => ?_⟩
          rcases List.mem_or_eq_of_mem_set hy with hy | rfl
          · exact all y hy
          · exact ih (h2 x (List.mem_of_getElem? hk)) hn hw
      | _ => simp [ti] at h
mutual
def smD (B : Nat) : D → Bool
  | .int i => decide (i.natAbs ≤ B)
  | .tup xs => smDs B xs
  | .lst xs => smDs B xs
  | _ => true
def smDs (B : Nat) : List D → Bool
  | [] => true
  | x :: xs => smD B x && smDs B xs
end
theorem smDs_iff {B : Nat} : ∀ {ds : List D}, smDs B ds = true ↔ ∀ d ∈ ds, smD B d = true
  | [] => by simp [smDs]
  | d :: ds => by simp [smDs, smDs_iff (ds := ds)]
theorem smD_tup {B : Nat} {xs : List D} : smD B (.tup xs) = true ↔ ∀ d ∈ xs, smD B d = true := by simp only [smD, smDs_iff]
theorem smD_at {B : Nat} : ∀ {p : List Nat} {d x : D}, atP d p = some x → smD B d = true → smD B x = true
  | [], d, x, h, hd => by simp only [atP, Option.some.injEq] at h; rw [← h]; exact hd
  | k :: p, .tup xs, x, h, hd => by
    simp only [atP] at h
    cases hk : xs[k]? with
    | none => rw [hk] at h; simp at h
    | some y => rw [hk] at h; exact smD_at (by simpa using h) (smD_tup.mp hd y (List.mem_of_getElem? hk))
  | _ :: _, .int _, _, h, _ => by simp [atP] at h
  | _ :: _, .non, _, h, _ => by simp [atP] at h
  | _ :: _, .bl _, _, h, _ => by simp [atP] at h
  | _ :: _, .str _, _, h, _ => by simp [atP] at h
  | _ :: _, .lst _, _, h, _ => by simp [atP] at h
  | _ :: _, .dct _, _, h, _ => by simp [atP] at h
  | _ :: _, .exc _, _, h, _ => by simp [atP] at h
  | _ :: _, .scr _, _, h, _ => by simp [atP] at h
  | _ :: _, .scr0, _, h, _ => by simp [atP] at h
  | _ :: _, .fnv, _, h, _ => by simp [atP] at h
  | _ :: _, .obj _, _, h, _ => by simp [atP] at h
  | _ :: _, .dcl _, _, h, _ => by simp [atP] at h
  | _ :: _, .scr1, _, h, _ => by simp [atP] at h
end Sm
namespace Kx
open PySem PySem.Spec L2 Sm
theorem range_it {g : DA} {ρ : Sm.Env} {n : Nat} (hg : g ρ = .ok [.int (n : Int)]) (h : n ≤ 16777216) : dRng rng1 g ρ = .ok ((List.range' 0 n).map fun i => D.int ((i : Nat) : Int)) := by
  rw [rng1_it hg h, List.range_eq_range']
theorem tup_at {xs : List D} {k : Nat} {x : D} (h : xs[k]? = some x) : oIx (.tup xs) (.int (k : Int)) = some x := by
  have hl := (List.getElem?_eq_some_iff.mp h).1
  show atI xs (k : Int) = _
  rw [atI_nat' hl, h]
theorem cons_P (k : Nat) (p : List Nat) (h : p.length ≤ 1000) : oAdd (.tup [.int (k : Int)]) (encP p) = some (encP (k :: p)) := by
  have hl : 1 + p.length ≤ sizeLine := Nat.le_trans (show 1 + p.length ≤ 100000 by omega) sizeLine_big
  unfold encP
  simp only [oAdd, List.length_cons, List.length_nil, List.length_map]
  rw [if_pos (by omega)]
  rfl
def plcB (self : List D → R D) : DS := dExt [1] 1 (dLc [3] (.v 3) (dItems (dCall self (dCons (dBin oIx (dVar 0) (dVar 2)) dNil))) dYes (dBin oAdd (dTup (dCons (dVar 2) dNil)) (dVar 3)))
theorem places_loop (n m w : Nat) (hm : m ≤ 1000) (xs : List D) (hn : ∀ d, ti m w d = true → (plc d).length ≤ 100000 → d__law_places n [d] = .ok (.lst ((plc d).map encP))) : ∀ (suf : List D) (k : Nat) (acc : List (List Nat)) (x2 x3 : Option D), (∀ i x, suf[i]? = some x → xs[k + i]? = some x) → (∀ d ∈ suf, ti m w d = true) → acc.length + (plcs k suf).length ≤ 100000 →
    ∃ y2 y3, forGo (.v 2) (plcB (d__law_places n)) ((List.range' k suf.length).map fun i => D.int ((i : Nat) : Int)) [some (.tup xs), some (.lst (acc.map encP)), x2, x3] = .nx [some (.tup xs), some (.lst ((acc ++ plcs k suf).map encP)), y2, y3]
  | [], k, acc, x2, x3, _, _, _ => ⟨x2, x3, by simp [forGo, plcs]⟩
  | x :: suf, k, acc, x2, x3, hx, ht, hl => by
    have hxk : xs[k]? = some x := hx 0 x rfl
    have tx := ht x (by simp)
    rw [plcs, List.length_append, List.length_map] at hl
    obtain ⟨y2, y3, e⟩ := places_loop n m w hm xs hn suf (k + 1) (acc ++ (plc x).map (k :: ·)) (some (.int (k : Int))) x3 (fun i y h => by rw [show k + 1 + i = k + (i + 1) by omega]; exact hx (i + 1) y (by simpa using h)) (fun d hd => ht d (by simp [hd])) (by rw [List.length_append, List.length_map]; omega)
    refine ⟨y2, y3, ?_⟩
    have lc : dLcs [3] (.v 3) (dItems (dCall (d__law_places n) (dCons (dBin oIx (dVar 0) (dVar 2)) dNil))) dYes (dBin oAdd (dTup (dCons (dVar 2) dNil)) (dVar 3)) [some (.tup xs), none, some (.int (k : Int)), x3] = .ok (((plc x).map (k :: ·)).map encP) := by
      have := lc_ok1 (vs := [3]) (pt := .v 3) (it := dItems (dCall (d__law_places n) (dCons (dBin oIx (dVar 0) (dVar 2)) dNil))) (fe := dBin oAdd (dTup (dCons (dVar 2) dNil)) (dVar 3)) (ρ := [some (.tup xs), none, some (.int (k : Int)), x3]) (xs := plc x) (enc := encP) (fun p => encP (k :: p)) (by simp only [tup_at hxk, hn x tx (by omega), defD, args, dSeq, dSet, dSetP, dSetN, lstAt, dApp, dAppP, dAsg, dPar, dDrop, dWhile, dIfS, dRet, dB, dCall, dCons, dNil, dVar, dC, dBin, dChain, asB, dTru, dNotT, dAndT, dOrT, dAnd, dOr, dNot, dIf, dUn, dTup, dLst, dItems, dYes, R.bind, R.to, O.seq, outR, ofO, noErr, mask, Sm.putIn, bindPat, bindPats, itemsOf, tru, List.foldr_cons, List.foldr_nil, List.length_cons, List.length_nil, List.map_cons, List.map_nil, List.cons_append, List.nil_append, Nat.sub_self, List.replicate_zero, List.replicate_succ, List.getElem?_cons_succ, List.getElem?_cons_zero, List.set_cons_zero, List.set_cons_succ, Nat.reduceAdd, Nat.reduceSub, ↓reduceIte, Bool.not_true, Bool.not_false, Bool.and_true, Bool.true_and, Bool.false_and, Bool.and_false, if_true, if_false, Bool.false_eq_true, oNeg, oAddI, oSubI, oAdd_ii, oLt, oLe, oGt, oGe, Option.bind_some, Option.map_some]) fun p hp => ⟨_, rfl, by
        have hl := (plc_at tx hp).1
        simp only [cons_P k p (by omega), defD, args, dSeq, dSet, dSetP, dSetN, lstAt, dApp, dAppP, dAsg, dPar, dDrop, dWhile, dIfS, dRet, dB, dCall, dCons, dNil, dVar, dC, dBin, dChain, asB, dTru, dNotT, dAndT, dOrT, dAnd, dOr, dNot, dIf, dUn, dTup, dLst, dItems, dYes, R.bind, R.to, O.seq, outR, ofO, noErr, mask, Sm.putIn, bindPat, bindPats, itemsOf, tru, List.foldr_cons, List.foldr_nil, List.length_cons, List.length_nil, List.map_cons, List.map_nil, List.cons_append, List.nil_append, Nat.sub_self, List.replicate_zero, List.replicate_succ, List.getElem?_cons_succ, List.getElem?_cons_zero, List.set_cons_zero, List.set_cons_succ, Nat.reduceAdd, Nat.reduceSub, ↓reduceIte, Bool.not_true, Bool.not_false, Bool.and_true, Bool.true_and, Bool.false_and, Bool.and_false, if_true, if_false, Bool.false_eq_true, oNeg, oAddI, oSubI, oAdd_ii, oLt, oLe, oGt, oGe, Option.bind_some, Option.map_some]⟩
      rw [this, List.map_map]; rfl
    have hz : (acc.map encP).length + (((plc x).map (k :: ·)).map encP).length ≤ sizeLine := by
      rw [List.length_map, List.length_map, List.length_map]
      exact Nat.le_trans (by omega) sizeLine_big
    have st : plcB (d__law_places n) [some (.tup xs), some (.lst (acc.map encP)), some (.int (k : Int)), x3] = .nx [some (.tup xs), some (.lst ((acc ++ (plc x).map (k :: ·)).map encP)), some (.int (k : Int)), x3] := by
      rw [List.map_append]
      generalize ((plc x).map (k :: ·)).map encP = P at *
      simp only [plcB, dExt, dLc, lc, if_pos hz, defD, args, dSeq, dSet, dSetP, dSetN, lstAt, dApp, dAppP, dAsg, dPar, dDrop, dWhile, dIfS, dRet, dB, dCall, dCons, dNil, dVar, dC, dBin, dChain, asB, dTru, dNotT, dAndT, dOrT, dAnd, dOr, dNot, dIf, dUn, dTup, dLst, dItems, dYes, R.bind, R.to, O.seq, outR, ofO, noErr, mask, Sm.putIn, bindPat, bindPats, itemsOf, tru, List.foldr_cons, List.foldr_nil, List.length_cons, List.length_nil, List.map_cons, List.map_nil, List.cons_append, List.nil_append, Nat.sub_self, List.replicate_zero, List.replicate_succ, List.getElem?_cons_succ, List.getElem?_cons_zero, List.set_cons_zero, List.set_cons_succ, Nat.reduceAdd, Nat.reduceSub, ↓reduceIte, Bool.not_true, Bool.not_false, Bool.and_true, Bool.true_and, Bool.false_and, Bool.and_false, if_true, if_false, Bool.false_eq_true, oNeg, oAddI, oSubI, oAdd_ii, oLt, oLe, oGt, oGe, Option.bind_some, Option.map_some]
    rw [List.length_cons, List.range'_succ, List.map_cons]
    unfold forGo
    rw [show bindPat (.v 2) (.int (k : Int)) [some (.tup xs), some (.lst (acc.map encP)), x2, x3] = some [some (.tup xs), some (.lst (acc.map encP)), some (.int (k : Int)), x3] from rfl]
    simp only [st, O.seq]
    rw [e]
    simp only [plcs, List.append_assoc]
theorem places_ok : ∀ (n m w : Nat) (d : D), m < n → m ≤ 1000 → w ≤ 1000 → ti m w d = true → (plc d).length ≤ 100000 → d__law_places n [d] = .ok (.lst ((plc d).map encP))
  | 0, _, _, _, h, _, _, _, _ => by omega
  | n + 1, m, w, d, hn, hm, hw, ht, hl => by
    cases d with
    | int i =>
      simp only [d__law_places, b__law_places, oIsTup, plc, encP, defD, args, dSeq, dSet, dSetP, dSetN, lstAt, dApp, dAppP, dAsg, dPar, dDrop, dWhile, dIfS, dRet, dB, dCall, dCons, dNil, dVar, dC, dBin, dChain, asB, dTru, dNotT, dAndT, dOrT, dAnd, dOr, dNot, dIf, dUn, dTup, dLst, dItems, dYes, R.bind, R.to, O.seq, outR, ofO, noErr, mask, Sm.putIn, bindPat, bindPats, itemsOf, tru, List.foldr_cons, List.foldr_nil, List.length_cons, List.length_nil, List.map_cons, List.map_nil, List.cons_append, List.nil_append, Nat.sub_self, List.replicate_zero, List.replicate_succ, List.getElem?_cons_succ, List.getElem?_cons_zero, List.set_cons_zero, List.set_cons_succ, Nat.reduceAdd, Nat.reduceSub, ↓reduceIte, Bool.not_true, Bool.not_false, Bool.and_true, Bool.true_and, Bool.false_and, Bool.and_false, if_true, if_false, Bool.false_eq_true, oNeg, oAddI, oSubI, oAdd_ii, oLt, oLe, oGt, oGe, Option.bind_some, Option.map_some]
    | tup xs =>
      cases m with
      | zero => simp [ti] at ht
      | succ m =>
        obtain ⟨h1, h2⟩ := ti_tup.mp ht
        rw [plc, List.length_cons] at hl
        obtain ⟨y2, y3, e⟩ := places_loop n m w (by omega) xs (fun d hd hl => places_ok n m w d (by omega) (by omega) hw hd hl) xs 0 [[]] none none (fun i x h => by rw [Nat.zero_add]; exact h) h2 (by simp only [List.length_cons, List.length_nil]; omega)
        refine defD_eq rfl ?_
        unfold b__law_places
        refine out_seq (ρ1 := [some (.tup xs), some (.lst ([[]].map encP)), none, none]) ?_ ?_
        · simp only [encP, defD, args, dSeq, dSet, dSetP, dSetN, lstAt, dApp, dAppP, dAsg, dPar, dDrop, dWhile, dIfS, dRet, dB, dCall, dCons, dNil, dVar, dC, dBin, dChain, asB, dTru, dNotT, dAndT, dOrT, dAnd, dOr, dNot, dIf, dUn, dTup, dLst, dItems, dYes, R.bind, R.to, O.seq, outR, ofO, noErr, mask, Sm.putIn, bindPat, bindPats, itemsOf, tru, List.foldr_cons, List.foldr_nil, List.length_cons, List.length_nil, List.map_cons, List.map_nil, List.cons_append, List.nil_append, Nat.sub_self, List.replicate_zero, List.replicate_succ, List.getElem?_cons_succ, List.getElem?_cons_zero, List.set_cons_zero, List.set_cons_succ, Nat.reduceAdd, Nat.reduceSub, ↓reduceIte, Bool.not_true, Bool.not_false, Bool.and_true, Bool.true_and, Bool.false_and, Bool.and_false, if_true, if_false, Bool.false_eq_true, oNeg, oAddI, oSubI, oAdd_ii, oLt, oLe, oGt, oGe, Option.bind_some, Option.map_some]
        refine out_seq (ρ1 := [some (.tup xs), some (.lst (([[]] ++ plcs 0 xs).map encP)), y2, y3]) ?_ (ret_of ?_)
        · refine ifs_t ?_ ?_
          · simp only [oIsTup, defD, args, dSeq, dSet, dSetP, dSetN, lstAt, dApp, dAppP, dAsg, dPar, dDrop, dWhile, dIfS, dRet, dB, dCall, dCons, dNil, dVar, dC, dBin, dChain, asB, dTru, dNotT, dAndT, dOrT, dAnd, dOr, dNot, dIf, dUn, dTup, dLst, dItems, dYes, R.bind, R.to, O.seq, outR, ofO, noErr, mask, Sm.putIn, bindPat, bindPats, itemsOf, tru, List.foldr_cons, List.foldr_nil, List.length_cons, List.length_nil, List.map_cons, List.map_nil, List.cons_append, List.nil_append, Nat.sub_self, List.replicate_zero, List.replicate_succ, List.getElem?_cons_succ, List.getElem?_cons_zero, List.set_cons_zero, List.set_cons_succ, Nat.reduceAdd, Nat.reduceSub, ↓reduceIte, Bool.not_true, Bool.not_false, Bool.and_true, Bool.true_and, Bool.false_and, Bool.and_false, if_true, if_false, Bool.false_eq_true, oNeg, oAddI, oSubI, oAdd_ii, oLt, oLe, oGt, oGe, Option.bind_some, Option.map_some]
          · unfold dFor
            rw [range_it (n := xs.length) (by simp only [oLen, defD, args, dSeq, dSet, dSetP, dSetN, lstAt, dApp, dAppP, dAsg, dPar, dDrop, dWhile, dIfS, dRet, dB, dCall, dCons, dNil, dVar, dC, dBin, dChain, asB, dTru, dNotT, dAndT, dOrT, dAnd, dOr, dNot, dIf, dUn, dTup, dLst, dItems, dYes, R.bind, R.to, O.seq, outR, ofO, noErr, mask, Sm.putIn, bindPat, bindPats, itemsOf, tru, List.foldr_cons, List.foldr_nil, List.length_cons, List.length_nil, List.map_cons, List.map_nil, List.cons_append, List.nil_append, Nat.sub_self, List.replicate_zero, List.replicate_succ, List.getElem?_cons_succ, List.getElem?_cons_zero, List.set_cons_zero, List.set_cons_succ, Nat.reduceAdd, Nat.reduceSub, ↓reduceIte, Bool.not_true, Bool.not_false, Bool.and_true, Bool.true_and, Bool.false_and, Bool.and_false, if_true, if_false, Bool.false_eq_true, oNeg, oAddI, oSubI, oAdd_ii, oLt, oLe, oGt, oGe, Option.bind_some, Option.map_some]) (by omega)]
            exact e
        · rw [plc]
          simp only [dVar, List.getElem?_cons_succ, List.getElem?_cons_zero]
          rfl
    | _ => cases m <;> simp [ti] at ht
theorem pl_ints (n : Nat) : ∀ p : List Nat, pls n (p.map fun i : Nat => D.int (i : Int)) = true
  | [] => rfl
  | i :: p => by simp [pls, pl, pl_ints n p]
theorem pl_P (n : Nat) (p : List Nat) : pl (n + 1) (encP p) = true := by simp only [encP, pl]; exact pl_ints n p
theorem eq_nilP (p : List Nat) : oEq (encP p) (.tup []) = some (.bl (decide (p = []))) := by
  unfold oEq
  rw [pl_pln _ 64 (pl_P 63 p), show pln 64 (.tup []) = true from rfl]
  cases p <;> simp [encP, deq, deqs]
theorem ixP0 (k : Nat) (p : List Nat) : oIx (encP (k :: p)) (.int 0) = some (.int (k : Int)) := oIx_t0 _ _
theorem sl_takeT (xs : List D) (k : Nat) : oSl (.tup xs) none (some (k : Int)) = some (.tup (xs.take k)) := by
  show some (D.tup (cutD xs none (some (k : Int)))) = _
  rw [cut_take]
theorem sl_dropT (xs : List D) (k : Nat) : oSl (.tup xs) (some (k : Int)) none = some (.tup (xs.drop k)) := by
  show some (D.tup (cutD xs (some (k : Int)) none)) = _
  rw [cut_drop]
theorem cut1P (k : Nat) (p : List Nat) : oSl (encP (k :: p)) (some 1) none = some (encP p) := by
  unfold encP
  rw [show (some (1 : Int)) = some ((1 : Nat) : Int) from rfl, sl_dropT]
  rfl
theorem put_ok : ∀ (p : List Nat) (n m w : Nat) (d x new : D), p.length < n → w ≤ 1000 → ti m w d = true → atP d p = some x → d__law_put n [d, encP p, new] = .ok (putP d p new)
  | _, 0, _, _, _, _, _, h, _, _, _ => by omega
  | [], n + 1, m, w, d, x, new, _, _, _, _ => by
    have e := eq_nilP []
    simp only [d__law_put, b__law_put, e, decide_true, putP, defD, args, dSeq, dSet, dSetP, dSetN, lstAt, dApp, dAppP, dAsg, dPar, dDrop, dWhile, dIfS, dRet, dB, dCall, dCons, dNil, dVar, dC, dBin, dChain, asB, dTru, dNotT, dAndT, dOrT, dAnd, dOr, dNot, dIf, dUn, dTup, dLst, dItems, dYes, R.bind, R.to, O.seq, outR, ofO, noErr, mask, Sm.putIn, bindPat, bindPats, itemsOf, tru, List.foldr_cons, List.foldr_nil, List.length_cons, List.length_nil, List.map_cons, List.map_nil, List.cons_append, List.nil_append, Nat.sub_self, List.replicate_zero, List.replicate_succ, List.getElem?_cons_succ, List.getElem?_cons_zero, List.set_cons_zero, List.set_cons_succ, Nat.reduceAdd, Nat.reduceSub, ↓reduceIte, Bool.not_true, Bool.not_false, Bool.and_true, Bool.true_and, Bool.false_and, Bool.and_false, if_true, if_false, Bool.false_eq_true, oNeg, oAddI, oSubI, oAdd_ii, oLt, oLe, oGt, oGe, Option.bind_some, Option.map_some]
  | k :: p, n + 1, m, w, d, x, new, hn, hw, ht, ha => by
    have e := eq_nilP (k :: p)
    rw [decide_eq_false (by simp)] at e
    cases d with
    | tup xs =>
      cases m with
      | zero => simp [ti] at ht
      | succ m =>
        obtain ⟨h1, h2⟩ := ti_tup.mp ht
        simp only [atP] at ha
        cases hk : xs[k]? with
        | none => rw [hk] at ha; cases ha
        | some y =>
          rw [hk] at ha
          have hkl := (List.getElem?_eq_some_iff.mp hk).1
          have ih := put_ok p n m w y x new (by simp at hn; omega) hw (h2 y (List.mem_of_getElem? hk)) ha
          have c1 : oSl (.tup xs) none (some (k : Int)) = some (.tup (xs.take k)) := sl_takeT xs k
          have c2 : oSl (.tup xs) (some ((k : Int) + 1)) none = some (.tup (xs.drop (k + 1))) := by
            rw [show ((k : Int) + 1) = ((k + 1 : Nat) : Int) by omega, sl_dropT]
          have a1 : ∀ z : D, oAdd (.tup (xs.take k)) (.tup [z]) = some (.tup (xs.take k ++ [z])) := fun z => by
            simp only [oAdd]
            rw [if_pos (Nat.le_trans (by rw [List.length_take]; simp; omega) sizeLine_big)]
          have a2 : ∀ z : D, oAdd (.tup (xs.take k ++ [z])) (.tup (xs.drop (k + 1))) = some (.tup (xs.set k z)) := fun z => by
            simp only [oAdd]
            rw [if_pos (Nat.le_trans (by rw [List.length_append, List.length_take, List.length_drop]; simp; omega) sizeLine_big)]
            rw [List.set_eq_take_append_cons_drop, if_pos hkl, List.append_assoc]; rfl
          simp only [putP, hk]
          simp only [d__law_put, b__law_put, e, ixP0, dSl, dNo, dSo, c1, c2, cut1P, tup_at hk, ih, a1, a2, defD, args, dSeq, dSet, dSetP, dSetN, lstAt, dApp, dAppP, dAsg, dPar, dDrop, dWhile, dIfS, dRet, dB, dCall, dCons, dNil, dVar, dC, dBin, dChain, asB, dTru, dNotT, dAndT, dOrT, dAnd, dOr, dNot, dIf, dUn, dTup, dLst, dItems, dYes, R.bind, R.to, O.seq, outR, ofO, noErr, mask, Sm.putIn, bindPat, bindPats, itemsOf, tru, List.foldr_cons, List.foldr_nil, List.length_cons, List.length_nil, List.map_cons, List.map_nil, List.cons_append, List.nil_append, Nat.sub_self, List.replicate_zero, List.replicate_succ, List.getElem?_cons_succ, List.getElem?_cons_zero, List.set_cons_zero, List.set_cons_succ, Nat.reduceAdd, Nat.reduceSub, ↓reduceIte, Bool.not_true, Bool.not_false, Bool.and_true, Bool.true_and, Bool.false_and, Bool.and_false, if_true, if_false, Bool.false_eq_true, oNeg, oAddI, oSubI, oAdd_ii, oLt, oLe, oGt, oGe, Option.bind_some, Option.map_some]
    | _ => simp [atP] at ha
theorem walk_place : ∀ (p : List Nat) (d x : D) (ρ : Sm.Env), atP d p = some x → ρ[5]? = some (some d) → 6 < ρ.length → ∃ z, forGo (.v 6) (dSet [] 5 (dBin oIx (dVar 5) (dVar 6))) (p.map fun i : Nat => D.int (i : Int)) ρ = .nx ((ρ.set 5 (some x)).set 6 z)
  | [], d, x, ρ, h, h5, hl => by
    cases h
    refine ⟨ρ[6], ?_⟩
    simp only [List.map_nil, forGo]
    congr 1
    apply List.ext_getElem?
    intro i
    by_cases h6 : i = 6
    · subst h6
      rw [List.getElem?_set_self (by rw [List.length_set]; exact hl), List.getElem?_eq_getElem hl]
    · rw [List.getElem?_set_ne (fun e => h6 e.symm)]
      by_cases h5' : i = 5
      · subst h5'; rw [List.getElem?_set_self (by omega), h5]
      · rw [List.getElem?_set_ne (fun e => h5' e.symm)]
  | k :: p, d, x, ρ, h, h5, hl => by
    cases d with
    | tup xs =>
      simp only [atP] at h
      cases hk : xs[k]? with
      | none => rw [hk] at h; cases h
      | some y =>
        rw [hk] at h
        have hl5 : 5 < ρ.length := by omega
        obtain ⟨z, e⟩ := walk_place p y x ((ρ.set 6 (some (.int (k : Int)))).set 5 (some y)) h (List.getElem?_set_self (by rw [List.length_set]; omega)) (by rw [List.length_set, List.length_set]; exact hl)
        refine ⟨z, ?_⟩
        have st : dSet [] 5 (dBin oIx (dVar 5) (dVar 6)) (ρ.set 6 (some (.int (k : Int)))) = .nx ((ρ.set 6 (some (.int (k : Int)))).set 5 (some y)) := by
          refine set_nx ?_
          have v5 : dVar 5 (ρ.set 6 (some (.int (k : Int)))) = .ok (.tup xs) := by
            unfold dVar; rw [List.getElem?_set_ne (by decide), h5]
          have v6 : dVar 6 (ρ.set 6 (some (.int (k : Int)))) = .ok (.int (k : Int)) := by
            unfold dVar; rw [List.getElem?_set_self hl]
          show dBin oIx (dVar 5) (dVar 6) (ρ.set 6 (some (.int (k : Int)))) = _
          simp only [dBin, v5, v6, R.bind, tup_at hk, ofO]
        rw [List.map_cons]
        unfold forGo
        rw [show bindPat (.v 6) (.int (k : Int)) ρ = some (ρ.set 6 (some (.int (k : Int)))) from rfl]
        simp only [st, O.seq]
        rw [e]
        congr 1
        apply List.ext_getElem?
        intro i
        by_cases h6 : i = 6
        · subst h6
          rw [List.getElem?_set_self (by simp [hl]), List.getElem?_set_self (by simp [hl])]
        · rw [List.getElem?_set_ne (fun e => h6 e.symm), List.getElem?_set_ne (fun e => h6 e.symm)]
          by_cases h5' : i = 5
          · subst h5'; rw [List.getElem?_set_self (by simp [hl5]), List.getElem?_set_self (by omega)]
          · rw [List.getElem?_set_ne (fun e => h5' e.symm), List.getElem?_set_ne (fun e => h5' e.symm), List.getElem?_set_ne (fun e => h5' e.symm), List.getElem?_set_ne (fun e => h6 e.symm)]
    | _ => simp [atP] at h
def oddL (x : D) : List D := [.int 0, .int 1, .int 9, .int 10, .int 20, .int 21, .int (-20), .int (-21), .bl true, .non, .str "1", .tup [], .tup [.int 1], .tup [.int 0, .int 1], .lst [.int 0], .tup [x], .tup [x, x]]
theorem oddL_nc {m w : Nat} {x : D} (hx : ti m w x = true) : ∀ y ∈ oddL x, nc (m + 2) (max (w + 1) 3) y = true := by
  have h := nc_mono (ti_nc hx) (Nat.le_succ m) (show w ≤ max (w + 1) 3 by omega)
  have e3 : ∀ n, n ≤ 3 → n ≤ max (w + 1) 3 := fun n h => by omega
  have one : ∀ z : D, nc (m + 1) (max (w + 1) 3) z = true → nc (m + 2) (max (w + 1) 3) (.tup [z]) = true := fun z hz => nc_tup.mpr ⟨by simp only [List.length_cons, List.length_nil]; omega, fun y hy => by rw [List.mem_singleton.mp hy]; exact hz⟩
  have two : ∀ z y : D, nc (m + 1) (max (w + 1) 3) z = true → nc (m + 1) (max (w + 1) 3) y = true → nc (m + 2) (max (w + 1) 3) (.tup [z, y]) = true := fun z y hz hy => nc_tup.mpr ⟨by simp only [List.length_cons, List.length_nil]; omega, fun u hu => by
    rcases List.mem_cons.mp hu with rfl | hu
    · exact hz
    · rw [List.mem_singleton.mp hu]; exact hy⟩
  have li : nc (m + 2) (max (w + 1) 3) (.lst [.int 0]) = true := nc_lst.mpr ⟨by simp only [List.length_cons, List.length_nil]; omega, fun y hy => by rw [List.mem_singleton.mp hy]; rfl⟩
  have no : nc (m + 2) (max (w + 1) 3) (.tup []) = true := nc_tup.mpr ⟨Nat.zero_le _, fun z hz => nomatch hz⟩
  have st : nc (m + 2) (max (w + 1) 3) (.str "1") = true := by simp only [nc]; decide +kernel
  intro y hy
  simp only [oddL, List.mem_cons, List.not_mem_nil, or_false] at hy
  rcases hy with rfl | rfl | rfl | rfl | rfl | rfl | rfl | rfl | rfl | rfl | rfl | rfl | rfl | rfl | rfl | rfl | rfl
  · rfl
  · rfl
  · rfl
  · rfl
  · rfl
  · rfl
  · rfl
  · rfl
  · rfl
  · rfl
  · exact st
  · exact no
  · exact one _ rfl
  · exact two _ _ rfl rfl
  · exact li
  · exact one _ h
  · exact two _ _ h h
theorem smD_odd {B : Nat} (hB : 21 ≤ B) {x : D} (hx : smD B x = true) : ∀ y ∈ oddL x, smD B y = true := by
  intro y hy
  simp only [oddL, List.mem_cons, List.not_mem_nil, or_false] at hy
  rcases hy with rfl | rfl | rfl | rfl | rfl | rfl | rfl | rfl | rfl | rfl | rfl | rfl | rfl | rfl | rfl | rfl | rfl <;> simp [smD, smDs, hx] <;> omega
theorem spoilt_okB {pk : Nat → Int → Int} (hp : PkOk pk) (at_ : Nat) {d : D} {m w : Nat} (ht : ti m w d = true) (hm : m ≤ 20) (hw : w ≤ 500) (hl : (plc d).length ≤ 100000) :
    ∃ p new, p ∈ plc d ∧ nc (m + 2) (max (w + 1) 3) new = true ∧ (∀ B : Nat, 21 ≤ B → smD B d = true → smD B new = true) ∧ d__law_spoilt_thing pk [.scr0, .int (at_ : Int), d] = .ok (putP d p new) := by
  have hne : 0 < (plc d).length := List.length_pos_iff.mpr (plc_ne d)
  obtain ⟨j, hj, ej⟩ := pick_at hp at_ hne
  have hpl : (plc d)[j]? = some (plc d)[j] := List.getElem?_eq_getElem hj
  have hmem : (plc d)[j] ∈ plc d := List.getElem_mem hj
  generalize (plc d)[j] = p at *
  obtain ⟨hpn, x, hx1, hx2⟩ := plc_at ht hmem
  have pl := places_ok 24 m w d (by omega) (by omega) (by omega) ht hl
  have pa := at_map (g := encP) hpl
  obtain ⟨v, hv, ev⟩ := pick_at hp (at_ + 1) (show 0 < 23 by decide)
  have pk1 := dPick_ok pk at_ (m := ((plc d).length : Int)) (by omega)
  have pk2 := dPick_ok pk (at_ + 1) (m := 23) (by decide)
  rw [ej] at pk1
  have ev' : pk (at_ + 1) 23 = (v : Int) := ev
  rw [ev'] at pk2
  have a1 : ((at_ : Int) + 1) = ((at_ + 1 : Nat) : Int) := by omega
  have put := fun new => put_ok p 24 m w d x new (by omega) (by omega) ht hx1
  have hlen : ((plc d).map encP).length = (plc d).length := List.length_map ..
  obtain ⟨z, wk⟩ := walk_place p d x [some .scr0, some (.int (at_ : Int)), some d, some (.lst ((plc d).map encP)), some (encP p), some d, none, none, none] hx1 rfl (by simp)
  -- up to the drawn way
  have main : ∀ r : R D, (∀ e : Sm.Env, e = [some .scr0, some (.int (at_ : Int)), some d, some (.lst ((plc d).map encP)), some (encP p), some x, z, some (.lst (oddL x)), some (.int (v : Int))] →
      outR ((dSeq (dIfS (asB (dBin oLt (dVar 8) (dC (.int 17)))) (dRet (dCall (d__law_put 24) (dCons (dVar 2) (dCons (dVar 4) (dCons (dBin oIx (dVar 7) (dVar 8)) dNil))))) .nx)
    (dSeq (dIfS (dAndT (dTru (dUn oIsTup (dVar 5))) (asB (dBin oNe (dVar 5) (dTup dNil)))) (dSeq (dSet [] 6 (dCall (dPick pk) (dCons (dVar 0) (dCons (dBin oAdd (dVar 1) (dC (.int 2))) (dCons (dB oLen (dCons (dVar 5) dNil)) dNil)))))
    (dRet (dCall (d__law_put 24) (dCons (dVar 2) (dCons (dVar 4) (dCons (dIf (asB (dBin oLt (dVar 8) (dC (.int 20)))) (dBin oAdd (dSl (dVar 5) dNo (dSo (dVar 6))) (dSl (dVar 5) (dSo (dBin oAdd (dVar 6) (dC (.int 1)))) dNo)) (dBin oAdd (dSl (dVar 5) dNo (dSo (dBin oAdd (dVar 6) (dC (.int 1))))) (dSl (dVar 5) (dSo (dVar 6)) dNo))) dNil)))))) .nx)
    (dRet (dCall (d__law_put 24) (dCons (dVar 2) (dCons (dVar 4) (dCons (dIf (dTru (dUn oIsInt (dVar 5))) (dBin oSubI (dC (.int 0)) (dVar 5)) (dC (.int 7))) dNil))))))) e) = r) → d__law_spoilt_thing pk [.scr0, .int (at_ : Int), d] = r := by
    intro r hr
    refine defD_eq rfl ?_
    unfold b__law_spoilt_thing
    refine out_seq (ρ1 := [some .scr0, some (.int (at_ : Int)), some d, some (.lst ((plc d).map encP)), none, none, none, none, none]) ?_ ?_
    · simp only [pl, defD, args, dSeq, dSet, dSetP, dSetN, lstAt, dApp, dAppP, dAsg, dPar, dDrop, dWhile, dIfS, dRet, dB, dCall, dCons, dNil, dVar, dC, dBin, dChain, asB, dTru, dNotT, dAndT, dOrT, dAnd, dOr, dNot, dIf, dUn, dTup, dLst, dItems, dYes, R.bind, R.to, O.seq, outR, ofO, noErr, mask, Sm.putIn, bindPat, bindPats, itemsOf, tru, List.foldr_cons, List.foldr_nil, List.length_cons, List.length_nil, List.map_cons, List.map_nil, List.cons_append, List.nil_append, Nat.sub_self, List.replicate_zero, List.replicate_succ, List.getElem?_cons_succ, List.getElem?_cons_zero, List.set_cons_zero, List.set_cons_succ, Nat.reduceAdd, Nat.reduceSub, ↓reduceIte, Bool.not_true, Bool.not_false, Bool.and_true, Bool.true_and, Bool.false_and, Bool.and_false, if_true, if_false, Bool.false_eq_true, oNeg, oAddI, oSubI, oAdd_ii, oLt, oLe, oGt, oGe, Option.bind_some, Option.map_some]
    refine out_seq (ρ1 := [some .scr0, some (.int (at_ : Int)), some d, some (.lst ((plc d).map encP)), some (encP p), none, none, none, none]) ?_ ?_
    · generalize (plc d).map encP = L at *
      rw [← hlen] at pk1
      simp only [oLen, pk1, pa, defD, args, dSeq, dSet, dSetP, dSetN, lstAt, dApp, dAppP, dAsg, dPar, dDrop, dWhile, dIfS, dRet, dB, dCall, dCons, dNil, dVar, dC, dBin, dChain, asB, dTru, dNotT, dAndT, dOrT, dAnd, dOr, dNot, dIf, dUn, dTup, dLst, dItems, dYes, R.bind, R.to, O.seq, outR, ofO, noErr, mask, Sm.putIn, bindPat, bindPats, itemsOf, tru, List.foldr_cons, List.foldr_nil, List.length_cons, List.length_nil, List.map_cons, List.map_nil, List.cons_append, List.nil_append, Nat.sub_self, List.replicate_zero, List.replicate_succ, List.getElem?_cons_succ, List.getElem?_cons_zero, List.set_cons_zero, List.set_cons_succ, Nat.reduceAdd, Nat.reduceSub, ↓reduceIte, Bool.not_true, Bool.not_false, Bool.and_true, Bool.true_and, Bool.false_and, Bool.and_false, if_true, if_false, Bool.false_eq_true, oNeg, oAddI, oSubI, oAdd_ii, oLt, oLe, oGt, oGe, Option.bind_some, Option.map_some]
    refine out_seq (ρ1 := [some .scr0, some (.int (at_ : Int)), some d, some (.lst ((plc d).map encP)), some (encP p), some d, none, none, none]) ?_ ?_
    · simp only [defD, args, dSeq, dSet, dSetP, dSetN, lstAt, dApp, dAppP, dAsg, dPar, dDrop, dWhile, dIfS, dRet, dB, dCall, dCons, dNil, dVar, dC, dBin, dChain, asB, dTru, dNotT, dAndT, dOrT, dAnd, dOr, dNot, dIf, dUn, dTup, dLst, dItems, dYes, R.bind, R.to, O.seq, outR, ofO, noErr, mask, Sm.putIn, bindPat, bindPats, itemsOf, tru, List.foldr_cons, List.foldr_nil, List.length_cons, List.length_nil, List.map_cons, List.map_nil, List.cons_append, List.nil_append, Nat.sub_self, List.replicate_zero, List.replicate_succ, List.getElem?_cons_succ, List.getElem?_cons_zero, List.set_cons_zero, List.set_cons_succ, Nat.reduceAdd, Nat.reduceSub, ↓reduceIte, Bool.not_true, Bool.not_false, Bool.and_true, Bool.true_and, Bool.false_and, Bool.and_false, if_true, if_false, Bool.false_eq_true, oNeg, oAddI, oSubI, oAdd_ii, oLt, oLe, oGt, oGe, Option.bind_some, Option.map_some]
    refine out_seq (ρ1 := [some .scr0, some (.int (at_ : Int)), some d, some (.lst ((plc d).map encP)), some (encP p), some x, z, none, none]) ?_ ?_
    · unfold dFor
      simp only [encP, defD, args, dSeq, dSet, dSetP, dSetN, lstAt, dApp, dAppP, dAsg, dPar, dDrop, dWhile, dIfS, dRet, dB, dCall, dCons, dNil, dVar, dC, dBin, dChain, asB, dTru, dNotT, dAndT, dOrT, dAnd, dOr, dNot, dIf, dUn, dTup, dLst, dItems, dYes, R.bind, R.to, O.seq, outR, ofO, noErr, mask, Sm.putIn, bindPat, bindPats, itemsOf, tru, List.foldr_cons, List.foldr_nil, List.length_cons, List.length_nil, List.map_cons, List.map_nil, List.cons_append, List.nil_append, Nat.sub_self, List.replicate_zero, List.replicate_succ, List.getElem?_cons_succ, List.getElem?_cons_zero, List.set_cons_zero, List.set_cons_succ, Nat.reduceAdd, Nat.reduceSub, ↓reduceIte, Bool.not_true, Bool.not_false, Bool.and_true, Bool.true_and, Bool.false_and, Bool.and_false, if_true, if_false, Bool.false_eq_true, oNeg, oAddI, oSubI, oAdd_ii, oLt, oLe, oGt, oGe, Option.bind_some, Option.map_some]
      exact wk
    refine out_seq (ρ1 := [some .scr0, some (.int (at_ : Int)), some d, some (.lst ((plc d).map encP)), some (encP p), some x, z, some (.lst (oddL x)), none]) ?_ ?_
    · simp only [oddL, defD, args, dSeq, dSet, dSetP, dSetN, lstAt, dApp, dAppP, dAsg, dPar, dDrop, dWhile, dIfS, dRet, dB, dCall, dCons, dNil, dVar, dC, dBin, dChain, asB, dTru, dNotT, dAndT, dOrT, dAnd, dOr, dNot, dIf, dUn, dTup, dLst, dItems, dYes, R.bind, R.to, O.seq, outR, ofO, noErr, mask, Sm.putIn, bindPat, bindPats, itemsOf, tru, List.foldr_cons, List.foldr_nil, List.length_cons, List.length_nil, List.map_cons, List.map_nil, List.cons_append, List.nil_append, Nat.sub_self, List.replicate_zero, List.replicate_succ, List.getElem?_cons_succ, List.getElem?_cons_zero, List.set_cons_zero, List.set_cons_succ, Nat.reduceAdd, Nat.reduceSub, ↓reduceIte, Bool.not_true, Bool.not_false, Bool.and_true, Bool.true_and, Bool.false_and, Bool.and_false, if_true, if_false, Bool.false_eq_true, oNeg, oAddI, oSubI, oAdd_ii, oLt, oLe, oGt, oGe, Option.bind_some, Option.map_some]
    refine out_seq (ρ1 := [some .scr0, some (.int (at_ : Int)), some d, some (.lst ((plc d).map encP)), some (encP p), some x, z, some (.lst (oddL x)), some (.int (v : Int))]) ?_ (hr _ rfl)
    · simp only [a1, pk2, defD, args, dSeq, dSet, dSetP, dSetN, lstAt, dApp, dAppP, dAsg, dPar, dDrop, dWhile, dIfS, dRet, dB, dCall, dCons, dNil, dVar, dC, dBin, dChain, asB, dTru, dNotT, dAndT, dOrT, dAnd, dOr, dNot, dIf, dUn, dTup, dLst, dItems, dYes, R.bind, R.to, O.seq, outR, ofO, noErr, mask, Sm.putIn, bindPat, bindPats, itemsOf, tru, List.foldr_cons, List.foldr_nil, List.length_cons, List.length_nil, List.map_cons, List.map_nil, List.cons_append, List.nil_append, Nat.sub_self, List.replicate_zero, List.replicate_succ, List.getElem?_cons_succ, List.getElem?_cons_zero, List.set_cons_zero, List.set_cons_succ, Nat.reduceAdd, Nat.reduceSub, ↓reduceIte, Bool.not_true, Bool.not_false, Bool.and_true, Bool.true_and, Bool.false_and, Bool.and_false, if_true, if_false, Bool.false_eq_true, oNeg, oAddI, oSubI, oAdd_ii, oLt, oLe, oGt, oGe, Option.bind_some, Option.map_some]
  by_cases h17 : v < 17
  · have hv17 : (oddL x)[v]? = some (oddL x)[v] := List.getElem?_eq_getElem (by simpa [oddL] using h17)
    have hmo : (oddL x)[v]'(by simpa [oddL] using h17) ∈ oddL x := List.getElem_mem _
    generalize (oddL x)[v]'(by simpa [oddL] using h17) = new at *
    refine ⟨p, new, hmem, oddL_nc hx2 new hmo, fun B hB hd => smD_odd hB (smD_at hx1 hd) new hmo, main _ ?_⟩
    rintro e rfl
    have pa2 : oIx (.lst (oddL x)) (.int (v : Int)) = some new := by
      have := at_map (g := fun d : D => d) hv17
      rwa [List.map_id'] at this
    generalize oddL x = L at *
    refine out_seqR ?_
    simp only [decide_eq_true (show (v : Int) < 17 by omega), pa2, put, defD, args, dSeq, dSet, dSetP, dSetN, lstAt, dApp, dAppP, dAsg, dPar, dDrop, dWhile, dIfS, dRet, dB, dCall, dCons, dNil, dVar, dC, dBin, dChain, asB, dTru, dNotT, dAndT, dOrT, dAnd, dOr, dNot, dIf, dUn, dTup, dLst, dItems, dYes, R.bind, R.to, O.seq, outR, ofO, noErr, mask, Sm.putIn, bindPat, bindPats, itemsOf, tru, List.foldr_cons, List.foldr_nil, List.length_cons, List.length_nil, List.map_cons, List.map_nil, List.cons_append, List.nil_append, Nat.sub_self, List.replicate_zero, List.replicate_succ, List.getElem?_cons_succ, List.getElem?_cons_zero, List.set_cons_zero, List.set_cons_succ, Nat.reduceAdd, Nat.reduceSub, ↓reduceIte, Bool.not_true, Bool.not_false, Bool.and_true, Bool.true_and, Bool.false_and, Bool.and_false, if_true, if_false, Bool.false_eq_true, oNeg, oAddI, oSubI, oAdd_ii, oLt, oLe, oGt, oGe, Option.bind_some, Option.map_some]
  · have e17 : decide ((v : Int) < 17) = false := decide_eq_false (by omega)
    cases x with
    | int i =>
      refine ⟨p, .int (0 - i), hmem, rfl, fun B hB hd => by
        have := smD_at hx1 hd
        simp only [smD, decide_eq_true_eq] at this ⊢
        omega, main _ ?_⟩
      rintro e rfl
      simp only [e17, oIsTup, oIsInt, put, defD, args, dSeq, dSet, dSetP, dSetN, lstAt, dApp, dAppP, dAsg, dPar, dDrop, dWhile, dIfS, dRet, dB, dCall, dCons, dNil, dVar, dC, dBin, dChain, asB, dTru, dNotT, dAndT, dOrT, dAnd, dOr, dNot, dIf, dUn, dTup, dLst, dItems, dYes, R.bind, R.to, O.seq, outR, ofO, noErr, mask, Sm.putIn, bindPat, bindPats, itemsOf, tru, List.foldr_cons, List.foldr_nil, List.length_cons, List.length_nil, List.map_cons, List.map_nil, List.cons_append, List.nil_append, Nat.sub_self, List.replicate_zero, List.replicate_succ, List.getElem?_cons_succ, List.getElem?_cons_zero, List.set_cons_zero, List.set_cons_succ, Nat.reduceAdd, Nat.reduceSub, ↓reduceIte, Bool.not_true, Bool.not_false, Bool.and_true, Bool.true_and, Bool.false_and, Bool.and_false, if_true, if_false, Bool.false_eq_true, oNeg, oAddI, oSubI, oAdd_ii, oLt, oLe, oGt, oGe, Option.bind_some, Option.map_some]
    | tup xs =>
      cases m with
      | zero => simp [ti] at hx2
      | succ m =>
      obtain ⟨h1, h2⟩ := ti_tup.mp hx2
      cases xs with
      | nil =>
        refine ⟨p, .int 7, hmem, rfl, fun B hB hd => by simp only [smD, decide_eq_true_eq]; omega, main _ ?_⟩
        rintro e rfl
        have : oNe (.tup []) (.tup []) = some (.bl false) := rfl
        simp only [e17, oIsTup, oIsInt, this, put, defD, args, dSeq, dSet, dSetP, dSetN, lstAt, dApp, dAppP, dAsg, dPar, dDrop, dWhile, dIfS, dRet, dB, dCall, dCons, dNil, dVar, dC, dBin, dChain, asB, dTru, dNotT, dAndT, dOrT, dAnd, dOr, dNot, dIf, dUn, dTup, dLst, dItems, dYes, R.bind, R.to, O.seq, outR, ofO, noErr, mask, Sm.putIn, bindPat, bindPats, itemsOf, tru, List.foldr_cons, List.foldr_nil, List.length_cons, List.length_nil, List.map_cons, List.map_nil, List.cons_append, List.nil_append, Nat.sub_self, List.replicate_zero, List.replicate_succ, List.getElem?_cons_succ, List.getElem?_cons_zero, List.set_cons_zero, List.set_cons_succ, Nat.reduceAdd, Nat.reduceSub, ↓reduceIte, Bool.not_true, Bool.not_false, Bool.and_true, Bool.true_and, Bool.false_and, Bool.and_false, if_true, if_false, Bool.false_eq_true, oNeg, oAddI, oSubI, oAdd_ii, oLt, oLe, oGt, oGe, Option.bind_some, Option.map_some]
      | cons y ys =>
        obtain ⟨k, hk, ek⟩ := pick_at hp (at_ + 2) (show 0 < (y :: ys).length by simp)
        have pk3 := dPick_ok pk (at_ + 2) (m := ((y :: ys).length : Int)) (by simp)
        rw [ek] at pk3
        have a2 : ((at_ : Int) + 2) = ((at_ + 2 : Nat) : Int) := by omega
        have hne2 : oNe (.tup (y :: ys)) (.tup []) = some (.bl true) := by
          unfold oNe
          rw [pl_pln _ 64 (by have := (nc_pl _ _ _ (nc_mono (ti_nc hx2) (show m + 1 ≤ 64 by omega) (Nat.le_refl _))).1; exact this), show pln 64 (.tup []) = true from rfl]
          simp [deq, deqs]
        have nn : ∀ zs : List D, zs.length ≤ w + 1 → (∀ z ∈ zs, z ∈ y :: ys) → nc (m + 1 + 2) (max (w + 1) 3) (.tup zs) = true := fun zs hz hs => by
          rw [show m + 1 + 2 = (m + 2) + 1 by omega]
          exact nc_tup.mpr ⟨by omega, fun z hz => nc_mono (ti_nc (h2 z (hs z hz))) (by omega) (by omega)⟩
        have c1 := sl_takeT (y :: ys) k
        have c2 : oSl (.tup (y :: ys)) (some ((k : Int) + 1)) none = some (.tup ((y :: ys).drop (k + 1))) := by
          rw [show ((k : Int) + 1) = ((k + 1 : Nat) : Int) by omega, sl_dropT]
        have c3 : oSl (.tup (y :: ys)) none (some ((k : Int) + 1)) = some (.tup ((y :: ys).take (k + 1))) := by
          rw [show ((k : Int) + 1) = ((k + 1 : Nat) : Int) by omega, sl_takeT]
        have c4 := sl_dropT (y :: ys) k
        have add : ∀ us vs : List D, us.length ≤ 1000 → vs.length ≤ 1000 → oAdd (.tup us) (.tup vs) = some (.tup (us ++ vs)) := fun us vs hu hv => by
          simp only [oAdd]
          rw [if_pos (Nat.le_trans (by omega) sizeLine_big)]
        have b1 := add ((y :: ys).take k) ((y :: ys).drop (k + 1)) (by rw [List.length_take]; omega) (by rw [List.length_drop]; omega)
        have b2 := add ((y :: ys).take (k + 1)) ((y :: ys).drop k) (by rw [List.length_take]; omega) (by rw [List.length_drop]; omega)
        have tw : oIsTup (.tup (y :: ys)) = some (.bl true) := rfl
        have ol : oLen [.tup (y :: ys)] = some (.int ((y :: ys).length : Int)) := rfl
        by_cases h20 : v < 20
        · refine ⟨p, .tup ((y :: ys).take k ++ (y :: ys).drop (k + 1)), hmem, nn _ (by rw [List.length_append, List.length_take, List.length_drop]; omega) (fun z hz => ?_), fun B hB hd => smD_tup.mpr fun z hz => smD_tup.mp (smD_at hx1 hd) z ?_, main _ ?_⟩
          · rcases List.mem_append.mp hz with hz | hz
            · exact List.mem_of_mem_take hz
            · exact List.mem_of_mem_drop hz
          · rcases List.mem_append.mp hz with hz | hz
            · exact List.mem_of_mem_take hz
            · exact List.mem_of_mem_drop hz
          · rintro e rfl
            generalize y :: ys = Y at *
            simp only [e17, tw, hne2, ol, a2, pk3, decide_eq_true (show (v : Int) < 20 by omega), dSl, dNo, dSo, c1, c2, b1, put, defD, args, dSeq, dSet, dSetP, dSetN, lstAt, dApp, dAppP, dAsg, dPar, dDrop, dWhile, dIfS, dRet, dB, dCall, dCons, dNil, dVar, dC, dBin, dChain, asB, dTru, dNotT, dAndT, dOrT, dAnd, dOr, dNot, dIf, dUn, dTup, dLst, dItems, dYes, R.bind, R.to, O.seq, outR, ofO, noErr, mask, Sm.putIn, bindPat, bindPats, itemsOf, tru, List.foldr_cons, List.foldr_nil, List.length_cons, List.length_nil, List.map_cons, List.map_nil, List.cons_append, List.nil_append, Nat.sub_self, List.replicate_zero, List.replicate_succ, List.getElem?_cons_succ, List.getElem?_cons_zero, List.set_cons_zero, List.set_cons_succ, Nat.reduceAdd, Nat.reduceSub, ↓reduceIte, Bool.not_true, Bool.not_false, Bool.and_true, Bool.true_and, Bool.false_and, Bool.and_false, if_true, if_false, Bool.false_eq_true, oNeg, oAddI, oSubI, oAdd_ii, oLt, oLe, oGt, oGe, Option.bind_some, Option.map_some]
        · refine ⟨p, .tup ((y :: ys).take (k + 1) ++ (y :: ys).drop k), hmem, nn _ (by rw [List.length_append, List.length_take, List.length_drop]; omega) (fun z hz => ?_), fun B hB hd => smD_tup.mpr fun z hz => smD_tup.mp (smD_at hx1 hd) z ?_, main _ ?_⟩
          · rcases List.mem_append.mp hz with hz | hz
            · exact List.mem_of_mem_take hz
            · exact List.mem_of_mem_drop hz
          · rcases List.mem_append.mp hz with hz | hz
            · exact List.mem_of_mem_take hz
            · exact List.mem_of_mem_drop hz
          · rintro e rfl
            generalize y :: ys = Y at *
            simp only [e17, tw, hne2, ol, a2, pk3, decide_eq_false (show ¬ ((v : Int) < 20) by omega), dSl, dNo, dSo, c3, c4, b2, put, defD, args, dSeq, dSet, dSetP, dSetN, lstAt, dApp, dAppP, dAsg, dPar, dDrop, dWhile, dIfS, dRet, dB, dCall, dCons, dNil, dVar, dC, dBin, dChain, asB, dTru, dNotT, dAndT, dOrT, dAnd, dOr, dNot, dIf, dUn, dTup, dLst, dItems, dYes, R.bind, R.to, O.seq, outR, ofO, noErr, mask, Sm.putIn, bindPat, bindPats, itemsOf, tru, List.foldr_cons, List.foldr_nil, List.length_cons, List.length_nil, List.map_cons, List.map_nil, List.cons_append, List.nil_append, Nat.sub_self, List.replicate_zero, List.replicate_succ, List.getElem?_cons_succ, List.getElem?_cons_zero, List.set_cons_zero, List.set_cons_succ, Nat.reduceAdd, Nat.reduceSub, ↓reduceIte, Bool.not_true, Bool.not_false, Bool.and_true, Bool.true_and, Bool.false_and, Bool.and_false, if_true, if_false, Bool.false_eq_true, oNeg, oAddI, oSubI, oAdd_ii, oLt, oLe, oGt, oGe, Option.bind_some, Option.map_some]
    | _ => cases m <;> simp [ti] at hx2
theorem spoilt_ok {pk : Nat → Int → Int} (hp : PkOk pk) (at_ : Nat) {d : D} {m w : Nat} (ht : ti m w d = true) (hm : m ≤ 20) (hw : w ≤ 500) (hl : (plc d).length ≤ 100000) :
    ∃ p new, p ∈ plc d ∧ nc (m + 2) (max (w + 1) 3) new = true ∧ d__law_spoilt_thing pk [.scr0, .int (at_ : Int), d] = .ok (putP d p new) := by
  obtain ⟨p, new, h1, h2, _, h4⟩ := spoilt_okB hp at_ ht hm hw hl
  exact ⟨p, new, h1, h2, h4⟩
end Kx
namespace Sm
open PySem PySem.Spec L2
def over (S : List Nat) : Nat → Env → (Nat → Option D) → Env
  | _, [], _ => []
  | k, x :: xs, ys => (if S.contains k then ys k else x) :: over S (k + 1) xs ys
theorem over_self (S : List Nat) : ∀ (ρ : Env) (k : Nat) (ys : Nat → Option D), (∀ (i : Nat) x, ρ[i]? = some x → ys (k + i) = x) → over S k ρ ys = ρ
  | [], _, _, _ => rfl
  | x :: xs, k, ys, h => by
    unfold over
    have h0 := h 0 x rfl
    rw [Nat.add_zero] at h0
    rw [h0, ite_self, over_self S xs (k + 1) ys fun i y hy => by rw [show k + 1 + i = k + (i + 1) by omega]; exact h (i + 1) y (by simpa using hy)]
theorem over_id (S : List Nat) (ρ : Env) : over S 0 ρ (fun i => (ρ[i]?).getD none) = ρ := over_self S ρ 0 _ fun i x h => by simp [h]
def Stay (S : List Nat) (ρ : Env) (o : O) : Prop := ∃ ρ2, o = .nx ρ2 ∧ ∃ ys, ρ2 = over S 0 ρ ys
theorem stay {S : List Nat} {ρ : Env} {o : O} {ρ2 : Env} (h : o = .nx ρ2) (h2 : over S 0 ρ (fun i => (ρ2[i]?).getD none) = ρ2) : Stay S ρ o := ⟨ρ2, h, _, h2.symm⟩
theorem stay_nx {S : List Nat} {f g : DS} {ρ ρ0 ρ1 : Env} (h : f ρ = .nx ρ1) (h2 : Stay S ρ0 (g ρ1)) : Stay S ρ0 (dSeq f g ρ) := by
  unfold dSeq; rw [h]; exact h2
section
variable {α β : Type} {own : List Nat} {pt : Pat} {it : DI} {f g : DS} {ρ : Env} {r : R D}
theorem look_nx {ds : List D} (S : List Nat) (hit : it (mask own ρ) = .ok ds) (st : ∀ d ys, d ∈ ds → ∃ ρ1, bindPat pt d (over S 0 ρ ys) = some ρ1 ∧ Stay S ρ (f ρ1)) : ∃ ys, dFor own pt it f ρ = .nx (over S 0 ρ ys) := by
  obtain ⟨ρ', e1, ys, rfl⟩ := for_nx (own := own) (pt := pt) (f := f) (fun ρ' => ∃ ys, ρ' = over S 0 ρ ys) hit ⟨_, (over_id S ρ).symm⟩ (by
    rintro d ρ' hd ⟨ys, rfl⟩
    obtain ⟨ρ1, h1, ρ2, h2, h3⟩ := st d ys hd
    exact ⟨ρ1, ρ2, h1, h2, h3⟩)
  exact ⟨ys, e1⟩
theorem look_out {ds : List D} (S : List Nat) (hit : it (mask own ρ) = .ok ds) (st : ∀ d ys, d ∈ ds → ∃ ρ1, bindPat pt d (over S 0 ρ ys) = some ρ1 ∧ Stay S ρ (f ρ1)) (hk : ∀ ys, outR (g (over S 0 ρ ys)) = r) :
    outR (dSeq (dFor own pt it f) g ρ) = r := by
  obtain ⟨ys, e⟩ := look_nx (own := own) (pt := pt) (f := f) S hit st
  exact out_seq e (hk ys)
end
end Sm
namespace Kx
open PySem PySem.Spec L2 Sm
theorem ti_int (n w : Nat) (i : Int) : ti n w (.int i) = true := by cases n <;> rfl
theorem game_ti : ∀ {n : Nat} {g : Game}, g.Ok n → ti (3 * n) 3 g.enc = true
  | 0, _, h => h.elim
  | n + 1, .node w ws, h => by
    rw [show 3 * (n + 1) = 3 * n + 2 + 1 by omega]
    cases ws with
    | nil => rw [enc_end]; exact ti_tup.mpr ⟨by simp, fun d hd => by rw [List.mem_singleton.mp hd]; exact ti_int _ _ _⟩
    | cons x ws =>
      rw [enc_go]
      refine ti_tup.mpr ⟨by simp, fun d hd => ?_⟩
      rcases List.mem_cons.mp hd with rfl | hd
      · exact ti_int _ _ _
      · rw [List.mem_singleton.mp hd]
        refine ti_tup.mpr ⟨by rw [List.length_map]; exact h.2.1, fun d hd => ?_⟩
        obtain ⟨p, hp, rfl⟩ := List.mem_map.mp hd
        refine ti_tup.mpr ⟨by simp, fun d hd => ?_⟩
        rcases List.mem_cons.mp hd with rfl | hd
        · exact ti_int _ _ _
        · rw [List.mem_singleton.mp hd]
          exact game_ti (h.2.2 p hp).2
def szG : Nat → Nat
  | 0 => 0
  | n + 1 => 3 + 3 * (2 + szG n)
theorem plcs_le (b : Nat) : ∀ (xs : List D) (k : Nat), (∀ x ∈ xs, (plc x).length ≤ b) → (plcs k xs).length ≤ xs.length * b
  | [], _, _ => by simp [plcs]
  | x :: xs, k, h => by
    rw [plcs, List.length_append, List.length_map, List.length_cons, Nat.succ_mul]
    have := h x (by simp)
    have := plcs_le b xs (k + 1) fun y hy => h y (by simp [hy])
    omega
theorem game_plc : ∀ {n : Nat} {g : Game}, g.Ok n → (plc g.enc).length ≤ szG n
  | 0, _, h => h.elim
  | n + 1, .node w ws, h => by
    cases ws with
    | nil => rw [enc_end]; simp [plc, plcs, szG]; omega
    | cons x ws =>
      rw [enc_go]
      have h1 := plcs_le (2 + szG n) ((x :: ws).map fun p => D.tup [.int p.1, p.2.enc]) 0 (by
        intro d hd
        obtain ⟨p, hp, rfl⟩ := List.mem_map.mp hd
        have := game_plc (h.2.2 p hp).2
        simp only [plc, plcs, List.map_cons, List.map_nil, List.length_cons, List.length_append, List.length_map, List.length_nil]
        omega)
      rw [List.length_map] at h1
      have h2 := h.2.1
      have h3 : (x :: ws).length * (2 + szG n) ≤ 3 * (2 + szG n) := Nat.mul_le_mul_right _ h2
      generalize (x :: ws).map (fun p => D.tup [.int p.1, p.2.enc]) = L at *
      simp only [plc, plcs, List.map_cons, List.map_nil, List.length_cons, List.length_append, List.length_map, List.length_nil, szG]
      omega
theorem game_nc {n : Nat} {g : Game} (h : g.Ok n) : nc (3 * n) 3 g.enc = true := ti_nc (game_ti h)
theorem game_okD {n : Nat} {g : Game} (h : g.Ok n) : okD g.enc = true := (nc_pl _ _ _ (game_nc h)).2
theorem game_isG {g : Game} (h : g.Ok 4) : isG 4 g.enc = true := by
  have h1 := game_any (game_okD h)
  rw [game_ok h] at h1
  injection h1 with h1
  injection h1 with h1
  exact h1.symm
theorem spoilt_game {pk : Nat → Int → Int} (hp : PkOk pk) (at_ : Nat) {g : Game} (h : g.Ok 4) : ∃ d, d__law_spoilt_thing pk [.scr0, .int (at_ : Int), g.enc] = .ok d ∧ nc 30 4 d = true := by
  have hl := game_plc h
  obtain ⟨p, new, h1, h2, h3⟩ := spoilt_ok hp at_ (game_ti h) (by decide) (by decide) (Nat.le_trans hl (by decide))
  exact ⟨_, h3, nc_mono (putP_nc (game_ti h) h2 (by decide)) (by decide) (by decide)⟩
theorem word_ok {c : Nat} (h : c = 1 ∨ c = 2 ∨ c = 3 ∨ c = 4 ∨ c = 5 ∨ c = 6) : d__law_word [.exc c] = .ok (.str (["", "no game", "no path", "no rule", "no bets", "unpaid", "no text"].getD c "")) := by
  rcases h with rfl | rfl | rfl | rfl | rfl | rfl <;> rfl
end Kx
namespace Kx
open PySem PySem.Spec L2 Sm
theorem ix_lst {ds : List D} {i : Nat} {d : D} (h : ds[i]? = some d) : oIx (.lst ds) (.int (i : Int)) = some d := by
  show atI ds (i : Int) = _
  rw [atI_nat' (List.getElem?_eq_some_iff.mp h).1, h]
theorem oLen_enc (g : Game) : oLen [g.enc] = some (.int (if g.ways = [] then 1 else 2)) := by
  cases g with
  | node w ws =>
    cases ws with
    | nil => rw [enc_end]; rfl
    | cons x ws => rw [enc_go]; rfl
end Kx
namespace Kx
open PySem PySem.Spec L2 Sm
end Kx
namespace Sm
open PySem PySem.Spec L2
inductive RT where
  | stop | go (rs : List RT)
namespace RT
theorem lt_of_mem {rs : List RT} {r : RT} (h : r ∈ rs) : sizeOf r < sizeOf (RT.go rs) := by
  have h1 := List.sizeOf_lt_of_mem h
  simp
  omega
def paths : RT → List (List Nat)
  | .stop => [[]]
  | .go rs => Game.idxs 0 (rs.map fun r => r.paths)
termination_by t => sizeOf t
decreasing_by exact lt_of_mem ‹_›
theorem paths_go (rs : List RT) : paths (.go rs) = Game.idxs 0 (rs.map paths) := by rw [paths]
end RT
mutual
inductive RuleOf : Game → RT → Prop
  | stop (g : Game) : RuleOf g .stop
  | go {w : Int} {ws : List (Int × Game)} {rs : List RT} : ws ≠ [] → RulesOf ws rs → RuleOf (.node w ws) (.go rs)
inductive RulesOf : List (Int × Game) → List RT → Prop
  | nil : RulesOf [] []
  | cons {x : Int × Game} {ws : List (Int × Game)} {r : RT} {rs : List RT} : RuleOf x.2 r → RulesOf ws rs → RulesOf (x :: ws) (r :: rs)
end
theorem RulesOf.length : ∀ {ws : List (Int × Game)} {rs : List RT}, RulesOf ws rs → ws.length = rs.length
  | _, _, .nil => rfl
  | _, _, .cons _ t => by rw [List.length_cons, List.length_cons, RulesOf.length t]
theorem RulesOf.get : ∀ {ws : List (Int × Game)} {rs : List RT} {i : Nat} {x : Int × Game} {r : RT}, RulesOf ws rs → ws[i]? = some x → rs[i]? = some r → RuleOf x.2 r
  | _, _, _, _, _, .nil, h, _ => by simp at h
  | _, _, 0, _, _, .cons h _, h1, h2 => by cases h1; cases h2; exact h
  | _, _, i + 1, _, _, .cons _ t, h1, h2 => RulesOf.get (i := i) t (by simpa using h1) (by simpa using h2)
namespace Game
theorem part_c {g : Game} {i : Nat} {x : Int × Game} (p : List Nat) (h : g.ways[i]? = some x) : g.part (i :: p) = x.2.part p := by
  simp only [part, h]
end Game
end Sm
namespace Sm
namespace Game
end Game
end Sm
namespace Kx
open PySem PySem.Spec L2 Sm
end Kx
namespace Sm
open PySem PySem.Spec L2
namespace RT
theorem ind {P : RT → Prop} (h0 : P .stop) (h : ∀ rs, (∀ r ∈ rs, P r) → P (.go rs)) : ∀ t, P t
  | .stop => h0
  | .go rs => h rs fun r hr => ind h0 h r
termination_by t => sizeOf t
decreasing_by exact lt_of_mem hr
end RT
theorem mem_idxs' {p : List Nat} {l : List (List (List Nat))} : p ∈ Game.idxs 0 l ↔ ∃ i q, p = i :: q ∧ ∃ ps, l[i]? = some ps ∧ q ∈ ps := by
  rw [Game.mem_idxs]
  simp only [Nat.zero_add]
namespace Game
end Game
end Sm
namespace Kx
open PySem PySem.Spec L2 Sm
end Kx
namespace Kx
open PySem PySem.Spec L2 Sm
end Kx
namespace Sm
abbrev PL := List (List Nat)
def more (S : List PL) (R : List PL) (k : Nat) : List PL := S.flatMap fun a => R.map fun r => a ++ r.map (k :: ·)
namespace Game
def rl : Game → List PL
  | .node _ ws => if ws = [] then [[[]]] else [[]] :: ((ws.map fun p => p.2.rl).zipIdx).foldl (fun S x => more S x.1 x.2) [[]]
termination_by g => sizeOf g
decreasing_by exact lt_of_mem ‹_›
end Game
namespace Game
def cnt : Nat → Nat
  | 0 => 0
  | n + 1 => 1 + cnt n * cnt n * cnt n
end Game
end Sm
namespace Kx
open PySem PySem.Spec L2 Sm
end Kx
namespace Kx
open PySem PySem.Spec L2 Sm
end Kx
namespace Sm
namespace Game
def shr (g : Game) (x : Int × Game) : Rat := Rat.divInt x.1 g.total
def gain (g : Game) : Rat := qsum (g.ways.map fun x => g.shr x * ((x.2.worth - g.worth : Int) : Rat))
inductive Gains (P : Rat → Prop) : Game → Prop
  | mk {w : Int} {ws : List (Int × Game)} : (ws ≠ [] → P (gain (.node w ws))) → (∀ p ∈ ws, Gains P p.2) → Gains P (.node w ws)
theorem Gains.at {P : Rat → Prop} : ∀ {p : List Nat} {g : Game}, Gains P g → g.IsPath p → Gains P (g.part p)
  | [], g, h, _ => h
  | i :: p, .node w ws, h, hp => by
    simp only [IsPath, ways] at hp
    cases hx : ws[i]? with
    | none => rw [hx] at hp; exact hp.elim
    | some x =>
      rw [hx] at hp
      rw [part_c (g := .node w ws) p hx]
      cases h with
      | mk _ h2 => exact (h2 x (List.mem_of_getElem? hx)).at hp
end Game
end Sm
namespace Sm
namespace Game
end Game
end Sm
namespace Kx
open PySem PySem.Spec L2 Sm
end Kx
namespace Kx
open PySem PySem.Spec L2 Sm
end Kx
namespace Sm
namespace RT
theorem mem_go {rs : List RT} {p : List Nat} : p ∈ (RT.go rs).paths ↔ ∃ i q r, p = i :: q ∧ rs[i]? = some r ∧ q ∈ r.paths := by
  rw [paths_go, mem_idxs']
  constructor
  · rintro ⟨i, q, h1, ps, h2, h3⟩
    rw [List.getElem?_map, Option.map_eq_some_iff] at h2
    obtain ⟨r, h4, rfl⟩ := h2
    exact ⟨i, q, r, h1, h4, h3⟩
  · rintro ⟨i, q, r, h1, h2, h3⟩
    exact ⟨i, q, h1, r.paths, by rw [List.getElem?_map, h2]; rfl, h3⟩
theorem mem_cons {rs : List RT} {i : Nat} {q : List Nat} {r : RT} (h : rs[i]? = some r) : i :: q ∈ (RT.go rs).paths ↔ q ∈ r.paths := by
  rw [mem_go]
  constructor
  · rintro ⟨j, q', r', h1, h2, h3⟩
    injection h1 with h1 h1'
    subst h1 h1'
    rw [h] at h2; cases h2; exact h3
  · exact fun hq => ⟨i, q, r, rfl, h, hq⟩
mutual
def join : RT → RT → RT
  | .stop, s => s
  | .go rs, .stop => .go rs
  | .go rs, .go ss => .go (joins rs ss)
def joins : List RT → List RT → List RT
  | r :: rs, s :: ss => join r s :: joins rs ss
  | _, _ => []
end
end RT
open RT
namespace Game
end Game
end Sm
namespace Kx
open PySem PySem.Spec L2 Sm
end Kx
namespace Kx
open PySem PySem.Spec L2 Sm
def stT : DT := asB (dBin oNe (dVar 4) (dLst dNil))
def stB (pk : Nat → Int → Int) : DS := (dSeq (dPop 4 (.t [(.v 5), (.v 6)]))
    (dSeq (dSet [4, 3] 1 (dBin oAdd (dVar 1) (dC (.int 1))))
    (dIfS (dOrT (asB (dBin oEq (dB oLen (dCons (dVar 6) dNil)) (dC (.int 1)))) (asB (dBin oEq (dCall (dPick pk) (dCons (dVar 0) (dCons (dVar 1) (dCons (dC (.int 3)) dNil)))) (dC (.int 0))))) (dApp [4, 3] 3 (dVar 5)) (dExt [4, 3] 4 (dLc [7, 8, 9] (.t [(.v 7), (.t [(.v 8), (.v 9)])]) (dRng enumD (dCons (dBin oIx (dVar 6) (dC (.int 1))) dNil)) dYes (dTup (dCons (dBin oAdd (dVar 5) (dTup (dCons (dVar 7) dNil))) (dCons (dVar 9) dNil))))))))
def encRow (x : List Nat × Game) : D := .tup [encP x.1, x.2.enc]
def stE (g : D) (k : Nat) (some_ : PL) (rows : List (List Nat × Game)) (x5 x6 : Option D) : Sm.Env := [some .scr0, some (.int (k : Int)), some g, some (.lst (some_.map encP)), some (.lst (rows.map encRow)), x5, x6, none, none, none]
def Sub (pk : Nat → Int → Int) (g : D) (s : Game) : Prop := ∀ (d : Nat), s.Ok d → d ≤ 4 → ∀ (road : List Nat) (rows : List (List Nat × Game)) (some_ : PL) (k : Nat) (x5 x6 : Option D), (∀ y ∈ rows, y.2.Ok 4) → road.length + d ≤ 90 → some_.length + rows.length + 3 * s.paths.length ≤ 50000 →
  ∃ (t : RT) (L : PL) (k' : Nat) (y5 y6 : Option D) (m : Nat), RuleOf s t ∧ L.Perm (t.paths.map (road ++ ·)) ∧ m ≤ s.paths.length ∧ L.length ≤ s.paths.length ∧ ∀ N, whileGo stT (stB pk) (N + m) (stE g k some_ (rows ++ [(road, s)]) x5 x6) = whileGo stT (stB pk) N (stE g k' (some_ ++ L) rows y5 y6)
end Kx
namespace Sm
namespace Game
end Game
end Sm
namespace Kx
open PySem PySem.Spec L2 Sm
end Kx
namespace Kx
open PySem PySem.Spec L2 Sm
end Kx
namespace Sm
end Sm
namespace Kx
open PySem PySem.Spec L2 Sm
end Kx
namespace Sm
end Sm
namespace Kx
open PySem PySem.Spec L2 Sm
end Kx
namespace Kx
open PySem PySem.Spec L2 Sm
end Kx
namespace Sm
namespace Game
end Game
end Sm
namespace Kx
open PySem PySem.Spec L2 Sm
end Kx
namespace Sm
end Sm
namespace Kx
open PySem PySem.Spec L2 Sm
theorem seq_nx {f h : DS} {ρ ρ1 : Sm.Env} {o : O} (h1 : f ρ = .nx ρ1) (h2 : h ρ1 = o) : dSeq f h ρ = o := by
  unfold dSeq; rw [h1]; exact h2
end Kx
namespace Sm
namespace Game
end Game
end Sm
namespace Kx
open PySem PySem.Spec L2 Sm
end Kx
namespace Kx
open PySem PySem.Spec L2 Sm
def sqI (k : Int) : Rat := ((k * k : Int) : Rat)
section
variable {g : Game} {t : RT}
end
end Kx
namespace Sm
namespace Game
end Game
end Sm
namespace Kx
open PySem PySem.Spec L2 Sm
end Kx
namespace Sm
namespace Game
end Game
end Sm
namespace Kx
open PySem PySem.Spec L2 Sm
def sts (g : Game) (p : List Nat) (ws : List (Int × Game)) (k : Nat) : List Rat := (ws.zipIdx k).map fun x => g.chance (p ++ [x.2]) * sqI (x.1.2.worth - (g.part p).worth)
end Kx
namespace Sm
namespace Game
end Game
end Sm
namespace Kx
open PySem PySem.Spec L2 Sm
theorem isG_ok : ∀ (n : Nat) (g : Game), isG n g.enc = true → g.Ok n
  | 0, _, h => by cases h
  | n + 1, .node w ws, h => by
    cases ws with
    | nil =>
      rw [enc_end] at h
      simp only [isG, wh, Bool.and_eq_true, decide_eq_true_eq] at h
      exact ⟨h, by simp, by simp⟩
    | cons x ws =>
      rw [enc_go] at h
      simp only [isG, wh, Bool.and_eq_true, decide_eq_true_eq, List.length_map] at h
      refine ⟨h.1, h.2.1.2, fun p hp => ?_⟩
      have := List.all_eq_true.mp h.2.2 _ (List.mem_map.mpr ⟨p, hp, rfl⟩)
      simp only [isW, wh, Bool.and_eq_true, decide_eq_true_eq] at this
      exact ⟨this.1, isG_ok n p.2 this.2⟩
theorem enc_okD : ∀ g : Game, okD g.enc = true := by
  apply Game.ind
  intro w ws ih
  cases ws with
  | nil => rw [enc_end]; simp [okD, okDs]
  | cons x ws =>
    rw [enc_go]
    simp only [okD, okDs, Bool.true_and, Bool.and_true]
    refine okDs_all fun d hd => ?_
    obtain ⟨p, hp, rfl⟩ := List.mem_map.mp hd
    simp only [okD, okDs, Bool.true_and, Bool.and_true]
    exact ih p hp
end Kx
namespace Kx
open PySem PySem.Spec L2 Sm
abbrev Tx (l : List Nat) : Str := SX.S l
theorem cutS_S (a : List Nat) (lo hi : Option Int) : cutS (Tx a) lo hi = Tx (cutD a lo hi) := by
  unfold cutS cutD
  rw [show (Tx a).length = a.length from SX.S_len a]
theorem cut_mid {α : Type} (a : List α) (i j : Nat) : cutD a (some (i : Int)) (some (j : Int)) = (a.drop i).take (j - i) := by
  unfold cutD
  rw [HT.sIx_nat, HT.sIx_nat]
  by_cases h : i ≤ a.length
  · rw [Nat.min_eq_left h]
    by_cases hj : j ≤ a.length
    · rw [Nat.min_eq_left hj]
    · rw [Nat.min_eq_right (by omega), List.take_of_length_le (by rw [List.length_drop]; omega), List.take_of_length_le (by rw [List.length_drop]; omega)]
  · have e : min i a.length = a.length := Nat.min_eq_right (by omega)
    rw [e, List.drop_eq_nil_of_le (Nat.le_refl _), List.drop_eq_nil_of_le (show a.length ≤ i by omega)]
    simp
theorem slT {a : List Nat} (h : a.length ≤ 100000) (i j : Nat) : oSl (.str (Tx a)) (some (i : Int)) (some (j : Int)) = some (.str (Tx ((a.drop i).take (j - i)))) := by
  simp only [oSl]
  rw [show (Tx a).length = a.length from SX.S_len a, if_pos (Nat.le_trans h sizeLine_big), cutS_S, cut_mid]
theorem slTo {a : List Nat} (h : a.length ≤ 100000) (j : Nat) : oSl (.str (Tx a)) none (some (j : Int)) = some (.str (Tx (a.take j))) := by
  simp only [oSl]
  rw [show (Tx a).length = a.length from SX.S_len a, if_pos (Nat.le_trans h sizeLine_big), cutS_S, cut_take]
theorem slFrom {a : List Nat} (h : a.length ≤ 100000) (i : Nat) : oSl (.str (Tx a)) (some (i : Int)) none = some (.str (Tx (a.drop i))) := by
  simp only [oSl]
  rw [show (Tx a).length = a.length from SX.S_len a, if_pos (Nat.le_trans h sizeLine_big), cutS_S, cut_drop]
theorem addT {a b : List Nat} (h : a.length + b.length ≤ 100000) : oAdd (.str (Tx a)) (.str (Tx b)) = some (.str (Tx (a ++ b))) := by
  simp only [oAdd]
  rw [show (Tx a).length = a.length from SX.S_len a, show (Tx b).length = b.length from SX.S_len b, if_pos (Nat.le_trans h sizeLine_big), SX.S_cat]
end Kx
namespace Kx
open PySem PySem.Spec L2 Sm
def As (a : List Nat) : Bool := a.all (· < 128)
theorem strOk_S {a : List Nat} (h : As a = true) : PySem.PyData.strOk (Tx a) = true := by
  unfold PySem.PyData.strOk As at *
  rw [← Array.all_toList]
  show a.all (· < 0x110000) = true
  rw [List.all_eq_true] at h ⊢
  intro c hc
  have := of_decide_eq_true (h c hc)
  exact decide_eq_true (by omega)
theorem eqT {a b : List Nat} (ha : As a = true) (hb : As b = true) : oEq (.str (Tx a)) (.str (Tx b)) = some (.bl (decide (a = b))) := by
  unfold oEq
  simp only [pln, strOk_S ha, strOk_S hb, Bool.and_self, if_true, deq, SX.S_beq_eq]
theorem neT {a b : List Nat} (ha : As a = true) (hb : As b = true) : oNe (.str (Tx a)) (.str (Tx b)) = some (.bl (!decide (a = b))) := by
  unfold oNe
  simp only [pln, strOk_S ha, strOk_S hb, Bool.and_self, if_true, deq, SX.S_beq_eq]
theorem As_take {a : List Nat} (h : As a = true) (k : Nat) : As (a.take k) = true := by
  unfold As at *
  rw [List.all_eq_true] at *
  exact fun c hc => h c (List.mem_of_mem_take hc)
theorem As_drop {a : List Nat} (h : As a = true) (k : Nat) : As (a.drop k) = true := by
  unfold As at *
  rw [List.all_eq_true] at *
  exact fun c hc => h c (List.mem_of_mem_drop hc)
theorem As_app {a b : List Nat} (h : As a = true) (h' : As b = true) : As (a ++ b) = true := by
  unfold As at *
  rw [List.all_append, h, h']; rfl
def one (a : List Nat) (p : Nat) : List Nat := (a.drop p).take 1
def isC (a : List Nat) (p c : Nat) : Bool := decide (a[p]? = some c)
theorem one_eq (a : List Nat) (p c : Nat) : decide (one a p = [c]) = isC a p c := by
  unfold one isC
  cases h : a[p]? with
  | none =>
    rw [List.drop_eq_nil_of_le (List.getElem?_eq_none_iff.mp h)]
    rfl
  | some d =>
    obtain ⟨hp, e⟩ := List.getElem?_eq_some_iff.mp h
    rw [List.drop_eq_getElem_cons hp, e]
    simp
theorem slT1 {a : List Nat} (h : a.length ≤ 100000) (p : Nat) : oSl (.str (Tx a)) (some (p : Int)) (some ((p : Int) + 1)) = some (.str (Tx (one a p))) := by
  rw [show ((p : Int) + 1) = ((p + 1 : Nat) : Int) by omega, slT h, show p + 1 - p = 1 by omega]; rfl
theorem eq1 {a : List Nat} (h : As a = true) (p : Nat) {c : Nat} {s : Str} (hs : s = Tx [c]) (hc : c < 128) : oEq (.str (Tx (one a p))) (.str s) = some (.bl (isC a p c)) := by
  rw [hs, show one a p = (a.drop p).take 1 from rfl, eqT (As_take (As_drop h p) 1) (by simp [As, hc])]; exact congrArg (fun b => some (D.bl b)) (one_eq a p c)
theorem ne1 {a : List Nat} (h : As a = true) (p : Nat) {c : Nat} {s : Str} (hs : s = Tx [c]) (hc : c < 128) : oNe (.str (Tx (one a p))) (.str s) = some (.bl (!isC a p c)) := by
  rw [hs, show one a p = (a.drop p).take 1 from rfl, neT (As_take (As_drop h p) 1) (by simp [As, hc])]; exact congrArg (fun b => some (D.bl (!b))) (one_eq a p c)
def isDg (o : Option Nat) : Bool := match o with | some c => decide (48 ≤ c) && decide (c ≤ 57) | none => false
def dgs (a : List Nat) (q : Nat) : Nat := if isDg a[q]? = true then (if isDg a[q + 1]? = true then 2 else 1) else 0
def sgn (a : List Nat) (p : Nat) : Nat := if isC a p 45 = true then 1 else 0
def dvl (a : List Nat) (q n : Nat) : Nat := PySem.NumText.digitsVal ((a.drop q).take n)
def numAt (a : List Nat) (p : Nat) : Option (Int × Nat) :=
  if dgs a (p + sgn a p) = 0 then none
  else some (if isC a p 45 = true then -((dvl a (p + 1) (dgs a (p + 1)) : Nat) : Int) else ((dvl a p (dgs a p) : Nat) : Int), p + sgn a p + dgs a (p + sgn a p))
theorem in_figs (c : Nat) : oInS (.str ⟨#[c]⟩) (.str "0123456789") = some (.bl (isDg (some c))) := by
  have e : ("0123456789" : Str) = SX.S [48, 49, 50, 51, 52, 53, 54, 55, 56, 57] := by rfl
  show some (D.bl (!(Builtin.Str.occurrences ("0123456789" : Str) (SX.S [c]) 0 ("0123456789" : Str).length 1).isEmpty)) = _
  rw [e, SX.in_one]
  congr 2
  rw [Bool.eq_iff_iff]
  simp only [isDg, List.mem_cons, List.not_mem_nil, or_false, decide_eq_true_eq, Bool.and_eq_true]
  omega
theorem dgs_le (a : List Nat) (q : Nat) : dgs a q ≤ 2 := by
  unfold dgs; split
  · split <;> omega
  · omega
theorem dgs_in {a : List Nat} {q : Nat} : q + dgs a q ≤ max a.length q := by
  unfold dgs
  by_cases h : isDg a[q]? = true
  · rw [if_pos h]
    by_cases h2 : isDg a[q + 1]? = true
    · rw [if_pos h2]
      cases e : a[q + 1]? with
      | none => rw [e] at h2; cases h2
      | some c => have := (List.getElem?_eq_some_iff.mp e).1; omega
    · rw [if_neg h2]
      cases e : a[q]? with
      | none => rw [e] at h; cases h
      | some c => have := (List.getElem?_eq_some_iff.mp e).1; omega
  · rw [if_neg h]; omega
theorem dg_range {a : List Nat} {q i c : Nat} (hi : i < dgs a q) (h : a[q + i]? = some c) : 48 ≤ c ∧ c ≤ 57 := by
  unfold dgs at hi
  by_cases h1 : isDg a[q]? = true
  · rw [if_pos h1] at hi
    by_cases h2 : isDg a[q + 1]? = true
    · rw [if_pos h2] at hi
      rcases (show i = 0 ∨ i = 1 by omega) with rfl | rfl
      · rw [Nat.add_zero] at h
        rw [h] at h1
        simpa [isDg] using h1
      · rw [h] at h2
        simpa [isDg] using h2
    · rw [if_neg h2] at hi
      have : i = 0 := by omega
      subst this
      rw [Nat.add_zero] at h
      rw [h] at h1
      simpa [isDg] using h1
  · rw [if_neg h1] at hi; omega
theorem dg_all (a : List Nat) (q : Nat) : ∀ c ∈ (a.drop q).take (dgs a q), 48 ≤ c ∧ c ≤ 57 := by
  intro c hc
  obtain ⟨i, hi⟩ := List.mem_iff_getElem?.mp hc
  have hl : i < dgs a q := by
    have := (List.getElem?_eq_some_iff.mp hi).1
    rw [List.length_take] at this
    omega
  rw [List.getElem?_take_of_lt hl, List.getElem?_drop] at hi
  exact dg_range hl hi
theorem dg_len {a : List Nat} {q : Nat} : ((a.drop q).take (dgs a q)).length = dgs a q := by
  rw [List.length_take, List.length_drop]
  by_cases h : q ≤ a.length
  · have := @dgs_in a q
    omega
  · have : dgs a q = 0 := by
      unfold dgs
      rw [List.getElem?_eq_none (by omega)]
      rfl
    omega
theorem isC_in {a : List Nat} {p c : Nat} (h : isC a p c = true) : p < a.length := (List.getElem?_eq_some_iff.mp (of_decide_eq_true h)).1
def nbT : DT := dAndT (asB (dBin oLt (dVar 2) (dB oLen (dCons (dVar 0) dNil)))) (dAndT (asB (dBin oInS (dBin oIx (dVar 0) (dVar 2)) (dC (.str "0123456789")))) (asB (dBin oLt (dBin oSubI (dVar 2) (dVar 3)) (dC (.int 2)))))
theorem nb_t {a : List Nat} (hl : a.length ≤ 100000) (x1 : Option D) (e q : Nat) (hq : q ≤ e) : nbT [some (.str (Tx a)), x1, some (.int (e : Int)), some (.int (q : Int))] = .ok (isDg a[e]? && decide (e - q < 2)) := by
  have ln : oLen [.str (Tx a)] = some (.int (a.length : Int)) := by
    simp only [oLen]
    rw [show (Tx a).length = a.length from SX.S_len a, if_pos (Nat.le_trans hl sizeLine_big)]
  unfold nbT
  by_cases h : e < a.length
  · have ix : oIx (.str (Tx a)) (.int (e : Int)) = some (.str ⟨#[a[e]]⟩) := by
      simp only [oIx]
      rw [show (Tx a).length = a.length from SX.S_len a, if_pos (Nat.le_trans hl sizeLine_big)]
      show (atI a (e : Int)).map _ = _
      rw [show atI a (e : Int) = some a[e] by
        unfold atI ixN
        simp [h]]
      rfl
    have e1 : decide ((e : Int) < (a.length : Int)) = true := decide_eq_true (by omega)
    have e2 : decide ((e : Int) - (q : Int) < 2) = decide (e - q < 2) := by
      by_cases h2 : e - q < 2
      · rw [decide_eq_true h2, decide_eq_true (by omega)]
      · rw [decide_eq_false h2, decide_eq_false (by omega)]
    rw [List.getElem?_eq_getElem h]
    cases hd : isDg (some a[e]) with
    | true => simp only [ln, e1, ix, in_figs, hd, e2, defD, args, dSeq, dSet, dSetP, dSetN, lstAt, dApp, dAppP, dAsg, dPar, dDrop, dWhile, dIfS, dRet, dB, dCall, dCons, dNil, dVar, dC, dBin, dChain, asB, dTru, dNotT, dAndT, dOrT, dAnd, dOr, dNot, dIf, dUn, dTup, dLst, dItems, dYes, R.bind, R.to, O.seq, outR, ofO, noErr, mask, Sm.putIn, bindPat, bindPats, itemsOf, tru, List.foldr_cons, List.foldr_nil, List.length_cons, List.length_nil, List.map_cons, List.map_nil, List.cons_append, List.nil_append, Nat.sub_self, List.replicate_zero, List.replicate_succ, List.getElem?_cons_succ, List.getElem?_cons_zero, List.set_cons_zero, List.set_cons_succ, Nat.reduceAdd, Nat.reduceSub, ↓reduceIte, Bool.not_true, Bool.not_false, Bool.and_true, Bool.true_and, Bool.false_and, Bool.and_false, if_true, if_false, Bool.false_eq_true, oNeg, oAddI, oSubI, oAdd_ii, oLt, oLe, oGt, oGe, Option.bind_some, Option.map_some]
    | false => simp only [ln, e1, ix, in_figs, hd, e2, defD, args, dSeq, dSet, dSetP, dSetN, lstAt, dApp, dAppP, dAsg, dPar, dDrop, dWhile, dIfS, dRet, dB, dCall, dCons, dNil, dVar, dC, dBin, dChain, asB, dTru, dNotT, dAndT, dOrT, dAnd, dOr, dNot, dIf, dUn, dTup, dLst, dItems, dYes, R.bind, R.to, O.seq, outR, ofO, noErr, mask, Sm.putIn, bindPat, bindPats, itemsOf, tru, List.foldr_cons, List.foldr_nil, List.length_cons, List.length_nil, List.map_cons, List.map_nil, List.cons_append, List.nil_append, Nat.sub_self, List.replicate_zero, List.replicate_succ, List.getElem?_cons_succ, List.getElem?_cons_zero, List.set_cons_zero, List.set_cons_succ, Nat.reduceAdd, Nat.reduceSub, ↓reduceIte, Bool.not_true, Bool.not_false, Bool.and_true, Bool.true_and, Bool.false_and, Bool.and_false, if_true, if_false, Bool.false_eq_true, oNeg, oAddI, oSubI, oAdd_ii, oLt, oLe, oGt, oGe, Option.bind_some, Option.map_some]
  · have e1 : decide ((e : Int) < (a.length : Int)) = false := decide_eq_false (by omega)
    rw [List.getElem?_eq_none (by omega)]
    simp only [ln, e1, isDg, defD, args, dSeq, dSet, dSetP, dSetN, lstAt, dApp, dAppP, dAsg, dPar, dDrop, dWhile, dIfS, dRet, dB, dCall, dCons, dNil, dVar, dC, dBin, dChain, asB, dTru, dNotT, dAndT, dOrT, dAnd, dOr, dNot, dIf, dUn, dTup, dLst, dItems, dYes, R.bind, R.to, O.seq, outR, ofO, noErr, mask, Sm.putIn, bindPat, bindPats, itemsOf, tru, List.foldr_cons, List.foldr_nil, List.length_cons, List.length_nil, List.map_cons, List.map_nil, List.cons_append, List.nil_append, Nat.sub_self, List.replicate_zero, List.replicate_succ, List.getElem?_cons_succ, List.getElem?_cons_zero, List.set_cons_zero, List.set_cons_succ, Nat.reduceAdd, Nat.reduceSub, ↓reduceIte, Bool.not_true, Bool.not_false, Bool.and_true, Bool.true_and, Bool.false_and, Bool.and_false, if_true, if_false, Bool.false_eq_true, oNeg, oAddI, oSubI, oAdd_ii, oLt, oLe, oGt, oGe, Option.bind_some, Option.map_some]
theorem nb_go {a : List Nat} (hl : a.length ≤ 100000) (x1 : Option D) (q : Nat) : whileGo nbT (dSet [] 2 (dBin oAdd (dVar 2) (dC (.int 1)))) 4 [some (.str (Tx a)), x1, some (.int (q : Int)), some (.int (q : Int))] = .nx [some (.str (Tx a)), x1, some (.int ((q + dgs a q : Nat) : Int)), some (.int (q : Int))] := by
  have s1 : ∀ e : Nat, dSet [] 2 (dBin oAdd (dVar 2) (dC (.int 1))) [some (.str (Tx a)), x1, some (.int (e : Int)), some (.int (q : Int))] = .nx [some (.str (Tx a)), x1, some (.int ((e + 1 : Nat) : Int)), some (.int (q : Int))] := fun e => by
    simp only [Int.natCast_add, Int.cast_ofNat_Int, defD, args, dSeq, dSet, dSetP, dSetN, lstAt, dApp, dAppP, dAsg, dPar, dDrop, dWhile, dIfS, dRet, dB, dCall, dCons, dNil, dVar, dC, dBin, dChain, asB, dTru, dNotT, dAndT, dOrT, dAnd, dOr, dNot, dIf, dUn, dTup, dLst, dItems, dYes, R.bind, R.to, O.seq, outR, ofO, noErr, mask, Sm.putIn, bindPat, bindPats, itemsOf, tru, List.foldr_cons, List.foldr_nil, List.length_cons, List.length_nil, List.map_cons, List.map_nil, List.cons_append, List.nil_append, Nat.sub_self, List.replicate_zero, List.replicate_succ, List.getElem?_cons_succ, List.getElem?_cons_zero, List.set_cons_zero, List.set_cons_succ, Nat.reduceAdd, Nat.reduceSub, ↓reduceIte, Bool.not_true, Bool.not_false, Bool.and_true, Bool.true_and, Bool.false_and, Bool.and_false, if_true, if_false, Bool.false_eq_true, oNeg, oAddI, oSubI, oAdd_ii, oLt, oLe, oGt, oGe, Option.bind_some, Option.map_some]
  have t0 := nb_t hl x1 q q (Nat.le_refl _)
  have t1 := nb_t hl x1 (q + 1) q (by omega)
  have t2 := nb_t hl x1 (q + 2) q (by omega)
  rw [show decide (q - q < 2) = true from decide_eq_true (by omega), Bool.and_true] at t0
  rw [show decide (q + 1 - q < 2) = true from decide_eq_true (by omega), Bool.and_true] at t1
  rw [show decide (q + 2 - q < 2) = false from decide_eq_false (by omega), Bool.and_false] at t2
  unfold dgs
  cases h0 : isDg a[q]? with
  | false => simp only [whileGo, t0, h0, R.to, Bool.false_eq_true, if_false, Nat.add_zero]
  | true =>
    cases h1 : isDg a[q + 1]? with
    | false => simp only [whileGo, t0, h0, s1, t1, h1, R.to, O.seq, Bool.false_eq_true, if_false, if_true]
    | true => simp only [whileGo, t0, h0, s1, t1, h1, t2, R.to, O.seq, Bool.false_eq_true, if_false, if_true, Nat.add_assoc, Nat.reduceAdd]
theorem int_at {a : List Nat} {p : Nat} (hn : dgs a (p + sgn a p) ≠ 0) : oInt [.str (Tx ((a.drop p).take (p + sgn a p + dgs a (p + sgn a p) - p)))] = some (.int (if isC a p 45 = true then -((dvl a (p + 1) (dgs a (p + 1)) : Nat) : Int) else ((dvl a p (dgs a p) : Nat) : Int))) := by
  have d2 := dgs_le a (p + sgn a p)
  have sl : sgn a p ≤ 1 := by unfold sgn; split <;> omega
  simp only [oInt]
  rw [if_pos (by rw [SX.S_len, List.length_take]; omega)]
  cases hc : isC a p 45 with
  | false =>
    have hs : sgn a p = 0 := by unfold sgn; rw [hc]; rfl
    rw [hs, Nat.add_zero] at hn d2 ⊢
    rw [show p + dgs a p - p = dgs a p by omega]
    have ne : (a.drop p).take (dgs a p) ≠ [] := fun e => by
      have := @dg_len a p
      rw [e] at this
      exact hn this.symm
    rw [PySem.intText_digits (x := Tx ((a.drop p).take (dgs a p))) (dg_all a p) ne (by rw [SX.S_len, dg_len]; omega)]
    rfl
  | true =>
    have hs : sgn a p = 1 := by unfold sgn; rw [hc]; rfl
    rw [hs] at hn d2 ⊢
    rw [show p + 1 + dgs a (p + 1) - p = dgs a (p + 1) + 1 by omega]
    have hp := isC_in hc
    have h45 : a[p] = 45 := by
      have := of_decide_eq_true hc
      rw [List.getElem?_eq_getElem hp] at this
      exact Option.some.inj this
    rw [List.drop_eq_getElem_cons hp, h45, List.take_succ_cons]
    have ne : (a.drop (p + 1)).take (dgs a (p + 1)) ≠ [] := fun e => by
      have := @dg_len a (p + 1)
      rw [e] at this
      exact hn this.symm
    rw [PySem.intText_neg (x := Tx (45 :: (a.drop (p + 1)).take (dgs a (p + 1)))) rfl (dg_all a (p + 1)) ne (by rw [SX.S_len, List.length_cons, dg_len]; omega)]
    rfl
theorem number_at {a : List Nat} (ha : As a = true) (hl : a.length ≤ 100000) (p : Nat) : d_number_at [.str (Tx a), .int (p : Int)] = match numAt a p with | some (z, e) => .ok (.tup [.int z, .int (e : Int)]) | none => .err 6 := by
  refine defD_eq rfl ?_
  unfold b_number_at
  have sl := slT1 hl p
  have eq := eq1 ha p (c := 45) (s := "-") (by rfl) (by decide)
  have e2 : (p : Int) + (if isC a p 45 = true then 1 else 0) = ((p + sgn a p : Nat) : Int) := by
    unfold sgn
    split <;> simp
  apply out_seq (ρ1 := [some (.str (Tx a)), some (.int (p : Int)), some (.int ((p + sgn a p : Nat) : Int)), none])
  · simp only [dSl, dSo, sl, eq, oInt, e2, defD, args, dSeq, dSet, dSetP, dSetN, lstAt, dApp, dAppP, dAsg, dPar, dDrop, dWhile, dIfS, dRet, dB, dCall, dCons, dNil, dVar, dC, dBin, dChain, asB, dTru, dNotT, dAndT, dOrT, dAnd, dOr, dNot, dIf, dUn, dTup, dLst, dItems, dYes, R.bind, R.to, O.seq, outR, ofO, noErr, mask, Sm.putIn, bindPat, bindPats, itemsOf, tru, List.foldr_cons, List.foldr_nil, List.length_cons, List.length_nil, List.map_cons, List.map_nil, List.cons_append, List.nil_append, Nat.sub_self, List.replicate_zero, List.replicate_succ, List.getElem?_cons_succ, List.getElem?_cons_zero, List.set_cons_zero, List.set_cons_succ, Nat.reduceAdd, Nat.reduceSub, ↓reduceIte, Bool.not_true, Bool.not_false, Bool.and_true, Bool.true_and, Bool.false_and, Bool.and_false, if_true, if_false, Bool.false_eq_true, oNeg, oAddI, oSubI, oAdd_ii, oLt, oLe, oGt, oGe, Option.bind_some, Option.map_some]
  apply out_seq; (focus (simp only [defD, args, dSeq, dSet, dSetP, dSetN, lstAt, dApp, dAppP, dAsg, dPar, dDrop, dWhile, dIfS, dRet, dB, dCall, dCons, dNil, dVar, dC, dBin, dChain, asB, dTru, dNotT, dAndT, dOrT, dAnd, dOr, dNot, dIf, dUn, dTup, dLst, dItems, dYes, R.bind, R.to, O.seq, outR, ofO, noErr, mask, Sm.putIn, bindPat, bindPats, itemsOf, tru, List.foldr_cons, List.foldr_nil, List.length_cons, List.length_nil, List.map_cons, List.map_nil, List.cons_append, List.nil_append, Nat.sub_self, List.replicate_zero, List.replicate_succ, List.getElem?_cons_succ, List.getElem?_cons_zero, List.set_cons_zero, List.set_cons_succ, Nat.reduceAdd, Nat.reduceSub, ↓reduceIte, Bool.not_true, Bool.not_false, Bool.and_true, Bool.true_and, Bool.false_and, Bool.and_false, if_true, if_false, Bool.false_eq_true, oNeg, oAddI, oSubI, oAdd_ii, oLt, oLe, oGt, oGe, Option.bind_some, Option.map_some]; try exact rfl))
  apply out_seq
  · unfold dWhile
    exact nb_go hl _ _
  unfold numAt
  by_cases hn : dgs a (p + sgn a p) = 0
  · rw [if_pos hn]
    have c0 : ((((p + sgn a p + dgs a (p + sgn a p) : Nat) : Int)) == ((p + sgn a p : Nat) : Int)) = true := by
      rw [hn, Nat.add_zero]; exact beq_self_eq_true _
    simp only [oEq_int, c0, dRaise, defD, args, dSeq, dSet, dSetP, dSetN, lstAt, dApp, dAppP, dAsg, dPar, dDrop, dWhile, dIfS, dRet, dB, dCall, dCons, dNil, dVar, dC, dBin, dChain, asB, dTru, dNotT, dAndT, dOrT, dAnd, dOr, dNot, dIf, dUn, dTup, dLst, dItems, dYes, R.bind, R.to, O.seq, outR, ofO, noErr, mask, Sm.putIn, bindPat, bindPats, itemsOf, tru, List.foldr_cons, List.foldr_nil, List.length_cons, List.length_nil, List.map_cons, List.map_nil, List.cons_append, List.nil_append, Nat.sub_self, List.replicate_zero, List.replicate_succ, List.getElem?_cons_succ, List.getElem?_cons_zero, List.set_cons_zero, List.set_cons_succ, Nat.reduceAdd, Nat.reduceSub, ↓reduceIte, Bool.not_true, Bool.not_false, Bool.and_true, Bool.true_and, Bool.false_and, Bool.and_false, if_true, if_false, Bool.false_eq_true, oNeg, oAddI, oSubI, oAdd_ii, oLt, oLe, oGt, oGe, Option.bind_some, Option.map_some]
  · rw [if_neg hn]
    have c0 : ((((p + sgn a p + dgs a (p + sgn a p) : Nat) : Int)) == ((p + sgn a p : Nat) : Int)) = false := by
      rw [beq_eq_false_iff_ne]; omega
    have it := int_at (p := p) hn
    have st := slT hl p (p + sgn a p + dgs a (p + sgn a p))
    apply out_seq (ρ1 := [some (.str (Tx a)), some (.int (p : Int)), some (.int ((p + sgn a p + dgs a (p + sgn a p) : Nat) : Int)), some (.int ((p + sgn a p : Nat) : Int))])
    · simp only [oEq_int, c0, defD, args, dSeq, dSet, dSetP, dSetN, lstAt, dApp, dAppP, dAsg, dPar, dDrop, dWhile, dIfS, dRet, dB, dCall, dCons, dNil, dVar, dC, dBin, dChain, asB, dTru, dNotT, dAndT, dOrT, dAnd, dOr, dNot, dIf, dUn, dTup, dLst, dItems, dYes, R.bind, R.to, O.seq, outR, ofO, noErr, mask, Sm.putIn, bindPat, bindPats, itemsOf, tru, List.foldr_cons, List.foldr_nil, List.length_cons, List.length_nil, List.map_cons, List.map_nil, List.cons_append, List.nil_append, Nat.sub_self, List.replicate_zero, List.replicate_succ, List.getElem?_cons_succ, List.getElem?_cons_zero, List.set_cons_zero, List.set_cons_succ, Nat.reduceAdd, Nat.reduceSub, ↓reduceIte, Bool.not_true, Bool.not_false, Bool.and_true, Bool.true_and, Bool.false_and, Bool.and_false, if_true, if_false, Bool.false_eq_true, oNeg, oAddI, oSubI, oAdd_ii, oLt, oLe, oGt, oGe, Option.bind_some, Option.map_some]
    simp only [dSl, dSo, st, it, defD, args, dSeq, dSet, dSetP, dSetN, lstAt, dApp, dAppP, dAsg, dPar, dDrop, dWhile, dIfS, dRet, dB, dCall, dCons, dNil, dVar, dC, dBin, dChain, asB, dTru, dNotT, dAndT, dOrT, dAnd, dOr, dNot, dIf, dUn, dTup, dLst, dItems, dYes, R.bind, R.to, O.seq, outR, ofO, noErr, mask, Sm.putIn, bindPat, bindPats, itemsOf, tru, List.foldr_cons, List.foldr_nil, List.length_cons, List.length_nil, List.map_cons, List.map_nil, List.cons_append, List.nil_append, Nat.sub_self, List.replicate_zero, List.replicate_succ, List.getElem?_cons_succ, List.getElem?_cons_zero, List.set_cons_zero, List.set_cons_succ, Nat.reduceAdd, Nat.reduceSub, ↓reduceIte, Bool.not_true, Bool.not_false, Bool.and_true, Bool.true_and, Bool.false_and, Bool.and_false, if_true, if_false, Bool.false_eq_true, oNeg, oAddI, oSubI, oAdd_ii, oLt, oLe, oGt, oGe, Option.bind_some, Option.map_some]
end Kx
namespace Sm
def Game.Dep : Nat → Game → Prop
  | 0, _ => False
  | n + 1, .node _ ws => ∀ p ∈ ws, Game.Dep n p.2
end Sm
namespace Kx
open PySem PySem.Spec L2 Sm
def waysAt (self : Nat → Option (Game × Nat)) (a : List Nat) : Nat → List (Int × Game) → Nat → Option (List (Int × Game) × Nat)
  | 0, _, _ => none
  | n + 1, acc, m => if (acc.isEmpty || isC a m 32) = true then
      (numAt a (if acc.isEmpty = true then m else m + 1)).bind fun zp => if isC a zp.2 58 = true then (self (zp.2 + 1)).bind fun ge => waysAt self a n (acc ++ [(zp.1, ge.1)]) ge.2 else none
    else some (acc, m)
def gameAt (a : List Nat) : Nat → Nat → Option (Game × Nat)
  | 0, _ => none
  | d + 1, p => (numAt a p).bind fun zp => if isC a zp.2 40 = true then (waysAt (gameAt a d) a 1000 [] (zp.2 + 1)).bind fun we => if isC a we.2 41 = true then some (.node zp.1 we.1, we.2 + 1) else none
      else some (.node zp.1 [], zp.2)
theorem num_le {a : List Nat} {p e : Nat} {z : Int} (h : numAt a p = some (z, e)) : p < e ∧ e ≤ a.length := by
  unfold numAt at h
  split at h
  · cases h
  · rename_i hn
    cases h
    have := @dgs_in a (p + sgn a p)
    omega
theorem wat_le {a : List Nat} {d : Nat} {self : Nat → Option (Game × Nat)} (hs : ∀ q g e, self q = some (g, e) → q < e ∧ e ≤ a.length ∧ Game.Dep d g) : ∀ (n : Nat) (acc : List (Int × Game)) (m : Nat) (ws : List (Int × Game)) (e : Nat),
    m ≤ a.length → (∀ p ∈ acc, Game.Dep d p.2) → waysAt self a n acc m = some (ws, e) → m ≤ e ∧ e ≤ a.length ∧ ws ≠ [] ∧ ∀ p ∈ ws, Game.Dep d p.2
  | 0, _, _, _, _, _, _, h => by cases h
  | n + 1, acc, m, ws, e, hm, ha, h => by
    rw [waysAt] at h
    split at h
    · rw [Option.bind_eq_some_iff] at h
      obtain ⟨⟨z, q⟩, h1, h⟩ := h
      have l1 := num_le h1
      have l2 : m ≤ (if acc.isEmpty = true then m else m + 1) := by split <;> omega
      dsimp only at h
      split at h
      · rename_i hc
        rw [Option.bind_eq_some_iff] at h
        obtain ⟨⟨g, r⟩, h2, h⟩ := h
        have l3 := hs _ _ _ h2
        have := wat_le hs n _ _ ws e l3.2.1 (by
          intro p hp
          rcases List.mem_append.mp hp with hp | hp
          · exact ha p hp
          · rw [List.mem_singleton.mp hp]; exact l3.2.2) h
        exact ⟨by omega, this.2⟩
      · cases h
    · rename_i hc
      cases h
      refine ⟨Nat.le_refl _, hm, ?_, ha⟩
      rintro rfl
      exact hc rfl
theorem game_le (a : List Nat) : ∀ (d p : Nat) (g : Game) (e : Nat), gameAt a d p = some (g, e) → p < e ∧ e ≤ a.length ∧ Game.Dep d g
  | 0, _, _, _, h => by cases h
  | d + 1, p, g, e, h => by
    rw [gameAt, Option.bind_eq_some_iff] at h
    obtain ⟨⟨z, q⟩, h1, h⟩ := h
    have l1 := num_le h1
    dsimp only at h
    split at h
    · rename_i hc
      have hq := isC_in hc
      rw [Option.bind_eq_some_iff] at h
      obtain ⟨⟨ws, r⟩, h2, h⟩ := h
      have l2 := wat_le (fun q g e => game_le a d q g e) 1000 [] (q + 1) ws r (by omega) (by simp) h2
      dsimp only at h
      split at h
      · rename_i hc2
        have := isC_in hc2
        cases h
        exact ⟨by omega, by omega, l2.2.2.2⟩
      · cases h
    · cases h
      exact ⟨l1.1, l1.2, by simp [Game.Dep]⟩
theorem dep_pl : ∀ (d n : Nat) (g : Game), Game.Dep d g → 3 * d ≤ n → pl n g.enc = true
  | 0, _, _, h, _ => h.elim
  | d + 1, n, .node w ws, h, hn => by
    obtain ⟨m, rfl⟩ : ∃ m, n = m + 3 := ⟨n - 3, by omega⟩
    cases ws with
    | nil => rw [enc_end]; simp [pl, pls]
    | cons x ws =>
      rw [enc_go]
      simp only [pl, pls, Bool.true_and, Bool.and_true]
      exact pls_map _ _ fun p hp => by simp only [pl, pls, Bool.true_and, Bool.and_true]; exact dep_pl d m p.2 (h p hp) (by omega)
theorem acc_pl {d : Nat} {acc : List (Int × Game)} (h : ∀ p ∈ acc, Game.Dep d p.2) (hd : d ≤ 10) : pl 64 (.lst (encW acc)) = true := by
  simp only [pl]
  exact pls_map _ _ fun p hp => by simp only [pl, pls, Bool.true_and, Bool.and_true]; exact dep_pl d 62 p.2 (h p hp) (by omega)
theorem lst_nil {xs : List D} (h : pl 64 (.lst xs) = true) : oEq (.lst xs) (.lst []) = some (.bl xs.isEmpty) := by
  unfold oEq
  rw [pl_pln _ 64 h, show pln 64 (.lst []) = true from rfl]
  cases xs <;> simp [deq, deqs]
theorem lst_nnil {xs : List D} (h : pl 64 (.lst xs) = true) : oNe (.lst xs) (.lst []) = some (.bl (!xs.isEmpty)) := by
  unfold oNe
  rw [pl_pln _ 64 h, show pln 64 (.lst []) = true from rfl]
  cases xs <;> simp [deq, deqs]
def gaT : DT := dOrT (asB (dBin oEq (dVar 4) (dLst dNil))) (asB (dBin oEq (dSl (dVar 0) (dSo (dVar 1)) (dSo (dBin oAdd (dVar 1) (dC (.int 1))))) (dC (.str " "))))
def gaB (self : List D → R D) : DS := dSeq (dSetP 1 (dBin oAdd (dVar 1) (dB oInt (dCons (dBin oNe (dVar 4) (dLst dNil)) dNil))))
    (dSeq (dAsg [4] (.t [(.v 5), (.v 1)]) (dCall d_number_at (dCons (dVar 0) (dCons (dVar 1) dNil))))
    (dSeq (dIfS (asB (dBin oNe (dSl (dVar 0) (dSo (dVar 1)) (dSo (dBin oAdd (dVar 1) (dC (.int 1))))) (dC (.str ":")))) (dRaise 6) .nx)
    (dSeq (dAsg [4] (.t [(.v 6), (.v 1)]) (dCall self (dCons (dVar 0) (dCons (dBin oAdd (dVar 1) (dC (.int 1))) (dCons (dBin oSubI (dVar 2) (dC (.int 1))) dNil)))))
    (dApp [4] 4 (dTup (dCons (dVar 5) (dCons (dVar 6) dNil)))))))
theorem ga_t {a : List Nat} (ha : As a = true) (hl : a.length < 1000) {d m : Nat} {acc : List (Int × Game)} (hp : ∀ p ∈ acc, Game.Dep d p.2) (hd : d ≤ 10) (x2 x3 x5 x6 : Option D) :
    gaT [some (.str (Tx a)), some (.int (m : Int)), x2, x3, some (.lst (encW acc)), x5, x6] = .ok (acc.isEmpty || isC a m 32) := by
  have l0 := lst_nil (acc_pl hp hd)
  rw [show (encW acc).isEmpty = acc.isEmpty by unfold encW; cases acc <;> rfl] at l0
  have sl := slT1 (a := a) (by omega) m
  have eq := eq1 ha m (c := 32) (s := " ") (by rfl) (by decide)
  generalize encW acc = L at *
  unfold gaT
  cases hq : acc.isEmpty with
  | true =>
    rw [hq] at l0
    simp only [l0, Bool.true_or, defD, args, dSeq, dSet, dSetP, dSetN, lstAt, dApp, dAppP, dAsg, dPar, dDrop, dWhile, dIfS, dRet, dB, dCall, dCons, dNil, dVar, dC, dBin, dChain, asB, dTru, dNotT, dAndT, dOrT, dAnd, dOr, dNot, dIf, dUn, dTup, dLst, dItems, dYes, R.bind, R.to, O.seq, outR, ofO, noErr, mask, Sm.putIn, bindPat, bindPats, itemsOf, tru, List.foldr_cons, List.foldr_nil, List.length_cons, List.length_nil, List.map_cons, List.map_nil, List.cons_append, List.nil_append, Nat.sub_self, List.replicate_zero, List.replicate_succ, List.getElem?_cons_succ, List.getElem?_cons_zero, List.set_cons_zero, List.set_cons_succ, Nat.reduceAdd, Nat.reduceSub, ↓reduceIte, Bool.not_true, Bool.not_false, Bool.and_true, Bool.true_and, Bool.false_and, Bool.and_false, if_true, if_false, Bool.false_eq_true, oNeg, oAddI, oSubI, oAdd_ii, oLt, oLe, oGt, oGe, Option.bind_some, Option.map_some]
  | false =>
    rw [hq] at l0
    simp only [l0, dSl, dSo, sl, eq, Bool.false_or, defD, args, dSeq, dSet, dSetP, dSetN, lstAt, dApp, dAppP, dAsg, dPar, dDrop, dWhile, dIfS, dRet, dB, dCall, dCons, dNil, dVar, dC, dBin, dChain, asB, dTru, dNotT, dAndT, dOrT, dAnd, dOr, dNot, dIf, dUn, dTup, dLst, dItems, dYes, R.bind, R.to, O.seq, outR, ofO, noErr, mask, Sm.putIn, bindPat, bindPats, itemsOf, tru, List.foldr_cons, List.foldr_nil, List.length_cons, List.length_nil, List.map_cons, List.map_nil, List.cons_append, List.nil_append, Nat.sub_self, List.replicate_zero, List.replicate_succ, List.getElem?_cons_succ, List.getElem?_cons_zero, List.set_cons_zero, List.set_cons_succ, Nat.reduceAdd, Nat.reduceSub, ↓reduceIte, Bool.not_true, Bool.not_false, Bool.and_true, Bool.true_and, Bool.false_and, Bool.and_false, if_true, if_false, Bool.false_eq_true, oNeg, oAddI, oSubI, oAdd_ii, oLt, oLe, oGt, oGe, Option.bind_some, Option.map_some]
def GaOk (a : List Nat) (d : Nat) (self : List D → R D) : Prop := ∀ p : Nat, self [.str (Tx a), .int (p : Int), .int (d : Int)] = match gameAt a d p with | some (g, e) => .ok (.tup [g.enc, .int (e : Int)]) | none => .err 6
theorem ga_go {a : List Nat} (ha : As a = true) (hl : a.length < 1000) {d : Nat} {self : List D → R D} (hd : d ≤ 10) (hs : GaOk a d self) (x3 : Option D) : ∀ (n : Nat) (acc : List (Int × Game)) (m : Nat) (x5 x6 : Option D),
    (∀ p ∈ acc, Game.Dep d p.2) → acc.length ≤ m → m ≤ a.length → a.length < n + m →
    (∃ ws e y5 y6, waysAt (gameAt a d) a n acc m = some (ws, e) ∧ whileGo gaT (gaB self) n [some (.str (Tx a)), some (.int (m : Int)), some (.int ((d + 1 : Nat) : Int)), x3, some (.lst (encW acc)), x5, x6] = .nx [some (.str (Tx a)), some (.int (e : Int)), some (.int ((d + 1 : Nat) : Int)), x3, some (.lst (encW ws)), y5, y6])
    ∨ (waysAt (gameAt a d) a n acc m = none ∧ ∃ ρ', whileGo gaT (gaB self) n [some (.str (Tx a)), some (.int (m : Int)), some (.int ((d + 1 : Nat) : Int)), x3, some (.lst (encW acc)), x5, x6] = .err ρ' 6)
  | 0, _, _, _, _, _, _, h1, h2 => by omega
  | n + 1, acc, m, x5, x6, hp, hm, h1, h2 => by
    have gt := ga_t ha hl (m := m) hp hd (some (.int ((d + 1 : Nat) : Int))) x3 x5 x6
    rw [waysAt]
    cases hc : (acc.isEmpty || isC a m 32) with
    | false =>
      refine .inl ⟨acc, m, x5, x6, by rw [if_neg (by simp)], ?_⟩
      rw [whileGo, gt, hc]
      rfl
    | true =>
      rw [if_pos rfl]
      have l0 := lst_nnil (acc_pl hp hd)
      rw [show (encW acc).isEmpty = acc.isEmpty by unfold encW; cases acc <;> rfl] at l0
      let q := if acc.isEmpty = true then m else m + 1
      have hq : q = if acc.isEmpty = true then m else m + 1 := rfl
      rw [← hq]
      clear_value q
      have eq : (m : Int) + (if (!acc.isEmpty) = true then 1 else 0) = (q : Int) := by
        rw [hq]
        cases acc.isEmpty <;> simp
      have na := number_at ha (by omega) q
      have st1 : dSetP 1 (dBin oAdd (dVar 1) (dB oInt (dCons (dBin oNe (dVar 4) (dLst dNil)) dNil))) [some (.str (Tx a)), some (.int (m : Int)), some (.int ((d + 1 : Nat) : Int)), x3, some (.lst (encW acc)), x5, x6] = .nx [some (.str (Tx a)), some (.int (q : Int)), some (.int ((d + 1 : Nat) : Int)), x3, some (.lst (encW acc)), x5, x6] := by
        generalize encW acc = L at *
        simp only [l0, oInt, eq, pure', defD, args, dSeq, dSet, dSetP, dSetN, lstAt, dApp, dAppP, dAsg, dPar, dDrop, dWhile, dIfS, dRet, dB, dCall, dCons, dNil, dVar, dC, dBin, dChain, asB, dTru, dNotT, dAndT, dOrT, dAnd, dOr, dNot, dIf, dUn, dTup, dLst, dItems, dYes, R.bind, R.to, O.seq, outR, ofO, noErr, mask, Sm.putIn, bindPat, bindPats, itemsOf, tru, List.foldr_cons, List.foldr_nil, List.length_cons, List.length_nil, List.map_cons, List.map_nil, List.cons_append, List.nil_append, Nat.sub_self, List.replicate_zero, List.replicate_succ, List.getElem?_cons_succ, List.getElem?_cons_zero, List.set_cons_zero, List.set_cons_succ, Nat.reduceAdd, Nat.reduceSub, ↓reduceIte, Bool.not_true, Bool.not_false, Bool.and_true, Bool.true_and, Bool.false_and, Bool.and_false, if_true, if_false, Bool.false_eq_true, oNeg, oAddI, oSubI, oAdd_ii, oLt, oLe, oGt, oGe, Option.bind_some, Option.map_some]
      have hw : whileGo gaT (gaB self) (n + 1) [some (.str (Tx a)), some (.int (m : Int)), some (.int ((d + 1 : Nat) : Int)), x3, some (.lst (encW acc)), x5, x6] = (gaB self [some (.str (Tx a)), some (.int (m : Int)), some (.int ((d + 1 : Nat) : Int)), x3, some (.lst (encW acc)), x5, x6]).seq (whileGo gaT (gaB self) n) := by
        rw [whileGo, gt, hc]
        rfl
      cases hn : numAt a q with
      | none =>
        rw [hn] at na
        dsimp only at na
        refine .inr ⟨rfl, ?_⟩
        refine ⟨[some (.str (Tx a)), some (.int (q : Int)), some (.int ((d + 1 : Nat) : Int)), x3, some (.lst (encW acc)), x5, x6], ?_⟩
        rw [hw, show gaB self [some (.str (Tx a)), some (.int (m : Int)), some (.int ((d + 1 : Nat) : Int)), x3, some (.lst (encW acc)), x5, x6] = .err [some (.str (Tx a)), some (.int (q : Int)), some (.int ((d + 1 : Nat) : Int)), x3, some (.lst (encW acc)), x5, x6] 6 by
          unfold gaB
          refine seq_nx st1 (seq_err ?_)
          generalize encW acc = L
          simp only [na, defD, args, dSeq, dSet, dSetP, dSetN, lstAt, dApp, dAppP, dAsg, dPar, dDrop, dWhile, dIfS, dRet, dB, dCall, dCons, dNil, dVar, dC, dBin, dChain, asB, dTru, dNotT, dAndT, dOrT, dAnd, dOr, dNot, dIf, dUn, dTup, dLst, dItems, dYes, R.bind, R.to, O.seq, outR, ofO, noErr, mask, Sm.putIn, bindPat, bindPats, itemsOf, tru, List.foldr_cons, List.foldr_nil, List.length_cons, List.length_nil, List.map_cons, List.map_nil, List.cons_append, List.nil_append, Nat.sub_self, List.replicate_zero, List.replicate_succ, List.getElem?_cons_succ, List.getElem?_cons_zero, List.set_cons_zero, List.set_cons_succ, Nat.reduceAdd, Nat.reduceSub, ↓reduceIte, Bool.not_true, Bool.not_false, Bool.and_true, Bool.true_and, Bool.false_and, Bool.and_false, if_true, if_false, Bool.false_eq_true, oNeg, oAddI, oSubI, oAdd_ii, oLt, oLe, oGt, oGe, Option.bind_some, Option.map_some]]
        rfl
      | some zr =>
        obtain ⟨z, r⟩ := zr
        rw [hn] at na
        dsimp only at na
        have lr := num_le hn
        have st2 : dAsg [4] (.t [(.v 5), (.v 1)]) (dCall d_number_at (dCons (dVar 0) (dCons (dVar 1) dNil))) [some (.str (Tx a)), some (.int (q : Int)), some (.int ((d + 1 : Nat) : Int)), x3, some (.lst (encW acc)), x5, x6] = .nx [some (.str (Tx a)), some (.int (r : Int)), some (.int ((d + 1 : Nat) : Int)), x3, some (.lst (encW acc)), some (.int z), x6] := by
          generalize encW acc = L
          simp only [na, defD, args, dSeq, dSet, dSetP, dSetN, lstAt, dApp, dAppP, dAsg, dPar, dDrop, dWhile, dIfS, dRet, dB, dCall, dCons, dNil, dVar, dC, dBin, dChain, asB, dTru, dNotT, dAndT, dOrT, dAnd, dOr, dNot, dIf, dUn, dTup, dLst, dItems, dYes, R.bind, R.to, O.seq, outR, ofO, noErr, mask, Sm.putIn, bindPat, bindPats, itemsOf, tru, List.foldr_cons, List.foldr_nil, List.length_cons, List.length_nil, List.map_cons, List.map_nil, List.cons_append, List.nil_append, Nat.sub_self, List.replicate_zero, List.replicate_succ, List.getElem?_cons_succ, List.getElem?_cons_zero, List.set_cons_zero, List.set_cons_succ, Nat.reduceAdd, Nat.reduceSub, ↓reduceIte, Bool.not_true, Bool.not_false, Bool.and_true, Bool.true_and, Bool.false_and, Bool.and_false, if_true, if_false, Bool.false_eq_true, oNeg, oAddI, oSubI, oAdd_ii, oLt, oLe, oGt, oGe, Option.bind_some, Option.map_some]
        have sl := slT1 (a := a) (by omega) r
        have ne := ne1 ha r (c := 58) (s := ":") (by rfl) (by decide)
        rw [Option.bind_some]
        dsimp only
        cases h58 : isC a r 58 with
        | false =>
          rw [h58] at ne
          refine .inr ⟨by rw [if_neg (by simp)], ?_⟩
          refine ⟨[some (.str (Tx a)), some (.int (r : Int)), some (.int ((d + 1 : Nat) : Int)), x3, some (.lst (encW acc)), some (.int z), x6], ?_⟩
          rw [hw, show gaB self [some (.str (Tx a)), some (.int (m : Int)), some (.int ((d + 1 : Nat) : Int)), x3, some (.lst (encW acc)), x5, x6] = .err [some (.str (Tx a)), some (.int (r : Int)), some (.int ((d + 1 : Nat) : Int)), x3, some (.lst (encW acc)), some (.int z), x6] 6 by
            unfold gaB
            refine seq_nx st1 (seq_nx st2 (seq_err ?_))
            generalize encW acc = L
            simp only [dSl, dSo, sl, ne, dRaise, defD, args, dSeq, dSet, dSetP, dSetN, lstAt, dApp, dAppP, dAsg, dPar, dDrop, dWhile, dIfS, dRet, dB, dCall, dCons, dNil, dVar, dC, dBin, dChain, asB, dTru, dNotT, dAndT, dOrT, dAnd, dOr, dNot, dIf, dUn, dTup, dLst, dItems, dYes, R.bind, R.to, O.seq, outR, ofO, noErr, mask, Sm.putIn, bindPat, bindPats, itemsOf, tru, List.foldr_cons, List.foldr_nil, List.length_cons, List.length_nil, List.map_cons, List.map_nil, List.cons_append, List.nil_append, Nat.sub_self, List.replicate_zero, List.replicate_succ, List.getElem?_cons_succ, List.getElem?_cons_zero, List.set_cons_zero, List.set_cons_succ, Nat.reduceAdd, Nat.reduceSub, ↓reduceIte, Bool.not_true, Bool.not_false, Bool.and_true, Bool.true_and, Bool.false_and, Bool.and_false, if_true, if_false, Bool.false_eq_true, oNeg, oAddI, oSubI, oAdd_ii, oLt, oLe, oGt, oGe, Option.bind_some, Option.map_some]]
          rfl
        | true =>
          rw [h58] at ne
          rw [if_pos rfl]
          have st3 : dIfS (asB (dBin oNe (dSl (dVar 0) (dSo (dVar 1)) (dSo (dBin oAdd (dVar 1) (dC (.int 1))))) (dC (.str ":")))) (dRaise 6) .nx [some (.str (Tx a)), some (.int (r : Int)), some (.int ((d + 1 : Nat) : Int)), x3, some (.lst (encW acc)), some (.int z), x6] = .nx [some (.str (Tx a)), some (.int (r : Int)), some (.int ((d + 1 : Nat) : Int)), x3, some (.lst (encW acc)), some (.int z), x6] := by
            generalize encW acc = L
            simp only [dSl, dSo, sl, ne, dRaise, defD, args, dSeq, dSet, dSetP, dSetN, lstAt, dApp, dAppP, dAsg, dPar, dDrop, dWhile, dIfS, dRet, dB, dCall, dCons, dNil, dVar, dC, dBin, dChain, asB, dTru, dNotT, dAndT, dOrT, dAnd, dOr, dNot, dIf, dUn, dTup, dLst, dItems, dYes, R.bind, R.to, O.seq, outR, ofO, noErr, mask, Sm.putIn, bindPat, bindPats, itemsOf, tru, List.foldr_cons, List.foldr_nil, List.length_cons, List.length_nil, List.map_cons, List.map_nil, List.cons_append, List.nil_append, Nat.sub_self, List.replicate_zero, List.replicate_succ, List.getElem?_cons_succ, List.getElem?_cons_zero, List.set_cons_zero, List.set_cons_succ, Nat.reduceAdd, Nat.reduceSub, ↓reduceIte, Bool.not_true, Bool.not_false, Bool.and_true, Bool.true_and, Bool.false_and, Bool.and_false, if_true, if_false, Bool.false_eq_true, oNeg, oAddI, oSubI, oAdd_ii, oLt, oLe, oGt, oGe, Option.bind_some, Option.map_some]
          have sf := hs (r + 1)
          have e1 : (r : Int) + 1 = ((r + 1 : Nat) : Int) := by omega
          have e2 : ((d + 1 : Nat) : Int) - 1 = (d : Int) := by omega
          cases hg : gameAt a d (r + 1) with
          | none =>
            rw [hg] at sf
            dsimp only at sf
            refine .inr ⟨rfl, ?_⟩
            refine ⟨[some (.str (Tx a)), some (.int (r : Int)), some (.int ((d + 1 : Nat) : Int)), x3, some (.lst (encW acc)), some (.int z), x6], ?_⟩
            rw [hw, show gaB self [some (.str (Tx a)), some (.int (m : Int)), some (.int ((d + 1 : Nat) : Int)), x3, some (.lst (encW acc)), x5, x6] = .err [some (.str (Tx a)), some (.int (r : Int)), some (.int ((d + 1 : Nat) : Int)), x3, some (.lst (encW acc)), some (.int z), x6] 6 by
              unfold gaB
              refine seq_nx st1 (seq_nx st2 (seq_nx st3 (seq_err ?_)))
              generalize encW acc = L
              simp only [e1, e2, sf, defD, args, dSeq, dSet, dSetP, dSetN, lstAt, dApp, dAppP, dAsg, dPar, dDrop, dWhile, dIfS, dRet, dB, dCall, dCons, dNil, dVar, dC, dBin, dChain, asB, dTru, dNotT, dAndT, dOrT, dAnd, dOr, dNot, dIf, dUn, dTup, dLst, dItems, dYes, R.bind, R.to, O.seq, outR, ofO, noErr, mask, Sm.putIn, bindPat, bindPats, itemsOf, tru, List.foldr_cons, List.foldr_nil, List.length_cons, List.length_nil, List.map_cons, List.map_nil, List.cons_append, List.nil_append, Nat.sub_self, List.replicate_zero, List.replicate_succ, List.getElem?_cons_succ, List.getElem?_cons_zero, List.set_cons_zero, List.set_cons_succ, Nat.reduceAdd, Nat.reduceSub, ↓reduceIte, Bool.not_true, Bool.not_false, Bool.and_true, Bool.true_and, Bool.false_and, Bool.and_false, if_true, if_false, Bool.false_eq_true, oNeg, oAddI, oSubI, oAdd_ii, oLt, oLe, oGt, oGe, Option.bind_some, Option.map_some]]
            rfl
          | some ge =>
            obtain ⟨g, e⟩ := ge
            rw [hg] at sf
            dsimp only at sf
            have lg := game_le a d (r + 1) g e hg
            have hb : gaB self [some (.str (Tx a)), some (.int (m : Int)), some (.int ((d + 1 : Nat) : Int)), x3, some (.lst (encW acc)), x5, x6] = .nx [some (.str (Tx a)), some (.int (e : Int)), some (.int ((d + 1 : Nat) : Int)), x3, some (.lst (encW (acc ++ [(z, g)]))), some (.int z), some g.enc] := by
              unfold gaB
              have hz : (encW acc).length + 1 ≤ sizeLine := by
                unfold encW
                rw [List.length_map]; exact Nat.le_trans (show _ ≤ 100000 by omega) sizeLine_big
              have ha' : encW (acc ++ [(z, g)]) = encW acc ++ [.tup [.int z, g.enc]] := by unfold encW; rw [List.map_append]; rfl
              rw [ha']
              refine seq_nx st1 (seq_nx st2 (seq_nx st3 (seq_nx (ρ1 := [some (.str (Tx a)), some (.int (e : Int)), some (.int ((d + 1 : Nat) : Int)), x3, some (.lst (encW acc)), some (.int z), some g.enc]) ?_ ?_)))
              · generalize encW acc = L at *
                simp only [e1, e2, sf, defD, args, dSeq, dSet, dSetP, dSetN, lstAt, dApp, dAppP, dAsg, dPar, dDrop, dWhile, dIfS, dRet, dB, dCall, dCons, dNil, dVar, dC, dBin, dChain, asB, dTru, dNotT, dAndT, dOrT, dAnd, dOr, dNot, dIf, dUn, dTup, dLst, dItems, dYes, R.bind, R.to, O.seq, outR, ofO, noErr, mask, Sm.putIn, bindPat, bindPats, itemsOf, tru, List.foldr_cons, List.foldr_nil, List.length_cons, List.length_nil, List.map_cons, List.map_nil, List.cons_append, List.nil_append, Nat.sub_self, List.replicate_zero, List.replicate_succ, List.getElem?_cons_succ, List.getElem?_cons_zero, List.set_cons_zero, List.set_cons_succ, Nat.reduceAdd, Nat.reduceSub, ↓reduceIte, Bool.not_true, Bool.not_false, Bool.and_true, Bool.true_and, Bool.false_and, Bool.and_false, if_true, if_false, Bool.false_eq_true, oNeg, oAddI, oSubI, oAdd_ii, oLt, oLe, oGt, oGe, Option.bind_some, Option.map_some]
              · generalize encW acc = L at *
                simp only [hz, defD, args, dSeq, dSet, dSetP, dSetN, lstAt, dApp, dAppP, dAsg, dPar, dDrop, dWhile, dIfS, dRet, dB, dCall, dCons, dNil, dVar, dC, dBin, dChain, asB, dTru, dNotT, dAndT, dOrT, dAnd, dOr, dNot, dIf, dUn, dTup, dLst, dItems, dYes, R.bind, R.to, O.seq, outR, ofO, noErr, mask, Sm.putIn, bindPat, bindPats, itemsOf, tru, List.foldr_cons, List.foldr_nil, List.length_cons, List.length_nil, List.map_cons, List.map_nil, List.cons_append, List.nil_append, Nat.sub_self, List.replicate_zero, List.replicate_succ, List.getElem?_cons_succ, List.getElem?_cons_zero, List.set_cons_zero, List.set_cons_succ, Nat.reduceAdd, Nat.reduceSub, ↓reduceIte, Bool.not_true, Bool.not_false, Bool.and_true, Bool.true_and, Bool.false_and, Bool.and_false, if_true, if_false, Bool.false_eq_true, oNeg, oAddI, oSubI, oAdd_ii, oLt, oLe, oGt, oGe, Option.bind_some, Option.map_some]
            rw [Option.bind_some, hw, hb]
            refine ga_go ha hl hd hs x3 n _ e _ _ ?_ ?_ lg.2.1 (by rw [hq] at lr; split at lr <;> omega)
            · intro p hp'
              rcases List.mem_append.mp hp' with h | h
              · exact hp p h
              · rw [List.mem_singleton.mp h]; exact lg.2.2
            · rw [List.length_append, List.length_singleton]
              rw [hq] at lr; split at lr <;> omega
theorem game_at_ok {a : List Nat} (ha : As a = true) (hl : a.length < 1000) : ∀ (n d : Nat), d < n → d ≤ 10 → GaOk a d (d_game_at n)
  | 0, _, h, _ => by omega
  | n + 1, 0, _, _ => fun p => by
    refine defD_eq rfl ?_
    unfold b_game_at
    simp only [oEq_int, show (((0 : Nat) : Int) == 0) = true from rfl, dRaise, gameAt, defD, args, dSeq, dSet, dSetP, dSetN, lstAt, dApp, dAppP, dAsg, dPar, dDrop, dWhile, dIfS, dRet, dB, dCall, dCons, dNil, dVar, dC, dBin, dChain, asB, dTru, dNotT, dAndT, dOrT, dAnd, dOr, dNot, dIf, dUn, dTup, dLst, dItems, dYes, R.bind, R.to, O.seq, outR, ofO, noErr, mask, Sm.putIn, bindPat, bindPats, itemsOf, tru, List.foldr_cons, List.foldr_nil, List.length_cons, List.length_nil, List.map_cons, List.map_nil, List.cons_append, List.nil_append, Nat.sub_self, List.replicate_zero, List.replicate_succ, List.getElem?_cons_succ, List.getElem?_cons_zero, List.set_cons_zero, List.set_cons_succ, Nat.reduceAdd, Nat.reduceSub, ↓reduceIte, Bool.not_true, Bool.not_false, Bool.and_true, Bool.true_and, Bool.false_and, Bool.and_false, if_true, if_false, Bool.false_eq_true, oNeg, oAddI, oSubI, oAdd_ii, oLt, oLe, oGt, oGe, Option.bind_some, Option.map_some]
  | n + 1, d + 1, h, hd => fun p => by
    have ih := game_at_ok ha hl n d (by omega) (by omega)
    refine defD_eq rfl ?_
    unfold b_game_at
    rw [gameAt]
    have na := number_at ha (by omega) p
    apply out_seq (ρ1 := [some (.str (Tx a)), some (.int (p : Int)), some (.int ((d + 1 : Nat) : Int)), none, none, none, none])
    · have : (((d + 1 : Nat) : Int) == 0) = false := by rw [beq_eq_false_iff_ne]; omega
      simp only [oEq_int, this, defD, args, dSeq, dSet, dSetP, dSetN, lstAt, dApp, dAppP, dAsg, dPar, dDrop, dWhile, dIfS, dRet, dB, dCall, dCons, dNil, dVar, dC, dBin, dChain, asB, dTru, dNotT, dAndT, dOrT, dAnd, dOr, dNot, dIf, dUn, dTup, dLst, dItems, dYes, R.bind, R.to, O.seq, outR, ofO, noErr, mask, Sm.putIn, bindPat, bindPats, itemsOf, tru, List.foldr_cons, List.foldr_nil, List.length_cons, List.length_nil, List.map_cons, List.map_nil, List.cons_append, List.nil_append, Nat.sub_self, List.replicate_zero, List.replicate_succ, List.getElem?_cons_succ, List.getElem?_cons_zero, List.set_cons_zero, List.set_cons_succ, Nat.reduceAdd, Nat.reduceSub, ↓reduceIte, Bool.not_true, Bool.not_false, Bool.and_true, Bool.true_and, Bool.false_and, Bool.and_false, if_true, if_false, Bool.false_eq_true, oNeg, oAddI, oSubI, oAdd_ii, oLt, oLe, oGt, oGe, Option.bind_some, Option.map_some]
    cases hn : numAt a p with
    | none =>
      rw [hn] at na
      dsimp only at na
      simp only [na, Option.bind_none, defD, args, dSeq, dSet, dSetP, dSetN, lstAt, dApp, dAppP, dAsg, dPar, dDrop, dWhile, dIfS, dRet, dB, dCall, dCons, dNil, dVar, dC, dBin, dChain, asB, dTru, dNotT, dAndT, dOrT, dAnd, dOr, dNot, dIf, dUn, dTup, dLst, dItems, dYes, R.bind, R.to, O.seq, outR, ofO, noErr, mask, Sm.putIn, bindPat, bindPats, itemsOf, tru, List.foldr_cons, List.foldr_nil, List.length_cons, List.length_nil, List.map_cons, List.map_nil, List.cons_append, List.nil_append, Nat.sub_self, List.replicate_zero, List.replicate_succ, List.getElem?_cons_succ, List.getElem?_cons_zero, List.set_cons_zero, List.set_cons_succ, Nat.reduceAdd, Nat.reduceSub, ↓reduceIte, Bool.not_true, Bool.not_false, Bool.and_true, Bool.true_and, Bool.false_and, Bool.and_false, if_true, if_false, Bool.false_eq_true, oNeg, oAddI, oSubI, oAdd_ii, oLt, oLe, oGt, oGe, Option.bind_some, Option.map_some]
    | some zr =>
      obtain ⟨z, r⟩ := zr
      rw [hn] at na
      dsimp only at na
      rw [Option.bind_some]
      dsimp only
      apply out_seq (ρ1 := [some (.str (Tx a)), some (.int (r : Int)), some (.int ((d + 1 : Nat) : Int)), some (.int z), none, none, none])
      · simp only [na, defD, args, dSeq, dSet, dSetP, dSetN, lstAt, dApp, dAppP, dAsg, dPar, dDrop, dWhile, dIfS, dRet, dB, dCall, dCons, dNil, dVar, dC, dBin, dChain, asB, dTru, dNotT, dAndT, dOrT, dAnd, dOr, dNot, dIf, dUn, dTup, dLst, dItems, dYes, R.bind, R.to, O.seq, outR, ofO, noErr, mask, Sm.putIn, bindPat, bindPats, itemsOf, tru, List.foldr_cons, List.foldr_nil, List.length_cons, List.length_nil, List.map_cons, List.map_nil, List.cons_append, List.nil_append, Nat.sub_self, List.replicate_zero, List.replicate_succ, List.getElem?_cons_succ, List.getElem?_cons_zero, List.set_cons_zero, List.set_cons_succ, Nat.reduceAdd, Nat.reduceSub, ↓reduceIte, Bool.not_true, Bool.not_false, Bool.and_true, Bool.true_and, Bool.false_and, Bool.and_false, if_true, if_false, Bool.false_eq_true, oNeg, oAddI, oSubI, oAdd_ii, oLt, oLe, oGt, oGe, Option.bind_some, Option.map_some]
      have sl := slT1 (a := a) (by omega) r
      have ne := ne1 ha r (c := 40) (s := "(") (by rfl) (by decide)
      cases hc : isC a r 40 with
      | false =>
        rw [hc] at ne
        rw [if_neg (by simp)]
        show outR _ = .ok (.tup [(Game.node z []).enc, .int (r : Int)])
        rw [enc_end]
        simp only [dSl, dSo, sl, ne, defD, args, dSeq, dSet, dSetP, dSetN, lstAt, dApp, dAppP, dAsg, dPar, dDrop, dWhile, dIfS, dRet, dB, dCall, dCons, dNil, dVar, dC, dBin, dChain, asB, dTru, dNotT, dAndT, dOrT, dAnd, dOr, dNot, dIf, dUn, dTup, dLst, dItems, dYes, R.bind, R.to, O.seq, outR, ofO, noErr, mask, Sm.putIn, bindPat, bindPats, itemsOf, tru, List.foldr_cons, List.foldr_nil, List.length_cons, List.length_nil, List.map_cons, List.map_nil, List.cons_append, List.nil_append, Nat.sub_self, List.replicate_zero, List.replicate_succ, List.getElem?_cons_succ, List.getElem?_cons_zero, List.set_cons_zero, List.set_cons_succ, Nat.reduceAdd, Nat.reduceSub, ↓reduceIte, Bool.not_true, Bool.not_false, Bool.and_true, Bool.true_and, Bool.false_and, Bool.and_false, if_true, if_false, Bool.false_eq_true, oNeg, oAddI, oSubI, oAdd_ii, oLt, oLe, oGt, oGe, Option.bind_some, Option.map_some]
      | true =>
        rw [hc] at ne
        rw [if_pos rfl]
        have hr := isC_in hc
        apply out_seq (ρ1 := [some (.str (Tx a)), some (.int (r : Int)), some (.int ((d + 1 : Nat) : Int)), some (.int z), none, none, none])
        · simp only [dSl, dSo, sl, ne, defD, args, dSeq, dSet, dSetP, dSetN, lstAt, dApp, dAppP, dAsg, dPar, dDrop, dWhile, dIfS, dRet, dB, dCall, dCons, dNil, dVar, dC, dBin, dChain, asB, dTru, dNotT, dAndT, dOrT, dAnd, dOr, dNot, dIf, dUn, dTup, dLst, dItems, dYes, R.bind, R.to, O.seq, outR, ofO, noErr, mask, Sm.putIn, bindPat, bindPats, itemsOf, tru, List.foldr_cons, List.foldr_nil, List.length_cons, List.length_nil, List.map_cons, List.map_nil, List.cons_append, List.nil_append, Nat.sub_self, List.replicate_zero, List.replicate_succ, List.getElem?_cons_succ, List.getElem?_cons_zero, List.set_cons_zero, List.set_cons_succ, Nat.reduceAdd, Nat.reduceSub, ↓reduceIte, Bool.not_true, Bool.not_false, Bool.and_true, Bool.true_and, Bool.false_and, Bool.and_false, if_true, if_false, Bool.false_eq_true, oNeg, oAddI, oSubI, oAdd_ii, oLt, oLe, oGt, oGe, Option.bind_some, Option.map_some]
        apply out_seq; (focus (simp only [defD, args, dSeq, dSet, dSetP, dSetN, lstAt, dApp, dAppP, dAsg, dPar, dDrop, dWhile, dIfS, dRet, dB, dCall, dCons, dNil, dVar, dC, dBin, dChain, asB, dTru, dNotT, dAndT, dOrT, dAnd, dOr, dNot, dIf, dUn, dTup, dLst, dItems, dYes, R.bind, R.to, O.seq, outR, ofO, noErr, mask, Sm.putIn, bindPat, bindPats, itemsOf, tru, List.foldr_cons, List.foldr_nil, List.length_cons, List.length_nil, List.map_cons, List.map_nil, List.cons_append, List.nil_append, Nat.sub_self, List.replicate_zero, List.replicate_succ, List.getElem?_cons_succ, List.getElem?_cons_zero, List.set_cons_zero, List.set_cons_succ, Nat.reduceAdd, Nat.reduceSub, ↓reduceIte, Bool.not_true, Bool.not_false, Bool.and_true, Bool.true_and, Bool.false_and, Bool.and_false, if_true, if_false, Bool.false_eq_true, oNeg, oAddI, oSubI, oAdd_ii, oLt, oLe, oGt, oGe, Option.bind_some, Option.map_some]; try exact rfl))
        apply out_seq (ρ1 := [some (.str (Tx a)), some (.int ((r + 1 : Nat) : Int)), some (.int ((d + 1 : Nat) : Int)), some (.int z), some (.lst (encW [])), none, none])
        · simp only [show (r : Int) + 1 = ((r + 1 : Nat) : Int) by omega, encW, defD, args, dSeq, dSet, dSetP, dSetN, lstAt, dApp, dAppP, dAsg, dPar, dDrop, dWhile, dIfS, dRet, dB, dCall, dCons, dNil, dVar, dC, dBin, dChain, asB, dTru, dNotT, dAndT, dOrT, dAnd, dOr, dNot, dIf, dUn, dTup, dLst, dItems, dYes, R.bind, R.to, O.seq, outR, ofO, noErr, mask, Sm.putIn, bindPat, bindPats, itemsOf, tru, List.foldr_cons, List.foldr_nil, List.length_cons, List.length_nil, List.map_cons, List.map_nil, List.cons_append, List.nil_append, Nat.sub_self, List.replicate_zero, List.replicate_succ, List.getElem?_cons_succ, List.getElem?_cons_zero, List.set_cons_zero, List.set_cons_succ, Nat.reduceAdd, Nat.reduceSub, ↓reduceIte, Bool.not_true, Bool.not_false, Bool.and_true, Bool.true_and, Bool.false_and, Bool.and_false, if_true, if_false, Bool.false_eq_true, oNeg, oAddI, oSubI, oAdd_ii, oLt, oLe, oGt, oGe, Option.bind_some, Option.map_some]
        rcases ga_go ha hl (by omega) ih (some (.int z)) 1000 [] (r + 1) none none (by simp) (by simp) (by omega) (by omega) with ⟨ws, e, y5, y6, e1, e2⟩ | ⟨e1, ρ', e2⟩
        · rw [e1, Option.bind_some]
          dsimp only
          have lw := wat_le (fun q g e => game_le a d q g e) 1000 [] (r + 1) ws e (by omega) (by simp) e1
          apply out_seq e2
          have sl := slT1 (a := a) (by omega) e
          have ne := ne1 ha e (c := 41) (s := ")") (by rfl) (by decide)
          cases hc : isC a e 41 with
          | false =>
            rw [hc] at ne
            rw [if_neg (by simp)]
            generalize encW ws = L
            simp only [dSl, dSo, sl, ne, dRaise, defD, args, dSeq, dSet, dSetP, dSetN, lstAt, dApp, dAppP, dAsg, dPar, dDrop, dWhile, dIfS, dRet, dB, dCall, dCons, dNil, dVar, dC, dBin, dChain, asB, dTru, dNotT, dAndT, dOrT, dAnd, dOr, dNot, dIf, dUn, dTup, dLst, dItems, dYes, R.bind, R.to, O.seq, outR, ofO, noErr, mask, Sm.putIn, bindPat, bindPats, itemsOf, tru, List.foldr_cons, List.foldr_nil, List.length_cons, List.length_nil, List.map_cons, List.map_nil, List.cons_append, List.nil_append, Nat.sub_self, List.replicate_zero, List.replicate_succ, List.getElem?_cons_succ, List.getElem?_cons_zero, List.set_cons_zero, List.set_cons_succ, Nat.reduceAdd, Nat.reduceSub, ↓reduceIte, Bool.not_true, Bool.not_false, Bool.and_true, Bool.true_and, Bool.false_and, Bool.and_false, if_true, if_false, Bool.false_eq_true, oNeg, oAddI, oSubI, oAdd_ii, oLt, oLe, oGt, oGe, Option.bind_some, Option.map_some]
          | true =>
            rw [hc] at ne
            rw [if_pos rfl]
            dsimp only
            have ee : (Game.node z ws).enc = .tup [.int z, .tup (encW ws)] := by
              cases ws with
              | nil => exact absurd rfl lw.2.2.1
              | cons x ws => rw [enc_go]; rfl
            show outR _ = .ok (.tup [(Game.node z ws).enc, .int ((e + 1 : Nat) : Int)])
            rw [ee, show ((e + 1 : Nat) : Int) = (e : Int) + 1 by omega]
            generalize encW ws = L
            simp only [dSl, dSo, sl, ne, oTuple, defD, args, dSeq, dSet, dSetP, dSetN, lstAt, dApp, dAppP, dAsg, dPar, dDrop, dWhile, dIfS, dRet, dB, dCall, dCons, dNil, dVar, dC, dBin, dChain, asB, dTru, dNotT, dAndT, dOrT, dAnd, dOr, dNot, dIf, dUn, dTup, dLst, dItems, dYes, R.bind, R.to, O.seq, outR, ofO, noErr, mask, Sm.putIn, bindPat, bindPats, itemsOf, tru, List.foldr_cons, List.foldr_nil, List.length_cons, List.length_nil, List.map_cons, List.map_nil, List.cons_append, List.nil_append, Nat.sub_self, List.replicate_zero, List.replicate_succ, List.getElem?_cons_succ, List.getElem?_cons_zero, List.set_cons_zero, List.set_cons_succ, Nat.reduceAdd, Nat.reduceSub, ↓reduceIte, Bool.not_true, Bool.not_false, Bool.and_true, Bool.true_and, Bool.false_and, Bool.and_false, if_true, if_false, Bool.false_eq_true, oNeg, oAddI, oSubI, oAdd_ii, oLt, oLe, oGt, oGe, Option.bind_some, Option.map_some]
        · rw [e1, Option.bind_none]
          dsimp only
          have : ∀ g : DS, outR (dSeq (dWhile (fun _ => 1000) gaT (gaB (d_game_at n))) g [some (.str (Tx a)), some (.int ((r + 1 : Nat) : Int)), some (.int ((d + 1 : Nat) : Int)), some (.int z), some (.lst (encW [])), none, none]) = .err 6 := fun g => by
            unfold dSeq dWhile
            rw [e2]
            rfl
          exact this _
end Kx
namespace Kx
open PySem PySem.Spec L2 Sm
def dg (n : Nat) : List Nat := if n < 10 then [48 + n] else [48 + n / 10, 48 + n % 10]
def numT (i : Int) : List Nat := if i < 0 then 45 :: dg i.natAbs else dg i.natAbs
theorem str_run : ((List.range 199).all fun n => (Str.ofString (toString ((n : Int) - 99))).cps.toList == numT ((n : Int) - 99)) = true := by kernel_rfl
theorem str_small {i : Int} (h : -99 ≤ i ∧ i ≤ 99) : (Str.ofString (toString i)) = Tx (numT i) := by
  have := List.all_eq_true.mp str_run (i + 99).toNat (List.mem_range.mpr (by omega))
  rw [show (((i + 99).toNat : Nat) : Int) - 99 = i by omega] at this
  exact TL.ext_tl (eq_of_beq this)
theorem log_small {i : Int} (h : -99 ≤ i ∧ i ≤ 99) : i.natAbs.log2 < 1920 := by
  have : i.natAbs < 128 := by omega
  have h2 : i.natAbs.log2 < 7 := by
    by_cases h0 : i.natAbs = 0
    · rw [h0]; decide
    · exact (Nat.log2_lt h0).mpr (by omega)
  omega
theorem oStr_small {i : Int} (h : -99 ≤ i ∧ i ≤ 99) : oStr [.int i] = some (.str (Tx (numT i))) := by
  show (if i.natAbs.log2 < 1920 then some (D.str (Str.ofString (toString i))) else none) = _
  rw [if_pos (log_small h), str_small h]
theorem dg_As {n : Nat} (h : n < 100) : As (dg n) = true := by
  unfold dg As
  split
  · simp only [List.all_cons, List.all_nil, Bool.and_true, decide_eq_true_eq]; omega
  · simp only [List.all_cons, List.all_nil, Bool.and_true, decide_eq_true_eq, Bool.and_eq_true]; omega
theorem numT_As {i : Int} (h : -99 ≤ i ∧ i ≤ 99) : As (numT i) = true := by
  unfold numT
  split
  · have := dg_As (n := i.natAbs) (by omega)
    unfold As at *
    rw [List.all_cons, this]; rfl
  · exact dg_As (by omega)
theorem dg_len2 (n : Nat) : (dg n).length ≤ 2 ∧ 1 ≤ (dg n).length := by unfold dg; split <;> simp
theorem numT_len (i : Int) : (numT i).length ≤ 3 ∧ 1 ≤ (numT i).length := by
  have := dg_len2 i.natAbs
  unfold numT
  split
  · rw [List.length_cons]; omega
  · omega
theorem numT_w {i : Int} (h : 1 ≤ i ∧ i ≤ 9) : (numT i).length = 1 := by
  unfold numT dg
  rw [if_neg (by omega), if_pos (by omega)]; rfl
end Kx
namespace Sm
open Kx
def Game.txt : Game → List Nat
  | .node w ws => numT w ++ (if ws = [] then [] else 40 :: (TL.joinL [32] (ws.map fun p => numT p.1 ++ 58 :: p.2.txt) ++ [41]))
termination_by g => sizeOf g
decreasing_by exact lt_of_mem ‹_›
end Sm
namespace Kx
open PySem PySem.Spec L2 Sm
def pieces (ws : List (Int × Game)) : List (List Nat) := ws.map fun p => numT p.1 ++ 58 :: p.2.txt
theorem txt_end (w : Int) : (Game.node w []).txt = numT w := by rw [Game.txt]; simp
theorem txt_go (w : Int) {ws : List (Int × Game)} (h : ws ≠ []) : (Game.node w ws).txt = numT w ++ 40 :: (TL.joinL [32] (pieces ws) ++ [41]) := by
  rw [Game.txt, if_neg h]; rfl
def tl : Nat → Nat
  | 0 => 0
  | 1 => 3
  | n + 2 => 13 + 3 * tl (n + 1)
def tails : List (List Nat) → List Nat
  | [] => []
  | p :: ps => 32 :: (p ++ tails ps)
theorem join_tails (p : List Nat) : ∀ ps : List (List Nat), TL.joinL [32] (p :: ps) = p ++ tails ps
  | [] => by simp [TL.joinL, tails]
  | q :: ps => by
    show p ++ ([32] ++ TL.joinL [32] (q :: ps)) = _
    rw [join_tails q ps]; rfl
theorem tails_len {m : Nat} : ∀ ps : List (List Nat), (∀ p ∈ ps, p.length ≤ m) → (tails ps).length ≤ ps.length * (m + 1)
  | [], _ => by simp [tails]
  | p :: ps, h => by
    have := tails_len ps fun q hq => h q (by simp [hq])
    have := h p (by simp)
    simp only [tails, List.length_cons, List.length_append, Nat.add_mul, Nat.one_mul]
    omega
theorem tails_As : ∀ ps : List (List Nat), (∀ p ∈ ps, As p = true) → As (tails ps) = true
  | [], _ => rfl
  | p :: ps, h => by
    have h1 := tails_As ps fun q hq => h q (by simp [hq])
    have h2 := As_app (h p (by simp)) h1
    unfold As at *
    rw [tails, List.all_cons, h2]; rfl
theorem txt_len : ∀ {n : Nat} {g : Game}, g.Ok n → g.txt.length ≤ tl n
  | 0, _, h => h.elim
  | n + 1, .node w ws, h => by
    have hw := (numT_len w).1
    cases ws with
    | nil =>
      rw [txt_end]
      cases n with
      | zero => exact hw
      | succ n => simp only [tl]; omega
    | cons x ws =>
      have hx := h.2.2 x (by simp)
      cases n with
      | zero => exact hx.2.elim
      | succ n =>
        have pl : ∀ q ∈ x :: ws, (numT q.1 ++ 58 :: q.2.txt).length ≤ tl (n + 1) + 2 := fun q hq => by
          have := txt_len (h.2.2 q hq).2
          have := numT_w (h.2.2 q hq).1
          rw [List.length_append, List.length_cons]
          omega
        have t := tails_len (m := tl (n + 1) + 2) (pieces ws) (by
          intro p hp
          obtain ⟨q, hq, rfl⟩ := List.mem_map.mp hp
          exact pl q (by simp [hq]))
        have px := pl x (by simp)
        have l3 : ws.length ≤ 2 := by have := h.2.1; simp at this; omega
        rw [txt_go w (by simp), show pieces (x :: ws) = (numT x.1 ++ 58 :: x.2.txt) :: pieces ws from rfl, join_tails]
        rw [List.length_append, List.length_cons, List.length_append, List.length_append, List.length_singleton]
        have e : (pieces ws).length = ws.length := List.length_map ..
        rw [e] at t
        have : ws.length * (tl (n + 1) + 2 + 1) ≤ 2 * (tl (n + 1) + 2 + 1) := Nat.mul_le_mul_right _ l3
        simp only [tl]
        omega
theorem piece_As {q : Int × Game} (h : 1 ≤ q.1 ∧ q.1 ≤ 9) (h2 : As q.2.txt = true) : As (numT q.1 ++ 58 :: q.2.txt) = true := by
  refine As_app (numT_As ⟨by omega, by omega⟩) ?_
  unfold As at *
  rw [List.all_cons, h2]; rfl
theorem txt_As : ∀ {n : Nat} {g : Game}, g.Ok n → As g.txt = true
  | 0, _, h => h.elim
  | n + 1, .node w ws, h => by
    have hw : As (numT w) = true := numT_As ⟨by have := h.1; omega, by have := h.1; omega⟩
    cases ws with
    | nil => rw [txt_end]; exact hw
    | cons x ws =>
      have pa : ∀ q ∈ x :: ws, As (numT q.1 ++ 58 :: q.2.txt) = true := fun q hq => piece_As (h.2.2 q hq).1 (txt_As (h.2.2 q hq).2)
      rw [txt_go w (by simp), show pieces (x :: ws) = (numT x.1 ++ 58 :: x.2.txt) :: pieces ws from rfl, join_tails]
      refine As_app hw ?_
      have t := As_app (As_app (pa x (by simp)) (tails_As (pieces ws) (by
        intro p hp
        obtain ⟨q, hq, rfl⟩ := List.mem_map.mp hp
        exact pa q (by simp [hq])))) (show As [41] = true from rfl)
      unfold As at *
      rw [List.all_cons, t]; rfl
theorem tl_small {n : Nat} (h : n ≤ 4) : tl n ≤ 250 := by
  rcases (show n = 0 ∨ n = 1 ∨ n = 2 ∨ n = 3 ∨ n = 4 by omega) with rfl | rfl | rfl | rfl | rfl <;> decide
theorem strs_S : ∀ l : List (List Nat), strsOf (l.map fun a => D.str (Tx a)) = some (l.map Tx)
  | [] => rfl
  | a :: l => by simp only [List.map_cons, strsOf, strs_S l, Option.map_some]
theorem join_ok {l : List (List Nat)} (h : l.length ≤ 1000) (h2 : ∀ a ∈ l, a.length ≤ 1000) {s : Str} {c : Nat} (hs : s = Tx [c]) : oJoin (.str s) (.lst (l.map fun a => D.str (Tx a))) = some (.str (Tx (TL.joinL [c] l))) := by
  simp only [oJoin, strs_S, Option.bind_some]
  have e1 : ((l.map Tx).map (·.length)).sum ≤ l.length * 1000 := by
    rw [SX.lens]
    clear h
    induction l with
    | nil => simp
    | cons a l ih =>
      have := ih fun b hb => h2 b (by simp [hb])
      have := h2 a (by simp)
      simp only [List.map_cons, List.sum_cons, List.length_cons, Nat.add_mul, Nat.one_mul]
      omega
  have e2 : l.length * 1000 ≤ 1000 * 1000 := Nat.mul_le_mul_right _ h
  rw [hs, if_pos (by rw [List.length_map, SX.S_len]; simp only [List.length_singleton]; omega), SX.join_S]
theorem text_of_ok : ∀ (n d : Nat) (g : Game), d ≤ n → d ≤ 4 → g.Ok d → d_text_of n [g.enc] = .ok (.str (Tx g.txt))
  | 0, d, g, h, _, hg => by
    have : d = 0 := by omega
    subst this
    exact hg.elim
  | n + 1, 0, g, _, _, hg => hg.elim
  | n + 1, d + 1, .node w ws, h, h4, hg => by
    refine defD_eq rfl ?_
    unfold b_text_of
    have hw : -99 ≤ w ∧ w ≤ 99 := ⟨by have := hg.1; omega, by have := hg.1; omega⟩
    have os := oStr_small hw
    have ln := oLen_enc (Game.node w ws)
    have i0 : oIx (Game.node w ws).enc (.int 0) = some (.int w) := ix0_ok (Game.node w ws)
    have hl := Nat.le_trans (txt_len hg) (tl_small h4)
    have wk := ways_ok (Game.node w ws)
    generalize (Game.node w ws).enc = G at *
    by_cases hz : ws = []
    · subst hz
      rw [if_pos (show (Game.node w []).ways = [] from rfl)] at ln
      rw [txt_end]
      simp only [ln, oEq_int, show ((1 : Int) == 1) = true from rfl, i0, os, defD, args, dSeq, dSet, dSetP, dSetN, lstAt, dApp, dAppP, dAsg, dPar, dDrop, dWhile, dIfS, dRet, dB, dCall, dCons, dNil, dVar, dC, dBin, dChain, asB, dTru, dNotT, dAndT, dOrT, dAnd, dOr, dNot, dIf, dUn, dTup, dLst, dItems, dYes, R.bind, R.to, O.seq, outR, ofO, noErr, mask, Sm.putIn, bindPat, bindPats, itemsOf, tru, List.foldr_cons, List.foldr_nil, List.length_cons, List.length_nil, List.map_cons, List.map_nil, List.cons_append, List.nil_append, Nat.sub_self, List.replicate_zero, List.replicate_succ, List.getElem?_cons_succ, List.getElem?_cons_zero, List.set_cons_zero, List.set_cons_succ, Nat.reduceAdd, Nat.reduceSub, ↓reduceIte, Bool.not_true, Bool.not_false, Bool.and_true, Bool.true_and, Bool.false_and, Bool.and_false, if_true, if_false, Bool.false_eq_true, oNeg, oAddI, oSubI, oAdd_ii, oLt, oLe, oGt, oGe, Option.bind_some, Option.map_some]
    · rw [if_neg (by exact hz)] at ln
      have lc : dLc [1, 2] (.t [(.v 1), (.v 2)]) (dItems (dCall d_ways_of (dCons (dVar 0) dNil))) dYes (dBin oAdd (dBin oAdd (dB oStr (dCons (dVar 1) dNil)) (dC (.str ":"))) (dCall (d_text_of n) (dCons (dVar 2) dNil))) [some G, none, none] = .ok (.lst ((pieces ws).map fun a => D.str (Tx a))) := by
        refine dLc_of ?_
        have := lc_ok1 (vs := [1, 2]) (pt := .t [(.v 1), (.v 2)]) (it := dItems (dCall d_ways_of (dCons (dVar 0) dNil))) (fe := dBin oAdd (dBin oAdd (dB oStr (dCons (dVar 1) dNil)) (dC (.str ":"))) (dCall (d_text_of n) (dCons (dVar 2) dNil))) (ρ := [some G, none, none]) (xs := ws) (enc := fun p => .tup [.int p.1, p.2.enc]) (fun p => D.str (Tx (numT p.1 ++ 58 :: p.2.txt))) (by
          simp only [wk, defD, args, dSeq, dSet, dSetP, dSetN, lstAt, dApp, dAppP, dAsg, dPar, dDrop, dWhile, dIfS, dRet, dB, dCall, dCons, dNil, dVar, dC, dBin, dChain, asB, dTru, dNotT, dAndT, dOrT, dAnd, dOr, dNot, dIf, dUn, dTup, dLst, dItems, dYes, R.bind, R.to, O.seq, outR, ofO, noErr, mask, Sm.putIn, bindPat, bindPats, itemsOf, tru, List.foldr_cons, List.foldr_nil, List.length_cons, List.length_nil, List.map_cons, List.map_nil, List.cons_append, List.nil_append, Nat.sub_self, List.replicate_zero, List.replicate_succ, List.getElem?_cons_succ, List.getElem?_cons_zero, List.set_cons_zero, List.set_cons_succ, Nat.reduceAdd, Nat.reduceSub, ↓reduceIte, Bool.not_true, Bool.not_false, Bool.and_true, Bool.true_and, Bool.false_and, Bool.and_false, if_true, if_false, Bool.false_eq_true, oNeg, oAddI, oSubI, oAdd_ii, oLt, oLe, oGt, oGe, Option.bind_some, Option.map_some]; rfl) (by
          intro p hp
          refine ⟨_, rfl, ?_⟩
          have hp2 := hg.2.2 p hp
          have o1 := oStr_small (i := p.1) ⟨by omega, by omega⟩
          have t1 := text_of_ok n d p.2 (by omega) (by omega) hp2.2
          have l1 := Nat.le_trans (txt_len hp2.2) (tl_small (show d ≤ 4 by omega))
          have l2 := (numT_len p.1).1
          have a1 : oAdd (.str (Tx (numT p.1))) (.str ":") = some (.str (Tx (numT p.1 ++ [58]))) := addT (b := [58]) (by simp; omega)
          have a2 : oAdd (.str (Tx (numT p.1 ++ [58]))) (.str (Tx p.2.txt)) = some (.str (Tx (numT p.1 ++ 58 :: p.2.txt))) := by
            rw [addT (by simp; omega), List.append_assoc]; rfl
          simp only [o1, a1, t1, a2, defD, args, dSeq, dSet, dSetP, dSetN, lstAt, dApp, dAppP, dAsg, dPar, dDrop, dWhile, dIfS, dRet, dB, dCall, dCons, dNil, dVar, dC, dBin, dChain, asB, dTru, dNotT, dAndT, dOrT, dAnd, dOr, dNot, dIf, dUn, dTup, dLst, dItems, dYes, R.bind, R.to, O.seq, outR, ofO, noErr, mask, Sm.putIn, bindPat, bindPats, itemsOf, tru, List.foldr_cons, List.foldr_nil, List.length_cons, List.length_nil, List.map_cons, List.map_nil, List.cons_append, List.nil_append, Nat.sub_self, List.replicate_zero, List.replicate_succ, List.getElem?_cons_succ, List.getElem?_cons_zero, List.set_cons_zero, List.set_cons_succ, Nat.reduceAdd, Nat.reduceSub, ↓reduceIte, Bool.not_true, Bool.not_false, Bool.and_true, Bool.true_and, Bool.false_and, Bool.and_false, if_true, if_false, Bool.false_eq_true, oNeg, oAddI, oSubI, oAdd_ii, oLt, oLe, oGt, oGe, Option.bind_some, Option.map_some])
        rw [this]
        unfold pieces
        rw [List.map_map]; rfl
      have jn := join_ok (l := pieces ws) (c := 32) (s := " ") (by unfold pieces; rw [List.length_map]; have := hg.2.1; omega) (by
        intro a ha
        obtain ⟨q, hq, rfl⟩ := List.mem_map.mp ha
        have l1 := Nat.le_trans (txt_len (hg.2.2 q hq).2) (tl_small (show d ≤ 4 by omega))
        have l2 := (numT_len q.1).1
        rw [List.length_append, List.length_cons]; omega) (by rfl)
      rw [txt_go w hz] at hl ⊢
      simp only [List.length_append, List.length_cons, List.length_singleton, List.length_nil] at hl
      have a1 : oAdd (.str (Tx (numT w))) (.str "(") = some (.str (Tx (numT w ++ [40]))) := addT (b := [40]) (by simp; omega)
      have a2 : oAdd (.str (Tx (numT w ++ [40]))) (.str (Tx (TL.joinL [32] (pieces ws)))) = some (.str (Tx (numT w ++ [40] ++ TL.joinL [32] (pieces ws)))) := addT (by simp; omega)
      have a3 : oAdd (.str (Tx (numT w ++ [40] ++ TL.joinL [32] (pieces ws)))) (.str ")") = some (.str (Tx (numT w ++ 40 :: (TL.joinL [32] (pieces ws) ++ [41])))) := by
        rw [show (")" : Str) = Tx [41] by rfl, addT (by simp; omega), List.append_assoc, List.append_assoc]; rfl
      generalize (pieces ws).map (fun a => D.str (Tx a)) = L at *
      generalize TL.joinL [32] (pieces ws) = J at *
      simp only [ln, oEq_int, show ((2 : Int) == 1) = false from rfl, i0, os, a1, lc, jn, a2, a3, dS1, defD, args, dSeq, dSet, dSetP, dSetN, lstAt, dApp, dAppP, dAsg, dPar, dDrop, dWhile, dIfS, dRet, dB, dCall, dCons, dNil, dVar, dC, dBin, dChain, asB, dTru, dNotT, dAndT, dOrT, dAnd, dOr, dNot, dIf, dUn, dTup, dLst, dItems, dYes, R.bind, R.to, O.seq, outR, ofO, noErr, mask, Sm.putIn, bindPat, bindPats, itemsOf, tru, List.foldr_cons, List.foldr_nil, List.length_cons, List.length_nil, List.map_cons, List.map_nil, List.cons_append, List.nil_append, Nat.sub_self, List.replicate_zero, List.replicate_succ, List.getElem?_cons_succ, List.getElem?_cons_zero, List.set_cons_zero, List.set_cons_succ, Nat.reduceAdd, Nat.reduceSub, ↓reduceIte, Bool.not_true, Bool.not_false, Bool.and_true, Bool.true_and, Bool.false_and, Bool.and_false, if_true, if_false, Bool.false_eq_true, oNeg, oAddI, oSubI, oAdd_ii, oLt, oLe, oGt, oGe, Option.bind_some, Option.map_some]
def ltB (self : List D → R D) : DS := dSet [] 1 (dBin oAdd (dBin oAdd (dBin oAdd (dBin oAdd (dVar 1) (dIf (asB (dBin oGt (dVar 2) (dC (.int 0)))) (dC (.str " ")) (dC (.str "")))) (dB oStr (dCons (dVar 3) dNil))) (dC (.str ":"))) (dCall self (dCons (dVar 4) dNil)))
def tailK : Nat → List (List Nat) → List Nat
  | _, [] => []
  | k, p :: ps => (if k > 0 then [32] else []) ++ p ++ tailK (k + 1) ps
theorem tailK_succ : ∀ (k : Nat) (ps : List (List Nat)), tailK (k + 1) ps = tails ps
  | _, [] => rfl
  | k, p :: ps => by
    rw [tailK, tails, tailK_succ (k + 1) ps, if_pos (by omega)]; rfl
theorem tailK_zero {ps : List (List Nat)} (h : ps ≠ []) : tailK 0 ps = TL.joinL [32] ps := by
  cases ps with
  | nil => exact absurd rfl h
  | cons p ps => rw [tailK, tailK_succ, join_tails, if_neg (by omega), List.nil_append]
theorem ltext_loop {n d : Nat} (h4 : d ≤ 4) (hn : ∀ g : Game, g.Ok d → d__law_text n [g.enc] = .ok (.str (Tx g.txt))) (x0 : Option D) : ∀ (ws : List (Int × Game)) (k : Nat) (t : List Nat) (x2 x3 x4 : Option D),
    (∀ p ∈ ws, (1 ≤ p.1 ∧ p.1 ≤ 9) ∧ p.2.Ok d) → t.length + ws.length * 1000 ≤ 9000 →
    ∃ y2 y3 y4, forGo (.t [(.v 2), (.t [(.v 3), (.v 4)])]) (ltB (d__law_text n)) (enumFrom k (encW ws)) [x0, some (.str (Tx t)), x2, x3, x4] = .nx [x0, some (.str (Tx (t ++ tailK k (pieces ws)))), y2, y3, y4]
  | [], k, t, x2, x3, x4, _, _ => ⟨x2, x3, x4, by simp [encW, enumFrom, forGo, pieces, tailK]⟩
  | x :: ws, k, t, x2, x3, x4, hw, hl => by
    rw [List.length_cons] at hl
    have hx := hw x (by simp)
    have l1 := Nat.le_trans (txt_len hx.2) (tl_small h4)
    have l2 := (numT_len x.1).1
    have l0 : (if k > 0 then ([32] : List Nat) else []).length ≤ 1 := by split <;> simp
    obtain ⟨y2, y3, y4, e⟩ := ltext_loop h4 hn x0 ws (k + 1) (t ++ ((if k > 0 then [32] else []) ++ (numT x.1 ++ 58 :: x.2.txt))) (some (.int (k : Int))) (some (.int x.1)) (some x.2.enc) (fun p hp => hw p (by simp [hp])) (by
      simp only [List.length_append, List.length_cons]; omega)
    refine ⟨y2, y3, y4, ?_⟩
    have o1 := oStr_small (i := x.1) ⟨by omega, by omega⟩
    have a0 : (dIf (asB (dBin oGt (dVar 2) (dC (.int 0)))) (dC (.str " ")) (dC (.str ""))) [x0, some (.str (Tx t)), some (.int (k : Int)), some (.int x.1), some x.2.enc] = .ok (.str (Tx (if k > 0 then [32] else []))) := by
      by_cases hk : k > 0
      · rw [if_pos hk]
        simp only [show decide ((0 : Int) < (k : Int)) = true from decide_eq_true (by omega), defD, args, dSeq, dSet, dSetP, dSetN, lstAt, dApp, dAppP, dAsg, dPar, dDrop, dWhile, dIfS, dRet, dB, dCall, dCons, dNil, dVar, dC, dBin, dChain, asB, dTru, dNotT, dAndT, dOrT, dAnd, dOr, dNot, dIf, dUn, dTup, dLst, dItems, dYes, R.bind, R.to, O.seq, outR, ofO, noErr, mask, Sm.putIn, bindPat, bindPats, itemsOf, tru, List.foldr_cons, List.foldr_nil, List.length_cons, List.length_nil, List.map_cons, List.map_nil, List.cons_append, List.nil_append, Nat.sub_self, List.replicate_zero, List.replicate_succ, List.getElem?_cons_succ, List.getElem?_cons_zero, List.set_cons_zero, List.set_cons_succ, Nat.reduceAdd, Nat.reduceSub, ↓reduceIte, Bool.not_true, Bool.not_false, Bool.and_true, Bool.true_and, Bool.false_and, Bool.and_false, if_true, if_false, Bool.false_eq_true, oNeg, oAddI, oSubI, oAdd_ii, oLt, oLe, oGt, oGe, Option.bind_some, Option.map_some]
        rfl
      · rw [if_neg hk]
        simp only [show decide ((0 : Int) < (k : Int)) = false from decide_eq_false (by omega), defD, args, dSeq, dSet, dSetP, dSetN, lstAt, dApp, dAppP, dAsg, dPar, dDrop, dWhile, dIfS, dRet, dB, dCall, dCons, dNil, dVar, dC, dBin, dChain, asB, dTru, dNotT, dAndT, dOrT, dAnd, dOr, dNot, dIf, dUn, dTup, dLst, dItems, dYes, R.bind, R.to, O.seq, outR, ofO, noErr, mask, Sm.putIn, bindPat, bindPats, itemsOf, tru, List.foldr_cons, List.foldr_nil, List.length_cons, List.length_nil, List.map_cons, List.map_nil, List.cons_append, List.nil_append, Nat.sub_self, List.replicate_zero, List.replicate_succ, List.getElem?_cons_succ, List.getElem?_cons_zero, List.set_cons_zero, List.set_cons_succ, Nat.reduceAdd, Nat.reduceSub, ↓reduceIte, Bool.not_true, Bool.not_false, Bool.and_true, Bool.true_and, Bool.false_and, Bool.and_false, if_true, if_false, Bool.false_eq_true, oNeg, oAddI, oSubI, oAdd_ii, oLt, oLe, oGt, oGe, Option.bind_some, Option.map_some]
        rfl
    generalize hb : (if k > 0 then ([32] : List Nat) else []) = B at *
    have a1 : oAdd (.str (Tx t)) (.str (Tx B)) = some (.str (Tx (t ++ B))) := addT (by omega)
    have a2 : oAdd (.str (Tx (t ++ B))) (.str (Tx (numT x.1))) = some (.str (Tx (t ++ B ++ numT x.1))) := addT (by simp; omega)
    have a3 : oAdd (.str (Tx (t ++ B ++ numT x.1))) (.str ":") = some (.str (Tx (t ++ B ++ numT x.1 ++ [58]))) := addT (b := [58]) (by simp; omega)
    have a4 : oAdd (.str (Tx (t ++ B ++ numT x.1 ++ [58]))) (.str (Tx x.2.txt)) = some (.str (Tx (t ++ (B ++ (numT x.1 ++ 58 :: x.2.txt))))) := by
      rw [addT (by simp; omega)]
      simp only [List.append_assoc, List.cons_append, List.nil_append]
    have t1 := hn x.2 hx.2
    rw [show enumFrom k (encW (x :: ws)) = .tup [.int (k : Int), .tup [.int x.1, x.2.enc]] :: enumFrom (k + 1) (encW ws) from rfl]
    have st : ltB (d__law_text n) [x0, some (.str (Tx t)), some (.int (k : Int)), some (.int x.1), some x.2.enc] = .nx [x0, some (.str (Tx (t ++ (B ++ (numT x.1 ++ 58 :: x.2.txt))))), some (.int (k : Int)), some (.int x.1), some x.2.enc] := by
      have e0 : dBin oAdd (dVar 1) (dIf (asB (dBin oGt (dVar 2) (dC (.int 0)))) (dC (.str " ")) (dC (.str ""))) [x0, some (.str (Tx t)), some (.int (k : Int)), some (.int x.1), some x.2.enc] = .ok (.str (Tx (t ++ B))) := by
        simp only [dBin]
        rw [a0]
        simp only [a1, defD, args, dSeq, dSet, dSetP, dSetN, lstAt, dApp, dAppP, dAsg, dPar, dDrop, dWhile, dIfS, dRet, dB, dCall, dCons, dNil, dVar, dC, dBin, dChain, asB, dTru, dNotT, dAndT, dOrT, dAnd, dOr, dNot, dIf, dUn, dTup, dLst, dItems, dYes, R.bind, R.to, O.seq, outR, ofO, noErr, mask, Sm.putIn, bindPat, bindPats, itemsOf, tru, List.foldr_cons, List.foldr_nil, List.length_cons, List.length_nil, List.map_cons, List.map_nil, List.cons_append, List.nil_append, Nat.sub_self, List.replicate_zero, List.replicate_succ, List.getElem?_cons_succ, List.getElem?_cons_zero, List.set_cons_zero, List.set_cons_succ, Nat.reduceAdd, Nat.reduceSub, ↓reduceIte, Bool.not_true, Bool.not_false, Bool.and_true, Bool.true_and, Bool.false_and, Bool.and_false, if_true, if_false, Bool.false_eq_true, oNeg, oAddI, oSubI, oAdd_ii, oLt, oLe, oGt, oGe, Option.bind_some, Option.map_some]
      have e1 : dBin oAdd (dBin oAdd (dVar 1) (dIf (asB (dBin oGt (dVar 2) (dC (.int 0)))) (dC (.str " ")) (dC (.str "")))) (dB oStr (dCons (dVar 3) dNil)) [x0, some (.str (Tx t)), some (.int (k : Int)), some (.int x.1), some x.2.enc] = .ok (.str (Tx (t ++ B ++ numT x.1))) := by
        unfold dBin at e0 ⊢
        rw [e0]
        simp only [o1, a2, defD, args, dSeq, dSet, dSetP, dSetN, lstAt, dApp, dAppP, dAsg, dPar, dDrop, dWhile, dIfS, dRet, dB, dCall, dCons, dNil, dVar, dC, dBin, dChain, asB, dTru, dNotT, dAndT, dOrT, dAnd, dOr, dNot, dIf, dUn, dTup, dLst, dItems, dYes, R.bind, R.to, O.seq, outR, ofO, noErr, mask, Sm.putIn, bindPat, bindPats, itemsOf, tru, List.foldr_cons, List.foldr_nil, List.length_cons, List.length_nil, List.map_cons, List.map_nil, List.cons_append, List.nil_append, Nat.sub_self, List.replicate_zero, List.replicate_succ, List.getElem?_cons_succ, List.getElem?_cons_zero, List.set_cons_zero, List.set_cons_succ, Nat.reduceAdd, Nat.reduceSub, ↓reduceIte, Bool.not_true, Bool.not_false, Bool.and_true, Bool.true_and, Bool.false_and, Bool.and_false, if_true, if_false, Bool.false_eq_true, oNeg, oAddI, oSubI, oAdd_ii, oLt, oLe, oGt, oGe, Option.bind_some, Option.map_some]
      have e2 : dBin oAdd (dBin oAdd (dBin oAdd (dVar 1) (dIf (asB (dBin oGt (dVar 2) (dC (.int 0)))) (dC (.str " ")) (dC (.str "")))) (dB oStr (dCons (dVar 3) dNil))) (dC (.str ":")) [x0, some (.str (Tx t)), some (.int (k : Int)), some (.int x.1), some x.2.enc] = .ok (.str (Tx (t ++ B ++ numT x.1 ++ [58]))) := by
        unfold dBin at e1 ⊢
        rw [e1]
        simp only [a3, defD, args, dSeq, dSet, dSetP, dSetN, lstAt, dApp, dAppP, dAsg, dPar, dDrop, dWhile, dIfS, dRet, dB, dCall, dCons, dNil, dVar, dC, dBin, dChain, asB, dTru, dNotT, dAndT, dOrT, dAnd, dOr, dNot, dIf, dUn, dTup, dLst, dItems, dYes, R.bind, R.to, O.seq, outR, ofO, noErr, mask, Sm.putIn, bindPat, bindPats, itemsOf, tru, List.foldr_cons, List.foldr_nil, List.length_cons, List.length_nil, List.map_cons, List.map_nil, List.cons_append, List.nil_append, Nat.sub_self, List.replicate_zero, List.replicate_succ, List.getElem?_cons_succ, List.getElem?_cons_zero, List.set_cons_zero, List.set_cons_succ, Nat.reduceAdd, Nat.reduceSub, ↓reduceIte, Bool.not_true, Bool.not_false, Bool.and_true, Bool.true_and, Bool.false_and, Bool.and_false, if_true, if_false, Bool.false_eq_true, oNeg, oAddI, oSubI, oAdd_ii, oLt, oLe, oGt, oGe, Option.bind_some, Option.map_some]
      unfold ltB
      refine set_nx ?_
      show dBin oAdd _ (dCall (d__law_text n) (dCons (dVar 4) dNil)) [x0, some (.str (Tx t)), some (.int (k : Int)), some (.int x.1), some x.2.enc] = _
      unfold dBin at e2 ⊢
      rw [e2]
      simp only [t1, a4, defD, args, dSeq, dSet, dSetP, dSetN, lstAt, dApp, dAppP, dAsg, dPar, dDrop, dWhile, dIfS, dRet, dB, dCall, dCons, dNil, dVar, dC, dBin, dChain, asB, dTru, dNotT, dAndT, dOrT, dAnd, dOr, dNot, dIf, dUn, dTup, dLst, dItems, dYes, R.bind, R.to, O.seq, outR, ofO, noErr, mask, Sm.putIn, bindPat, bindPats, itemsOf, tru, List.foldr_cons, List.foldr_nil, List.length_cons, List.length_nil, List.map_cons, List.map_nil, List.cons_append, List.nil_append, Nat.sub_self, List.replicate_zero, List.replicate_succ, List.getElem?_cons_succ, List.getElem?_cons_zero, List.set_cons_zero, List.set_cons_succ, Nat.reduceAdd, Nat.reduceSub, ↓reduceIte, Bool.not_true, Bool.not_false, Bool.and_true, Bool.true_and, Bool.false_and, Bool.and_false, if_true, if_false, Bool.false_eq_true, oNeg, oAddI, oSubI, oAdd_ii, oLt, oLe, oGt, oGe, Option.bind_some, Option.map_some]
    unfold forGo
    rw [show bindPat (.t [(.v 2), (.t [(.v 3), (.v 4)])]) (.tup [.int (k : Int), .tup [.int x.1, x.2.enc]]) [x0, some (.str (Tx t)), x2, x3, x4] = some [x0, some (.str (Tx t)), some (.int (k : Int)), some (.int x.1), some x.2.enc] from rfl]
    simp only [st, O.seq]
    rw [e, show pieces (x :: ws) = (numT x.1 ++ 58 :: x.2.txt) :: pieces ws from rfl, tailK, hb]
    simp only [List.append_assoc]
theorem ltext_ok : ∀ (n d : Nat) (g : Game), d ≤ n → d ≤ 4 → g.Ok d → d__law_text n [g.enc] = .ok (.str (Tx g.txt))
  | 0, d, g, h, _, hg => by
    have : d = 0 := by omega
    subst this
    exact hg.elim
  | n + 1, 0, g, _, _, hg => hg.elim
  | n + 1, d + 1, .node w ws, h, h4, hg => by
    refine defD_eq rfl ?_
    unfold b__law_text
    have i0 : oIx (Game.node w ws).enc (.int 0) = some (.int w) := ix0_ok (Game.node w ws)
    have hw : -99 ≤ w ∧ w ≤ 99 := ⟨by have := hg.1; omega, by have := hg.1; omega⟩
    have os := oStr_small hw
    have ln := oLen_enc (Game.node w ws)
    have hl := Nat.le_trans (txt_len hg) (tl_small h4)
    apply out_seq (ρ1 := [some (Game.node w ws).enc, some (.str (Tx (numT w))), none, none, none])
    · generalize (Game.node w ws).enc = G at *
      simp only [i0, os, defD, args, dSeq, dSet, dSetP, dSetN, lstAt, dApp, dAppP, dAsg, dPar, dDrop, dWhile, dIfS, dRet, dB, dCall, dCons, dNil, dVar, dC, dBin, dChain, asB, dTru, dNotT, dAndT, dOrT, dAnd, dOr, dNot, dIf, dUn, dTup, dLst, dItems, dYes, R.bind, R.to, O.seq, outR, ofO, noErr, mask, Sm.putIn, bindPat, bindPats, itemsOf, tru, List.foldr_cons, List.foldr_nil, List.length_cons, List.length_nil, List.map_cons, List.map_nil, List.cons_append, List.nil_append, Nat.sub_self, List.replicate_zero, List.replicate_succ, List.getElem?_cons_succ, List.getElem?_cons_zero, List.set_cons_zero, List.set_cons_succ, Nat.reduceAdd, Nat.reduceSub, ↓reduceIte, Bool.not_true, Bool.not_false, Bool.and_true, Bool.true_and, Bool.false_and, Bool.and_false, if_true, if_false, Bool.false_eq_true, oNeg, oAddI, oSubI, oAdd_ii, oLt, oLe, oGt, oGe, Option.bind_some, Option.map_some]
    by_cases hz : ws = []
    · subst hz
      rw [if_pos (show (Game.node w []).ways = [] from rfl)] at ln
      rw [txt_end]
      generalize (Game.node w []).enc = G at *
      simp only [ln, oEq_int, show ((1 : Int) == 2) = false from rfl, defD, args, dSeq, dSet, dSetP, dSetN, lstAt, dApp, dAppP, dAsg, dPar, dDrop, dWhile, dIfS, dRet, dB, dCall, dCons, dNil, dVar, dC, dBin, dChain, asB, dTru, dNotT, dAndT, dOrT, dAnd, dOr, dNot, dIf, dUn, dTup, dLst, dItems, dYes, R.bind, R.to, O.seq, outR, ofO, noErr, mask, Sm.putIn, bindPat, bindPats, itemsOf, tru, List.foldr_cons, List.foldr_nil, List.length_cons, List.length_nil, List.map_cons, List.map_nil, List.cons_append, List.nil_append, Nat.sub_self, List.replicate_zero, List.replicate_succ, List.getElem?_cons_succ, List.getElem?_cons_zero, List.set_cons_zero, List.set_cons_succ, Nat.reduceAdd, Nat.reduceSub, ↓reduceIte, Bool.not_true, Bool.not_false, Bool.and_true, Bool.true_and, Bool.false_and, Bool.and_false, if_true, if_false, Bool.false_eq_true, oNeg, oAddI, oSubI, oAdd_ii, oLt, oLe, oGt, oGe, Option.bind_some, Option.map_some]
    · rw [if_neg (by exact hz)] at ln
      have i1 : oIx (Game.node w ws).enc (.int 1) = some (.tup (encW ws)) := by
        cases ws with
        | nil => exact absurd rfl hz
        | cons x ws => rw [enc_go]; rfl
      have lw : ws.length ≤ 3 := hg.2.1
      have lw0 := (numT_len w).1
      obtain ⟨y2, y3, y4, lp⟩ := ltext_loop (n := n) (d := d) (by omega) (fun g hg' => ltext_ok n d g (by omega) (by omega) hg') (some (Game.node w ws).enc) ws 0 (numT w ++ [40]) none none none (fun p hp => hg.2.2 p hp) (by simp; omega)
      rw [tailK_zero (by unfold pieces; simpa using hz)] at lp
      rw [txt_go w hz] at hl ⊢
      simp only [List.length_append, List.length_cons, List.length_singleton, List.length_nil] at hl
      have a1 : oAdd (.str (Tx (numT w))) (.str "(") = some (.str (Tx (numT w ++ [40]))) := addT (b := [40]) (by simp; omega)
      have a3 : oAdd (.str (Tx (numT w ++ [40] ++ TL.joinL [32] (pieces ws)))) (.str ")") = some (.str (Tx (numT w ++ 40 :: (TL.joinL [32] (pieces ws) ++ [41])))) := by
        rw [show (")" : Str) = Tx [41] by rfl, addT (by simp; omega), List.append_assoc, List.append_assoc]; rfl
      apply out_seq (ρ1 := [some (Game.node w ws).enc, some (.str (Tx (numT w ++ 40 :: (TL.joinL [32] (pieces ws) ++ [41])))), y2, y3, y4])
      · refine ifs_t ?_ ?_
        · generalize (Game.node w ws).enc = G at *
          simp only [ln, oEq_int, show ((2 : Int) == 2) = true from rfl, defD, args, dSeq, dSet, dSetP, dSetN, lstAt, dApp, dAppP, dAsg, dPar, dDrop, dWhile, dIfS, dRet, dB, dCall, dCons, dNil, dVar, dC, dBin, dChain, asB, dTru, dNotT, dAndT, dOrT, dAnd, dOr, dNot, dIf, dUn, dTup, dLst, dItems, dYes, R.bind, R.to, O.seq, outR, ofO, noErr, mask, Sm.putIn, bindPat, bindPats, itemsOf, tru, List.foldr_cons, List.foldr_nil, List.length_cons, List.length_nil, List.map_cons, List.map_nil, List.cons_append, List.nil_append, Nat.sub_self, List.replicate_zero, List.replicate_succ, List.getElem?_cons_succ, List.getElem?_cons_zero, List.set_cons_zero, List.set_cons_succ, Nat.reduceAdd, Nat.reduceSub, ↓reduceIte, Bool.not_true, Bool.not_false, Bool.and_true, Bool.true_and, Bool.false_and, Bool.and_false, if_true, if_false, Bool.false_eq_true, oNeg, oAddI, oSubI, oAdd_ii, oLt, oLe, oGt, oGe, Option.bind_some, Option.map_some]
        · refine seq_nx (ρ1 := [some (Game.node w ws).enc, some (.str (Tx (numT w ++ [40]))), none, none, none]) ?_ ?_
          · generalize (Game.node w ws).enc = G at *
            simp only [a1, defD, args, dSeq, dSet, dSetP, dSetN, lstAt, dApp, dAppP, dAsg, dPar, dDrop, dWhile, dIfS, dRet, dB, dCall, dCons, dNil, dVar, dC, dBin, dChain, asB, dTru, dNotT, dAndT, dOrT, dAnd, dOr, dNot, dIf, dUn, dTup, dLst, dItems, dYes, R.bind, R.to, O.seq, outR, ofO, noErr, mask, Sm.putIn, bindPat, bindPats, itemsOf, tru, List.foldr_cons, List.foldr_nil, List.length_cons, List.length_nil, List.map_cons, List.map_nil, List.cons_append, List.nil_append, Nat.sub_self, List.replicate_zero, List.replicate_succ, List.getElem?_cons_succ, List.getElem?_cons_zero, List.set_cons_zero, List.set_cons_succ, Nat.reduceAdd, Nat.reduceSub, ↓reduceIte, Bool.not_true, Bool.not_false, Bool.and_true, Bool.true_and, Bool.false_and, Bool.and_false, if_true, if_false, Bool.false_eq_true, oNeg, oAddI, oSubI, oAdd_ii, oLt, oLe, oGt, oGe, Option.bind_some, Option.map_some]
          · refine seq_nx (ρ1 := [some (Game.node w ws).enc, some (.str (Tx (numT w ++ [40] ++ TL.joinL [32] (pieces ws)))), y2, y3, y4]) ?_ ?_
            · have it : dRng enumD (dCons (dBin oIx (dVar 0) (dC (.int 1))) dNil) (mask [] [some (Game.node w ws).enc, some (.str (Tx (numT w ++ [40]))), none, none, none]) = .ok (enumFrom 0 (encW ws)) := enum_it (by
                show dCons (dBin oIx (dVar 0) (dC (.int 1))) dNil [some (Game.node w ws).enc, some (.str (Tx (numT w ++ [40]))), none, none, none] = _
                generalize (Game.node w ws).enc = G at *
                simp only [i1, defD, args, dSeq, dSet, dSetP, dSetN, lstAt, dApp, dAppP, dAsg, dPar, dDrop, dWhile, dIfS, dRet, dB, dCall, dCons, dNil, dVar, dC, dBin, dChain, asB, dTru, dNotT, dAndT, dOrT, dAnd, dOr, dNot, dIf, dUn, dTup, dLst, dItems, dYes, R.bind, R.to, O.seq, outR, ofO, noErr, mask, Sm.putIn, bindPat, bindPats, itemsOf, tru, List.foldr_cons, List.foldr_nil, List.length_cons, List.length_nil, List.map_cons, List.map_nil, List.cons_append, List.nil_append, Nat.sub_self, List.replicate_zero, List.replicate_succ, List.getElem?_cons_succ, List.getElem?_cons_zero, List.set_cons_zero, List.set_cons_succ, Nat.reduceAdd, Nat.reduceSub, ↓reduceIte, Bool.not_true, Bool.not_false, Bool.and_true, Bool.true_and, Bool.false_and, Bool.and_false, if_true, if_false, Bool.false_eq_true, oNeg, oAddI, oSubI, oAdd_ii, oLt, oLe, oGt, oGe, Option.bind_some, Option.map_some])
              unfold dFor
              rw [it]
              simp only [R.to]
              exact lp
            · generalize (Game.node w ws).enc = G at *
              simp only [a3, defD, args, dSeq, dSet, dSetP, dSetN, lstAt, dApp, dAppP, dAsg, dPar, dDrop, dWhile, dIfS, dRet, dB, dCall, dCons, dNil, dVar, dC, dBin, dChain, asB, dTru, dNotT, dAndT, dOrT, dAnd, dOr, dNot, dIf, dUn, dTup, dLst, dItems, dYes, R.bind, R.to, O.seq, outR, ofO, noErr, mask, Sm.putIn, bindPat, bindPats, itemsOf, tru, List.foldr_cons, List.foldr_nil, List.length_cons, List.length_nil, List.map_cons, List.map_nil, List.cons_append, List.nil_append, Nat.sub_self, List.replicate_zero, List.replicate_succ, List.getElem?_cons_succ, List.getElem?_cons_zero, List.set_cons_zero, List.set_cons_succ, Nat.reduceAdd, Nat.reduceSub, ↓reduceIte, Bool.not_true, Bool.not_false, Bool.and_true, Bool.true_and, Bool.false_and, Bool.and_false, if_true, if_false, Bool.false_eq_true, oNeg, oAddI, oSubI, oAdd_ii, oLt, oLe, oGt, oGe, Option.bind_some, Option.map_some]
      · generalize (Game.node w ws).enc = G at *
        generalize Tx (numT w ++ 40 :: (TL.joinL [32] (pieces ws) ++ [41])) = Z at *
        simp only [defD, args, dSeq, dSet, dSetP, dSetN, lstAt, dApp, dAppP, dAsg, dPar, dDrop, dWhile, dIfS, dRet, dB, dCall, dCons, dNil, dVar, dC, dBin, dChain, asB, dTru, dNotT, dAndT, dOrT, dAnd, dOr, dNot, dIf, dUn, dTup, dLst, dItems, dYes, R.bind, R.to, O.seq, outR, ofO, noErr, mask, Sm.putIn, bindPat, bindPats, itemsOf, tru, List.foldr_cons, List.foldr_nil, List.length_cons, List.length_nil, List.map_cons, List.map_nil, List.cons_append, List.nil_append, Nat.sub_self, List.replicate_zero, List.replicate_succ, List.getElem?_cons_succ, List.getElem?_cons_zero, List.set_cons_zero, List.set_cons_succ, Nat.reduceAdd, Nat.reduceSub, ↓reduceIte, Bool.not_true, Bool.not_false, Bool.and_true, Bool.true_and, Bool.false_and, Bool.and_false, if_true, if_false, Bool.false_eq_true, oNeg, oAddI, oSubI, oAdd_ii, oLt, oLe, oGt, oGe, Option.bind_some, Option.map_some]
end Kx
namespace Kx
open PySem PySem.Spec L2 Sm
theorem get_mid (pre r : List Nat) (i : Nat) : (pre ++ r)[pre.length + i]? = r[i]? := by
  rw [List.getElem?_append_right (by omega)]
  congr 1; omega
theorem get_mid0 {a pre r : List Nat} {p : Nat} (ha : a = pre ++ r) (hp : p = pre.length) : a[p]? = r[0]? := by
  subst ha hp
  exact get_mid pre r 0
theorem isC_mid {a pre r : List Nat} {p c : Nat} (ha : a = pre ++ r) (hp : p = pre.length) : isC a p c = decide (r[0]? = some c) := by
  unfold isC
  rw [get_mid0 ha hp]
theorem dgs_mid {a pre post : List Nat} {p n : Nat} (ha : a = pre ++ (dg n ++ post)) (hp : p = pre.length) (hn : n < 100) (hq : isDg post[0]? = false) : dgs a p = (dg n).length ∧ dvl a p (dgs a p) = n := by
  have e : dgs a p = (dg n).length := by
    subst ha hp
    unfold dgs
    rw [get_mid, show pre.length = pre.length + 0 from rfl, get_mid]
    unfold dg
    by_cases h : n < 10
    · simp only [if_pos h, List.cons_append, List.nil_append, List.getElem?_cons_zero, List.getElem?_cons_succ, hq, List.length_singleton]
      rw [if_pos (by simp only [isDg, Bool.and_eq_true, decide_eq_true_eq]; omega), if_neg (by simp)]
    · simp only [if_neg h, List.cons_append, List.nil_append, List.getElem?_cons_zero, List.getElem?_cons_succ, List.length_cons, List.length_nil]
      rw [if_pos (by simp only [isDg, Bool.and_eq_true, decide_eq_true_eq]; omega), if_pos (by simp only [isDg, Bool.and_eq_true, decide_eq_true_eq]; omega)]
  refine ⟨e, ?_⟩
  rw [e]
  subst ha hp
  unfold dvl
  rw [List.drop_left, List.take_left]
  unfold dg PySem.NumText.digitsVal
  by_cases h : n < 10
  · rw [if_pos h]
    simp only [List.foldl_cons, List.foldl_nil]; omega
  · rw [if_neg h]
    simp only [List.foldl_cons, List.foldl_nil]; omega
theorem num_back {a pre post : List Nat} {p : Nat} {z : Int} (ha : a = pre ++ (numT z ++ post)) (hp : p = pre.length) (hz : -99 ≤ z ∧ z ≤ 99) (hq : isDg post[0]? = false) : numAt a p = some (z, p + (numT z).length) := by
  by_cases hn : z < 0
  · have en : numT z = 45 :: dg z.natAbs := if_pos hn
    rw [en] at ha ⊢
    have c : isC a p 45 = true := by
      rw [isC_mid ha hp]; simp
    have s : sgn a p = 1 := by unfold sgn; rw [if_pos c]
    have ⟨m1, m2⟩ := dgs_mid (a := a) (pre := pre ++ [45]) (post := post) (p := p + 1) (n := z.natAbs) (by rw [ha]; simp) (by rw [hp]; simp) (by omega) hq
    unfold numAt
    rw [s, m1] at *
    have := (dg_len2 z.natAbs).2
    rw [if_neg (by omega), if_pos c, m2, List.length_cons]
    congr 2
    · omega
    · omega
  · have en : numT z = dg z.natAbs := if_neg hn
    rw [en] at ha ⊢
    have c : isC a p 45 = false := by
      rw [isC_mid ha hp]
      unfold dg
      split <;> simp <;> omega
    have s : sgn a p = 0 := by unfold sgn; rw [if_neg (by simp [c])]
    have ⟨m1, m2⟩ := dgs_mid (a := a) (pre := pre) (post := post) (p := p) (n := z.natAbs) ha hp (by omega) hq
    unfold numAt
    rw [s, Nat.add_zero, m1] at *
    have := (dg_len2 z.natAbs).2
    rw [if_neg (by omega), if_neg (by simp [c]), m2]
    congr 2
    omega
structure Fol (post : List Nat) : Prop where
  d : isDg post[0]? = false
  o : post[0]? ≠ some 40
theorem fol_tails (ps : List (List Nat)) (post : List Nat) : Fol (tails ps ++ 41 :: post) := by
  cases ps with
  | nil => exact ⟨rfl, by simp [tails]⟩
  | cons p ps => exact ⟨rfl, by simp [tails]⟩
def Back (d : Nat) (g : Game) : Prop := ∀ (a pre post : List Nat) (p : Nat), a = pre ++ (g.txt ++ post) → p = pre.length → Fol post → gameAt a d p = some (g, p + g.txt.length)
theorem ways_back {d : Nat} {a : List Nat} {post : List Nat} : ∀ (ws : List (Int × Game)) (n : Nat) (acc : List (Int × Game)) (pre : List Nat) (p : Nat), (∀ q ∈ ws, (1 ≤ q.1 ∧ q.1 ≤ 9) ∧ Back d q.2) → acc ≠ [] → ws.length < n → a = pre ++ (tails (pieces ws) ++ 41 :: post) → p = pre.length →
    waysAt (gameAt a d) a n acc p = some (acc ++ ws, p + (tails (pieces ws)).length)
  | [], 0, _, _, _, _, _, h, _, _ => absurd h (by omega)
  | _ :: _, 0, _, _, _, _, _, h, _, _ => absurd h (by omega)
  | [], n + 1, acc, pre, p, hw, hne, hn, ha, hp => by
    have c : isC a p 32 = false := by
      rw [isC_mid ha hp]; simp [pieces, tails]
    rw [waysAt, if_neg (by simp [c]; exact hne)]
    simp [pieces, tails]
  | x :: ws, n + 1, acc, pre, p, hw, hne, hn, ha, hp => by
    have hx := hw x (by simp)
    rw [show pieces (x :: ws) = (numT x.1 ++ 58 :: x.2.txt) :: pieces ws from rfl] at ha ⊢
    have c : isC a p 32 = true := by
      rw [isC_mid ha hp]; simp [tails]
    have ie : acc.isEmpty = false := by cases acc with | nil => exact absurd rfl hne | cons => rfl
    have nb := num_back (a := a) (pre := pre ++ [32]) (post := 58 :: (x.2.txt ++ (tails (pieces ws) ++ 41 :: post))) (p := p + 1) (z := x.1) (by rw [ha]; simp [tails]) (by rw [hp]; simp) ⟨by omega, by omega⟩ rfl
    have c58 : isC a (p + 1 + (numT x.1).length) 58 = true := by
      rw [isC_mid (pre := pre ++ [32] ++ numT x.1) (r := 58 :: (x.2.txt ++ (tails (pieces ws) ++ 41 :: post))) (by rw [ha]; simp [tails]) (by rw [hp]; simp; omega)]
      simp
    have bk := hx.2 a (pre ++ [32] ++ numT x.1 ++ [58]) (tails (pieces ws) ++ 41 :: post) (p + 1 + (numT x.1).length + 1) (by rw [ha]; simp [tails]) (by rw [hp]; simp; omega) (fol_tails _ _)
    rw [waysAt, if_pos (by rw [c, Bool.or_true]), ie, if_neg (by simp), nb, Option.bind_some]
    dsimp only
    rw [if_pos c58, bk, Option.bind_some]
    dsimp only
    rw [ways_back (post := post) ws n (acc ++ [(x.1, x.2)]) (pre ++ [32] ++ numT x.1 ++ [58] ++ x.2.txt) _ (fun q hq => hw q (by simp [hq])) (by simp) (by simp at hn; omega) (by rw [ha]; simp [tails]) (by rw [hp]; simp; omega)]
    simp [tails]
    omega
theorem game_back : ∀ (d : Nat) (g : Game), g.Ok d → Back d g
  | 0, _, h => h.elim
  | d + 1, .node w ws, h => fun a pre post p ha hp hf => by
    have hw : -99 ≤ w ∧ w ≤ 99 := ⟨by have := h.1; omega, by have := h.1; omega⟩
    rw [gameAt]
    cases ws with
    | nil =>
      rw [txt_end] at ha ⊢
      rw [num_back ha hp hw hf.d, Option.bind_some]
      dsimp only
      rw [if_neg]
      rw [isC_mid (pre := pre ++ numT w) (r := post) (by rw [ha]; simp) (by rw [hp]; simp)]
      simpa using hf.o
    | cons x ws =>
      have hx := h.2.2 x (by simp)
      rw [txt_go w (by simp), show pieces (x :: ws) = (numT x.1 ++ 58 :: x.2.txt) :: pieces ws from rfl, join_tails] at ha ⊢
      have nb := num_back (a := a) (pre := pre) (post := 40 :: (numT x.1 ++ 58 :: (x.2.txt ++ (tails (pieces ws) ++ 41 :: post)))) (p := p) (z := w) (by rw [ha]; simp) hp hw rfl
      rw [nb, Option.bind_some]
      dsimp only
      rw [if_pos (by
        rw [isC_mid (pre := pre ++ numT w) (r := 40 :: (numT x.1 ++ 58 :: (x.2.txt ++ (tails (pieces ws) ++ 41 :: post)))) (by rw [ha]; simp) (by rw [hp]; simp)]
        simp)]
      have nb1 := num_back (a := a) (pre := pre ++ numT w ++ [40]) (post := 58 :: (x.2.txt ++ (tails (pieces ws) ++ 41 :: post))) (p := p + (numT w).length + 1) (z := x.1) (by rw [ha]; simp) (by rw [hp]; simp; omega) ⟨by omega, by omega⟩ rfl
      have c58 : isC a (p + (numT w).length + 1 + (numT x.1).length) 58 = true := by
        rw [isC_mid (pre := pre ++ numT w ++ [40] ++ numT x.1) (r := 58 :: (x.2.txt ++ (tails (pieces ws) ++ 41 :: post))) (by rw [ha]; simp) (by rw [hp]; simp; omega)]
        simp
      have bk := game_back d x.2 hx.2 a (pre ++ numT w ++ [40] ++ numT x.1 ++ [58]) (tails (pieces ws) ++ 41 :: post) (p + (numT w).length + 1 + (numT x.1).length + 1) (by rw [ha]; simp) (by rw [hp]; simp; omega) (fol_tails _ _)
      have wb := ways_back (d := d) (a := a) (post := post) ws 999 [(x.1, x.2)] (pre ++ numT w ++ [40] ++ numT x.1 ++ [58] ++ x.2.txt) (p + (numT w).length + 1 + (numT x.1).length + 1 + x.2.txt.length) (fun q hq => ⟨(h.2.2 q (by simp [hq])).1, game_back d q.2 (h.2.2 q (by simp [hq])).2⟩) (by simp) (by have := h.2.1; simp at this; omega) (by rw [ha]; simp) (by rw [hp]; simp; omega)
      have w1 : waysAt (gameAt a d) a 1000 [] (p + (numT w).length + 1) = some (x :: ws, p + (numT w).length + 1 + (numT x.1).length + 1 + x.2.txt.length + (tails (pieces ws)).length) := by
        rw [show (1000 : Nat) = 999 + 1 from rfl, waysAt, if_pos (by rfl), if_pos (by rfl), nb1, Option.bind_some]
        dsimp only
        rw [if_pos c58, bk, Option.bind_some]
        dsimp only
        rw [List.nil_append, wb]
        rfl
      rw [w1, Option.bind_some]
      dsimp only
      rw [if_pos (by
        rw [isC_mid (pre := pre ++ numT w ++ [40] ++ numT x.1 ++ [58] ++ x.2.txt ++ tails (pieces ws)) (r := 41 :: post) (by rw [ha]; simp) (by rw [hp]; simp; omega)]
        simp)]
      simp
      omega
theorem read_any {a : List Nat} (ha : As a = true) (hl : a.length < 1000) : (∃ g : Game, g.Ok 4 ∧ g.txt = a ∧ d_read_game [.str (Tx a)] = .ok g.enc) ∨ (d_read_game [.str (Tx a)] = .err 6 ∧ ∀ g : Game, g.Ok 4 → g.txt ≠ a) := by
  have ga := game_at_ok ha hl 8 4 (by decide) (by decide) 0
  have ln : oLen [.str (Tx a)] = some (.int (a.length : Int)) := by
    simp only [oLen]
    rw [show (Tx a).length = a.length from SX.S_len a, if_pos (Nat.le_trans (show a.length ≤ 100000 by omega) sizeLine_big)]
  have bk : ∀ g : Game, g.Ok 4 → g.txt = a → gameAt a 4 0 = some (g, a.length) := fun g hg e => by
    have := game_back 4 g hg a [] [] 0 (by simp [e]) rfl ⟨rfl, by simp⟩
    rw [this, e, Nat.zero_add]
  have fn : ∀ {r : R D}, outR (b_read_game (args 3 [.str (Tx a)])) = r → d_read_game [.str (Tx a)] = r := fun h => defD_eq rfl h
  cases hg : gameAt a 4 0 with
  | none =>
    rw [hg] at ga
    dsimp only at ga
    refine .inr ⟨fn ?_, fun g h1 h2 => ?_⟩
    · unfold b_read_game
      have ga : d_game_at 8 [.str (Tx a), .int 0, .int 4] = .err 6 := ga
      simp only [ga, defD, args, dSeq, dSet, dSetP, dSetN, lstAt, dApp, dAppP, dAsg, dPar, dDrop, dWhile, dIfS, dRet, dB, dCall, dCons, dNil, dVar, dC, dBin, dChain, asB, dTru, dNotT, dAndT, dOrT, dAnd, dOr, dNot, dIf, dUn, dTup, dLst, dItems, dYes, R.bind, R.to, O.seq, outR, ofO, noErr, mask, Sm.putIn, bindPat, bindPats, itemsOf, tru, List.foldr_cons, List.foldr_nil, List.length_cons, List.length_nil, List.map_cons, List.map_nil, List.cons_append, List.nil_append, Nat.sub_self, List.replicate_zero, List.replicate_succ, List.getElem?_cons_succ, List.getElem?_cons_zero, List.set_cons_zero, List.set_cons_succ, Nat.reduceAdd, Nat.reduceSub, ↓reduceIte, Bool.not_true, Bool.not_false, Bool.and_true, Bool.true_and, Bool.false_and, Bool.and_false, if_true, if_false, Bool.false_eq_true, oNeg, oAddI, oSubI, oAdd_ii, oLt, oLe, oGt, oGe, Option.bind_some, Option.map_some]
    · rw [bk g h1 h2] at hg; cases hg
  | some ge =>
    obtain ⟨g, e⟩ := ge
    rw [hg] at ga
    dsimp only at ga
    have lg := game_le a 4 0 g e hg
    have ga : d_game_at 8 [.str (Tx a), .int 0, .int 4] = .ok (.tup [g.enc, .int (e : Int)]) := ga
    have ig := game_any (enc_okD g)
    have refused : ∀ {P : Prop}, (∀ h : Game, h.Ok 4 → h.txt = a → h = g ∧ e = a.length) → (e = a.length → g.Ok 4 → g.txt = a → False) → d_read_game [.str (Tx a)] = .err 6 → P ∨ (d_read_game [.str (Tx a)] = .err 6 ∧ ∀ g : Game, g.Ok 4 → g.txt ≠ a) := fun h1 h2 h3 => .inr ⟨h3, fun h h4 h5 => by
      obtain ⟨rfl, e2⟩ := h1 h h4 h5
      exact h2 e2 h4 h5⟩
    have uq : ∀ h : Game, h.Ok 4 → h.txt = a → h = g ∧ e = a.length := fun h h1 h2 => by
      have := bk h h1 h2
      rw [hg] at this
      cases this
      exact ⟨rfl, rfl⟩
    by_cases he : e = a.length
    · have c1 : ((e : Int) == (a.length : Int)) = true := by rw [he]; exact beq_self_eq_true _
      cases hG : isG 4 g.enc with
      | false =>
        rw [hG] at ig
        refine refused uq (fun _ h _ => ?_) (fn ?_)
        · rw [game_isG h] at hG; cases hG
        · unfold b_read_game
          simp only [ga, ln, oNe_int, c1, ig, dRaise, defD, args, dSeq, dSet, dSetP, dSetN, lstAt, dApp, dAppP, dAsg, dPar, dDrop, dWhile, dIfS, dRet, dB, dCall, dCons, dNil, dVar, dC, dBin, dChain, asB, dTru, dNotT, dAndT, dOrT, dAnd, dOr, dNot, dIf, dUn, dTup, dLst, dItems, dYes, R.bind, R.to, O.seq, outR, ofO, noErr, mask, Sm.putIn, bindPat, bindPats, itemsOf, tru, List.foldr_cons, List.foldr_nil, List.length_cons, List.length_nil, List.map_cons, List.map_nil, List.cons_append, List.nil_append, Nat.sub_self, List.replicate_zero, List.replicate_succ, List.getElem?_cons_succ, List.getElem?_cons_zero, List.set_cons_zero, List.set_cons_succ, Nat.reduceAdd, Nat.reduceSub, ↓reduceIte, Bool.not_true, Bool.not_false, Bool.and_true, Bool.true_and, Bool.false_and, Bool.and_false, if_true, if_false, Bool.false_eq_true, oNeg, oAddI, oSubI, oAdd_ii, oLt, oLe, oGt, oGe, Option.bind_some, Option.map_some]
      | true =>
        rw [hG] at ig
        have g4 := isG_ok 4 g hG
        have tx := text_of_ok 8 4 g (by decide) (by decide) g4
        have ne := neT (txt_As g4) ha
        by_cases ht : g.txt = a
        · rw [decide_eq_true ht] at ne
          refine .inl ⟨g, g4, ht, fn ?_⟩
          unfold b_read_game
          simp only [ga, ln, oNe_int, c1, ig, tx, ne, dRaise, defD, args, dSeq, dSet, dSetP, dSetN, lstAt, dApp, dAppP, dAsg, dPar, dDrop, dWhile, dIfS, dRet, dB, dCall, dCons, dNil, dVar, dC, dBin, dChain, asB, dTru, dNotT, dAndT, dOrT, dAnd, dOr, dNot, dIf, dUn, dTup, dLst, dItems, dYes, R.bind, R.to, O.seq, outR, ofO, noErr, mask, Sm.putIn, bindPat, bindPats, itemsOf, tru, List.foldr_cons, List.foldr_nil, List.length_cons, List.length_nil, List.map_cons, List.map_nil, List.cons_append, List.nil_append, Nat.sub_self, List.replicate_zero, List.replicate_succ, List.getElem?_cons_succ, List.getElem?_cons_zero, List.set_cons_zero, List.set_cons_succ, Nat.reduceAdd, Nat.reduceSub, ↓reduceIte, Bool.not_true, Bool.not_false, Bool.and_true, Bool.true_and, Bool.false_and, Bool.and_false, if_true, if_false, Bool.false_eq_true, oNeg, oAddI, oSubI, oAdd_ii, oLt, oLe, oGt, oGe, Option.bind_some, Option.map_some]
        · rw [decide_eq_false ht] at ne
          refine refused uq (fun _ _ h => ht h) (fn ?_)
          unfold b_read_game
          simp only [ga, ln, oNe_int, c1, ig, tx, ne, dRaise, defD, args, dSeq, dSet, dSetP, dSetN, lstAt, dApp, dAppP, dAsg, dPar, dDrop, dWhile, dIfS, dRet, dB, dCall, dCons, dNil, dVar, dC, dBin, dChain, asB, dTru, dNotT, dAndT, dOrT, dAnd, dOr, dNot, dIf, dUn, dTup, dLst, dItems, dYes, R.bind, R.to, O.seq, outR, ofO, noErr, mask, Sm.putIn, bindPat, bindPats, itemsOf, tru, List.foldr_cons, List.foldr_nil, List.length_cons, List.length_nil, List.map_cons, List.map_nil, List.cons_append, List.nil_append, Nat.sub_self, List.replicate_zero, List.replicate_succ, List.getElem?_cons_succ, List.getElem?_cons_zero, List.set_cons_zero, List.set_cons_succ, Nat.reduceAdd, Nat.reduceSub, ↓reduceIte, Bool.not_true, Bool.not_false, Bool.and_true, Bool.true_and, Bool.false_and, Bool.and_false, if_true, if_false, Bool.false_eq_true, oNeg, oAddI, oSubI, oAdd_ii, oLt, oLe, oGt, oGe, Option.bind_some, Option.map_some]
    · have c1 : ((e : Int) == (a.length : Int)) = false := by rw [beq_eq_false_iff_ne]; omega
      refine refused uq (fun h _ _ => he h) (fn ?_)
      unfold b_read_game
      simp only [ga, ln, oNe_int, c1, dRaise, defD, args, dSeq, dSet, dSetP, dSetN, lstAt, dApp, dAppP, dAsg, dPar, dDrop, dWhile, dIfS, dRet, dB, dCall, dCons, dNil, dVar, dC, dBin, dChain, asB, dTru, dNotT, dAndT, dOrT, dAnd, dOr, dNot, dIf, dUn, dTup, dLst, dItems, dYes, R.bind, R.to, O.seq, outR, ofO, noErr, mask, Sm.putIn, bindPat, bindPats, itemsOf, tru, List.foldr_cons, List.foldr_nil, List.length_cons, List.length_nil, List.map_cons, List.map_nil, List.cons_append, List.nil_append, Nat.sub_self, List.replicate_zero, List.replicate_succ, List.getElem?_cons_succ, List.getElem?_cons_zero, List.set_cons_zero, List.set_cons_succ, Nat.reduceAdd, Nat.reduceSub, ↓reduceIte, Bool.not_true, Bool.not_false, Bool.and_true, Bool.true_and, Bool.false_and, Bool.and_false, if_true, if_false, Bool.false_eq_true, oNeg, oAddI, oSubI, oAdd_ii, oLt, oLe, oGt, oGe, Option.bind_some, Option.map_some]
end Kx
namespace Kx
open PySem PySem.Spec L2 Sm
theorem modN (n m : Nat) (h : 0 < m) : oModI (.int (n : Int)) (.int (m : Int)) = some (.int ((n % m : Nat) : Int)) := by
  simp only [oModI]
  rw [if_pos (by omega), Int.fmod_eq_emod_of_nonneg _ (by omega), Int.natCast_emod]
theorem divN (n m : Nat) (h : 0 < m) (h2 : m < 1000000) : oDivI (.int (n : Int)) (.int (m : Int)) = some (.int ((n / m : Nat) : Int)) := by
  simp only [oDivI]
  have : ((m : Int)).natAbs.log2 < 9000 := by
    rw [Int.natAbs_natCast]
    have : m.log2 < 20 := (Nat.log2_lt (by omega)).mpr (by omega)
    omega
  rw [if_pos ⟨by omega, this⟩, Int.fdiv_eq_ediv_of_nonneg _ (by omega), Int.natCast_ediv]
theorem ix_S {s : List Nat} {j : Nat} (hl : s.length ≤ 100000) (h : j < s.length) : oIx (.str (Tx s)) (.int (j : Int)) = some (.str (Tx [s[j]])) := by
  simp only [oIx]
  rw [show (Tx s).length = s.length from SX.S_len s, if_pos (Nat.le_trans hl sizeLine_big)]
  show (atI s (j : Int)).map _ = _
  rw [show atI s (j : Int) = some s[j] by
    unfold atI ixN
    simp [h]]
  rfl
theorem len_S {a : List Nat} (hl : a.length ≤ 100000) : oLen [.str (Tx a)] = some (.int (a.length : Int)) := by
  simp only [oLen]
  rw [show (Tx a).length = a.length from SX.S_len a, if_pos (Nat.le_trans hl sizeLine_big)]
theorem lspoilt_ok {a s : List Nat} (ha : As a = true) (hs : As s = true) (hl : a.length ≤ 400) (h1 : 0 < s.length) (h2 : s.length ≤ 100) (n : Nat) :
    ∃ b, As b = true ∧ b.length < 1000 ∧ d__law_spoilt [.str (Tx a), .int (n : Int), .str (Tx s)] = .ok (.str (Tx b)) := by
  have fn : ∀ {r : R D}, outR (b__law_spoilt (args 7 [.str (Tx a), .int (n : Int), .str (Tx s)])) = r → d__law_spoilt [.str (Tx a), .int (n : Int), .str (Tx s)] = r := fun h => defD_eq rfl h
  have la := len_S (a := a) (by omega)
  have ls := len_S (a := s) (by omega)
  have q0 := modN n (a.length + 1) (by omega)
  have q1 := divN n 1000 (by decide) (by decide)
  have q2 := modN (n / 1000) s.length h1
  have q3 := divN n 7 (by decide) (by decide)
  have q4 := modN (n / 7) 9 (by decide)
  have q5 := divN n 100000 (by decide) (by decide)
  have q6 := modN (n / 100000) 8 (by decide)
  have q7 := modN n 5 (by decide)
  have hat : n % (a.length + 1) < a.length + 1 := Nat.mod_lt _ (by omega)
  have hj : n / 1000 % s.length < s.length := Nat.mod_lt _ h1
  have h9 : n / 7 % 9 < 9 := Nat.mod_lt _ (by decide)
  have h8 : n / 100000 % 8 < 8 := Nat.mod_lt _ (by decide)
  have h5 : n % 5 < 5 := Nat.mod_lt _ (by decide)
  have ix := ix_S (s := s) (by omega) hj
  have hc : As [s[n / 1000 % s.length]] = true := by
    have : s[n / 1000 % s.length] ∈ s := List.getElem_mem hj
    have := List.all_eq_true.mp hs _ this
    simp only [As, List.all_cons, List.all_nil, Bool.and_true]; exact this
  simp only [Int.natCast_add, Int.cast_ofNat_Int] at q0 q1 q3 q4 q5 q6 q7
  have st : ∀ {r : R D} {g : DS}, outR (g [some (.str (Tx a)), some (.int (n : Int)), some (.str (Tx s)), some (.int ((n % (a.length + 1) : Nat) : Int)), some (.str (Tx [s[n / 1000 % s.length]])), some (.int ((n % (a.length + 1) + 1 + n / 7 % 9 : Nat) : Int)), some (.int ((n / 100000 % 8 : Nat) : Int))]) = r →
      outR (dSeq (dSet [] 3 (dBin oModI (dVar 1) (dBin oAdd (dB oLen (dCons (dVar 0) dNil)) (dC (.int 1)))))
    (dSeq (dSet [] 4 (dBin oIx (dVar 2) (dBin oModI (dBin oDivI (dVar 1) (dC (.int 1000))) (dB oLen (dCons (dVar 2) dNil)))))
    (dSeq (dSet [] 5 (dBin oAdd (dBin oAdd (dVar 3) (dC (.int 1))) (dBin oModI (dBin oDivI (dVar 1) (dC (.int 7))) (dC (.int 9)))))
    (dSeq (dSet [] 6 (dBin oModI (dBin oDivI (dVar 1) (dC (.int 100000))) (dC (.int 8)))) g))) (args 7 [.str (Tx a), .int (n : Int), .str (Tx s)])) = r := fun h => by
    generalize hS : (D.str (Tx s)) = S at *
    generalize hA : (D.str (Tx a)) = A at *
    refine out_seq (ρ1 := [some A, some (.int (n : Int)), some S, some (.int ((n % (a.length + 1) : Nat) : Int)), none, none, none]) ?_ ?_
    · simp only [la, q0, defD, args, dSeq, dSet, dSetP, dSetN, lstAt, dApp, dAppP, dAsg, dPar, dDrop, dWhile, dIfS, dRet, dB, dCall, dCons, dNil, dVar, dC, dBin, dChain, asB, dTru, dNotT, dAndT, dOrT, dAnd, dOr, dNot, dIf, dUn, dTup, dLst, dItems, dYes, R.bind, R.to, O.seq, outR, ofO, noErr, mask, Sm.putIn, bindPat, bindPats, itemsOf, tru, List.foldr_cons, List.foldr_nil, List.length_cons, List.length_nil, List.map_cons, List.map_nil, List.cons_append, List.nil_append, Nat.sub_self, List.replicate_zero, List.replicate_succ, List.getElem?_cons_succ, List.getElem?_cons_zero, List.set_cons_zero, List.set_cons_succ, Nat.reduceAdd, Nat.reduceSub, ↓reduceIte, Bool.not_true, Bool.not_false, Bool.and_true, Bool.true_and, Bool.false_and, Bool.and_false, if_true, if_false, Bool.false_eq_true, oNeg, oAddI, oSubI, oAdd_ii, oLt, oLe, oGt, oGe, Option.bind_some, Option.map_some]
    refine out_seq (ρ1 := [some A, some (.int (n : Int)), some S, some (.int ((n % (a.length + 1) : Nat) : Int)), some (.str (Tx [s[n / 1000 % s.length]])), none, none]) ?_ ?_
    · generalize (n % (a.length + 1) : Nat) = t at *
      simp only [ls, q1, q2, ix, defD, args, dSeq, dSet, dSetP, dSetN, lstAt, dApp, dAppP, dAsg, dPar, dDrop, dWhile, dIfS, dRet, dB, dCall, dCons, dNil, dVar, dC, dBin, dChain, asB, dTru, dNotT, dAndT, dOrT, dAnd, dOr, dNot, dIf, dUn, dTup, dLst, dItems, dYes, R.bind, R.to, O.seq, outR, ofO, noErr, mask, Sm.putIn, bindPat, bindPats, itemsOf, tru, List.foldr_cons, List.foldr_nil, List.length_cons, List.length_nil, List.map_cons, List.map_nil, List.cons_append, List.nil_append, Nat.sub_self, List.replicate_zero, List.replicate_succ, List.getElem?_cons_succ, List.getElem?_cons_zero, List.set_cons_zero, List.set_cons_succ, Nat.reduceAdd, Nat.reduceSub, ↓reduceIte, Bool.not_true, Bool.not_false, Bool.and_true, Bool.true_and, Bool.false_and, Bool.and_false, if_true, if_false, Bool.false_eq_true, oNeg, oAddI, oSubI, oAdd_ii, oLt, oLe, oGt, oGe, Option.bind_some, Option.map_some]
    refine out_seq (ρ1 := [some A, some (.int (n : Int)), some S, some (.int ((n % (a.length + 1) : Nat) : Int)), some (.str (Tx [s[n / 1000 % s.length]])), some (.int ((n % (a.length + 1) + 1 + n / 7 % 9 : Nat) : Int)), none]) ?_ ?_
    · generalize (n % (a.length + 1) : Nat) = t at *
      simp only [q3, q4, Int.natCast_add, Int.cast_ofNat_Int, defD, args, dSeq, dSet, dSetP, dSetN, lstAt, dApp, dAppP, dAsg, dPar, dDrop, dWhile, dIfS, dRet, dB, dCall, dCons, dNil, dVar, dC, dBin, dChain, asB, dTru, dNotT, dAndT, dOrT, dAnd, dOr, dNot, dIf, dUn, dTup, dLst, dItems, dYes, R.bind, R.to, O.seq, outR, ofO, noErr, mask, Sm.putIn, bindPat, bindPats, itemsOf, tru, List.foldr_cons, List.foldr_nil, List.length_cons, List.length_nil, List.map_cons, List.map_nil, List.cons_append, List.nil_append, Nat.sub_self, List.replicate_zero, List.replicate_succ, List.getElem?_cons_succ, List.getElem?_cons_zero, List.set_cons_zero, List.set_cons_succ, Nat.reduceAdd, Nat.reduceSub, ↓reduceIte, Bool.not_true, Bool.not_false, Bool.and_true, Bool.true_and, Bool.false_and, Bool.and_false, if_true, if_false, Bool.false_eq_true, oNeg, oAddI, oSubI, oAdd_ii, oLt, oLe, oGt, oGe, Option.bind_some, Option.map_some]
    refine out_seq ?_ h
    generalize (n % (a.length + 1) : Nat) = t at *
    simp only [q5, q6, defD, args, dSeq, dSet, dSetP, dSetN, lstAt, dApp, dAppP, dAsg, dPar, dDrop, dWhile, dIfS, dRet, dB, dCall, dCons, dNil, dVar, dC, dBin, dChain, asB, dTru, dNotT, dAndT, dOrT, dAnd, dOr, dNot, dIf, dUn, dTup, dLst, dItems, dYes, R.bind, R.to, O.seq, outR, ofO, noErr, mask, Sm.putIn, bindPat, bindPats, itemsOf, tru, List.foldr_cons, List.foldr_nil, List.length_cons, List.length_nil, List.map_cons, List.map_nil, List.cons_append, List.nil_append, Nat.sub_self, List.replicate_zero, List.replicate_succ, List.getElem?_cons_succ, List.getElem?_cons_zero, List.set_cons_zero, List.set_cons_succ, Nat.reduceAdd, Nat.reduceSub, ↓reduceIte, Bool.not_true, Bool.not_false, Bool.and_true, Bool.true_and, Bool.false_and, Bool.and_false, if_true, if_false, Bool.false_eq_true, oNeg, oAddI, oSubI, oAdd_ii, oLt, oLe, oGt, oGe, Option.bind_some, Option.map_some]
  generalize hA0 : n % (a.length + 1) = t at *
  generalize hC : s[n / 1000 % s.length] = c at *
  generalize hO : t + 1 + n / 7 % 9 = o at *
  have sto := slTo (a := a) (by omega) t
  have sfr := slFrom (a := a) (by omega) t
  have sfr1 := slFrom (a := a) (by omega) (t + 1)
  have sto2 := slTo (a := a) (by omega) o
  have sfo := slFrom (a := a) (by omega) o
  have lt_ : (a.take t).length ≤ a.length := by rw [List.length_take]; omega
  have lo_ : (a.take o).length ≤ a.length := by rw [List.length_take]; omega
  have ld_ : (a.drop t).length ≤ a.length := by rw [List.length_drop]; omega
  have ld1 : (a.drop (t + 1)).length ≤ a.length := by rw [List.length_drop]; omega
  have ldo : (a.drop o).length ≤ a.length := by rw [List.length_drop]; omega
  have a1 : oAdd (.str (Tx (a.take t))) (.str (Tx [c])) = some (.str (Tx (a.take t ++ [c]))) := addT (by simp only [List.length_singleton]; omega)
  have a2 : oAdd (.str (Tx (a.take t ++ [c]))) (.str (Tx (a.drop t))) = some (.str (Tx (a.take t ++ [c] ++ a.drop t))) := addT (by simp only [List.length_append, List.length_singleton]; omega)
  have a3 : oAdd (.str (Tx (a.take t))) (.str (Tx (a.drop (t + 1)))) = some (.str (Tx (a.take t ++ a.drop (t + 1)))) := addT (by omega)
  have a4 : oAdd (.str (Tx (a.take t ++ [c]))) (.str (Tx (a.drop (t + 1)))) = some (.str (Tx (a.take t ++ [c] ++ a.drop (t + 1)))) := addT (by simp only [List.length_append, List.length_singleton]; omega)
  have a5 : oAdd (.str (Tx (a.take t))) (.str (Tx (a.drop o))) = some (.str (Tx (a.take t ++ a.drop o))) := addT (by omega)
  have a6 : oAdd (.str (Tx (a.take o))) (.str (Tx (a.drop t))) = some (.str (Tx (a.take o ++ a.drop t))) := addT (by omega)
  have a7 : oAdd (.str (Tx a)) (.str " ") = some (.str (Tx (a ++ [32]))) := addT (b := [32]) (by simp only [List.length_singleton]; omega)
  have a8 : oAdd (.str " ") (.str (Tx a)) = some (.str (Tx ([32] ++ a))) := addT (a := [32]) (by simp only [List.length_singleton]; omega)
  have a9 : oAdd (.str (Tx (a.drop t))) (.str (Tx (a.take t))) = some (.str (Tx (a.drop t ++ a.take t))) := addT (by omega)
  have a10 : oAdd (.str (Tx a)) (.str (Tx a)) = some (.str (Tx (a ++ a))) := addT (by omega)
  have p1 := As_take ha t
  have p2 := As_drop ha t
  have p3 := As_drop ha (t + 1)
  have p4 := As_take ha o
  have p5 := As_drop ha o
  simp only [Int.natCast_add, Int.cast_ofNat_Int] at sfr1
  have ix5 : ∀ j : Nat, j < 5 → ∃ b, As b = true ∧ b.length < 1000 ∧ oIx (.lst [.str (Tx (a ++ [32])), .str (Tx ([32] ++ a)), .str (Tx (a.drop t ++ a.take t)), .str "", .str (Tx (a ++ a))]) (.int (j : Int)) = some (.str (Tx b)) := fun j hj => by
    rcases (show j = 0 ∨ j = 1 ∨ j = 2 ∨ j = 3 ∨ j = 4 by omega) with rfl | rfl | rfl | rfl | rfl
    · exact ⟨_, As_app ha (by rfl), by simp only [List.length_append, List.length_singleton]; omega, rfl⟩
    · exact ⟨_, As_app (by rfl) ha, by simp only [List.length_append, List.length_singleton]; omega, rfl⟩
    · exact ⟨_, As_app p2 p1, by simp only [List.length_append]; omega, rfl⟩
    · exact ⟨[], rfl, by simp, rfl⟩
    · exact ⟨_, As_app ha ha, by simp only [List.length_append]; omega, rfl⟩
  obtain ⟨b5, b51, b52, b53⟩ := ix5 _ h5
  clear ix5
  generalize hW : n / 100000 % 8 = w at *
  clear hW q5 q6
  generalize hT : n % 5 = r5 at *
  clear hT h5
  have e8 : a.take t ++ [c] ++ a.drop t = a.take t ++ [c] ++ a.drop t := rfl
  generalize hN : (n : Int) = N at *
  clear hN
  unfold b__law_spoilt at fn
  have i0 : ((0 : Nat) : Int) = 0 := rfl
  have i1 : ((1 : Nat) : Int) = 1 := rfl
  rcases (show w < 2 ∨ w = 2 ∨ (w = 3 ∨ w = 4) ∨ w = 5 ∨ w = 6 ∨ w = 7 by omega) with hw | rfl | hw | rfl | rfl | rfl
  · refine ⟨a.take t ++ [c] ++ a.drop t, As_app (As_app p1 hc) p2, by simp only [List.length_append, List.length_singleton]; omega, fn (st ?_)⟩
    generalize Tx (a.take t ++ [c] ++ a.drop t) = Z at *
    generalize Tx (a.take t ++ [c]) = Z1 at *
    simp only [show decide ((w : Int) < 2) = true from decide_eq_true (by omega), dSl, dSo, dNo, sto, sfr, a1, a2, defD, args, dSeq, dSet, dSetP, dSetN, lstAt, dApp, dAppP, dAsg, dPar, dDrop, dWhile, dIfS, dRet, dB, dCall, dCons, dNil, dVar, dC, dBin, dChain, asB, dTru, dNotT, dAndT, dOrT, dAnd, dOr, dNot, dIf, dUn, dTup, dLst, dItems, dYes, R.bind, R.to, O.seq, outR, ofO, noErr, mask, Sm.putIn, bindPat, bindPats, itemsOf, tru, List.foldr_cons, List.foldr_nil, List.length_cons, List.length_nil, List.map_cons, List.map_nil, List.cons_append, List.nil_append, Nat.sub_self, List.replicate_zero, List.replicate_succ, List.getElem?_cons_succ, List.getElem?_cons_zero, List.set_cons_zero, List.set_cons_succ, Nat.reduceAdd, Nat.reduceSub, ↓reduceIte, Bool.not_true, Bool.not_false, Bool.and_true, Bool.true_and, Bool.false_and, Bool.and_false, if_true, if_false, Bool.false_eq_true, oNeg, oAddI, oSubI, oAdd_ii, oLt, oLe, oGt, oGe, Option.bind_some, Option.map_some]
  · refine ⟨a.take t ++ a.drop (t + 1), As_app p1 p3, by simp only [List.length_append]; omega, fn (st ?_)⟩
    generalize Tx (a.take t ++ a.drop (t + 1)) = Z at *
    simp only [show decide (((2 : Nat) : Int) < 2) = false by decide, oEq_int, show (((2 : Nat) : Int) == 2) = true by decide, dSl, dSo, dNo, sto, sfr1, a3, defD, args, dSeq, dSet, dSetP, dSetN, lstAt, dApp, dAppP, dAsg, dPar, dDrop, dWhile, dIfS, dRet, dB, dCall, dCons, dNil, dVar, dC, dBin, dChain, asB, dTru, dNotT, dAndT, dOrT, dAnd, dOr, dNot, dIf, dUn, dTup, dLst, dItems, dYes, R.bind, R.to, O.seq, outR, ofO, noErr, mask, Sm.putIn, bindPat, bindPats, itemsOf, tru, List.foldr_cons, List.foldr_nil, List.length_cons, List.length_nil, List.map_cons, List.map_nil, List.cons_append, List.nil_append, Nat.sub_self, List.replicate_zero, List.replicate_succ, List.getElem?_cons_succ, List.getElem?_cons_zero, List.set_cons_zero, List.set_cons_succ, Nat.reduceAdd, Nat.reduceSub, ↓reduceIte, Bool.not_true, Bool.not_false, Bool.and_true, Bool.true_and, Bool.false_and, Bool.and_false, if_true, if_false, Bool.false_eq_true, oNeg, oAddI, oSubI, oAdd_ii, oLt, oLe, oGt, oGe, Option.bind_some, Option.map_some]
  · refine ⟨a.take t ++ [c] ++ a.drop (t + 1), As_app (As_app p1 hc) p3, by simp only [List.length_append, List.length_singleton]; omega, fn (st ?_)⟩
    generalize Tx (a.take t ++ [c] ++ a.drop (t + 1)) = Z at *
    generalize Tx (a.take t ++ [c]) = Z1 at *
    simp only [show decide ((w : Int) < 2) = false from decide_eq_false (by omega), oEq_int, show ((w : Int) == 2) = false by (rw [beq_eq_false_iff_ne]; omega), show decide ((w : Int) < 5) = true from decide_eq_true (by omega), dSl, dSo, dNo, sto, sfr1, a1, a4, defD, args, dSeq, dSet, dSetP, dSetN, lstAt, dApp, dAppP, dAsg, dPar, dDrop, dWhile, dIfS, dRet, dB, dCall, dCons, dNil, dVar, dC, dBin, dChain, asB, dTru, dNotT, dAndT, dOrT, dAnd, dOr, dNot, dIf, dUn, dTup, dLst, dItems, dYes, R.bind, R.to, O.seq, outR, ofO, noErr, mask, Sm.putIn, bindPat, bindPats, itemsOf, tru, List.foldr_cons, List.foldr_nil, List.length_cons, List.length_nil, List.map_cons, List.map_nil, List.cons_append, List.nil_append, Nat.sub_self, List.replicate_zero, List.replicate_succ, List.getElem?_cons_succ, List.getElem?_cons_zero, List.set_cons_zero, List.set_cons_succ, Nat.reduceAdd, Nat.reduceSub, ↓reduceIte, Bool.not_true, Bool.not_false, Bool.and_true, Bool.true_and, Bool.false_and, Bool.and_false, if_true, if_false, Bool.false_eq_true, oNeg, oAddI, oSubI, oAdd_ii, oLt, oLe, oGt, oGe, Option.bind_some, Option.map_some]
  · refine ⟨a.take t ++ a.drop o, As_app p1 p5, by simp only [List.length_append]; omega, fn (st ?_)⟩
    generalize Tx (a.take t ++ a.drop o) = Z at *
    simp only [show decide (((5 : Nat) : Int) < 2) = false by decide, oEq_int, show (((5 : Nat) : Int) == 2) = false by decide, show decide (((5 : Nat) : Int) < 5) = false by decide, show (((5 : Nat) : Int) == 5) = true by decide, dSl, dSo, dNo, sto, sfo, a5, defD, args, dSeq, dSet, dSetP, dSetN, lstAt, dApp, dAppP, dAsg, dPar, dDrop, dWhile, dIfS, dRet, dB, dCall, dCons, dNil, dVar, dC, dBin, dChain, asB, dTru, dNotT, dAndT, dOrT, dAnd, dOr, dNot, dIf, dUn, dTup, dLst, dItems, dYes, R.bind, R.to, O.seq, outR, ofO, noErr, mask, Sm.putIn, bindPat, bindPats, itemsOf, tru, List.foldr_cons, List.foldr_nil, List.length_cons, List.length_nil, List.map_cons, List.map_nil, List.cons_append, List.nil_append, Nat.sub_self, List.replicate_zero, List.replicate_succ, List.getElem?_cons_succ, List.getElem?_cons_zero, List.set_cons_zero, List.set_cons_succ, Nat.reduceAdd, Nat.reduceSub, ↓reduceIte, Bool.not_true, Bool.not_false, Bool.and_true, Bool.true_and, Bool.false_and, Bool.and_false, if_true, if_false, Bool.false_eq_true, oNeg, oAddI, oSubI, oAdd_ii, oLt, oLe, oGt, oGe, Option.bind_some, Option.map_some]
  · refine ⟨a.take o ++ a.drop t, As_app p4 p2, by simp only [List.length_append]; omega, fn (st ?_)⟩
    generalize Tx (a.take o ++ a.drop t) = Z at *
    simp only [show decide (((6 : Nat) : Int) < 2) = false by decide, oEq_int, show (((6 : Nat) : Int) == 2) = false by decide, show decide (((6 : Nat) : Int) < 5) = false by decide, show (((6 : Nat) : Int) == 5) = false by decide, show (((6 : Nat) : Int) == 6) = true by decide, dSl, dSo, dNo, sto2, sfr, a6, defD, args, dSeq, dSet, dSetP, dSetN, lstAt, dApp, dAppP, dAsg, dPar, dDrop, dWhile, dIfS, dRet, dB, dCall, dCons, dNil, dVar, dC, dBin, dChain, asB, dTru, dNotT, dAndT, dOrT, dAnd, dOr, dNot, dIf, dUn, dTup, dLst, dItems, dYes, R.bind, R.to, O.seq, outR, ofO, noErr, mask, Sm.putIn, bindPat, bindPats, itemsOf, tru, List.foldr_cons, List.foldr_nil, List.length_cons, List.length_nil, List.map_cons, List.map_nil, List.cons_append, List.nil_append, Nat.sub_self, List.replicate_zero, List.replicate_succ, List.getElem?_cons_succ, List.getElem?_cons_zero, List.set_cons_zero, List.set_cons_succ, Nat.reduceAdd, Nat.reduceSub, ↓reduceIte, Bool.not_true, Bool.not_false, Bool.and_true, Bool.true_and, Bool.false_and, Bool.and_false, if_true, if_false, Bool.false_eq_true, oNeg, oAddI, oSubI, oAdd_ii, oLt, oLe, oGt, oGe, Option.bind_some, Option.map_some]
  · refine ⟨b5, b51, b52, fn (st ?_)⟩
    generalize Tx (a ++ [32]) = Z1 at *
    generalize Tx ([32] ++ a) = Z2 at *
    generalize Tx (a.drop t ++ a.take t) = Z3 at *
    generalize Tx (a ++ a) = Z4 at *
    simp only [show decide (((7 : Nat) : Int) < 2) = false by decide, oEq_int, show (((7 : Nat) : Int) == 2) = false by decide, show decide (((7 : Nat) : Int) < 5) = false by decide, show (((7 : Nat) : Int) == 5) = false by decide, show (((7 : Nat) : Int) == 6) = false by decide, dSl, dSo, dNo, sto, sfr, a7, a8, a9, a10, q7, b53, defD, args, dSeq, dSet, dSetP, dSetN, lstAt, dApp, dAppP, dAsg, dPar, dDrop, dWhile, dIfS, dRet, dB, dCall, dCons, dNil, dVar, dC, dBin, dChain, asB, dTru, dNotT, dAndT, dOrT, dAnd, dOr, dNot, dIf, dUn, dTup, dLst, dItems, dYes, R.bind, R.to, O.seq, outR, ofO, noErr, mask, Sm.putIn, bindPat, bindPats, itemsOf, tru, List.foldr_cons, List.foldr_nil, List.length_cons, List.length_nil, List.map_cons, List.map_nil, List.cons_append, List.nil_append, Nat.sub_self, List.replicate_zero, List.replicate_succ, List.getElem?_cons_succ, List.getElem?_cons_zero, List.set_cons_zero, List.set_cons_succ, Nat.reduceAdd, Nat.reduceSub, ↓reduceIte, Bool.not_true, Bool.not_false, Bool.and_true, Bool.true_and, Bool.false_and, Bool.and_false, if_true, if_false, Bool.false_eq_true, oNeg, oAddI, oSubI, oAdd_ii, oLt, oLe, oGt, oGe, Option.bind_some, Option.map_some]
end Kx
namespace Kx
open PySem PySem.Spec L2 Sm
theorem game_text_ok {g : Game} (h : g.Ok 4) : d_game_text [g.enc] = .ok (.str (Tx g.txt)) := by
  refine defD_eq rfl ?_
  unfold b_game_text
  have h1 := look_ok h
  have h2 := text_of_ok 8 4 g (by decide) (by decide) h
  generalize g.enc = G at *
  simp only [h1, h2, defD, args, dSeq, dSet, dSetP, dSetN, lstAt, dApp, dAppP, dAsg, dPar, dDrop, dWhile, dIfS, dRet, dB, dCall, dCons, dNil, dVar, dC, dBin, dChain, asB, dTru, dNotT, dAndT, dOrT, dAnd, dOr, dNot, dIf, dUn, dTup, dLst, dItems, dYes, R.bind, R.to, O.seq, outR, ofO, noErr, mask, Sm.putIn, bindPat, bindPats, itemsOf, tru, List.foldr_cons, List.foldr_nil, List.length_cons, List.length_nil, List.map_cons, List.map_nil, List.cons_append, List.nil_append, Nat.sub_self, List.replicate_zero, List.replicate_succ, List.getElem?_cons_succ, List.getElem?_cons_zero, List.set_cons_zero, List.set_cons_succ, Nat.reduceAdd, Nat.reduceSub, ↓reduceIte, Bool.not_true, Bool.not_false, Bool.and_true, Bool.true_and, Bool.false_and, Bool.and_false, if_true, if_false, Bool.false_eq_true, oNeg, oAddI, oSubI, oAdd_ii, oLt, oLe, oGt, oGe, Option.bind_some, Option.map_some]
theorem do_text {g : Game} (h : g.Ok 4) : d__law_do [.int 0, g.enc] = .ok (.str (Tx g.txt)) := by
  refine defD_eq rfl ?_
  unfold b__law_do
  have h1 := game_text_ok h
  have nn : oIs .non .non = some (.bl true) := rfl
  generalize g.enc = G at *
  simp only [dTryK, oEq_int, show ((0 : Int) == 0) = true from rfl, h1, nn, defD, args, dSeq, dSet, dSetP, dSetN, lstAt, dApp, dAppP, dAsg, dPar, dDrop, dWhile, dIfS, dRet, dB, dCall, dCons, dNil, dVar, dC, dBin, dChain, asB, dTru, dNotT, dAndT, dOrT, dAnd, dOr, dNot, dIf, dUn, dTup, dLst, dItems, dYes, R.bind, R.to, O.seq, outR, ofO, noErr, mask, Sm.putIn, bindPat, bindPats, itemsOf, tru, List.foldr_cons, List.foldr_nil, List.length_cons, List.length_nil, List.map_cons, List.map_nil, List.cons_append, List.nil_append, Nat.sub_self, List.replicate_zero, List.replicate_succ, List.getElem?_cons_succ, List.getElem?_cons_zero, List.set_cons_zero, List.set_cons_succ, Nat.reduceAdd, Nat.reduceSub, ↓reduceIte, Bool.not_true, Bool.not_false, Bool.and_true, Bool.true_and, Bool.false_and, Bool.and_false, if_true, if_false, Bool.false_eq_true, oNeg, oAddI, oSubI, oAdd_ii, oLt, oLe, oGt, oGe, Option.bind_some, Option.map_some]
theorem en (c : Nat) : oIs (.exc c) .non = some (.bl false) := rfl
theorem do_notext {d : D} (ok : okD d = true) (h : isG 4 d = false) : d__law_do [.int 0, d] = .ok (.str "no game") := by
  refine defD_eq rfl ?_
  unfold b__law_do
  have h1 := look_any ok
  rw [h] at h1
  have h2 : d_game_text [d] = .err 1 := by
    refine defD_eq rfl ?_
    unfold b_game_text
    simp only [h1, defD, args, dSeq, dSet, dSetP, dSetN, lstAt, dApp, dAppP, dAsg, dPar, dDrop, dWhile, dIfS, dRet, dB, dCall, dCons, dNil, dVar, dC, dBin, dChain, asB, dTru, dNotT, dAndT, dOrT, dAnd, dOr, dNot, dIf, dUn, dTup, dLst, dItems, dYes, R.bind, R.to, O.seq, outR, ofO, noErr, mask, Sm.putIn, bindPat, bindPats, itemsOf, tru, List.foldr_cons, List.foldr_nil, List.length_cons, List.length_nil, List.map_cons, List.map_nil, List.cons_append, List.nil_append, Nat.sub_self, List.replicate_zero, List.replicate_succ, List.getElem?_cons_succ, List.getElem?_cons_zero, List.set_cons_zero, List.set_cons_succ, Nat.reduceAdd, Nat.reduceSub, ↓reduceIte, Bool.not_true, Bool.not_false, Bool.and_true, Bool.true_and, Bool.false_and, Bool.and_false, if_true, if_false, Bool.false_eq_true, oNeg, oAddI, oSubI, oAdd_ii, oLt, oLe, oGt, oGe, Option.bind_some, Option.map_some]
  have wd : d__law_word [.exc 1] = .ok (.str "no game") := word_ok (c := 1) (by simp)
  have cc : [1, 2, 3, 4, 5, 6].contains 1 = true := rfl
  simp only [dTryK, oEq_int, show ((0 : Int) == 0) = true from rfl, h2, cc, en, wd, defD, args, dSeq, dSet, dSetP, dSetN, lstAt, dApp, dAppP, dAsg, dPar, dDrop, dWhile, dIfS, dRet, dB, dCall, dCons, dNil, dVar, dC, dBin, dChain, asB, dTru, dNotT, dAndT, dOrT, dAnd, dOr, dNot, dIf, dUn, dTup, dLst, dItems, dYes, R.bind, R.to, O.seq, outR, ofO, noErr, mask, Sm.putIn, bindPat, bindPats, itemsOf, tru, List.foldr_cons, List.foldr_nil, List.length_cons, List.length_nil, List.map_cons, List.map_nil, List.cons_append, List.nil_append, Nat.sub_self, List.replicate_zero, List.replicate_succ, List.getElem?_cons_succ, List.getElem?_cons_zero, List.set_cons_zero, List.set_cons_succ, Nat.reduceAdd, Nat.reduceSub, ↓reduceIte, Bool.not_true, Bool.not_false, Bool.and_true, Bool.true_and, Bool.false_and, Bool.and_false, if_true, if_false, Bool.false_eq_true, oNeg, oAddI, oSubI, oAdd_ii, oLt, oLe, oGt, oGe, Option.bind_some, Option.map_some]
theorem do_read {a : List Nat} (ha : As a = true) (hl : a.length < 1000) : (∃ g : Game, g.Ok 4 ∧ g.txt = a ∧ d__law_do [.int 1, .str (Tx a)] = .ok g.enc) ∨ (d__law_do [.int 1, .str (Tx a)] = .ok (.str "no text") ∧ ∀ g : Game, g.Ok 4 → g.txt ≠ a) := by
  have fn : ∀ {r : R D}, outR (b__law_do (args 5 [.int 1, .str (Tx a)])) = r → d__law_do [.int 1, .str (Tx a)] = r := fun h => defD_eq rfl h
  have nn : oIs .non .non = some (.bl true) := rfl
  rcases read_any ha hl with ⟨g, h1, h2, h3⟩ | ⟨h3, h4⟩
  · refine .inl ⟨g, h1, h2, fn ?_⟩
    unfold b__law_do
    generalize g.enc = G at *
    simp only [dTryK, oEq_int, show ((1 : Int) == 0) = false from rfl, h3, nn, defD, args, dSeq, dSet, dSetP, dSetN, lstAt, dApp, dAppP, dAsg, dPar, dDrop, dWhile, dIfS, dRet, dB, dCall, dCons, dNil, dVar, dC, dBin, dChain, asB, dTru, dNotT, dAndT, dOrT, dAnd, dOr, dNot, dIf, dUn, dTup, dLst, dItems, dYes, R.bind, R.to, O.seq, outR, ofO, noErr, mask, Sm.putIn, bindPat, bindPats, itemsOf, tru, List.foldr_cons, List.foldr_nil, List.length_cons, List.length_nil, List.map_cons, List.map_nil, List.cons_append, List.nil_append, Nat.sub_self, List.replicate_zero, List.replicate_succ, List.getElem?_cons_succ, List.getElem?_cons_zero, List.set_cons_zero, List.set_cons_succ, Nat.reduceAdd, Nat.reduceSub, ↓reduceIte, Bool.not_true, Bool.not_false, Bool.and_true, Bool.true_and, Bool.false_and, Bool.and_false, if_true, if_false, Bool.false_eq_true, oNeg, oAddI, oSubI, oAdd_ii, oLt, oLe, oGt, oGe, Option.bind_some, Option.map_some]
  · refine .inr ⟨fn ?_, h4⟩
    unfold b__law_do
    have wd : d__law_word [.exc 6] = .ok (.str "no text") := word_ok (c := 6) (by simp)
    have cc : [1, 2, 3, 4, 5, 6].contains 6 = true := rfl
    simp only [dTryK, oEq_int, show ((1 : Int) == 0) = false from rfl, h3, cc, en, wd, defD, args, dSeq, dSet, dSetP, dSetN, lstAt, dApp, dAppP, dAsg, dPar, dDrop, dWhile, dIfS, dRet, dB, dCall, dCons, dNil, dVar, dC, dBin, dChain, asB, dTru, dNotT, dAndT, dOrT, dAnd, dOr, dNot, dIf, dUn, dTup, dLst, dItems, dYes, R.bind, R.to, O.seq, outR, ofO, noErr, mask, Sm.putIn, bindPat, bindPats, itemsOf, tru, List.foldr_cons, List.foldr_nil, List.length_cons, List.length_nil, List.map_cons, List.map_nil, List.cons_append, List.nil_append, Nat.sub_self, List.replicate_zero, List.replicate_succ, List.getElem?_cons_succ, List.getElem?_cons_zero, List.set_cons_zero, List.set_cons_succ, Nat.reduceAdd, Nat.reduceSub, ↓reduceIte, Bool.not_true, Bool.not_false, Bool.and_true, Bool.true_and, Bool.false_and, Bool.and_false, if_true, if_false, Bool.false_eq_true, oNeg, oAddI, oSubI, oAdd_ii, oLt, oLe, oGt, oGe, Option.bind_some, Option.map_some]
def oddT : List Str := ["", "-", "01", "-0", "21", "100", "1()", "1(", "1(1:2", "1(1:2))", "1(1:2  1:3)", "1(0:2)", "1(10:2)", "1 (1:2)", "1(1:1 1:1 1:1 1:1)", "1(1:1(1:1(1:1(1:1))))", "1(1)", "1(1:2 )", "+1", "1(01:2)", "(1:2)", "1:2"]
def isNoT : R D → Bool | .ok (.str s) => s == "no text" | _ => false
theorem isNoT_ok {r : R D} (h : isNoT r = true) : r = .ok (.str "no text") := by
  unfold isNoT at h
  split at h
  · rename_i s
    have := TL.ext_tl (show TL.tl s = TL.tl "no text" from eq_of_beq ((PyProof.Rows.toList_beq s "no text").trans h))
    rw [this]
  · cases h
theorem odd_run : (oddT.all fun s => isNoT (d__law_do [.int 1, .str s])) = true := by kernel_rfl
theorem odd_at (v : Nat) (h : v < 22) : ∃ s, (oddT.map D.str)[v]? = some (.str s) ∧ d__law_do [.int 1, .str s] = .ok (.str "no text") := by
  have hl : v < oddT.length := h
  refine ⟨oddT[v], by rw [List.getElem?_map, List.getElem?_eq_getElem hl]; rfl, ?_⟩
  exact isNoT_ok (List.all_eq_true.mp odd_run _ (List.getElem_mem hl))
theorem law_true : ∀ pk, PkOk pk → d_law pk [.scr0] = .ok (.bl true) := by
  intro pk ok
  obtain ⟨g, even, top, eg, dg, hw, _⟩ := drawn_ok ok 4 (by decide)
  have g4 := dg.ok
  have eg : d__law_drawn pk [.scr0, .int 4] = .ok g.enc := eg
  have lt := ltext_ok 8 4 g (by decide) (by decide) g4
  have ga := txt_As g4
  have gl := Nat.le_trans (txt_len g4) (tl_small (show 4 ≤ 4 by decide))
  have d0 := do_text g4
  have d1 : d__law_do [.int 1, .str (Tx g.txt)] = .ok g.enc := by
    rcases do_read ga (by omega) with ⟨h, h1, h2, h3⟩ | ⟨_, h4⟩
    · have b1 := game_back 4 h h1 g.txt [] [] 0 (by simp [h2]) rfl ⟨rfl, by simp⟩
      have b2 := game_back 4 g g4 g.txt [] [] 0 (by simp) rfl ⟨rfl, by simp⟩
      rw [b1] at b2
      cases b2
      exact h3
    · exact absurd rfl (h4 g g4)
  have n0 : oNe (.str (Tx g.txt)) (.str (Tx g.txt)) = some (.bl false) := by rw [neT ga ga]; simp
  have ge : pl 63 g.enc = true := enc_pl 4 63 g g4 (by decide)
  have n1 : oNe g.enc g.enc = some (.bl false) := oNe_self (enc_pl 4 64 g g4 (by decide))
  refine defD_eq rfl ?_
  unfold b_law
  apply out_seq (ρ1 := [some .scr0, some g.enc, none, none, none, none, none, none, none])
  · simp only [eg, defD, args, dSeq, dSet, dSetP, dSetN, lstAt, dApp, dAppP, dAsg, dPar, dDrop, dWhile, dIfS, dRet, dB, dCall, dCons, dNil, dVar, dC, dBin, dChain, asB, dTru, dNotT, dAndT, dOrT, dAnd, dOr, dNot, dIf, dUn, dTup, dLst, dItems, dYes, R.bind, R.to, O.seq, outR, ofO, noErr, mask, Sm.putIn, bindPat, bindPats, itemsOf, tru, List.foldr_cons, List.foldr_nil, List.length_cons, List.length_nil, List.map_cons, List.map_nil, List.cons_append, List.nil_append, Nat.sub_self, List.replicate_zero, List.replicate_succ, List.getElem?_cons_succ, List.getElem?_cons_zero, List.set_cons_zero, List.set_cons_succ, Nat.reduceAdd, Nat.reduceSub, ↓reduceIte, Bool.not_true, Bool.not_false, Bool.and_true, Bool.true_and, Bool.false_and, Bool.and_false, if_true, if_false, Bool.false_eq_true, oNeg, oAddI, oSubI, oAdd_ii, oLt, oLe, oGt, oGe, Option.bind_some, Option.map_some]
  apply out_seq (ρ1 := [some .scr0, some g.enc, some (.str (Tx g.txt)), none, none, none, none, none, none])
  · generalize g.enc = G at *
    simp only [lt, defD, args, dSeq, dSet, dSetP, dSetN, lstAt, dApp, dAppP, dAsg, dPar, dDrop, dWhile, dIfS, dRet, dB, dCall, dCons, dNil, dVar, dC, dBin, dChain, asB, dTru, dNotT, dAndT, dOrT, dAnd, dOr, dNot, dIf, dUn, dTup, dLst, dItems, dYes, R.bind, R.to, O.seq, outR, ofO, noErr, mask, Sm.putIn, bindPat, bindPats, itemsOf, tru, List.foldr_cons, List.foldr_nil, List.length_cons, List.length_nil, List.map_cons, List.map_nil, List.cons_append, List.nil_append, Nat.sub_self, List.replicate_zero, List.replicate_succ, List.getElem?_cons_succ, List.getElem?_cons_zero, List.set_cons_zero, List.set_cons_succ, Nat.reduceAdd, Nat.reduceSub, ↓reduceIte, Bool.not_true, Bool.not_false, Bool.and_true, Bool.true_and, Bool.false_and, Bool.and_false, if_true, if_false, Bool.false_eq_true, oNeg, oAddI, oSubI, oAdd_ii, oLt, oLe, oGt, oGe, Option.bind_some, Option.map_some]
  apply out_seq (ρ1 := [some .scr0, some g.enc, some (.str (Tx g.txt)), none, none, none, none, none, none])
  · generalize g.enc = G at *
    generalize Tx g.txt = T at *
    simp only [d0, d1, n0, n1, defD, args, dSeq, dSet, dSetP, dSetN, lstAt, dApp, dAppP, dAsg, dPar, dDrop, dWhile, dIfS, dRet, dB, dCall, dCons, dNil, dVar, dC, dBin, dChain, asB, dTru, dNotT, dAndT, dOrT, dAnd, dOr, dNot, dIf, dUn, dTup, dLst, dItems, dYes, R.bind, R.to, O.seq, outR, ofO, noErr, mask, Sm.putIn, bindPat, bindPats, itemsOf, tru, List.foldr_cons, List.foldr_nil, List.length_cons, List.length_nil, List.map_cons, List.map_nil, List.cons_append, List.nil_append, Nat.sub_self, List.replicate_zero, List.replicate_succ, List.getElem?_cons_succ, List.getElem?_cons_zero, List.set_cons_zero, List.set_cons_succ, Nat.reduceAdd, Nat.reduceSub, ↓reduceIte, Bool.not_true, Bool.not_false, Bool.and_true, Bool.true_and, Bool.false_and, Bool.and_false, if_true, if_false, Bool.false_eq_true, oNeg, oAddI, oSubI, oAdd_ii, oLt, oLe, oGt, oGe, Option.bind_some, Option.map_some]
  refine look_out [3, 6, 7, 8] (rng1_it (n := 5) rfl (by decide)) ?_ ?_
  · intro kd ys hd
    obtain ⟨k, hk, rfl⟩ := List.mem_map.mp hd
    have hk := List.mem_range.mp hk
    refine ⟨_, rfl, ?_⟩
    simp only [over, List.contains_cons, List.contains_nil, List.elem_cons, List.elem_nil, Nat.reduceAdd, Nat.reduceBEq, Nat.zero_add, Bool.or_false, Bool.false_or, Bool.or_true, Bool.true_or, Bool.false_eq_true, if_true, if_false, ↓reduceIte, beq_self_eq_true, List.set_cons_zero, List.set_cons_succ]
    generalize ys 7 = y7
    generalize ys 8 = y8
    obtain ⟨s, hs, hs1, hs2, st⟩ : ∃ s : List Nat, As s = true ∧ 0 < s.length ∧ s.length ≤ 100 ∧ ∀ (f : DS), Stay [3, 6, 7, 8] [some .scr0, some g.enc, some (.str (Tx g.txt)), none, none, none, none, none, none] (f [some .scr0, some g.enc, some (.str (Tx g.txt)), some (.int (k : Int)), none, none, some (.str (Tx s)), y7, y8]) →
        Stay [3, 6, 7, 8] [some .scr0, some g.enc, some (.str (Tx g.txt)), none, none, none, none, none, none] (dSeq (dSet [] 6 (dC (.str "0123:( )-9"))) (dSeq (dIfS (asB (dBin oGt (dVar 3) (dC (.int 2)))) (dSet [] 6 (dC (.str "0:( )-+\n!#$&'*,./;<=>?@ABZ[]^_abz{|}~"))) .nx) f) [some .scr0, some g.enc, some (.str (Tx g.txt)), some (.int (k : Int)), none, none, ys 6, y7, y8]) := by
      generalize Tx g.txt = T
      generalize g.enc = G
      by_cases h2 : 2 < k
      · refine ⟨[48, 58, 40, 32, 41, 45, 43, 10, 33, 35, 36, 38, 39, 42, 44, 46, 47, 59, 60, 61, 62, 63, 64, 65, 66, 90, 91, 93, 94, 95, 97, 98, 122, 123, 124, 125, 126], rfl, by decide, by decide, fun f h => ?_⟩
        apply stay_nx; (focus (simp only [defD, args, dSeq, dSet, dSetP, dSetN, lstAt, dApp, dAppP, dAsg, dPar, dDrop, dWhile, dIfS, dRet, dB, dCall, dCons, dNil, dVar, dC, dBin, dChain, asB, dTru, dNotT, dAndT, dOrT, dAnd, dOr, dNot, dIf, dUn, dTup, dLst, dItems, dYes, R.bind, R.to, O.seq, outR, ofO, noErr, mask, Sm.putIn, bindPat, bindPats, itemsOf, tru, List.foldr_cons, List.foldr_nil, List.length_cons, List.length_nil, List.map_cons, List.map_nil, List.cons_append, List.nil_append, Nat.sub_self, List.replicate_zero, List.replicate_succ, List.getElem?_cons_succ, List.getElem?_cons_zero, List.set_cons_zero, List.set_cons_succ, Nat.reduceAdd, Nat.reduceSub, ↓reduceIte, Bool.not_true, Bool.not_false, Bool.and_true, Bool.true_and, Bool.false_and, Bool.and_false, if_true, if_false, Bool.false_eq_true, oNeg, oAddI, oSubI, oAdd_ii, oLt, oLe, oGt, oGe, Option.bind_some, Option.map_some]; try exact rfl))
        apply stay_nx ?_ h
        simp only [show decide ((2 : Int) < (k : Int)) = true from decide_eq_true (by omega), defD, args, dSeq, dSet, dSetP, dSetN, lstAt, dApp, dAppP, dAsg, dPar, dDrop, dWhile, dIfS, dRet, dB, dCall, dCons, dNil, dVar, dC, dBin, dChain, asB, dTru, dNotT, dAndT, dOrT, dAnd, dOr, dNot, dIf, dUn, dTup, dLst, dItems, dYes, R.bind, R.to, O.seq, outR, ofO, noErr, mask, Sm.putIn, bindPat, bindPats, itemsOf, tru, List.foldr_cons, List.foldr_nil, List.length_cons, List.length_nil, List.map_cons, List.map_nil, List.cons_append, List.nil_append, Nat.sub_self, List.replicate_zero, List.replicate_succ, List.getElem?_cons_succ, List.getElem?_cons_zero, List.set_cons_zero, List.set_cons_succ, Nat.reduceAdd, Nat.reduceSub, ↓reduceIte, Bool.not_true, Bool.not_false, Bool.and_true, Bool.true_and, Bool.false_and, Bool.and_false, if_true, if_false, Bool.false_eq_true, oNeg, oAddI, oSubI, oAdd_ii, oLt, oLe, oGt, oGe, Option.bind_some, Option.map_some]
        rfl
      · refine ⟨[48, 49, 50, 51, 58, 40, 32, 41, 45, 57], rfl, by decide, by decide, fun f h => ?_⟩
        apply stay_nx; (focus (simp only [defD, args, dSeq, dSet, dSetP, dSetN, lstAt, dApp, dAppP, dAsg, dPar, dDrop, dWhile, dIfS, dRet, dB, dCall, dCons, dNil, dVar, dC, dBin, dChain, asB, dTru, dNotT, dAndT, dOrT, dAnd, dOr, dNot, dIf, dUn, dTup, dLst, dItems, dYes, R.bind, R.to, O.seq, outR, ofO, noErr, mask, Sm.putIn, bindPat, bindPats, itemsOf, tru, List.foldr_cons, List.foldr_nil, List.length_cons, List.length_nil, List.map_cons, List.map_nil, List.cons_append, List.nil_append, Nat.sub_self, List.replicate_zero, List.replicate_succ, List.getElem?_cons_succ, List.getElem?_cons_zero, List.set_cons_zero, List.set_cons_succ, Nat.reduceAdd, Nat.reduceSub, ↓reduceIte, Bool.not_true, Bool.not_false, Bool.and_true, Bool.true_and, Bool.false_and, Bool.and_false, if_true, if_false, Bool.false_eq_true, oNeg, oAddI, oSubI, oAdd_ii, oLt, oLe, oGt, oGe, Option.bind_some, Option.map_some]; try exact rfl))
        apply stay_nx ?_ h
        simp only [show decide ((2 : Int) < (k : Int)) = false from decide_eq_false (by omega), defD, args, dSeq, dSet, dSetP, dSetN, lstAt, dApp, dAppP, dAsg, dPar, dDrop, dWhile, dIfS, dRet, dB, dCall, dCons, dNil, dVar, dC, dBin, dChain, asB, dTru, dNotT, dAndT, dOrT, dAnd, dOr, dNot, dIf, dUn, dTup, dLst, dItems, dYes, R.bind, R.to, O.seq, outR, ofO, noErr, mask, Sm.putIn, bindPat, bindPats, itemsOf, tru, List.foldr_cons, List.foldr_nil, List.length_cons, List.length_nil, List.map_cons, List.map_nil, List.cons_append, List.nil_append, Nat.sub_self, List.replicate_zero, List.replicate_succ, List.getElem?_cons_succ, List.getElem?_cons_zero, List.set_cons_zero, List.set_cons_succ, Nat.reduceAdd, Nat.reduceSub, ↓reduceIte, Bool.not_true, Bool.not_false, Bool.and_true, Bool.true_and, Bool.false_and, Bool.and_false, if_true, if_false, Bool.false_eq_true, oNeg, oAddI, oSubI, oAdd_ii, oLt, oLe, oGt, oGe, Option.bind_some, Option.map_some]
        rfl
    refine st _ ?_
    clear st
    have pw : oPowI (.int 10) (.int 9) = some (.int 1000000000) := by rfl
    obtain ⟨n, hn, en⟩ := pick_at ok (9000 + k) (show 0 < 1000000000 by decide)
    have pk1 := dPick_ok pk (9000 + k) (m := ((1000000000 : Nat) : Int)) (by decide)
    rw [en] at pk1
    have pk1 : dPick pk [.scr0, .int ((9000 + k : Nat) : Int), .int 1000000000] = .ok (.int (n : Int)) := pk1
    have e9 : (9000 : Int) + (k : Int) = ((9000 + k : Nat) : Int) := by omega
    obtain ⟨b, hb, hbl, sp⟩ := lspoilt_ok ga hs (by omega) hs1 hs2 n
    apply stay_nx (ρ1 := [some .scr0, some g.enc, some (.str (Tx g.txt)), some (.int (k : Int)), none, none, some (.str (Tx s)), some (.str (Tx b)), y8])
    · generalize Tx g.txt = T at *
      generalize g.enc = G at *
      simp only [pw, e9, pk1, sp, defD, args, dSeq, dSet, dSetP, dSetN, lstAt, dApp, dAppP, dAsg, dPar, dDrop, dWhile, dIfS, dRet, dB, dCall, dCons, dNil, dVar, dC, dBin, dChain, asB, dTru, dNotT, dAndT, dOrT, dAnd, dOr, dNot, dIf, dUn, dTup, dLst, dItems, dYes, R.bind, R.to, O.seq, outR, ofO, noErr, mask, Sm.putIn, bindPat, bindPats, itemsOf, tru, List.foldr_cons, List.foldr_nil, List.length_cons, List.length_nil, List.map_cons, List.map_nil, List.cons_append, List.nil_append, Nat.sub_self, List.replicate_zero, List.replicate_succ, List.getElem?_cons_succ, List.getElem?_cons_zero, List.set_cons_zero, List.set_cons_succ, Nat.reduceAdd, Nat.reduceSub, ↓reduceIte, Bool.not_true, Bool.not_false, Bool.and_true, Bool.true_and, Bool.false_and, Bool.and_false, if_true, if_false, Bool.false_eq_true, oNeg, oAddI, oSubI, oAdd_ii, oLt, oLe, oGt, oGe, Option.bind_some, Option.map_some]
    have ns : ∀ h : Game, h.Ok 4 → oNe h.enc (.str "no text") = some (.bl true) := fun h hh => by
      unfold oNe
      rw [pl_pln _ 64 (enc_pl 4 64 h hh (by decide)), show pln 64 (.str "no text") = true by decide +kernel]
      cases h with
      | node w ws =>
        cases ws with
        | nil => rw [enc_end]; rfl
        | cons x ws => rw [enc_go]; rfl
    have ns2 : oNe (.str "no text") (.str "no text") = some (.bl false) := oNe_self (by simp only [pl]; decide +kernel)
    rcases do_read hb hbl with ⟨h, h1, h2, h3⟩ | ⟨h3, _⟩
    · have lg : d__law_is_game 8 [h.enc, .int 4] = _ := lgame_any 8 4 h.enc (by decide) (enc_okD h)
      rw [game_isG h1] at lg
      have lx := ltext_ok 8 4 h (by decide) (by decide) h1
      rw [h2] at lx
      have n3 : oNe (.str (Tx b)) (.str (Tx b)) = some (.bl false) := by rw [neT hb hb]; simp
      have n4 := ns h h1
      apply stay_nx (ρ1 := [some .scr0, some g.enc, some (.str (Tx g.txt)), some (.int (k : Int)), none, none, some (.str (Tx s)), some (.str (Tx b)), some h.enc])
      · generalize Tx g.txt = T at *
        generalize g.enc = G at *
        generalize h.enc = H at *
        simp only [h3, defD, args, dSeq, dSet, dSetP, dSetN, lstAt, dApp, dAppP, dAsg, dPar, dDrop, dWhile, dIfS, dRet, dB, dCall, dCons, dNil, dVar, dC, dBin, dChain, asB, dTru, dNotT, dAndT, dOrT, dAnd, dOr, dNot, dIf, dUn, dTup, dLst, dItems, dYes, R.bind, R.to, O.seq, outR, ofO, noErr, mask, Sm.putIn, bindPat, bindPats, itemsOf, tru, List.foldr_cons, List.foldr_nil, List.length_cons, List.length_nil, List.map_cons, List.map_nil, List.cons_append, List.nil_append, Nat.sub_self, List.replicate_zero, List.replicate_succ, List.getElem?_cons_succ, List.getElem?_cons_zero, List.set_cons_zero, List.set_cons_succ, Nat.reduceAdd, Nat.reduceSub, ↓reduceIte, Bool.not_true, Bool.not_false, Bool.and_true, Bool.true_and, Bool.false_and, Bool.and_false, if_true, if_false, Bool.false_eq_true, oNeg, oAddI, oSubI, oAdd_ii, oLt, oLe, oGt, oGe, Option.bind_some, Option.map_some]
      · generalize Tx g.txt = T at *
        generalize g.enc = G at *
        generalize h.enc = H at *
        apply stay; (focus (simp only [n4, lg, lx, n3, defD, args, dSeq, dSet, dSetP, dSetN, lstAt, dApp, dAppP, dAsg, dPar, dDrop, dWhile, dIfS, dRet, dB, dCall, dCons, dNil, dVar, dC, dBin, dChain, asB, dTru, dNotT, dAndT, dOrT, dAnd, dOr, dNot, dIf, dUn, dTup, dLst, dItems, dYes, R.bind, R.to, O.seq, outR, ofO, noErr, mask, Sm.putIn, bindPat, bindPats, itemsOf, tru, List.foldr_cons, List.foldr_nil, List.length_cons, List.length_nil, List.map_cons, List.map_nil, List.cons_append, List.nil_append, Nat.sub_self, List.replicate_zero, List.replicate_succ, List.getElem?_cons_succ, List.getElem?_cons_zero, List.set_cons_zero, List.set_cons_succ, Nat.reduceAdd, Nat.reduceSub, ↓reduceIte, Bool.not_true, Bool.not_false, Bool.and_true, Bool.true_and, Bool.false_and, Bool.and_false, if_true, if_false, Bool.false_eq_true, oNeg, oAddI, oSubI, oAdd_ii, oLt, oLe, oGt, oGe, Option.bind_some, Option.map_some]; try exact rfl)); focus rfl
    · apply stay_nx (ρ1 := [some .scr0, some g.enc, some (.str (Tx g.txt)), some (.int (k : Int)), none, none, some (.str (Tx s)), some (.str (Tx b)), some (.str "no text")])
      · generalize Tx g.txt = T at *
        generalize g.enc = G at *
        simp only [h3, defD, args, dSeq, dSet, dSetP, dSetN, lstAt, dApp, dAppP, dAsg, dPar, dDrop, dWhile, dIfS, dRet, dB, dCall, dCons, dNil, dVar, dC, dBin, dChain, asB, dTru, dNotT, dAndT, dOrT, dAnd, dOr, dNot, dIf, dUn, dTup, dLst, dItems, dYes, R.bind, R.to, O.seq, outR, ofO, noErr, mask, Sm.putIn, bindPat, bindPats, itemsOf, tru, List.foldr_cons, List.foldr_nil, List.length_cons, List.length_nil, List.map_cons, List.map_nil, List.cons_append, List.nil_append, Nat.sub_self, List.replicate_zero, List.replicate_succ, List.getElem?_cons_succ, List.getElem?_cons_zero, List.set_cons_zero, List.set_cons_succ, Nat.reduceAdd, Nat.reduceSub, ↓reduceIte, Bool.not_true, Bool.not_false, Bool.and_true, Bool.true_and, Bool.false_and, Bool.and_false, if_true, if_false, Bool.false_eq_true, oNeg, oAddI, oSubI, oAdd_ii, oLt, oLe, oGt, oGe, Option.bind_some, Option.map_some]
      · generalize Tx g.txt = T at *
        generalize g.enc = G at *
        apply stay; (focus (simp only [ns2, defD, args, dSeq, dSet, dSetP, dSetN, lstAt, dApp, dAppP, dAsg, dPar, dDrop, dWhile, dIfS, dRet, dB, dCall, dCons, dNil, dVar, dC, dBin, dChain, asB, dTru, dNotT, dAndT, dOrT, dAnd, dOr, dNot, dIf, dUn, dTup, dLst, dItems, dYes, R.bind, R.to, O.seq, outR, ofO, noErr, mask, Sm.putIn, bindPat, bindPats, itemsOf, tru, List.foldr_cons, List.foldr_nil, List.length_cons, List.length_nil, List.map_cons, List.map_nil, List.cons_append, List.nil_append, Nat.sub_self, List.replicate_zero, List.replicate_succ, List.getElem?_cons_succ, List.getElem?_cons_zero, List.set_cons_zero, List.set_cons_succ, Nat.reduceAdd, Nat.reduceSub, ↓reduceIte, Bool.not_true, Bool.not_false, Bool.and_true, Bool.true_and, Bool.false_and, Bool.and_false, if_true, if_false, Bool.false_eq_true, oNeg, oAddI, oSubI, oAdd_ii, oLt, oLe, oGt, oGe, Option.bind_some, Option.map_some]; try exact rfl)); focus rfl
  · intro ys
    simp only [over, List.contains_cons, List.contains_nil, List.elem_cons, List.elem_nil, Nat.reduceAdd, Nat.reduceBEq, Nat.zero_add, Bool.or_false, Bool.false_or, Bool.or_true, Bool.true_or, Bool.false_eq_true, if_true, if_false, ↓reduceIte, beq_self_eq_true, List.set_cons_zero, List.set_cons_succ]
    generalize ys 3 = y3
    generalize ys 6 = y6
    generalize ys 7 = y7
    generalize ys 8 = y8
    apply out_seq (ρ1 := [some .scr0, some g.enc, some (.str (Tx g.txt)), y3, some (.lst ((oddT.take 12).map D.str)), none, y6, y7, y8])
    · generalize Tx g.txt = T at *
      generalize g.enc = G at *
      simp only [defD, args, dSeq, dSet, dSetP, dSetN, lstAt, dApp, dAppP, dAsg, dPar, dDrop, dWhile, dIfS, dRet, dB, dCall, dCons, dNil, dVar, dC, dBin, dChain, asB, dTru, dNotT, dAndT, dOrT, dAnd, dOr, dNot, dIf, dUn, dTup, dLst, dItems, dYes, R.bind, R.to, O.seq, outR, ofO, noErr, mask, Sm.putIn, bindPat, bindPats, itemsOf, tru, List.foldr_cons, List.foldr_nil, List.length_cons, List.length_nil, List.map_cons, List.map_nil, List.cons_append, List.nil_append, Nat.sub_self, List.replicate_zero, List.replicate_succ, List.getElem?_cons_succ, List.getElem?_cons_zero, List.set_cons_zero, List.set_cons_succ, Nat.reduceAdd, Nat.reduceSub, ↓reduceIte, Bool.not_true, Bool.not_false, Bool.and_true, Bool.true_and, Bool.false_and, Bool.and_false, if_true, if_false, Bool.false_eq_true, oNeg, oAddI, oSubI, oAdd_ii, oLt, oLe, oGt, oGe, Option.bind_some, Option.map_some]
      rfl
    apply out_seq (ρ1 := [some .scr0, some g.enc, some (.str (Tx g.txt)), y3, some (.lst ((oddT.take 14).map D.str)), none, y6, y7, y8])
    · generalize Tx g.txt = T at *
      generalize g.enc = G at *
      simp only [dExt, defD, args, dSeq, dSet, dSetP, dSetN, lstAt, dApp, dAppP, dAsg, dPar, dDrop, dWhile, dIfS, dRet, dB, dCall, dCons, dNil, dVar, dC, dBin, dChain, asB, dTru, dNotT, dAndT, dOrT, dAnd, dOr, dNot, dIf, dUn, dTup, dLst, dItems, dYes, R.bind, R.to, O.seq, outR, ofO, noErr, mask, Sm.putIn, bindPat, bindPats, itemsOf, tru, List.foldr_cons, List.foldr_nil, List.length_cons, List.length_nil, List.map_cons, List.map_nil, List.cons_append, List.nil_append, Nat.sub_self, List.replicate_zero, List.replicate_succ, List.getElem?_cons_succ, List.getElem?_cons_zero, List.set_cons_zero, List.set_cons_succ, Nat.reduceAdd, Nat.reduceSub, ↓reduceIte, Bool.not_true, Bool.not_false, Bool.and_true, Bool.true_and, Bool.false_and, Bool.and_false, if_true, if_false, Bool.false_eq_true, oNeg, oAddI, oSubI, oAdd_ii, oLt, oLe, oGt, oGe, Option.bind_some, Option.map_some]
      rw [if_pos (Nat.le_trans (by decide) sizeLine_big)]
      rfl
    apply out_seq (ρ1 := [some .scr0, some g.enc, some (.str (Tx g.txt)), y3, some (.lst (oddT.map D.str)), none, y6, y7, y8])
    · generalize Tx g.txt = T at *
      generalize g.enc = G at *
      simp only [dExt, defD, args, dSeq, dSet, dSetP, dSetN, lstAt, dApp, dAppP, dAsg, dPar, dDrop, dWhile, dIfS, dRet, dB, dCall, dCons, dNil, dVar, dC, dBin, dChain, asB, dTru, dNotT, dAndT, dOrT, dAnd, dOr, dNot, dIf, dUn, dTup, dLst, dItems, dYes, R.bind, R.to, O.seq, outR, ofO, noErr, mask, Sm.putIn, bindPat, bindPats, itemsOf, tru, List.foldr_cons, List.foldr_nil, List.length_cons, List.length_nil, List.map_cons, List.map_nil, List.cons_append, List.nil_append, Nat.sub_self, List.replicate_zero, List.replicate_succ, List.getElem?_cons_succ, List.getElem?_cons_zero, List.set_cons_zero, List.set_cons_succ, Nat.reduceAdd, Nat.reduceSub, ↓reduceIte, Bool.not_true, Bool.not_false, Bool.and_true, Bool.true_and, Bool.false_and, Bool.and_false, if_true, if_false, Bool.false_eq_true, oNeg, oAddI, oSubI, oAdd_ii, oLt, oLe, oGt, oGe, Option.bind_some, Option.map_some]
      rw [if_pos (Nat.le_trans (by decide) sizeLine_big)]
      rfl
    obtain ⟨v, hv, ev⟩ := pick_at ok 9010 (show 0 < 22 by decide)
    have pk1 : dPick pk [.scr0, .int 9010, .int 22] = .ok (.int (v : Int)) := by
      have := dPick_ok pk 9010 (m := 22) (by decide)
      rw [show pk 9010 22 = _ from ev] at this
      exact this
    obtain ⟨z, hz, ez⟩ := odd_at v hv
    have iz := ix_lst hz
    have ns2 : oNe (.str "no text") (.str "no text") = some (.bl false) := oNe_self (by simp only [pl]; decide +kernel)
    apply out_seq (ρ1 := [some .scr0, some g.enc, some (.str (Tx g.txt)), y3, some (.lst (oddT.map D.str)), none, y6, y7, y8])
    · generalize Tx g.txt = T at *
      generalize g.enc = G at *
      generalize oddT.map D.str = L at *
      simp only [pk1, iz, ez, ns2, defD, args, dSeq, dSet, dSetP, dSetN, lstAt, dApp, dAppP, dAsg, dPar, dDrop, dWhile, dIfS, dRet, dB, dCall, dCons, dNil, dVar, dC, dBin, dChain, asB, dTru, dNotT, dAndT, dOrT, dAnd, dOr, dNot, dIf, dUn, dTup, dLst, dItems, dYes, R.bind, R.to, O.seq, outR, ofO, noErr, mask, Sm.putIn, bindPat, bindPats, itemsOf, tru, List.foldr_cons, List.foldr_nil, List.length_cons, List.length_nil, List.map_cons, List.map_nil, List.cons_append, List.nil_append, Nat.sub_self, List.replicate_zero, List.replicate_succ, List.getElem?_cons_succ, List.getElem?_cons_zero, List.set_cons_zero, List.set_cons_succ, Nat.reduceAdd, Nat.reduceSub, ↓reduceIte, Bool.not_true, Bool.not_false, Bool.and_true, Bool.true_and, Bool.false_and, Bool.and_false, if_true, if_false, Bool.false_eq_true, oNeg, oAddI, oSubI, oAdd_ii, oLt, oLe, oGt, oGe, Option.bind_some, Option.map_some]
    obtain ⟨d, hs, hn⟩ := spoilt_game ok 9050 g4
    have od : okD d = true := (nc_pl _ _ _ hn).2
    have hs : d__law_spoilt_thing pk [.scr0, .int 9050, g.enc] = .ok d := hs
    have h2 : d__law_is_game 8 [d, .int 4] = _ := lgame_any 8 4 d (by decide) od
    have ns : oEq (.str "no game") (.str "no game") = some (.bl true) := oEq_self (by simp only [pl]; decide +kernel)
    apply out_seq (ρ1 := [some .scr0, some g.enc, some (.str (Tx g.txt)), y3, some (.lst (oddT.map D.str)), some d, y6, y7, y8])
    · generalize Tx g.txt = T at *
      generalize g.enc = G at *
      generalize oddT.map D.str = L at *
      simp only [hs, defD, args, dSeq, dSet, dSetP, dSetN, lstAt, dApp, dAppP, dAsg, dPar, dDrop, dWhile, dIfS, dRet, dB, dCall, dCons, dNil, dVar, dC, dBin, dChain, asB, dTru, dNotT, dAndT, dOrT, dAnd, dOr, dNot, dIf, dUn, dTup, dLst, dItems, dYes, R.bind, R.to, O.seq, outR, ofO, noErr, mask, Sm.putIn, bindPat, bindPats, itemsOf, tru, List.foldr_cons, List.foldr_nil, List.length_cons, List.length_nil, List.map_cons, List.map_nil, List.cons_append, List.nil_append, Nat.sub_self, List.replicate_zero, List.replicate_succ, List.getElem?_cons_succ, List.getElem?_cons_zero, List.set_cons_zero, List.set_cons_succ, Nat.reduceAdd, Nat.reduceSub, ↓reduceIte, Bool.not_true, Bool.not_false, Bool.and_true, Bool.true_and, Bool.false_and, Bool.and_false, if_true, if_false, Bool.false_eq_true, oNeg, oAddI, oSubI, oAdd_ii, oLt, oLe, oGt, oGe, Option.bind_some, Option.map_some]
    cases hg : isG 4 d with
    | true =>
      rw [hg] at h2
      generalize Tx g.txt = T at *
      generalize g.enc = G at *
      generalize oddT.map D.str = L at *
      simp only [h2, defD, args, dSeq, dSet, dSetP, dSetN, lstAt, dApp, dAppP, dAsg, dPar, dDrop, dWhile, dIfS, dRet, dB, dCall, dCons, dNil, dVar, dC, dBin, dChain, asB, dTru, dNotT, dAndT, dOrT, dAnd, dOr, dNot, dIf, dUn, dTup, dLst, dItems, dYes, R.bind, R.to, O.seq, outR, ofO, noErr, mask, Sm.putIn, bindPat, bindPats, itemsOf, tru, List.foldr_cons, List.foldr_nil, List.length_cons, List.length_nil, List.map_cons, List.map_nil, List.cons_append, List.nil_append, Nat.sub_self, List.replicate_zero, List.replicate_succ, List.getElem?_cons_succ, List.getElem?_cons_zero, List.set_cons_zero, List.set_cons_succ, Nat.reduceAdd, Nat.reduceSub, ↓reduceIte, Bool.not_true, Bool.not_false, Bool.and_true, Bool.true_and, Bool.false_and, Bool.and_false, if_true, if_false, Bool.false_eq_true, oNeg, oAddI, oSubI, oAdd_ii, oLt, oLe, oGt, oGe, Option.bind_some, Option.map_some]
    | false =>
      rw [hg] at h2
      have h3 := do_notext od hg
      generalize Tx g.txt = T at *
      generalize g.enc = G at *
      generalize oddT.map D.str = L at *
      simp only [h2, h3, ns, defD, args, dSeq, dSet, dSetP, dSetN, lstAt, dApp, dAppP, dAsg, dPar, dDrop, dWhile, dIfS, dRet, dB, dCall, dCons, dNil, dVar, dC, dBin, dChain, asB, dTru, dNotT, dAndT, dOrT, dAnd, dOr, dNot, dIf, dUn, dTup, dLst, dItems, dYes, R.bind, R.to, O.seq, outR, ofO, noErr, mask, Sm.putIn, bindPat, bindPats, itemsOf, tru, List.foldr_cons, List.foldr_nil, List.length_cons, List.length_nil, List.map_cons, List.map_nil, List.cons_append, List.nil_append, Nat.sub_self, List.replicate_zero, List.replicate_succ, List.getElem?_cons_succ, List.getElem?_cons_zero, List.set_cons_zero, List.set_cons_succ, Nat.reduceAdd, Nat.reduceSub, ↓reduceIte, Bool.not_true, Bool.not_false, Bool.and_true, Bool.true_and, Bool.false_and, Bool.and_false, if_true, if_false, Bool.false_eq_true, oNeg, oAddI, oSubI, oAdd_ii, oLt, oLe, oGt, oGe, Option.bind_some, Option.map_some]
end Kx
namespace Kx
open PySem PySem.Spec L2 Sm
def topS (i : Nat) : Stmt := PySem.Challenge.pw_fairstops_k60_whole_texts.main.body.getD i (.Pass ⟨0, 0, 0, 0⟩)
abbrev N_is_whole : List Str := ["thing", "low", "high"]
theorem sc_is_whole : FnScope N_is_whole ["thing", "low", "high"] (defScope (topS 13)) := ⟨rfl, rfl, rfl, by decide +kernel, rfl, by decide +kernel, by decide +kernel⟩
abbrev N_is_game_in : List Str := ["thing", "deep", "way"]
theorem sc_is_game_in : FnScope N_is_game_in ["thing", "deep"] (defScope (topS 14)) := ⟨rfl, rfl, rfl, by decide +kernel, rfl, by decide +kernel, by decide +kernel⟩
abbrev N_is_game : List Str := ["thing"]
theorem sc_is_game : FnScope N_is_game ["thing"] (defScope (topS 15)) := ⟨rfl, rfl, rfl, by decide +kernel, rfl, by decide +kernel, by decide +kernel⟩
abbrev N_look_game : List Str := ["game"]
theorem sc_look_game : FnScope N_look_game ["game"] (defScope (topS 16)) := ⟨rfl, rfl, rfl, by decide +kernel, rfl, by decide +kernel, by decide +kernel⟩
abbrev N_ways_of : List Str := ["game"]
theorem sc_ways_of : FnScope N_ways_of ["game"] (defScope (topS 17)) := ⟨rfl, rfl, rfl, by decide +kernel, rfl, by decide +kernel, by decide +kernel⟩
abbrev N_text_of : List Str := ["game", "weight", "later"]
theorem sc_text_of : FnScope N_text_of ["game"] (defScope (topS 19)) := ⟨rfl, rfl, rfl, by decide +kernel, rfl, by decide +kernel, by decide +kernel⟩
abbrev N_game_text : List Str := ["game"]
theorem sc_game_text : FnScope N_game_text ["game"] (defScope (topS 20)) := ⟨rfl, rfl, rfl, by decide +kernel, rfl, by decide +kernel, by decide +kernel⟩
abbrev N_number_at : List Str := ["text", "at", "end", "first"]
theorem sc_number_at : FnScope N_number_at ["text", "at"] (defScope (topS 21)) := ⟨rfl, rfl, rfl, by decide +kernel, rfl, by decide +kernel, by decide +kernel⟩
abbrev N_game_at : List Str := ["text", "at", "deep", "worth", "ways", "weight", "later"]
theorem sc_game_at : FnScope N_game_at ["text", "at", "deep"] (defScope (topS 22)) := ⟨rfl, rfl, rfl, by decide +kernel, rfl, by decide +kernel, by decide +kernel⟩
abbrev N_read_game : List Str := ["text", "game", "end"]
theorem sc_read_game : FnScope N_read_game ["text"] (defScope (topS 23)) := ⟨rfl, rfl, rfl, by decide +kernel, rfl, by decide +kernel, by decide +kernel⟩
abbrev N__law_cell : List Str := ["script", "k"]
theorem sc__law_cell : FnScope N__law_cell ["script", "k"] (defScope (topS 25)) := ⟨rfl, rfl, rfl, by decide +kernel, rfl, by decide +kernel, by decide +kernel⟩
abbrev N__law_pick : List Str := ["script", "k", "many", "drawn"]
theorem sc__law_pick : FnScope N__law_pick ["script", "k", "many"] (defScope (topS 26)) := ⟨rfl, rfl, rfl, by decide +kernel, rfl, by decide +kernel, by decide +kernel⟩
abbrev N__law_game : List Str := ["script", "at", "top", "deep", "is_even", "base", "many", "rows", "some", "k", "weight", "step", "a", "b"]
theorem sc__law_game : FnScope N__law_game ["script", "at", "top", "deep", "is_even"] (defScope (topS 27)) := ⟨rfl, rfl, rfl, by decide +kernel, rfl, by decide +kernel, by decide +kernel⟩
abbrev N__law_drawn : List Str := ["script", "deep"]
theorem sc__law_drawn : FnScope N__law_drawn ["script", "deep"] (defScope (topS 28)) := ⟨rfl, rfl, rfl, by decide +kernel, rfl, by decide +kernel, by decide +kernel⟩
abbrev N__law_places : List Str := ["thing", "made", "k", "place"]
theorem sc__law_places : FnScope N__law_places ["thing"] (defScope (topS 34)) := ⟨rfl, rfl, rfl, by decide +kernel, rfl, by decide +kernel, by decide +kernel⟩
abbrev N__law_put : List Str := ["thing", "place", "new", "k"]
theorem sc__law_put : FnScope N__law_put ["thing", "place", "new"] (defScope (topS 35)) := ⟨rfl, rfl, rfl, by decide +kernel, rfl, by decide +kernel, by decide +kernel⟩
abbrev N__law_spoilt_thing : List Str := ["script", "at", "thing", "places", "place", "here", "k", "some", "way"]
theorem sc__law_spoilt_thing : FnScope N__law_spoilt_thing ["script", "at", "thing"] (defScope (topS 36)) := ⟨rfl, rfl, rfl, by decide +kernel, rfl, by decide +kernel, by decide +kernel⟩
abbrev N__law_whole : List Str := ["thing", "low", "high"]
theorem sc__law_whole : FnScope N__law_whole ["thing", "low", "high"] (defScope (topS 37)) := ⟨rfl, rfl, rfl, by decide +kernel, rfl, by decide +kernel, by decide +kernel⟩
abbrev N__law_is_game : List Str := ["thing", "deep", "way"]
theorem sc__law_is_game : FnScope N__law_is_game ["thing", "deep"] (defScope (topS 38)) := ⟨rfl, rfl, rfl, by decide +kernel, rfl, by decide +kernel, by decide +kernel⟩
abbrev N__law_spoilt : List Str := ["text", "cell", "signs", "at", "sign", "on", "way"]
theorem sc__law_spoilt : FnScope N__law_spoilt ["text", "cell", "signs"] (defScope (topS 39)) := ⟨rfl, rfl, rfl, by decide +kernel, rfl, by decide +kernel, by decide +kernel⟩
abbrev N__law_word : List Str := ["kept", "kinds"]
theorem sc__law_word : FnScope N__law_word ["kept"] (defScope (topS 40)) := ⟨rfl, rfl, rfl, by decide +kernel, rfl, by decide +kernel, by decide +kernel⟩
abbrev N__law_do : List Str := ["what", "thing", "kept", "answer", "e"]
theorem sc__law_do : FnScope N__law_do ["what", "thing"] (defScope (topS 41)) := ⟨rfl, rfl, rfl, by decide +kernel, rfl, by decide +kernel, by decide +kernel⟩
abbrev N__law_text : List Str := ["game", "text", "k", "weight", "later"]
theorem sc__law_text : FnScope N__law_text ["game"] (defScope (topS 42)) := ⟨rfl, rfl, rfl, by decide +kernel, rfl, by decide +kernel, by decide +kernel⟩
abbrev N_law : List Str := ["script", "game", "text", "k", "odd", "bad", "signs", "spoilt", "told"]
theorem sc_law : FnScope N_law ["script"] (defScope (topS 43)) := ⟨rfl, rfl, rfl, by decide +kernel, rfl, by decide +kernel, by decide +kernel⟩
structure Top (K : PySem.W.Frag) (mg : Str → Option Value) (cc : Nat → Addr) : Prop where
  x_NoGame : XC K mg "NoGame" (cc 1)
  x_NoText : XC K mg "NoText" (cc 6)
  x_NoRule : XC K mg "NoRule" (cc 3)
  x_NoPath : XC K mg "NoPath" (cc 2)
  x_NoBets : XC K mg "NoBets" (cc 4)
  x_Unpaid : XC K mg "Unpaid" (cc 5)
  x_StopError : XC K mg "StopError" (cc 0)
  xt : XT K cc [1, 2, 3, 4, 5, 6]
  k_NoGame : ∀ k ∈ [1, 2, 3, 4, 5, 6], PySem.W.kitOne K (.ref (cc k)) (.ref (cc 1)) = some (k == 1)
  k_NoPath : ∀ k ∈ [1, 2, 3, 4, 5, 6], PySem.W.kitOne K (.ref (cc k)) (.ref (cc 2)) = some (k == 2)
  k_NoRule : ∀ k ∈ [1, 2, 3, 4, 5, 6], PySem.W.kitOne K (.ref (cc k)) (.ref (cc 3)) = some (k == 3)
  k_NoBets : ∀ k ∈ [1, 2, 3, 4, 5, 6], PySem.W.kitOne K (.ref (cc k)) (.ref (cc 4)) = some (k == 4)
  k_Unpaid : ∀ k ∈ [1, 2, 3, 4, 5, 6], PySem.W.kitOne K (.ref (cc k)) (.ref (cc 5)) = some (k == 5)
  k_NoText : ∀ k ∈ [1, 2, 3, 4, 5, 6], PySem.W.kitOne K (.ref (cc k)) (.ref (cc 6)) = some (k == 6)
  kv : ∀ k ∈ [1, 2, 3, 4, 5, 6], PySem.W.kitOne K (.ref (cc k)) (.type "ValueError") = some true
  xs : ∀ k ∈ [1, 2, 3, 4, 5, 6], PySem.W.exmOne K (.ref (cc k)) (.ref (cc 0)) = some true
  m_isinstance : mg "isinstance" = none
  m_int : mg "int" = none
  m_bool : mg "bool" = none
  m_tuple : mg "tuple" = none
  m_len : mg "len" = none
  m_all : mg "all" = none
  m_str : mg "str" = none
  m_max : mg "max" = none
  m_range : mg "range" = none
  m_enumerate : mg "enumerate" = none
  m_ValueError : mg "ValueError" = none
  c_GREATEST : ∃ t, mg "GREATEST" = some (.int 20 t)
  c_MOST_WAYS : ∃ t, mg "MOST_WAYS" = some (.int 3 t)
  c_HEAVIEST : ∃ t, mg "HEAVIEST" = some (.int 9 t)
  c_DEEPEST : ∃ t, mg "DEEPEST" = some (.int 4 t)
  f_is_whole : ∃ f fd, Fun K "is_whole" "is_whole" (topS 13) f fd ∧ mg "is_whole" = some (.ref f) ∧ Binds K fd ["thing", "low", "high"] []
  f_is_game_in : ∃ f fd, Fun K "is_game_in" "is_game_in" (topS 14) f fd ∧ mg "is_game_in" = some (.ref f) ∧ Binds K fd ["thing", "deep"] []
  f_is_game : ∃ f fd, Fun K "is_game" "is_game" (topS 15) f fd ∧ mg "is_game" = some (.ref f) ∧ Binds K fd ["thing"] []
  f_look_game : ∃ f fd, Fun K "look_game" "look_game" (topS 16) f fd ∧ mg "look_game" = some (.ref f) ∧ Binds K fd ["game"] []
  f_ways_of : ∃ f fd, Fun K "ways_of" "ways_of" (topS 17) f fd ∧ mg "ways_of" = some (.ref f) ∧ Binds K fd ["game"] []
  f_text_of : ∃ f fd, Fun K "text_of" "text_of" (topS 19) f fd ∧ mg "text_of" = some (.ref f) ∧ Binds K fd ["game"] []
  f_game_text : ∃ f fd, Fun K "game_text" "game_text" (topS 20) f fd ∧ mg "game_text" = some (.ref f) ∧ Binds K fd ["game"] []
  f_number_at : ∃ f fd, Fun K "number_at" "number_at" (topS 21) f fd ∧ mg "number_at" = some (.ref f) ∧ Binds K fd ["text", "at"] []
  f_game_at : ∃ f fd, Fun K "game_at" "game_at" (topS 22) f fd ∧ mg "game_at" = some (.ref f) ∧ Binds K fd ["text", "at", "deep"] []
  f_read_game : ∃ f fd, Fun K "read_game" "read_game" (topS 23) f fd ∧ mg "read_game" = some (.ref f) ∧ Binds K fd ["text"] []
  f__law_cell : ∃ f fd, Fun K "_law_cell" "_law_cell" (topS 25) f fd ∧ mg "_law_cell" = some (.ref f) ∧ Binds K fd ["script", "k"] []
  f__law_pick : ∃ f fd, Fun K "_law_pick" "_law_pick" (topS 26) f fd ∧ mg "_law_pick" = some (.ref f) ∧ Binds K fd ["script", "k", "many"] []
  f__law_game : ∃ f fd, Fun K "_law_game" "_law_game" (topS 27) f fd ∧ mg "_law_game" = some (.ref f) ∧ Binds K fd ["script", "at", "top", "deep", "is_even"] []
  f__law_drawn : ∃ f fd, Fun K "_law_drawn" "_law_drawn" (topS 28) f fd ∧ mg "_law_drawn" = some (.ref f) ∧ Binds K fd ["script", "deep"] []
  f__law_places : ∃ f fd, Fun K "_law_places" "_law_places" (topS 34) f fd ∧ mg "_law_places" = some (.ref f) ∧ Binds K fd ["thing"] []
  f__law_put : ∃ f fd, Fun K "_law_put" "_law_put" (topS 35) f fd ∧ mg "_law_put" = some (.ref f) ∧ Binds K fd ["thing", "place", "new"] []
  f__law_spoilt_thing : ∃ f fd, Fun K "_law_spoilt_thing" "_law_spoilt_thing" (topS 36) f fd ∧ mg "_law_spoilt_thing" = some (.ref f) ∧ Binds K fd ["script", "at", "thing"] []
  f__law_whole : ∃ f fd, Fun K "_law_whole" "_law_whole" (topS 37) f fd ∧ mg "_law_whole" = some (.ref f) ∧ Binds K fd ["thing", "low", "high"] []
  f__law_is_game : ∃ f fd, Fun K "_law_is_game" "_law_is_game" (topS 38) f fd ∧ mg "_law_is_game" = some (.ref f) ∧ Binds K fd ["thing", "deep"] []
  f__law_spoilt : ∃ f fd, Fun K "_law_spoilt" "_law_spoilt" (topS 39) f fd ∧ mg "_law_spoilt" = some (.ref f) ∧ Binds K fd ["text", "cell", "signs"] []
  f__law_word : ∃ f fd, Fun K "_law_word" "_law_word" (topS 40) f fd ∧ mg "_law_word" = some (.ref f) ∧ Binds K fd ["kept"] []
  f__law_do : ∃ f fd, Fun K "_law_do" "_law_do" (topS 41) f fd ∧ mg "_law_do" = some (.ref f) ∧ Binds K fd ["what", "thing"] []
  f__law_text : ∃ f fd, Fun K "_law_text" "_law_text" (topS 42) f fd ∧ mg "_law_text" = some (.ref f) ∧ Binds K fd ["game"] []
  f_law : ∃ f fd, Fun K "law" "law" (topS 43) f fd ∧ mg "law" = some (.ref f) ∧ Binds K fd ["script"] []
section
variable {P : Program} {w : World} {K : PySem.W.Frag} {mg : Str → Option Value} {base : Heap} {cl : Glb} {pk : Nat → Int → Int}
theorem s_is_whole (T : Top K mg cl.c)  : Fn P w K mg base cl 1 "is_whole" 3 d_is_whole := by
  obtain ⟨f, fd, F, hm, hb⟩ := T.f_is_whole
  exact fn_mk (k := 0) (own := []) F sc_is_whole hm hb rfl rfl fun cdv A outer s H E gd hr =>
      (ss_one (ss_ret (own := []) (se_and (se_isiT kit_int (by decide +kernel) (se_var 0) T.m_isinstance T.m_int) (se_and (se_not (se_isiT kit_bool (by decide +kernel) (se_var 0) T.m_isinstance T.m_bool)) (se_one (se_chain os_le os_le (se_var 1) (se_var 0) (se_var 2)))))))
theorem s_is_game_in (T : Top K mg cl.c) (g_is_whole : Fn P w K mg base cl 1 "is_whole" 3 d_is_whole) : ∀ n : Nat, Fn P w K mg base cl (2 + n) "is_game_in" 2 (d_is_game_in n) := by
  intro n
  induction n with
  | zero =>
    skip
    obtain ⟨f, fd, F, hm, hb⟩ := T.f_is_game_in
    exact Fn.none F hm hb rfl
  | succ n ih =>
    have G_is_game_in := ih
    skip
    · obtain ⟨f, fd, F, hm, hb⟩ := T.f_is_game_in
      obtain ⟨t_GREATEST, c_GREATEST⟩ := T.c_GREATEST
      obtain ⟨t_GREATEST, c_GREATEST⟩ := T.c_GREATEST
      obtain ⟨t_MOST_WAYS, c_MOST_WAYS⟩ := T.c_MOST_WAYS
      obtain ⟨t_HEAVIEST, c_HEAVIEST⟩ := T.c_HEAVIEST
      exact fn_mk (k := 2 + n) (own := []) F sc_is_game_in hm hb rfl rfl fun cdv A outer s H E gd hr =>
        (ss_cons (ss_if (own := []) (own1 := []) (SW.st (sw_or (st_cmp (os_eq hr.units) (se_var 1) se_int) (sw_or (st_not (st_truth (se_isiT kit_tup (by decide +kernel) (se_var 0) T.m_isinstance T.m_tuple))) (sw_or (st_not (st_truth (se_var 0))) (sw_one (st_not (st_truth (se_call g_is_whole (hr.mono (by omega)) gd.tk (sa_cons (se_ixD (u65 hr) (se_var 0) se_int) (sa_cons (se_op os_sub se_int (se_globI rfl c_GREATEST)) (sa_cons (se_globI rfl c_GREATEST) sa_nil))))))))))) (ss_one (ss_ret (own := []) se_bl)) ss_nil)
      (ss_cons (ss_if (own := []) (own1 := []) (st_cmp (os_eq hr.units) (se_callB cs_len (by decide +kernel) (sa_cons (se_var 0) sa_nil) T.m_len) se_int) (ss_one (ss_ret (own := []) se_bl)) ss_nil)
      (ss_cons (ss_if (own := []) (own1 := []) (SW.st (sw_or (st_cmp (os_ne hr.units) (se_callB cs_len (by decide +kernel) (sa_cons (se_var 0) sa_nil) T.m_len) se_int) (sw_or (st_not (st_truth (se_isiT kit_tup (by decide +kernel) (se_ixD (u65 hr) (se_var 0) se_int) T.m_isinstance T.m_tuple))) (sw_one (st_not (st_chain os_le os_le se_int (se_callB cs_len (by decide +kernel) (sa_cons (se_ixD (u65 hr) (se_var 0) se_int) sa_nil) T.m_len) (se_globI rfl c_MOST_WAYS))))))) (ss_one (ss_ret (own := []) se_bl)) ss_nil)
      (ss_cons (ss_for (own := []) gd (si_seq (se_ixD (u65 hr) (se_var 0) se_int)) (sg_name 2 gd.nd) (ss_one (ss_if (own := []) (own1 := []) (SW.st (sw_or (st_not (st_truth (se_isiT kit_tup (by decide +kernel) (se_var 2) T.m_isinstance T.m_tuple))) (sw_or (st_cmp (os_ne hr.units) (se_callB cs_len (by decide +kernel) (sa_cons (se_var 2) sa_nil) T.m_len) se_int) (sw_one (st_not (st_truth (se_call g_is_whole (hr.mono (by omega)) gd.tk (sa_cons (se_ixD (u65 hr) (se_var 2) se_int) (sa_cons se_int (sa_cons (se_globI rfl c_HEAVIEST) sa_nil)))))))))) (ss_one (ss_ret (own := []) se_bl)) ss_nil)))
      (ss_one (ss_ret (own := []) (se_callB (cs_all gd.calm) (by decide +kernel) (sa_cons (se_lc gd.calm gd.nd (si_seq (se_ixD (u65 hr) (se_var 0) se_int)) (blkOk_by (own := [("way", 2)]) (N := N_is_game_in) (sc := defScope (topS 14)) (by decide +kernel)) (fun _ _ _ _ _ => (sg_name 2 gd.nd)) (fun _ _ _ _ _ => sts_nil) (fun _ _ _ _ _ => (se_call G_is_game_in (hr.mono (by omega)) takes0 (sa_cons (se_ixD (u65 hr) (se_var 2) se_int) (sa_cons (se_op os_sub (se_var 1) se_int) sa_nil))))) sa_nil) T.m_all)))))))
theorem s_is_game (T : Top K mg cl.c) (g_is_game_in : Fn P w K mg base cl 10 "is_game_in" 2 (d_is_game_in 8)) : Fn P w K mg base cl 11 "is_game" 1 d_is_game := by
  obtain ⟨f, fd, F, hm, hb⟩ := T.f_is_game
  obtain ⟨t_DEEPEST, c_DEEPEST⟩ := T.c_DEEPEST
  exact fn_mk (k := 10) (own := []) F sc_is_game hm hb rfl rfl fun cdv A outer s H E gd hr =>
      (ss_one (ss_ret (own := []) (se_call g_is_game_in (hr.mono (by decide)) gd.tk (sa_cons (se_var 0) (sa_cons (se_globI rfl c_DEEPEST) sa_nil)))))
theorem s_look_game (T : Top K mg cl.c) (g_is_game : Fn P w K mg base cl 11 "is_game" 1 d_is_game) : Fn P w K mg base cl 12 "look_game" 1 d_look_game := by
  obtain ⟨f, fd, F, hm, hb⟩ := T.f_look_game
  exact fn_mk (k := 11) (own := []) F sc_look_game hm hb rfl rfl fun cdv A outer s H E gd hr =>
      (ss_one (ss_if (own := []) (own1 := []) (st_not (st_truth (se_call g_is_game (hr.mono (by decide)) gd.tk (sa_cons (se_var 0) sa_nil)))) (ss_one (ss_raise (own := []) (c := 1) gd T.x_NoGame)) ss_nil))
theorem s_ways_of (T : Top K mg cl.c)  : Fn P w K mg base cl 1 "ways_of" 1 d_ways_of := by
  obtain ⟨f, fd, F, hm, hb⟩ := T.f_ways_of
  exact fn_mk (k := 0) (own := []) F sc_ways_of hm hb rfl rfl fun cdv A outer s H E gd hr =>
      (ss_one (ss_ret (own := []) (se_if (st_cmp (os_eq hr.units) (se_callB cs_len (by decide +kernel) (sa_cons (se_var 0) sa_nil) T.m_len) se_int) (se_ixD (u65 hr) (se_var 0) se_int) (se_tup sa_nil))))
theorem s_text_of (T : Top K mg cl.c) (g_ways_of : Fn P w K mg base cl 1 "ways_of" 1 d_ways_of) : ∀ n : Nat, Fn P w K mg base cl (2 + n) "text_of" 1 (d_text_of n) := by
  intro n
  induction n with
  | zero =>
    skip
    obtain ⟨f, fd, F, hm, hb⟩ := T.f_text_of
    exact Fn.none F hm hb rfl
  | succ n ih =>
    have G_text_of := ih
    skip
    · obtain ⟨f, fd, F, hm, hb⟩ := T.f_text_of
      exact fn_mk (k := 2 + n) (own := []) F sc_text_of hm hb rfl rfl fun cdv A outer s H E gd hr =>
        (ss_cons (ss_if (own := []) (own1 := []) (st_cmp (os_eq hr.units) (se_callB cs_len (by decide +kernel) (sa_cons (se_var 0) sa_nil) T.m_len) se_int) (ss_one (ss_ret (own := []) (se_callTy cs_str (by decide +kernel) (sa_cons (se_ixD (u65 hr) (se_var 0) se_int) sa_nil) T.m_str))) ss_nil)
      (ss_one (ss_ret (own := []) (se_op os_plus (se_op os_plus (se_op os_plus (se_callTy cs_str (by decide +kernel) (sa_cons (se_ixD (u65 hr) (se_var 0) se_int) sa_nil) T.m_str) se_str) (se_join se_str (se_lc gd.calm gd.nd (si_seq (se_call g_ways_of (hr.mono (by omega)) gd.tk (sa_cons (se_var 0) sa_nil))) (blkOk_by (own := [("weight", 1), ("later", 2)]) (N := N_text_of) (sc := defScope (topS 19)) (by decide +kernel)) (fun _ _ _ _ _ => (sg_tup gd.calm (sgs_cons (sg_name 1 gd.nd) (sgs_cons (sg_name 2 gd.nd) sgs_nil)))) (fun _ _ _ _ _ => sts_nil) (fun _ _ _ _ _ => (se_op os_plus (se_op os_plus (se_callTy cs_str (by decide +kernel) (sa_cons (se_var 1) sa_nil) T.m_str) se_str) (se_call G_text_of (hr.mono (by omega)) takes0 (sa_cons (se_var 2) sa_nil))))))) se_str))))
theorem s_game_text (T : Top K mg cl.c) (g_look_game : Fn P w K mg base cl 12 "look_game" 1 d_look_game) (g_text_of : Fn P w K mg base cl 10 "text_of" 1 (d_text_of 8)) : Fn P w K mg base cl 13 "game_text" 1 d_game_text := by
  obtain ⟨f, fd, F, hm, hb⟩ := T.f_game_text
  exact fn_mk (k := 12) (own := []) F sc_game_text hm hb rfl rfl fun cdv A outer s H E gd hr =>
      (ss_cons (ss_expr (own := []) (se_call g_look_game (hr.mono (by decide)) gd.tk (sa_cons (se_var 0) sa_nil)))
      (ss_one (ss_ret (own := []) (se_call g_text_of (hr.mono (by decide)) gd.tk (sa_cons (se_var 0) sa_nil)))))
theorem s_number_at (T : Top K mg cl.c)  : Fn P w K mg base cl 1 "number_at" 2 d_number_at := by
  obtain ⟨f, fd, F, hm, hb⟩ := T.f_number_at
  exact fn_mk (k := 0) (own := []) F sc_number_at hm hb rfl rfl fun cdv A outer s H E gd hr =>
      (ss_cons (ss_set (own := []) (i := 2) gd (se_op os_plus (se_var 1) (se_callTy cs_int (by decide +kernel) (sa_cons (se_cmp (os_eq hr.units) (se_slice (se_var 0) (so_some (se_var 1)) (so_some (se_op os_plus (se_var 1) se_int))) se_str) sa_nil) T.m_int)))
      (ss_cons (ss_set (own := []) (i := 3) gd (se_var 2))
      (ss_cons (ss_while (own := []) (fun _ => 4) gd (SW.st (sw_and (st_cmp os_lt (se_var 2) (se_callB cs_len (by decide +kernel) (sa_cons (se_var 0) sa_nil) T.m_len)) (sw_and (st_cmp os_inS (se_ixD (u65 hr) (se_var 0) (se_var 2)) se_str) (sw_one (st_cmp os_lt (se_op os_sub (se_var 2) (se_var 3)) se_int))))) (ss_one (ss_set (own := []) (i := 2) gd (se_op os_plus (se_var 2) se_int))))
      (ss_cons (ss_if (own := []) (own1 := []) (st_cmp (os_eq hr.units) (se_var 2) (se_var 3)) (ss_one (ss_raise (own := []) (c := 6) gd T.x_NoText)) ss_nil)
      (ss_one (ss_ret (own := []) (se_tup (sa_cons (se_callTy cs_int (by decide +kernel) (sa_cons (se_slice (se_var 0) (so_some (se_var 1)) (so_some (se_var 2))) sa_nil) T.m_int) (sa_cons (se_var 2) sa_nil)))))))))
theorem s_game_at (T : Top K mg cl.c) (g_number_at : Fn P w K mg base cl 1 "number_at" 2 d_number_at) : ∀ n : Nat, Fn P w K mg base cl (2 + n) "game_at" 3 (d_game_at n) := by
  intro n
  induction n with
  | zero =>
    skip
    obtain ⟨f, fd, F, hm, hb⟩ := T.f_game_at
    exact Fn.none F hm hb rfl
  | succ n ih =>
    have G_game_at := ih
    skip
    · obtain ⟨f, fd, F, hm, hb⟩ := T.f_game_at
      exact fn_mk (k := 2 + n) (own := []) F sc_game_at hm hb rfl rfl fun cdv A outer s H E gd hr =>
        (ss_cons (ss_if (own := []) (own1 := []) (st_cmp (os_eq hr.units) (se_var 2) se_int) (ss_one (ss_raise (own := []) (c := 6) gd T.x_NoText)) ss_nil)
      (ss_cons (ss_asg (own := []) (se_call g_number_at (hr.mono (by omega)) gd.tk (sa_cons (se_var 0) (sa_cons (se_var 1) sa_nil))) (sg_tup gd.calm (sgs_cons (sg_name 3 gd.nd) (sgs_cons (sg_name 1 gd.nd) sgs_nil))))
      (ss_cons (ss_if (own := []) (own1 := []) (st_cmp (os_ne hr.units) (se_slice (se_var 0) (so_some (se_var 1)) (so_some (se_op os_plus (se_var 1) se_int))) se_str) (ss_one (ss_ret (own := []) (se_tup (sa_cons (se_tup (sa_cons (se_var 3) sa_nil)) (sa_cons (se_var 1) sa_nil))))) ss_nil)
      (ss_cons (ss_setN (own := []) (i := 4) gd (sn_lst sa_nil))
      (ss_cons (ss_set (own := [4]) (i := 1) gd (se_op os_plus (se_var 1) se_int))
      (ss_cons (ss_while (own := [4]) (fun _ => 1000) gd (SW.st (sw_or (st_cmp (os_eq hr.units) (se_var 4) (se_lst sa_nil)) (sw_one (st_cmp (os_eq hr.units) (se_slice (se_var 0) (so_some (se_var 1)) (so_some (se_op os_plus (se_var 1) se_int))) se_str)))) (ss_cons (ss_setP (own := [4]) (i := 1) gd (se_op os_plus (se_var 1) (se_callTy cs_int (by decide +kernel) (sa_cons (se_cmp (os_ne hr.units) (se_var 4) (se_lst sa_nil)) sa_nil) T.m_int)))
      (ss_cons (ss_asg (own := [4]) (se_call g_number_at (hr.mono (by omega)) gd.tk (sa_cons (se_var 0) (sa_cons (se_var 1) sa_nil))) (sg_tup gd.calm (sgs_cons (sg_name 5 gd.nd) (sgs_cons (sg_name 1 gd.nd) sgs_nil))))
      (ss_cons (ss_if (own := [4]) (own1 := [4]) (st_cmp (os_ne hr.units) (se_slice (se_var 0) (so_some (se_var 1)) (so_some (se_op os_plus (se_var 1) se_int))) se_str) (ss_one (ss_raise (own := [4]) (c := 6) gd T.x_NoText)) ss_nil)
      (ss_cons (ss_asg (own := [4]) (se_call G_game_at (hr.mono (by omega)) gd.tk (sa_cons (se_var 0) (sa_cons (se_op os_plus (se_var 1) se_int) (sa_cons (se_op os_sub (se_var 2) se_int) sa_nil)))) (sg_tup gd.calm (sgs_cons (sg_name 6 gd.nd) (sgs_cons (sg_name 1 gd.nd) sgs_nil))))
      (ss_one (ss_app (own := [4]) (i := 4) (se_tup (sa_cons (se_var 5) (sa_cons (se_var 6) sa_nil))))))))))
      (ss_cons (ss_if (own := [4]) (own1 := [4]) (st_cmp (os_ne hr.units) (se_slice (se_var 0) (so_some (se_var 1)) (so_some (se_op os_plus (se_var 1) se_int))) se_str) (ss_one (ss_raise (own := [4]) (c := 6) gd T.x_NoText)) ss_nil)
      (ss_one (ss_ret (own := [4]) (se_tup (sa_cons (se_tup (sa_cons (se_var 3) (sa_cons (se_callTy cs_tuple (by decide +kernel) (sa_cons (se_var 4) sa_nil) T.m_tuple) sa_nil))) (sa_cons (se_op os_plus (se_var 1) se_int) sa_nil))))))))))))
theorem s_read_game (T : Top K mg cl.c) (g_game_at : Fn P w K mg base cl 10 "game_at" 3 (d_game_at 8)) (g_is_game : Fn P w K mg base cl 11 "is_game" 1 d_is_game) (g_text_of : Fn P w K mg base cl 10 "text_of" 1 (d_text_of 8)) : Fn P w K mg base cl 12 "read_game" 1 d_read_game := by
  obtain ⟨f, fd, F, hm, hb⟩ := T.f_read_game
  obtain ⟨t_DEEPEST, c_DEEPEST⟩ := T.c_DEEPEST
  exact fn_mk (k := 11) (own := []) F sc_read_game hm hb rfl rfl fun cdv A outer s H E gd hr =>
      (ss_cons (ss_asg (own := []) (se_call g_game_at (hr.mono (by decide)) gd.tk (sa_cons (se_var 0) (sa_cons se_int (sa_cons (se_globI rfl c_DEEPEST) sa_nil)))) (sg_tup gd.calm (sgs_cons (sg_name 1 gd.nd) (sgs_cons (sg_name 2 gd.nd) sgs_nil))))
      (ss_cons (ss_if (own := []) (own1 := []) (SW.st (sw_or (st_cmp (os_ne hr.units) (se_var 2) (se_callB cs_len (by decide +kernel) (sa_cons (se_var 0) sa_nil) T.m_len)) (sw_or (st_not (st_truth (se_call g_is_game (hr.mono (by decide)) gd.tk (sa_cons (se_var 1) sa_nil)))) (sw_one (st_cmp (os_ne hr.units) (se_call g_text_of (hr.mono (by decide)) gd.tk (sa_cons (se_var 1) sa_nil)) (se_var 0)))))) (ss_one (ss_raise (own := []) (c := 6) gd T.x_NoText)) ss_nil)
      (ss_one (ss_ret (own := []) (se_var 1)))))
theorem s__law_cell (T : Top K mg cl.c)  : Fn P w K mg base cl 1 "_law_cell" 2 d__law_cell := by
  obtain ⟨f, fd, F, hm, hb⟩ := T.f__law_cell
  exact fn_mk (k := 0) (own := []) F sc__law_cell hm hb rfl rfl fun cdv A outer s H E gd hr =>
      (ss_cons (ss_if (own := []) (own1 := []) (st_cmp os_lt (se_var 1) (se_callB cs_len (by decide +kernel) (sa_cons (se_var 0) sa_nil) T.m_len)) (ss_one (ss_ret (own := []) (se_ixD (u65 hr) (se_var 0) (se_var 1)))) ss_nil)
      (ss_cons (ss_if (own := []) (own1 := []) (st_cmp (os_eq hr.units) (se_var 0) (se_lst sa_nil)) (ss_one (ss_ret (own := []) se_int)) ss_nil)
      (ss_one (ss_ret (own := []) (se_op os_plus (se_op os_times (se_ixD (u65 hr) (se_var 0) (se_op os_mod (se_var 1) (se_callB cs_len (by decide +kernel) (sa_cons (se_var 0) sa_nil) T.m_len))) se_int) (se_var 1))))))
theorem s__law_pick (T : Top K mg cl.c) (g__law_cell : Fn P w K mg base cl 1 "_law_cell" 2 d__law_cell) : Fn P w K mg base cl 2 "_law_pick" 3 d__law_pick := by
  obtain ⟨f, fd, F, hm, hb⟩ := T.f__law_pick
  exact fn_mk (k := 1) (own := []) F sc__law_pick hm hb rfl rfl fun cdv A outer s H E gd hr =>
      (ss_cons (ss_set (own := []) (i := 3) gd (se_op os_mod (se_op os_times (se_op os_plus (se_call g__law_cell (hr.mono (by decide)) gd.tk (sa_cons (se_var 0) (sa_cons (se_var 1) sa_nil))) (se_op os_times se_int (se_op os_plus (se_var 1) se_int))) se_int) se_int))
      (ss_one (ss_ret (own := []) (se_op os_mod (se_op os_mod (se_op os_plus (se_op os_times (se_var 3) (se_var 3)) (se_op os_div (se_var 3) se_int)) se_int) (se_var 2)))))
theorem s__law_game (T : Top K mg cl.c) (g__law_pick : Fn P w K mg base cl 2 "_law_pick" 3 (dPick pk)) : ∀ n : Nat, Fn P w K mg base cl (3 + n) "_law_game" 5 (d__law_game pk n) := by
  intro n
  induction n with
  | zero =>
    skip
    obtain ⟨f, fd, F, hm, hb⟩ := T.f__law_game
    exact Fn.none F hm hb rfl
  | succ n ih =>
    have G__law_game := ih
    skip
    · obtain ⟨f, fd, F, hm, hb⟩ := T.f__law_game
      exact fn_mk (k := 3 + n) (own := []) F sc__law_game hm hb rfl rfl fun cdv A outer s H E gd hr =>
        (ss_cons (ss_set (own := []) (i := 5) gd (se_op os_times se_int (se_var 1)))
      (ss_cons (ss_set (own := []) (i := 6) gd (se_ixD (u65 hr) (se_lst (sa_cons se_int (sa_cons se_int (sa_cons se_int (sa_cons se_int (sa_cons se_int sa_nil)))))) (se_call g__law_pick (hr.mono (by omega)) gd.tk (sa_cons (se_var 0) (sa_cons (se_var 5) (sa_cons se_int sa_nil))))))
      (ss_cons (ss_if (own := []) (own1 := []) (st_cmp (os_eq hr.units) (se_var 1) se_int) (ss_one (ss_set (own := []) (i := 6) gd (se_callB (cs_max2 gd.calm) (by decide +kernel) (sa_cons se_int (sa_cons (se_var 6) sa_nil)) T.m_max))) ss_nil)
      (ss_cons (ss_if (own := []) (own1 := []) (SW.st (sw_or (st_cmp (os_eq hr.units) (se_var 3) se_int) (sw_one (st_cmp (os_eq hr.units) (se_var 6) se_int)))) (ss_one (ss_ret (own := []) (se_tup (sa_cons (se_var 2) sa_nil)))) ss_nil)
      (ss_cons (ss_setN (own := []) (i := 7) gd (sn_lst sa_nil))
      (ss_cons (ss_if (own := [7]) (own1 := []) (st_truth (se_var 4)) (ss_cons (ss_par (own := [7]) (i := 12) (j := 13) gd (sa_cons (se_op os_plus se_int (se_call g__law_pick (hr.mono (by omega)) gd.tk (sa_cons (se_var 0) (sa_cons (se_op os_plus (se_var 5) se_int) (sa_cons se_int sa_nil))))) (sa_cons (se_op os_plus se_int (se_call g__law_pick (hr.mono (by omega)) gd.tk (sa_cons (se_var 0) (sa_cons (se_op os_plus (se_var 5) se_int) (sa_cons se_int sa_nil))))) sa_nil)))
      (ss_cons (ss_setN (own := [7]) (i := 7) gd (sn_lst (sa_cons (se_tup (sa_cons (se_var 13) (sa_cons (se_var 12) sa_nil))) (sa_cons (se_tup (sa_cons (se_var 12) (sa_cons (se_op os_sub se_int (se_var 13)) sa_nil))) (sa_cons (se_tup (sa_cons (se_op os_plus se_int (se_call g__law_pick (hr.mono (by omega)) gd.tk (sa_cons (se_var 0) (sa_cons (se_op os_plus (se_var 5) se_int) (sa_cons se_int sa_nil))))) (sa_cons se_int sa_nil))) sa_nil)))))
      (ss_one (SS.pre (own := [7]) (ss_set (own := []) (i := 7) gd (se_if (st_cmp (os_eq hr.units) (se_var 6) se_int) (se_slice (se_var 7) (so_some se_int) so_none) (se_slice (se_var 7) so_none (so_some (se_var 6))))))))) (SSs.post (own2 := []) (ss_one (ss_for (own := [7]) gd (si_range1 (sa_cons (se_var 6) sa_nil) T.m_range) (sg_name 9 gd.nd) (ss_one (ss_app (own := [7]) (i := 7) (se_tup (sa_cons (se_op os_plus se_int (se_call g__law_pick (hr.mono (by omega)) gd.tk (sa_cons (se_var 0) (sa_cons (se_op os_plus (se_op os_plus (se_var 5) se_int) (se_var 9)) (sa_cons se_int sa_nil))))) (sa_cons (se_op os_sub (se_call g__law_pick (hr.mono (by omega)) gd.tk (sa_cons (se_var 0) (sa_cons (se_op os_plus (se_op os_plus (se_var 5) se_int) (se_var 9)) (sa_cons se_int sa_nil)))) se_int) sa_nil)))))))))
      (ss_cons (ss_if (own := []) (own1 := []) (st_cmp (os_eq hr.units) (se_call g__law_pick (hr.mono (by omega)) gd.tk (sa_cons (se_var 0) (sa_cons (se_op os_plus (se_var 5) se_int) (sa_cons se_int sa_nil)))) se_int) (ss_one (ss_set (own := []) (i := 7) gd (se_revA (se_var 7)))) ss_nil)
      (ss_cons (ss_setN (own := []) (i := 8) gd (sn_lst sa_nil))
      (ss_cons (ss_for (own := [8]) gd (si_enum (sa_cons (se_var 7) sa_nil) T.m_enumerate) (sg_tup gd.calm (sgs_cons (sg_name 9 gd.nd) (sgs_cons (sg_tup gd.calm (sgs_cons (sg_name 10 gd.nd) (sgs_cons (sg_name 11 gd.nd) sgs_nil))) sgs_nil))) (ss_one (ss_app (own := [8]) (i := 8) (se_tup (sa_cons (se_var 10) (sa_cons (se_call G__law_game (hr.mono (by omega)) gd.tk (sa_cons (se_var 0) (sa_cons (se_op os_plus (se_op os_plus (se_op os_times se_int (se_var 1)) se_int) (se_var 9)) (sa_cons (se_op os_plus (se_var 2) (se_var 11)) (sa_cons (se_op os_sub (se_var 3) se_int) (sa_cons (se_var 4) sa_nil)))))) sa_nil))))))
      (ss_one (ss_ret (own := [8]) (se_tup (sa_cons (se_var 2) (sa_cons (se_callTy cs_tuple (by decide +kernel) (sa_cons (se_var 8) sa_nil) T.m_tuple) sa_nil))))))))))))))
theorem s__law_drawn (T : Top K mg cl.c) (g__law_pick : Fn P w K mg base cl 2 "_law_pick" 3 (dPick pk)) (g__law_game : Fn P w K mg base cl 11 "_law_game" 5 (d__law_game pk 8)) : Fn P w K mg base cl 12 "_law_drawn" 2 (d__law_drawn pk) := by
  obtain ⟨f, fd, F, hm, hb⟩ := T.f__law_drawn
  exact fn_mk (k := 11) (own := []) F sc__law_drawn hm hb rfl rfl fun cdv A outer s H E gd hr =>
      (ss_one (ss_ret (own := []) (se_call g__law_game (hr.mono (by decide)) gd.tk (sa_cons (se_var 0) (sa_cons se_int (sa_cons (se_op os_sub (se_call g__law_pick (hr.mono (by decide)) gd.tk (sa_cons (se_var 0) (sa_cons se_int (sa_cons se_int sa_nil)))) se_int) (sa_cons (se_var 1) (sa_cons (se_cmp (os_eq hr.units) (se_call g__law_pick (hr.mono (by decide)) gd.tk (sa_cons (se_var 0) (sa_cons se_int (sa_cons se_int sa_nil)))) se_int) sa_nil))))))))
theorem s__law_places (T : Top K mg cl.c)  : ∀ n : Nat, Fn P w K mg base cl (1 + n) "_law_places" 1 (d__law_places n) := by
  intro n
  induction n with
  | zero =>
    skip
    obtain ⟨f, fd, F, hm, hb⟩ := T.f__law_places
    exact Fn.none F hm hb rfl
  | succ n ih =>
    have G__law_places := ih
    skip
    · obtain ⟨f, fd, F, hm, hb⟩ := T.f__law_places
      exact fn_mk (k := 1 + n) (own := []) F sc__law_places hm hb rfl rfl fun cdv A outer s H E gd hr =>
        (ss_cons (ss_setN (own := []) (i := 1) gd (sn_lst (sa_cons (se_tup sa_nil) sa_nil)))
      (ss_cons (ss_if (own := [1]) (own1 := [1]) (st_truth (se_isiT kit_tup (by decide +kernel) (se_var 0) T.m_isinstance T.m_tuple)) (ss_one (ss_for (own := [1]) gd (si_range1 (sa_cons (se_callB cs_len (by decide +kernel) (sa_cons (se_var 0) sa_nil) T.m_len) sa_nil) T.m_range) (sg_name 2 gd.nd) (ss_one (ss_ext (own := [1]) (i := 1) (se_lc gd.calm gd.nd (si_seq (se_call G__law_places (hr.mono (by omega)) gd.tk (sa_cons (se_ixD (u65 hr) (se_var 0) (se_var 2)) sa_nil))) (blkOk_by (own := [("place", 3)]) (N := N__law_places) (sc := defScope (topS 34)) (by decide +kernel)) (fun _ _ _ _ _ => (sg_name 3 gd.nd)) (fun _ _ _ _ _ => sts_nil) (fun _ _ _ _ _ => (se_op os_plus (se_tup (sa_cons (se_var 2) sa_nil)) (se_var 3)))))))) ss_nil)
      (ss_one (ss_ret (own := [1]) (se_var 1)))))
theorem s__law_put (T : Top K mg cl.c)  : ∀ n : Nat, Fn P w K mg base cl (1 + n) "_law_put" 3 (d__law_put n) := by
  intro n
  induction n with
  | zero =>
    skip
    obtain ⟨f, fd, F, hm, hb⟩ := T.f__law_put
    exact Fn.none F hm hb rfl
  | succ n ih =>
    have G__law_put := ih
    skip
    · obtain ⟨f, fd, F, hm, hb⟩ := T.f__law_put
      exact fn_mk (k := 1 + n) (own := []) F sc__law_put hm hb rfl rfl fun cdv A outer s H E gd hr =>
        (ss_cons (ss_if (own := []) (own1 := []) (st_cmp (os_eq hr.units) (se_var 1) (se_tup sa_nil)) (ss_one (ss_ret (own := []) (se_var 2))) ss_nil)
      (ss_cons (ss_set (own := []) (i := 3) gd (se_ixD (u65 hr) (se_var 1) se_int))
      (ss_one (ss_ret (own := []) (se_op os_plus (se_op os_plus (se_slice (se_var 0) so_none (so_some (se_var 3))) (se_tup (sa_cons (se_call G__law_put (hr.mono (by omega)) gd.tk (sa_cons (se_ixD (u65 hr) (se_var 0) (se_var 3)) (sa_cons (se_slice (se_var 1) (so_some se_int) so_none) (sa_cons (se_var 2) sa_nil)))) sa_nil))) (se_slice (se_var 0) (so_some (se_op os_plus (se_var 3) se_int)) so_none))))))
theorem s__law_spoilt_thing (T : Top K mg cl.c) (g__law_places : Fn P w K mg base cl 25 "_law_places" 1 (d__law_places 24)) (g__law_pick : Fn P w K mg base cl 2 "_law_pick" 3 (dPick pk)) (g__law_put : Fn P w K mg base cl 25 "_law_put" 3 (d__law_put 24)) : Fn P w K mg base cl 26 "_law_spoilt_thing" 3 (d__law_spoilt_thing pk) := by
  obtain ⟨f, fd, F, hm, hb⟩ := T.f__law_spoilt_thing
  exact fn_mk (k := 25) (own := []) F sc__law_spoilt_thing hm hb rfl rfl fun cdv A outer s H E gd hr =>
      (ss_cons (ss_set (own := []) (i := 3) gd (se_call g__law_places (hr.mono (by decide)) gd.tk (sa_cons (se_var 2) sa_nil)))
      (ss_cons (ss_set (own := []) (i := 4) gd (se_ixD (u65 hr) (se_var 3) (se_call g__law_pick (hr.mono (by decide)) gd.tk (sa_cons (se_var 0) (sa_cons (se_var 1) (sa_cons (se_callB cs_len (by decide +kernel) (sa_cons (se_var 3) sa_nil) T.m_len) sa_nil))))))
      (ss_cons (ss_set (own := []) (i := 5) gd (se_var 2))
      (ss_cons (ss_for (own := []) gd (si_seq (se_var 4)) (sg_name 6 gd.nd) (ss_one (ss_set (own := []) (i := 5) gd (se_ixD (u65 hr) (se_var 5) (se_var 6)))))
      (ss_cons (ss_set (own := []) (i := 7) gd (se_lst (sa_cons se_int (sa_cons se_int (sa_cons se_int (sa_cons se_int (sa_cons se_int (sa_cons se_int (sa_cons (se_neg se_int) (sa_cons (se_neg se_int) (sa_cons se_bl (sa_cons se_non (sa_cons se_str (sa_cons (se_tup sa_nil) (sa_cons (se_tup (sa_cons se_int sa_nil)) (sa_cons (se_tup (sa_cons se_int (sa_cons se_int sa_nil))) (sa_cons (se_lst (sa_cons se_int sa_nil)) (sa_cons (se_tup (sa_cons (se_var 5) sa_nil)) (sa_cons (se_tup (sa_cons (se_var 5) (sa_cons (se_var 5) sa_nil))) sa_nil)))))))))))))))))))
      (ss_cons (ss_set (own := []) (i := 8) gd (se_call g__law_pick (hr.mono (by decide)) gd.tk (sa_cons (se_var 0) (sa_cons (se_op os_plus (se_var 1) se_int) (sa_cons se_int sa_nil)))))
      (ss_cons (ss_if (own := []) (own1 := []) (st_cmp os_lt (se_var 8) se_int) (ss_one (ss_ret (own := []) (se_call g__law_put (hr.mono (by decide)) gd.tk (sa_cons (se_var 2) (sa_cons (se_var 4) (sa_cons (se_ixD (u65 hr) (se_var 7) (se_var 8)) sa_nil)))))) ss_nil)
      (ss_cons (ss_if (own := []) (own1 := []) (SW.st (sw_and (st_truth (se_isiT kit_tup (by decide +kernel) (se_var 5) T.m_isinstance T.m_tuple)) (sw_one (st_cmp (os_ne hr.units) (se_var 5) (se_tup sa_nil))))) (ss_cons (ss_set (own := []) (i := 6) gd (se_call g__law_pick (hr.mono (by decide)) gd.tk (sa_cons (se_var 0) (sa_cons (se_op os_plus (se_var 1) se_int) (sa_cons (se_callB cs_len (by decide +kernel) (sa_cons (se_var 5) sa_nil) T.m_len) sa_nil)))))
      (ss_one (ss_ret (own := []) (se_call g__law_put (hr.mono (by decide)) gd.tk (sa_cons (se_var 2) (sa_cons (se_var 4) (sa_cons (se_if (st_cmp os_lt (se_var 8) se_int) (se_op os_plus (se_slice (se_var 5) so_none (so_some (se_var 6))) (se_slice (se_var 5) (so_some (se_op os_plus (se_var 6) se_int)) so_none)) (se_op os_plus (se_slice (se_var 5) so_none (so_some (se_op os_plus (se_var 6) se_int))) (se_slice (se_var 5) (so_some (se_var 6)) so_none))) sa_nil))))))) ss_nil)
      (ss_one (ss_ret (own := []) (se_call g__law_put (hr.mono (by decide)) gd.tk (sa_cons (se_var 2) (sa_cons (se_var 4) (sa_cons (se_if (st_truth (se_isiT kit_int (by decide +kernel) (se_var 5) T.m_isinstance T.m_int)) (se_op os_sub se_int (se_var 5)) se_int) sa_nil))))))))))))))
theorem s__law_whole (T : Top K mg cl.c)  : Fn P w K mg base cl 1 "_law_whole" 3 d__law_whole := by
  obtain ⟨f, fd, F, hm, hb⟩ := T.f__law_whole
  exact fn_mk (k := 0) (own := []) F sc__law_whole hm hb rfl rfl fun cdv A outer s H E gd hr =>
      (ss_one (ss_ret (own := []) (se_and (se_isiT kit_int (by decide +kernel) (se_var 0) T.m_isinstance T.m_int) (se_and (se_not (se_isiT kit_bool (by decide +kernel) (se_var 0) T.m_isinstance T.m_bool)) (se_one (se_chain os_le os_le (se_var 1) (se_var 0) (se_var 2)))))))
theorem s__law_is_game (T : Top K mg cl.c) (g__law_whole : Fn P w K mg base cl 1 "_law_whole" 3 d__law_whole) : ∀ n : Nat, Fn P w K mg base cl (2 + n) "_law_is_game" 2 (d__law_is_game n) := by
  intro n
  induction n with
  | zero =>
    skip
    obtain ⟨f, fd, F, hm, hb⟩ := T.f__law_is_game
    exact Fn.none F hm hb rfl
  | succ n ih =>
    have G__law_is_game := ih
    skip
    · obtain ⟨f, fd, F, hm, hb⟩ := T.f__law_is_game
      exact fn_mk (k := 2 + n) (own := []) F sc__law_is_game hm hb rfl rfl fun cdv A outer s H E gd hr =>
        (ss_cons (ss_if (own := []) (own1 := []) (SW.st (sw_or (st_cmp os_lt (se_var 1) se_int) (sw_or (st_not (st_truth (se_isiT kit_tup (by decide +kernel) (se_var 0) T.m_isinstance T.m_tuple))) (sw_or (st_not (st_chain os_le os_le se_int (se_callB cs_len (by decide +kernel) (sa_cons (se_var 0) sa_nil) T.m_len) se_int)) (sw_one (st_not (st_truth (se_call g__law_whole (hr.mono (by omega)) gd.tk (sa_cons (se_ixD (u65 hr) (se_var 0) se_int) (sa_cons (se_neg se_int) (sa_cons se_int sa_nil))))))))))) (ss_one (ss_ret (own := []) se_bl)) ss_nil)
      (ss_cons (ss_if (own := []) (own1 := []) (st_cmp (os_eq hr.units) (se_callB cs_len (by decide +kernel) (sa_cons (se_var 0) sa_nil) T.m_len) se_int) (ss_one (ss_ret (own := []) se_bl)) ss_nil)
      (ss_cons (ss_if (own := []) (own1 := []) (SW.st (sw_or (st_not (st_truth (se_isiT kit_tup (by decide +kernel) (se_ixD (u65 hr) (se_var 0) se_int) T.m_isinstance T.m_tuple))) (sw_one (st_not (st_chain os_le os_le se_int (se_callB cs_len (by decide +kernel) (sa_cons (se_ixD (u65 hr) (se_var 0) se_int) sa_nil) T.m_len) se_int))))) (ss_one (ss_ret (own := []) se_bl)) ss_nil)
      (ss_cons (ss_for (own := []) gd (si_seq (se_ixD (u65 hr) (se_var 0) se_int)) (sg_name 2 gd.nd) (ss_cons (ss_if (own := []) (own1 := []) (SW.st (sw_or (st_not (st_truth (se_isiT kit_tup (by decide +kernel) (se_var 2) T.m_isinstance T.m_tuple))) (sw_or (st_cmp (os_ne hr.units) (se_callB cs_len (by decide +kernel) (sa_cons (se_var 2) sa_nil) T.m_len) se_int) (sw_one (st_not (st_truth (se_call g__law_whole (hr.mono (by omega)) gd.tk (sa_cons (se_ixD (u65 hr) (se_var 2) se_int) (sa_cons se_int (sa_cons se_int sa_nil)))))))))) (ss_one (ss_ret (own := []) se_bl)) ss_nil)
      (ss_one (ss_if (own := []) (own1 := []) (st_not (st_truth (se_call G__law_is_game (hr.mono (by omega)) gd.tk (sa_cons (se_ixD (u65 hr) (se_var 2) se_int) (sa_cons (se_op os_sub (se_var 1) se_int) sa_nil))))) (ss_one (ss_ret (own := []) se_bl)) ss_nil))))
      (ss_one (ss_ret (own := []) se_bl))))))
theorem s__law_spoilt (T : Top K mg cl.c)  : Fn P w K mg base cl 1 "_law_spoilt" 3 d__law_spoilt := by
  obtain ⟨f, fd, F, hm, hb⟩ := T.f__law_spoilt
  exact fn_mk (k := 0) (own := []) F sc__law_spoilt hm hb rfl rfl fun cdv A outer s H E gd hr =>
      (ss_cons (ss_set (own := []) (i := 3) gd (se_op os_mod (se_var 1) (se_op os_plus (se_callB cs_len (by decide +kernel) (sa_cons (se_var 0) sa_nil) T.m_len) se_int)))
      (ss_cons (ss_set (own := []) (i := 4) gd (se_ixD (u65 hr) (se_var 2) (se_op os_mod (se_op os_div (se_var 1) se_int) (se_callB cs_len (by decide +kernel) (sa_cons (se_var 2) sa_nil) T.m_len))))
      (ss_cons (ss_set (own := []) (i := 5) gd (se_op os_plus (se_op os_plus (se_var 3) se_int) (se_op os_mod (se_op os_div (se_var 1) se_int) se_int)))
      (ss_cons (ss_set (own := []) (i := 6) gd (se_op os_mod (se_op os_div (se_var 1) se_int) se_int))
      (ss_cons (ss_if (own := []) (own1 := []) (st_cmp os_lt (se_var 6) se_int) (ss_one (ss_ret (own := []) (se_op os_plus (se_op os_plus (se_slice (se_var 0) so_none (so_some (se_var 3))) (se_var 4)) (se_slice (se_var 0) (so_some (se_var 3)) so_none)))) ss_nil)
      (ss_cons (ss_if (own := []) (own1 := []) (st_cmp (os_eq hr.units) (se_var 6) se_int) (ss_one (ss_ret (own := []) (se_op os_plus (se_slice (se_var 0) so_none (so_some (se_var 3))) (se_slice (se_var 0) (so_some (se_op os_plus (se_var 3) se_int)) so_none)))) ss_nil)
      (ss_cons (ss_if (own := []) (own1 := []) (st_cmp os_lt (se_var 6) se_int) (ss_one (ss_ret (own := []) (se_op os_plus (se_op os_plus (se_slice (se_var 0) so_none (so_some (se_var 3))) (se_var 4)) (se_slice (se_var 0) (so_some (se_op os_plus (se_var 3) se_int)) so_none)))) ss_nil)
      (ss_cons (ss_if (own := []) (own1 := []) (st_cmp (os_eq hr.units) (se_var 6) se_int) (ss_one (ss_ret (own := []) (se_op os_plus (se_slice (se_var 0) so_none (so_some (se_var 3))) (se_slice (se_var 0) (so_some (se_var 5)) so_none)))) ss_nil)
      (ss_cons (ss_if (own := []) (own1 := []) (st_cmp (os_eq hr.units) (se_var 6) se_int) (ss_one (ss_ret (own := []) (se_op os_plus (se_slice (se_var 0) so_none (so_some (se_var 5))) (se_slice (se_var 0) (so_some (se_var 3)) so_none)))) ss_nil)
      (ss_one (ss_ret (own := []) (se_ixD (u65 hr) (se_lst (sa_cons (se_op os_plus (se_var 0) se_str) (sa_cons (se_op os_plus se_str (se_var 0)) (sa_cons (se_op os_plus (se_slice (se_var 0) (so_some (se_var 3)) so_none) (se_slice (se_var 0) so_none (so_some (se_var 3)))) (sa_cons se_str (sa_cons (se_op os_plus (se_var 0) (se_var 0)) sa_nil)))))) (se_op os_mod (se_var 1) se_int)))))))))))))
theorem s__law_word (T : Top K mg cl.c)  : Fn P w K mg base cl 1 "_law_word" 1 d__law_word := by
  obtain ⟨f, fd, F, hm, hb⟩ := T.f__law_word
  exact fn_mk (k := 0) (own := []) F sc__law_word hm hb rfl rfl fun cdv A outer s H E gd hr =>
      (ss_cons (ss_setN (own := []) (i := 1) gd (sn_lst (sa_cons (se_isiC T.xt T.k_NoBets T.x_NoBets.g (se_var 0) T.m_isinstance) (sa_cons (se_isiC T.xt T.k_NoGame T.x_NoGame.g (se_var 0) T.m_isinstance) (sa_cons (se_isiC T.xt T.k_NoPath T.x_NoPath.g (se_var 0) T.m_isinstance) (sa_cons (se_isiC T.xt T.k_NoRule T.x_NoRule.g (se_var 0) T.m_isinstance) sa_nil))))))
      (ss_cons (ss_ext (own := [1]) (i := 1) (se_lst (sa_cons (se_isiC T.xt T.k_NoText T.x_NoText.g (se_var 0) T.m_isinstance) (sa_cons (se_isiC T.xt T.k_Unpaid T.x_Unpaid.g (se_var 0) T.m_isinstance) sa_nil))))
      (ss_cons (ss_if (own := [1]) (own1 := [1]) (SW.st (sw_or (st_cmp (os_ne hr.units) (se_count (u65 hr) (se_var 1) se_bl) se_int) (sw_one (st_not (st_truth (se_isiB T.xt T.kv (by decide +kernel) (se_var 0) T.m_isinstance T.m_ValueError)))))) (ss_one (ss_ret (own := [1]) se_str)) ss_nil)
      (ss_one (ss_ret (own := [1]) (se_ixD (u65 hr) (se_lst (sa_cons se_str (sa_cons se_str (sa_cons se_str (sa_cons se_str (sa_cons se_str (sa_cons se_str sa_nil))))))) (se_index (u65 hr) (se_var 1) se_bl)))))))
theorem s__law_do (T : Top K mg cl.c) (g_game_text : Fn P w K mg base cl 13 "game_text" 1 d_game_text) (g_read_game : Fn P w K mg base cl 12 "read_game" 1 d_read_game) (g__law_word : Fn P w K mg base cl 1 "_law_word" 1 d__law_word) : Fn P w K mg base cl 14 "_law_do" 2 d__law_do := by
  obtain ⟨f, fd, F, hm, hb⟩ := T.f__law_do
  exact fn_mk (k := 13) (own := []) F sc__law_do hm hb rfl rfl fun cdv A outer s H E gd hr =>
      (ss_cons (ss_set (own := []) (i := 2) gd se_non)
      (ss_cons (ss_set (own := []) (i := 3) gd se_non)
      (ss_cons (ss_tryK (own := []) (own1 := []) (k := 2) (j := 4) gd rfl rfl rfl T.x_StopError.g T.xs (fun W' pn xe gd => (ss_one (ss_set (own := []) (i := 3) gd (se_if (st_cmp (os_eq hr.units) (se_var 0) se_int) (se_call g_game_text (hr.mono (by decide)) gd.tk (sa_cons (se_var 1) sa_nil)) (se_call g_read_game (hr.mono (by decide)) gd.tk (sa_cons (se_var 1) sa_nil)))))))
      (ss_cons (ss_if (own := []) (own1 := []) (st_cmp os_is (se_var 2) se_non) (ss_one (ss_ret (own := []) (se_var 3))) ss_nil)
      (ss_one (ss_ret (own := []) (se_call g__law_word (hr.mono (by decide)) gd.tk (sa_cons (se_var 2) sa_nil))))))))
theorem s__law_text (T : Top K mg cl.c)  : ∀ n : Nat, Fn P w K mg base cl (1 + n) "_law_text" 1 (d__law_text n) := by
  intro n
  induction n with
  | zero =>
    skip
    obtain ⟨f, fd, F, hm, hb⟩ := T.f__law_text
    exact Fn.none F hm hb rfl
  | succ n ih =>
    have G__law_text := ih
    skip
    · obtain ⟨f, fd, F, hm, hb⟩ := T.f__law_text
      exact fn_mk (k := 1 + n) (own := []) F sc__law_text hm hb rfl rfl fun cdv A outer s H E gd hr =>
        (ss_cons (ss_set (own := []) (i := 1) gd (se_callTy cs_str (by decide +kernel) (sa_cons (se_ixD (u65 hr) (se_var 0) se_int) sa_nil) T.m_str))
      (ss_cons (ss_if (own := []) (own1 := []) (st_cmp (os_eq hr.units) (se_callB cs_len (by decide +kernel) (sa_cons (se_var 0) sa_nil) T.m_len) se_int) (ss_cons (ss_set (own := []) (i := 1) gd (se_op os_plus (se_var 1) se_str))
      (ss_cons (ss_for (own := []) gd (si_enum (sa_cons (se_ixD (u65 hr) (se_var 0) se_int) sa_nil) T.m_enumerate) (sg_tup gd.calm (sgs_cons (sg_name 2 gd.nd) (sgs_cons (sg_tup gd.calm (sgs_cons (sg_name 3 gd.nd) (sgs_cons (sg_name 4 gd.nd) sgs_nil))) sgs_nil))) (ss_one (ss_set (own := []) (i := 1) gd (se_op os_plus (se_op os_plus (se_op os_plus (se_op os_plus (se_var 1) (se_if (st_cmp os_gt (se_var 2) se_int) se_str se_str)) (se_callTy cs_str (by decide +kernel) (sa_cons (se_var 3) sa_nil) T.m_str)) se_str) (se_call G__law_text (hr.mono (by omega)) gd.tk (sa_cons (se_var 4) sa_nil))))))
      (ss_one (ss_set (own := []) (i := 1) gd (se_op os_plus (se_var 1) se_str))))) ss_nil)
      (ss_one (ss_ret (own := []) (se_var 1)))))
set_option maxHeartbeats 0 in
theorem s_law (T : Top K mg cl.c) (g__law_pick : Fn P w K mg base cl 2 "_law_pick" 3 (dPick pk))  {f : Addr} {fd : FuncData} (F : Fun K "law" "law" (topS 43) f fd) : FnOk P w K mg base (L2.CX P w) 27 f fd ["script"] (spF K cl 1 (d_law pk)) := by
  have g_is_whole : Fn P w K mg base cl 1 "is_whole" 3 d_is_whole := s_is_whole T 
  have g_is_game_in : Fn P w K mg base cl 10 "is_game_in" 2 (d_is_game_in 8) := s_is_game_in T g_is_whole 8
  have g_is_game : Fn P w K mg base cl 11 "is_game" 1 d_is_game := s_is_game T g_is_game_in
  have g_look_game : Fn P w K mg base cl 12 "look_game" 1 d_look_game := s_look_game T g_is_game
  have g_ways_of : Fn P w K mg base cl 1 "ways_of" 1 d_ways_of := s_ways_of T 
  have g_text_of : Fn P w K mg base cl 10 "text_of" 1 (d_text_of 8) := s_text_of T g_ways_of 8
  have g_game_text : Fn P w K mg base cl 13 "game_text" 1 d_game_text := s_game_text T g_look_game g_text_of
  have g_number_at : Fn P w K mg base cl 1 "number_at" 2 d_number_at := s_number_at T 
  have g_game_at : Fn P w K mg base cl 10 "game_at" 3 (d_game_at 8) := s_game_at T g_number_at 8
  have g_read_game : Fn P w K mg base cl 12 "read_game" 1 d_read_game := s_read_game T g_game_at g_is_game g_text_of
  have g__law_game : Fn P w K mg base cl 11 "_law_game" 5 (d__law_game pk 8) := s__law_game T g__law_pick 8
  have g__law_drawn : Fn P w K mg base cl 12 "_law_drawn" 2 (d__law_drawn pk) := s__law_drawn T g__law_pick g__law_game
  have g__law_places : Fn P w K mg base cl 25 "_law_places" 1 (d__law_places 24) := s__law_places T  24
  have g__law_put : Fn P w K mg base cl 25 "_law_put" 3 (d__law_put 24) := s__law_put T  24
  have g__law_spoilt_thing : Fn P w K mg base cl 26 "_law_spoilt_thing" 3 (d__law_spoilt_thing pk) := s__law_spoilt_thing T g__law_places g__law_pick g__law_put
  have g__law_whole : Fn P w K mg base cl 1 "_law_whole" 3 d__law_whole := s__law_whole T 
  have g__law_is_game : Fn P w K mg base cl 10 "_law_is_game" 2 (d__law_is_game 8) := s__law_is_game T g__law_whole 8
  have g__law_spoilt : Fn P w K mg base cl 1 "_law_spoilt" 3 d__law_spoilt := s__law_spoilt T 
  have g__law_word : Fn P w K mg base cl 1 "_law_word" 1 d__law_word := s__law_word T 
  have g__law_do : Fn P w K mg base cl 14 "_law_do" 2 d__law_do := s__law_do T g_game_text g_read_game g__law_word
  have g__law_text : Fn P w K mg base cl 9 "_law_text" 1 (d__law_text 8) := s__law_text T  8
  exact fn_ok (k := 26) (own := []) F sc_law rfl rfl fun cdv A outer s H E gd hr =>
      (ss_cons (ss_set (own := []) (i := 1) gd (se_call g__law_drawn (hr.mono (by decide)) gd.tk (sa_cons (se_var 0) (sa_cons se_int sa_nil))))
      (ss_cons (ss_set (own := []) (i := 2) gd (se_call g__law_text (hr.mono (by decide)) gd.tk (sa_cons (se_var 1) sa_nil)))
      (ss_cons (ss_if (own := []) (own1 := []) (SW.st (sw_or (st_cmp (os_ne hr.units) (se_call g__law_do (hr.mono (by decide)) gd.tk (sa_cons se_int (sa_cons (se_var 1) sa_nil))) (se_var 2)) (sw_one (st_cmp (os_ne hr.units) (se_call g__law_do (hr.mono (by decide)) gd.tk (sa_cons se_int (sa_cons (se_var 2) sa_nil))) (se_var 1))))) (ss_one (ss_ret (own := []) se_bl)) ss_nil)
      (ss_cons (ss_for (own := []) gd (si_range1 (sa_cons se_int sa_nil) T.m_range) (sg_name 3 gd.nd) (ss_cons (ss_set (own := []) (i := 6) gd se_str)
      (ss_cons (ss_if (own := []) (own1 := []) (st_cmp os_gt (se_var 3) se_int) (ss_one (ss_set (own := []) (i := 6) gd se_str)) ss_nil)
      (ss_cons (ss_set (own := []) (i := 7) gd (se_call g__law_spoilt (hr.mono (by decide)) gd.tk (sa_cons (se_var 2) (sa_cons (se_call g__law_pick (hr.mono (by decide)) gd.tk (sa_cons (se_var 0) (sa_cons (se_op os_plus se_int (se_var 3)) (sa_cons (se_op os_pow se_int se_int) sa_nil)))) (sa_cons (se_var 6) sa_nil)))))
      (ss_cons (ss_set (own := []) (i := 8) gd (se_call g__law_do (hr.mono (by decide)) gd.tk (sa_cons se_int (sa_cons (se_var 7) sa_nil))))
      (ss_one (ss_if (own := []) (own1 := []) (SW.st (sw_and (st_cmp (os_ne hr.units) (se_var 8) se_str) (sw_one (SW.st (sw_or (st_not (st_truth (se_call g__law_is_game (hr.mono (by decide)) gd.tk (sa_cons (se_var 8) (sa_cons se_int sa_nil))))) (sw_one (st_cmp (os_ne hr.units) (se_call g__law_text (hr.mono (by decide)) gd.tk (sa_cons (se_var 8) sa_nil)) (se_var 7)))))))) (ss_one (ss_ret (own := []) se_bl)) ss_nil)))))))
      (ss_cons (ss_setN (own := []) (i := 4) gd (sn_lst (sa_cons se_str (sa_cons se_str (sa_cons se_str (sa_cons se_str (sa_cons se_str (sa_cons se_str (sa_cons se_str (sa_cons se_str (sa_cons se_str (sa_cons se_str (sa_cons se_str (sa_cons se_str sa_nil))))))))))))))
      (ss_cons (ss_ext (own := [4]) (i := 4) (se_lst (sa_cons se_str (sa_cons se_str sa_nil))))
      (ss_cons (ss_ext (own := [4]) (i := 4) (se_lst (sa_cons se_str (sa_cons se_str (sa_cons se_str (sa_cons se_str (sa_cons se_str (sa_cons se_str (sa_cons se_str (sa_cons se_str sa_nil))))))))))
      (ss_cons (ss_if (own := [4]) (own1 := [4]) (st_cmp (os_ne hr.units) (se_call g__law_do (hr.mono (by decide)) gd.tk (sa_cons se_int (sa_cons (se_ixD (u65 hr) (se_var 4) (se_call g__law_pick (hr.mono (by decide)) gd.tk (sa_cons (se_var 0) (sa_cons se_int (sa_cons se_int sa_nil))))) sa_nil))) se_str) (ss_one (ss_ret (own := [4]) se_bl)) ss_nil)
      (ss_cons (ss_set (own := [4]) (i := 5) gd (se_call g__law_spoilt_thing (hr.mono (by decide)) gd.tk (sa_cons (se_var 0) (sa_cons se_int (sa_cons (se_var 1) sa_nil)))))
      (ss_one (ss_ret (own := [4]) (se_or (se_call g__law_is_game (hr.mono (by decide)) gd.tk (sa_cons (se_var 5) (sa_cons se_int sa_nil))) (se_one (se_cmp (os_eq hr.units) (se_call g__law_do (hr.mono (by decide)) gd.tk (sa_cons se_int (sa_cons (se_var 5) sa_nil))) se_str))))))))))))))
end
end Kx
namespace Kx
open PySem PySem.Spec L2 Sm
set_option maxHeartbeats 0 in
theorem all_mk {l : PySem.W.OpenLaw} {w : World} {K : PySem.W.Frag} {h : Heap} {mg : Str → Option Value} {fa : Addr} (X : K.In h) (G : h.Ns mainGlobals mg) (hfa : mg "law" = some (.ref fa))
    {f1 : Addr} {od1 an1 : Option Addr} {sl1 : Array (Option Value)} {oc1 kV1 dc1 pm1 ct1 : Value} {cd1 : Value}
    {f2 : Addr} {od2 an2 : Option Addr} {sl2 : Array (Option Value)} {oc2 kV2 dc2 pm2 ct2 : Value} {cd2 : Value}
    {f3 : Addr} {od3 an3 : Option Addr} {sl3 : Array (Option Value)} {oc3 kV3 dc3 pm3 ct3 : Value} {cd3 : Value}
    {f4 : Addr} {od4 an4 : Option Addr} {sl4 : Array (Option Value)} {oc4 kV4 dc4 pm4 ct4 : Value} {cd4 : Value}
    {f5 : Addr} {od5 an5 : Option Addr} {sl5 : Array (Option Value)} {oc5 kV5 dc5 pm5 ct5 : Value} {cd5 : Value}
    {f6 : Addr} {od6 an6 : Option Addr} {sl6 : Array (Option Value)} {oc6 kV6 dc6 pm6 ct6 : Value} {cd6 : Value}
    {f7 : Addr} {od7 an7 : Option Addr} {sl7 : Array (Option Value)} {oc7 kV7 dc7 pm7 ct7 : Value} {cd7 : Value}
    {f8 : Addr} {od8 an8 : Option Addr} {sl8 : Array (Option Value)} {oc8 kV8 dc8 pm8 ct8 : Value} {cd8 : Value}
    {f9 : Addr} {od9 an9 : Option Addr} {sl9 : Array (Option Value)} {oc9 kV9 dc9 pm9 ct9 : Value} {cd9 : Value}
    {f10 : Addr} {od10 an10 : Option Addr} {sl10 : Array (Option Value)} {oc10 kV10 dc10 pm10 ct10 : Value} {cd10 : Value}
    {f11 : Addr} {od11 an11 : Option Addr} {sl11 : Array (Option Value)} {oc11 kV11 dc11 pm11 ct11 : Value} {cd11 : Value}
    {f12 : Addr} {od12 an12 : Option Addr} {sl12 : Array (Option Value)} {oc12 kV12 dc12 pm12 ct12 : Value} {cd12 : Value}
    {f13 : Addr} {od13 an13 : Option Addr} {sl13 : Array (Option Value)} {oc13 kV13 dc13 pm13 ct13 : Value} {cd13 : Value}
    {f14 : Addr} {od14 an14 : Option Addr} {sl14 : Array (Option Value)} {oc14 kV14 dc14 pm14 ct14 : Value} {cd14 : Value}
    {f15 : Addr} {od15 an15 : Option Addr} {sl15 : Array (Option Value)} {oc15 kV15 dc15 pm15 ct15 : Value} {cd15 : Value}
    {f16 : Addr} {od16 an16 : Option Addr} {sl16 : Array (Option Value)} {oc16 kV16 dc16 pm16 ct16 : Value} {cd16 : Value}
    {f17 : Addr} {od17 an17 : Option Addr} {sl17 : Array (Option Value)} {oc17 kV17 dc17 pm17 ct17 : Value} {cd17 : Value}
    {f18 : Addr} {od18 an18 : Option Addr} {sl18 : Array (Option Value)} {oc18 kV18 dc18 pm18 ct18 : Value} {cd18 : Value}
    {f19 : Addr} {od19 an19 : Option Addr} {sl19 : Array (Option Value)} {oc19 kV19 dc19 pm19 ct19 : Value} {cd19 : Value}
    {f20 : Addr} {od20 an20 : Option Addr} {sl20 : Array (Option Value)} {oc20 kV20 dc20 pm20 ct20 : Value} {cd20 : Value}
    {f21 : Addr} {od21 an21 : Option Addr} {sl21 : Array (Option Value)} {oc21 kV21 dc21 pm21 ct21 : Value} {cd21 : Value}
    {f22 : Addr} {od22 an22 : Option Addr} {sl22 : Array (Option Value)} {oc22 kV22 dc22 pm22 ct22 : Value} {cd22 : Value}
    {f23 : Addr} {od23 an23 : Option Addr} {sl23 : Array (Option Value)} {oc23 kV23 dc23 pm23 ct23 : Value} {cd23 : Value}
    {f24 : Addr} {od24 an24 : Option Addr} {sl24 : Array (Option Value)} {oc24 kV24 dc24 pm24 ct24 : Value} {cd24 : Value}
    {t0 : Tok}
    {t1 : Tok}
    {t2 : Tok}
    {t3 : Tok}
    {C0 : Addr}
    {C1 : Addr}
    {C2 : Addr}
    {C3 : Addr}
    {C4 : Addr}
    {C5 : Addr}
    {C6 : Addr}
    (a1 : PySem.W.nsIn K mainGlobals "is_whole" = some (some (.ref f1))) (l1 : K.lookup f1 = some ⟨oc1, od1, .func (PySem.W.fnOf "is_whole" "is_whole" (defArgs (topS 13)) (defBody (topS 13)) (defScope (topS 13)) .none kV1 dc1 pm1 an1 cd1 ct1), sl1⟩) (e1 : PySem.W.codeIn K cd1 "is_whole" = true) (k1 : PySem.W.keepIn K (.ref f1) = true)
    (a2 : PySem.W.nsIn K mainGlobals "is_game_in" = some (some (.ref f2))) (l2 : K.lookup f2 = some ⟨oc2, od2, .func (PySem.W.fnOf "is_game_in" "is_game_in" (defArgs (topS 14)) (defBody (topS 14)) (defScope (topS 14)) .none kV2 dc2 pm2 an2 cd2 ct2), sl2⟩) (e2 : PySem.W.codeIn K cd2 "is_game_in" = true) (k2 : PySem.W.keepIn K (.ref f2) = true)
    (a3 : PySem.W.nsIn K mainGlobals "is_game" = some (some (.ref f3))) (l3 : K.lookup f3 = some ⟨oc3, od3, .func (PySem.W.fnOf "is_game" "is_game" (defArgs (topS 15)) (defBody (topS 15)) (defScope (topS 15)) .none kV3 dc3 pm3 an3 cd3 ct3), sl3⟩) (e3 : PySem.W.codeIn K cd3 "is_game" = true) (k3 : PySem.W.keepIn K (.ref f3) = true)
    (a4 : PySem.W.nsIn K mainGlobals "look_game" = some (some (.ref f4))) (l4 : K.lookup f4 = some ⟨oc4, od4, .func (PySem.W.fnOf "look_game" "look_game" (defArgs (topS 16)) (defBody (topS 16)) (defScope (topS 16)) .none kV4 dc4 pm4 an4 cd4 ct4), sl4⟩) (e4 : PySem.W.codeIn K cd4 "look_game" = true) (k4 : PySem.W.keepIn K (.ref f4) = true)
    (a5 : PySem.W.nsIn K mainGlobals "ways_of" = some (some (.ref f5))) (l5 : K.lookup f5 = some ⟨oc5, od5, .func (PySem.W.fnOf "ways_of" "ways_of" (defArgs (topS 17)) (defBody (topS 17)) (defScope (topS 17)) .none kV5 dc5 pm5 an5 cd5 ct5), sl5⟩) (e5 : PySem.W.codeIn K cd5 "ways_of" = true) (k5 : PySem.W.keepIn K (.ref f5) = true)
    (a6 : PySem.W.nsIn K mainGlobals "text_of" = some (some (.ref f6))) (l6 : K.lookup f6 = some ⟨oc6, od6, .func (PySem.W.fnOf "text_of" "text_of" (defArgs (topS 19)) (defBody (topS 19)) (defScope (topS 19)) .none kV6 dc6 pm6 an6 cd6 ct6), sl6⟩) (e6 : PySem.W.codeIn K cd6 "text_of" = true) (k6 : PySem.W.keepIn K (.ref f6) = true)
    (a7 : PySem.W.nsIn K mainGlobals "game_text" = some (some (.ref f7))) (l7 : K.lookup f7 = some ⟨oc7, od7, .func (PySem.W.fnOf "game_text" "game_text" (defArgs (topS 20)) (defBody (topS 20)) (defScope (topS 20)) .none kV7 dc7 pm7 an7 cd7 ct7), sl7⟩) (e7 : PySem.W.codeIn K cd7 "game_text" = true) (k7 : PySem.W.keepIn K (.ref f7) = true)
    (a8 : PySem.W.nsIn K mainGlobals "number_at" = some (some (.ref f8))) (l8 : K.lookup f8 = some ⟨oc8, od8, .func (PySem.W.fnOf "number_at" "number_at" (defArgs (topS 21)) (defBody (topS 21)) (defScope (topS 21)) .none kV8 dc8 pm8 an8 cd8 ct8), sl8⟩) (e8 : PySem.W.codeIn K cd8 "number_at" = true) (k8 : PySem.W.keepIn K (.ref f8) = true)
    (a9 : PySem.W.nsIn K mainGlobals "game_at" = some (some (.ref f9))) (l9 : K.lookup f9 = some ⟨oc9, od9, .func (PySem.W.fnOf "game_at" "game_at" (defArgs (topS 22)) (defBody (topS 22)) (defScope (topS 22)) .none kV9 dc9 pm9 an9 cd9 ct9), sl9⟩) (e9 : PySem.W.codeIn K cd9 "game_at" = true) (k9 : PySem.W.keepIn K (.ref f9) = true)
    (a10 : PySem.W.nsIn K mainGlobals "read_game" = some (some (.ref f10))) (l10 : K.lookup f10 = some ⟨oc10, od10, .func (PySem.W.fnOf "read_game" "read_game" (defArgs (topS 23)) (defBody (topS 23)) (defScope (topS 23)) .none kV10 dc10 pm10 an10 cd10 ct10), sl10⟩) (e10 : PySem.W.codeIn K cd10 "read_game" = true) (k10 : PySem.W.keepIn K (.ref f10) = true)
    (a11 : PySem.W.nsIn K mainGlobals "_law_cell" = some (some (.ref f11))) (l11 : K.lookup f11 = some ⟨oc11, od11, .func (PySem.W.fnOf "_law_cell" "_law_cell" (defArgs (topS 25)) (defBody (topS 25)) (defScope (topS 25)) .none kV11 dc11 pm11 an11 cd11 ct11), sl11⟩) (e11 : PySem.W.codeIn K cd11 "_law_cell" = true) (k11 : PySem.W.keepIn K (.ref f11) = true)
    (a12 : PySem.W.nsIn K mainGlobals "_law_pick" = some (some (.ref f12))) (l12 : K.lookup f12 = some ⟨oc12, od12, .func (PySem.W.fnOf "_law_pick" "_law_pick" (defArgs (topS 26)) (defBody (topS 26)) (defScope (topS 26)) .none kV12 dc12 pm12 an12 cd12 ct12), sl12⟩) (e12 : PySem.W.codeIn K cd12 "_law_pick" = true) (k12 : PySem.W.keepIn K (.ref f12) = true)
    (a13 : PySem.W.nsIn K mainGlobals "_law_game" = some (some (.ref f13))) (l13 : K.lookup f13 = some ⟨oc13, od13, .func (PySem.W.fnOf "_law_game" "_law_game" (defArgs (topS 27)) (defBody (topS 27)) (defScope (topS 27)) .none kV13 dc13 pm13 an13 cd13 ct13), sl13⟩) (e13 : PySem.W.codeIn K cd13 "_law_game" = true) (k13 : PySem.W.keepIn K (.ref f13) = true)
    (a14 : PySem.W.nsIn K mainGlobals "_law_drawn" = some (some (.ref f14))) (l14 : K.lookup f14 = some ⟨oc14, od14, .func (PySem.W.fnOf "_law_drawn" "_law_drawn" (defArgs (topS 28)) (defBody (topS 28)) (defScope (topS 28)) .none kV14 dc14 pm14 an14 cd14 ct14), sl14⟩) (e14 : PySem.W.codeIn K cd14 "_law_drawn" = true) (k14 : PySem.W.keepIn K (.ref f14) = true)
    (a15 : PySem.W.nsIn K mainGlobals "_law_places" = some (some (.ref f15))) (l15 : K.lookup f15 = some ⟨oc15, od15, .func (PySem.W.fnOf "_law_places" "_law_places" (defArgs (topS 34)) (defBody (topS 34)) (defScope (topS 34)) .none kV15 dc15 pm15 an15 cd15 ct15), sl15⟩) (e15 : PySem.W.codeIn K cd15 "_law_places" = true) (k15 : PySem.W.keepIn K (.ref f15) = true)
    (a16 : PySem.W.nsIn K mainGlobals "_law_put" = some (some (.ref f16))) (l16 : K.lookup f16 = some ⟨oc16, od16, .func (PySem.W.fnOf "_law_put" "_law_put" (defArgs (topS 35)) (defBody (topS 35)) (defScope (topS 35)) .none kV16 dc16 pm16 an16 cd16 ct16), sl16⟩) (e16 : PySem.W.codeIn K cd16 "_law_put" = true) (k16 : PySem.W.keepIn K (.ref f16) = true)
    (a17 : PySem.W.nsIn K mainGlobals "_law_spoilt_thing" = some (some (.ref f17))) (l17 : K.lookup f17 = some ⟨oc17, od17, .func (PySem.W.fnOf "_law_spoilt_thing" "_law_spoilt_thing" (defArgs (topS 36)) (defBody (topS 36)) (defScope (topS 36)) .none kV17 dc17 pm17 an17 cd17 ct17), sl17⟩) (e17 : PySem.W.codeIn K cd17 "_law_spoilt_thing" = true) (k17 : PySem.W.keepIn K (.ref f17) = true)
    (a18 : PySem.W.nsIn K mainGlobals "_law_whole" = some (some (.ref f18))) (l18 : K.lookup f18 = some ⟨oc18, od18, .func (PySem.W.fnOf "_law_whole" "_law_whole" (defArgs (topS 37)) (defBody (topS 37)) (defScope (topS 37)) .none kV18 dc18 pm18 an18 cd18 ct18), sl18⟩) (e18 : PySem.W.codeIn K cd18 "_law_whole" = true) (k18 : PySem.W.keepIn K (.ref f18) = true)
    (a19 : PySem.W.nsIn K mainGlobals "_law_is_game" = some (some (.ref f19))) (l19 : K.lookup f19 = some ⟨oc19, od19, .func (PySem.W.fnOf "_law_is_game" "_law_is_game" (defArgs (topS 38)) (defBody (topS 38)) (defScope (topS 38)) .none kV19 dc19 pm19 an19 cd19 ct19), sl19⟩) (e19 : PySem.W.codeIn K cd19 "_law_is_game" = true) (k19 : PySem.W.keepIn K (.ref f19) = true)
    (a20 : PySem.W.nsIn K mainGlobals "_law_spoilt" = some (some (.ref f20))) (l20 : K.lookup f20 = some ⟨oc20, od20, .func (PySem.W.fnOf "_law_spoilt" "_law_spoilt" (defArgs (topS 39)) (defBody (topS 39)) (defScope (topS 39)) .none kV20 dc20 pm20 an20 cd20 ct20), sl20⟩) (e20 : PySem.W.codeIn K cd20 "_law_spoilt" = true) (k20 : PySem.W.keepIn K (.ref f20) = true)
    (a21 : PySem.W.nsIn K mainGlobals "_law_word" = some (some (.ref f21))) (l21 : K.lookup f21 = some ⟨oc21, od21, .func (PySem.W.fnOf "_law_word" "_law_word" (defArgs (topS 40)) (defBody (topS 40)) (defScope (topS 40)) .none kV21 dc21 pm21 an21 cd21 ct21), sl21⟩) (e21 : PySem.W.codeIn K cd21 "_law_word" = true) (k21 : PySem.W.keepIn K (.ref f21) = true)
    (a22 : PySem.W.nsIn K mainGlobals "_law_do" = some (some (.ref f22))) (l22 : K.lookup f22 = some ⟨oc22, od22, .func (PySem.W.fnOf "_law_do" "_law_do" (defArgs (topS 41)) (defBody (topS 41)) (defScope (topS 41)) .none kV22 dc22 pm22 an22 cd22 ct22), sl22⟩) (e22 : PySem.W.codeIn K cd22 "_law_do" = true) (k22 : PySem.W.keepIn K (.ref f22) = true)
    (a23 : PySem.W.nsIn K mainGlobals "_law_text" = some (some (.ref f23))) (l23 : K.lookup f23 = some ⟨oc23, od23, .func (PySem.W.fnOf "_law_text" "_law_text" (defArgs (topS 42)) (defBody (topS 42)) (defScope (topS 42)) .none kV23 dc23 pm23 an23 cd23 ct23), sl23⟩) (e23 : PySem.W.codeIn K cd23 "_law_text" = true) (k23 : PySem.W.keepIn K (.ref f23) = true)
    (a24 : PySem.W.nsIn K mainGlobals "law" = some (some (.ref f24))) (l24 : K.lookup f24 = some ⟨oc24, od24, .func (PySem.W.fnOf "law" "law" (defArgs (topS 43)) (defBody (topS 43)) (defScope (topS 43)) .none kV24 dc24 pm24 an24 cd24 ct24), sl24⟩) (e24 : PySem.W.codeIn K cd24 "law" = true) (k24 : PySem.W.keepIn K (.ref f24) = true)
    (z0 : PySem.W.nsIn K mainGlobals "isinstance" = some none)
    (z1 : PySem.W.nsIn K mainGlobals "int" = some none)
    (z2 : PySem.W.nsIn K mainGlobals "bool" = some none)
    (z3 : PySem.W.nsIn K mainGlobals "tuple" = some none)
    (z4 : PySem.W.nsIn K mainGlobals "len" = some none)
    (z5 : PySem.W.nsIn K mainGlobals "all" = some none)
    (z6 : PySem.W.nsIn K mainGlobals "str" = some none)
    (z7 : PySem.W.nsIn K mainGlobals "max" = some none)
    (z8 : PySem.W.nsIn K mainGlobals "range" = some none)
    (z9 : PySem.W.nsIn K mainGlobals "enumerate" = some none)
    (z10 : PySem.W.nsIn K mainGlobals "ValueError" = some none)
    (y0 : PySem.W.nsIn K mainGlobals "GREATEST" = some (some (.int 20 t0)))
    (y1 : PySem.W.nsIn K mainGlobals "MOST_WAYS" = some (some (.int 3 t1)))
    (y2 : PySem.W.nsIn K mainGlobals "HEAVIEST" = some (some (.int 9 t2)))
    (y3 : PySem.W.nsIn K mainGlobals "DEEPEST" = some (some (.int 4 t3)))
    (xa0 : PySem.W.nsIn K mainGlobals "NoGame" = some (some (.ref C0))) (xe0 : PySem.W.excIn K C0 veB "ValueError.__new__" = true) (xk0 : PySem.W.keepIn K (.ref C0) = true) (xb0 : PySem.W.subIn K (.ref C0) (.type "BaseException") = some true) (xt0 : PySem.W.typeIn K (.ref C0) = some (.type "type"))
    (xa1 : PySem.W.nsIn K mainGlobals "NoText" = some (some (.ref C1))) (xe1 : PySem.W.excIn K C1 veB "ValueError.__new__" = true) (xk1 : PySem.W.keepIn K (.ref C1) = true) (xb1 : PySem.W.subIn K (.ref C1) (.type "BaseException") = some true) (xt1 : PySem.W.typeIn K (.ref C1) = some (.type "type"))
    (xa2 : PySem.W.nsIn K mainGlobals "NoRule" = some (some (.ref C2))) (xe2 : PySem.W.excIn K C2 veB "ValueError.__new__" = true) (xk2 : PySem.W.keepIn K (.ref C2) = true) (xb2 : PySem.W.subIn K (.ref C2) (.type "BaseException") = some true) (xt2 : PySem.W.typeIn K (.ref C2) = some (.type "type"))
    (xa3 : PySem.W.nsIn K mainGlobals "NoPath" = some (some (.ref C3))) (xe3 : PySem.W.excIn K C3 veB "ValueError.__new__" = true) (xk3 : PySem.W.keepIn K (.ref C3) = true) (xb3 : PySem.W.subIn K (.ref C3) (.type "BaseException") = some true) (xt3 : PySem.W.typeIn K (.ref C3) = some (.type "type"))
    (xa4 : PySem.W.nsIn K mainGlobals "NoBets" = some (some (.ref C4))) (xe4 : PySem.W.excIn K C4 veB "ValueError.__new__" = true) (xk4 : PySem.W.keepIn K (.ref C4) = true) (xb4 : PySem.W.subIn K (.ref C4) (.type "BaseException") = some true) (xt4 : PySem.W.typeIn K (.ref C4) = some (.type "type"))
    (xa5 : PySem.W.nsIn K mainGlobals "Unpaid" = some (some (.ref C5))) (xe5 : PySem.W.excIn K C5 veB "ValueError.__new__" = true) (xk5 : PySem.W.keepIn K (.ref C5) = true) (xb5 : PySem.W.subIn K (.ref C5) (.type "BaseException") = some true) (xt5 : PySem.W.typeIn K (.ref C5) = some (.type "type"))
    (xa6 : PySem.W.nsIn K mainGlobals "StopError" = some (some (.ref C6))) (xe6 : PySem.W.excIn K C6 veB "ValueError.__new__" = true) (xk6 : PySem.W.keepIn K (.ref C6) = true) (xb6 : PySem.W.subIn K (.ref C6) (.type "BaseException") = some true) (xt6 : PySem.W.typeIn K (.ref C6) = some (.type "type"))
    (en : PySem.W.specialIn K (.builtin "object.__class__") "__get__" = some (some (.builtin "getset_descriptor.__get__"))) (et : PySem.W.takesIn K (.builtin "object.__class__") = some true)
    (eg1 : PySem.W.findIn K (.ref C0) "__getattribute__" = some (some (.builtin "BaseException.__getattribute__"))) (ek1 : PySem.W.findIn K (.ref C0) "__getattr__" = some none) (ed1 : PySem.W.hasDictIn K C0 = true) (ea1 : PySem.W.findIn K (.ref C0) "__class__" = some (some (.builtin "object.__class__"))) (em1 : PySem.W.mroIn K C0 (.type "object") = some true)
    (eg2 : PySem.W.findIn K (.ref C3) "__getattribute__" = some (some (.builtin "BaseException.__getattribute__"))) (ek2 : PySem.W.findIn K (.ref C3) "__getattr__" = some none) (ed2 : PySem.W.hasDictIn K C3 = true) (ea2 : PySem.W.findIn K (.ref C3) "__class__" = some (some (.builtin "object.__class__"))) (em2 : PySem.W.mroIn K C3 (.type "object") = some true)
    (eg3 : PySem.W.findIn K (.ref C2) "__getattribute__" = some (some (.builtin "BaseException.__getattribute__"))) (ek3 : PySem.W.findIn K (.ref C2) "__getattr__" = some none) (ed3 : PySem.W.hasDictIn K C2 = true) (ea3 : PySem.W.findIn K (.ref C2) "__class__" = some (some (.builtin "object.__class__"))) (em3 : PySem.W.mroIn K C2 (.type "object") = some true)
    (eg4 : PySem.W.findIn K (.ref C4) "__getattribute__" = some (some (.builtin "BaseException.__getattribute__"))) (ek4 : PySem.W.findIn K (.ref C4) "__getattr__" = some none) (ed4 : PySem.W.hasDictIn K C4 = true) (ea4 : PySem.W.findIn K (.ref C4) "__class__" = some (some (.builtin "object.__class__"))) (em4 : PySem.W.mroIn K C4 (.type "object") = some true)
    (eg5 : PySem.W.findIn K (.ref C5) "__getattribute__" = some (some (.builtin "BaseException.__getattribute__"))) (ek5 : PySem.W.findIn K (.ref C5) "__getattr__" = some none) (ed5 : PySem.W.hasDictIn K C5 = true) (ea5 : PySem.W.findIn K (.ref C5) "__class__" = some (some (.builtin "object.__class__"))) (em5 : PySem.W.mroIn K C5 (.type "object") = some true)
    (eg6 : PySem.W.findIn K (.ref C1) "__getattribute__" = some (some (.builtin "BaseException.__getattribute__"))) (ek6 : PySem.W.findIn K (.ref C1) "__getattr__" = some none) (ed6 : PySem.W.hasDictIn K C1 = true) (ea6 : PySem.W.findIn K (.ref C1) "__class__" = some (some (.builtin "object.__class__"))) (em6 : PySem.W.mroIn K C1 (.type "object") = some true)
    (qNoGame1 : PySem.W.kitOne K (.ref C0) (.ref C0) = some true)
    (qNoGame2 : PySem.W.kitOne K (.ref C3) (.ref C0) = some false)
    (qNoGame3 : PySem.W.kitOne K (.ref C2) (.ref C0) = some false)
    (qNoGame4 : PySem.W.kitOne K (.ref C4) (.ref C0) = some false)
    (qNoGame5 : PySem.W.kitOne K (.ref C5) (.ref C0) = some false)
    (qNoGame6 : PySem.W.kitOne K (.ref C1) (.ref C0) = some false)
    (qNoPath1 : PySem.W.kitOne K (.ref C0) (.ref C3) = some false)
    (qNoPath2 : PySem.W.kitOne K (.ref C3) (.ref C3) = some true)
    (qNoPath3 : PySem.W.kitOne K (.ref C2) (.ref C3) = some false)
    (qNoPath4 : PySem.W.kitOne K (.ref C4) (.ref C3) = some false)
    (qNoPath5 : PySem.W.kitOne K (.ref C5) (.ref C3) = some false)
    (qNoPath6 : PySem.W.kitOne K (.ref C1) (.ref C3) = some false)
    (qNoRule1 : PySem.W.kitOne K (.ref C0) (.ref C2) = some false)
    (qNoRule2 : PySem.W.kitOne K (.ref C3) (.ref C2) = some false)
    (qNoRule3 : PySem.W.kitOne K (.ref C2) (.ref C2) = some true)
    (qNoRule4 : PySem.W.kitOne K (.ref C4) (.ref C2) = some false)
    (qNoRule5 : PySem.W.kitOne K (.ref C5) (.ref C2) = some false)
    (qNoRule6 : PySem.W.kitOne K (.ref C1) (.ref C2) = some false)
    (qNoBets1 : PySem.W.kitOne K (.ref C0) (.ref C4) = some false)
    (qNoBets2 : PySem.W.kitOne K (.ref C3) (.ref C4) = some false)
    (qNoBets3 : PySem.W.kitOne K (.ref C2) (.ref C4) = some false)
    (qNoBets4 : PySem.W.kitOne K (.ref C4) (.ref C4) = some true)
    (qNoBets5 : PySem.W.kitOne K (.ref C5) (.ref C4) = some false)
    (qNoBets6 : PySem.W.kitOne K (.ref C1) (.ref C4) = some false)
    (qUnpaid1 : PySem.W.kitOne K (.ref C0) (.ref C5) = some false)
    (qUnpaid2 : PySem.W.kitOne K (.ref C3) (.ref C5) = some false)
    (qUnpaid3 : PySem.W.kitOne K (.ref C2) (.ref C5) = some false)
    (qUnpaid4 : PySem.W.kitOne K (.ref C4) (.ref C5) = some false)
    (qUnpaid5 : PySem.W.kitOne K (.ref C5) (.ref C5) = some true)
    (qUnpaid6 : PySem.W.kitOne K (.ref C1) (.ref C5) = some false)
    (qNoText1 : PySem.W.kitOne K (.ref C0) (.ref C1) = some false)
    (qNoText2 : PySem.W.kitOne K (.ref C3) (.ref C1) = some false)
    (qNoText3 : PySem.W.kitOne K (.ref C2) (.ref C1) = some false)
    (qNoText4 : PySem.W.kitOne K (.ref C4) (.ref C1) = some false)
    (qNoText5 : PySem.W.kitOne K (.ref C5) (.ref C1) = some false)
    (qNoText6 : PySem.W.kitOne K (.ref C1) (.ref C1) = some true)
    (qv1 : PySem.W.kitOne K (.ref C0) (.type "ValueError") = some true)
    (qv2 : PySem.W.kitOne K (.ref C3) (.type "ValueError") = some true)
    (qv3 : PySem.W.kitOne K (.ref C2) (.type "ValueError") = some true)
    (qv4 : PySem.W.kitOne K (.ref C4) (.type "ValueError") = some true)
    (qv5 : PySem.W.kitOne K (.ref C5) (.type "ValueError") = some true)
    (qv6 : PySem.W.kitOne K (.ref C1) (.type "ValueError") = some true)
    (qc : PySem.W.isClsIn K C6 = true)
    (qx1 : PySem.W.subIn K (.ref C0) (.ref C6) = some true)
    (qx2 : PySem.W.subIn K (.ref C3) (.ref C6) = some true)
    (qx3 : PySem.W.subIn K (.ref C2) (.ref C6) = some true)
    (qx4 : PySem.W.subIn K (.ref C4) (.ref C6) = some true)
    (qx5 : PySem.W.subIn K (.ref C5) (.ref C6) = some true)
    (qx6 : PySem.W.subIn K (.ref C1) (.ref C6) = some true) :
    ∃ fd : FuncData, (∀ (s : Shared) (v : Value), BindsTo s fd ⟨[v], []⟩ [("script", v)]) ∧ ∀ base : Heap, K.In base → base.Ns mainGlobals mg → FnOk l.prog w K mg base (L2.CX l.prog w) 27 fa fd ["script"] (spL K) := by
  have e := hfa.symm.trans (PySem.W.mg_of X G a24)
  cases e
  have T : Top K mg (fun i => [C6, C0, C3, C2, C4, C5, C1, 0].getD i 0) := {
    m_isinstance := PySem.W.mg_none_of X G z0,
    m_int := PySem.W.mg_none_of X G z1,
    m_bool := PySem.W.mg_none_of X G z2,
    m_tuple := PySem.W.mg_none_of X G z3,
    m_len := PySem.W.mg_none_of X G z4,
    m_all := PySem.W.mg_none_of X G z5,
    m_str := PySem.W.mg_none_of X G z6,
    m_max := PySem.W.mg_none_of X G z7,
    m_range := PySem.W.mg_none_of X G z8,
    m_enumerate := PySem.W.mg_none_of X G z9,
    m_ValueError := PySem.W.mg_none_of X G z10,
    c_GREATEST := ⟨t0, PySem.W.mg_of X G y0⟩,
    c_MOST_WAYS := ⟨t1, PySem.W.mg_of X G y1⟩,
    c_HEAVIEST := ⟨t2, PySem.W.mg_of X G y2⟩,
    c_DEEPEST := ⟨t3, PySem.W.mg_of X G y3⟩,
    x_NoGame := ⟨PySem.W.mg_of X G xa0, xe0, xk0, xb0, xt0⟩,
    x_NoText := ⟨PySem.W.mg_of X G xa1, xe1, xk1, xb1, xt1⟩,
    x_NoRule := ⟨PySem.W.mg_of X G xa2, xe2, xk2, xb2, xt2⟩,
    x_NoPath := ⟨PySem.W.mg_of X G xa3, xe3, xk3, xb3, xt3⟩,
    x_NoBets := ⟨PySem.W.mg_of X G xa4, xe4, xk4, xb4, xt4⟩,
    x_Unpaid := ⟨PySem.W.mg_of X G xa5, xe5, xk5, xb5, xt5⟩,
    x_StopError := ⟨PySem.W.mg_of X G xa6, xe6, xk6, xb6, xt6⟩,
    xt := ⟨List.forall_mem_cons.mpr ⟨⟨eg1, ek1, xb0, ed1, ea1, en, et, em1⟩, List.forall_mem_cons.mpr ⟨⟨eg2, ek2, xb3, ed2, ea2, en, et, em2⟩, List.forall_mem_cons.mpr ⟨⟨eg3, ek3, xb2, ed3, ea3, en, et, em3⟩, List.forall_mem_cons.mpr ⟨⟨eg4, ek4, xb4, ed4, ea4, en, et, em4⟩, List.forall_mem_cons.mpr ⟨⟨eg5, ek5, xb5, ed5, ea5, en, et, em5⟩, List.forall_mem_cons.mpr ⟨⟨eg6, ek6, xb1, ed6, ea6, en, et, em6⟩, fun _ h => nomatch h⟩⟩⟩⟩⟩⟩⟩,
    k_NoGame := List.forall_mem_cons.mpr ⟨qNoGame1, List.forall_mem_cons.mpr ⟨qNoGame2, List.forall_mem_cons.mpr ⟨qNoGame3, List.forall_mem_cons.mpr ⟨qNoGame4, List.forall_mem_cons.mpr ⟨qNoGame5, List.forall_mem_cons.mpr ⟨qNoGame6, fun _ h => nomatch h⟩⟩⟩⟩⟩⟩,
    k_NoPath := List.forall_mem_cons.mpr ⟨qNoPath1, List.forall_mem_cons.mpr ⟨qNoPath2, List.forall_mem_cons.mpr ⟨qNoPath3, List.forall_mem_cons.mpr ⟨qNoPath4, List.forall_mem_cons.mpr ⟨qNoPath5, List.forall_mem_cons.mpr ⟨qNoPath6, fun _ h => nomatch h⟩⟩⟩⟩⟩⟩,
    k_NoRule := List.forall_mem_cons.mpr ⟨qNoRule1, List.forall_mem_cons.mpr ⟨qNoRule2, List.forall_mem_cons.mpr ⟨qNoRule3, List.forall_mem_cons.mpr ⟨qNoRule4, List.forall_mem_cons.mpr ⟨qNoRule5, List.forall_mem_cons.mpr ⟨qNoRule6, fun _ h => nomatch h⟩⟩⟩⟩⟩⟩,
    k_NoBets := List.forall_mem_cons.mpr ⟨qNoBets1, List.forall_mem_cons.mpr ⟨qNoBets2, List.forall_mem_cons.mpr ⟨qNoBets3, List.forall_mem_cons.mpr ⟨qNoBets4, List.forall_mem_cons.mpr ⟨qNoBets5, List.forall_mem_cons.mpr ⟨qNoBets6, fun _ h => nomatch h⟩⟩⟩⟩⟩⟩,
    k_Unpaid := List.forall_mem_cons.mpr ⟨qUnpaid1, List.forall_mem_cons.mpr ⟨qUnpaid2, List.forall_mem_cons.mpr ⟨qUnpaid3, List.forall_mem_cons.mpr ⟨qUnpaid4, List.forall_mem_cons.mpr ⟨qUnpaid5, List.forall_mem_cons.mpr ⟨qUnpaid6, fun _ h => nomatch h⟩⟩⟩⟩⟩⟩,
    k_NoText := List.forall_mem_cons.mpr ⟨qNoText1, List.forall_mem_cons.mpr ⟨qNoText2, List.forall_mem_cons.mpr ⟨qNoText3, List.forall_mem_cons.mpr ⟨qNoText4, List.forall_mem_cons.mpr ⟨qNoText5, List.forall_mem_cons.mpr ⟨qNoText6, fun _ h => nomatch h⟩⟩⟩⟩⟩⟩,
    kv := List.forall_mem_cons.mpr ⟨qv1, List.forall_mem_cons.mpr ⟨qv2, List.forall_mem_cons.mpr ⟨qv3, List.forall_mem_cons.mpr ⟨qv4, List.forall_mem_cons.mpr ⟨qv5, List.forall_mem_cons.mpr ⟨qv6, fun _ h => nomatch h⟩⟩⟩⟩⟩⟩,
    xs := List.forall_mem_cons.mpr ⟨exm_of xb6 (by simpa [PySem.W.isClsIn] using qc) xt6 qx1, List.forall_mem_cons.mpr ⟨exm_of xb6 (by simpa [PySem.W.isClsIn] using qc) xt6 qx2, List.forall_mem_cons.mpr ⟨exm_of xb6 (by simpa [PySem.W.isClsIn] using qc) xt6 qx3, List.forall_mem_cons.mpr ⟨exm_of xb6 (by simpa [PySem.W.isClsIn] using qc) xt6 qx4, List.forall_mem_cons.mpr ⟨exm_of xb6 (by simpa [PySem.W.isClsIn] using qc) xt6 qx5, List.forall_mem_cons.mpr ⟨exm_of xb6 (by simpa [PySem.W.isClsIn] using qc) xt6 qx6, fun _ h => nomatch h⟩⟩⟩⟩⟩⟩,
    f_is_whole := ⟨_, _, fun_mk l1 e1 k1, PySem.W.mg_of X G a1, (fun_mk l1 e1 k1).binds fun _ _ _ _ _ _ us hl => match us, hl with | [_, _, _], _ => rfl⟩,
    f_is_game_in := ⟨_, _, fun_mk l2 e2 k2, PySem.W.mg_of X G a2, (fun_mk l2 e2 k2).binds fun _ _ _ _ _ _ us hl => match us, hl with | [_, _], _ => rfl⟩,
    f_is_game := ⟨_, _, fun_mk l3 e3 k3, PySem.W.mg_of X G a3, (fun_mk l3 e3 k3).binds fun _ _ _ _ _ _ us hl => match us, hl with | [_], _ => rfl⟩,
    f_look_game := ⟨_, _, fun_mk l4 e4 k4, PySem.W.mg_of X G a4, (fun_mk l4 e4 k4).binds fun _ _ _ _ _ _ us hl => match us, hl with | [_], _ => rfl⟩,
    f_ways_of := ⟨_, _, fun_mk l5 e5 k5, PySem.W.mg_of X G a5, (fun_mk l5 e5 k5).binds fun _ _ _ _ _ _ us hl => match us, hl with | [_], _ => rfl⟩,
    f_text_of := ⟨_, _, fun_mk l6 e6 k6, PySem.W.mg_of X G a6, (fun_mk l6 e6 k6).binds fun _ _ _ _ _ _ us hl => match us, hl with | [_], _ => rfl⟩,
    f_game_text := ⟨_, _, fun_mk l7 e7 k7, PySem.W.mg_of X G a7, (fun_mk l7 e7 k7).binds fun _ _ _ _ _ _ us hl => match us, hl with | [_], _ => rfl⟩,
    f_number_at := ⟨_, _, fun_mk l8 e8 k8, PySem.W.mg_of X G a8, (fun_mk l8 e8 k8).binds fun _ _ _ _ _ _ us hl => match us, hl with | [_, _], _ => rfl⟩,
    f_game_at := ⟨_, _, fun_mk l9 e9 k9, PySem.W.mg_of X G a9, (fun_mk l9 e9 k9).binds fun _ _ _ _ _ _ us hl => match us, hl with | [_, _, _], _ => rfl⟩,
    f_read_game := ⟨_, _, fun_mk l10 e10 k10, PySem.W.mg_of X G a10, (fun_mk l10 e10 k10).binds fun _ _ _ _ _ _ us hl => match us, hl with | [_], _ => rfl⟩,
    f__law_cell := ⟨_, _, fun_mk l11 e11 k11, PySem.W.mg_of X G a11, (fun_mk l11 e11 k11).binds fun _ _ _ _ _ _ us hl => match us, hl with | [_, _], _ => rfl⟩,
    f__law_pick := ⟨_, _, fun_mk l12 e12 k12, PySem.W.mg_of X G a12, (fun_mk l12 e12 k12).binds fun _ _ _ _ _ _ us hl => match us, hl with | [_, _, _], _ => rfl⟩,
    f__law_game := ⟨_, _, fun_mk l13 e13 k13, PySem.W.mg_of X G a13, (fun_mk l13 e13 k13).binds fun _ _ _ _ _ _ us hl => match us, hl with | [_, _, _, _, _], _ => rfl⟩,
    f__law_drawn := ⟨_, _, fun_mk l14 e14 k14, PySem.W.mg_of X G a14, (fun_mk l14 e14 k14).binds fun _ _ _ _ _ _ us hl => match us, hl with | [_, _], _ => rfl⟩,
    f__law_places := ⟨_, _, fun_mk l15 e15 k15, PySem.W.mg_of X G a15, (fun_mk l15 e15 k15).binds fun _ _ _ _ _ _ us hl => match us, hl with | [_], _ => rfl⟩,
    f__law_put := ⟨_, _, fun_mk l16 e16 k16, PySem.W.mg_of X G a16, (fun_mk l16 e16 k16).binds fun _ _ _ _ _ _ us hl => match us, hl with | [_, _, _], _ => rfl⟩,
    f__law_spoilt_thing := ⟨_, _, fun_mk l17 e17 k17, PySem.W.mg_of X G a17, (fun_mk l17 e17 k17).binds fun _ _ _ _ _ _ us hl => match us, hl with | [_, _, _], _ => rfl⟩,
    f__law_whole := ⟨_, _, fun_mk l18 e18 k18, PySem.W.mg_of X G a18, (fun_mk l18 e18 k18).binds fun _ _ _ _ _ _ us hl => match us, hl with | [_, _, _], _ => rfl⟩,
    f__law_is_game := ⟨_, _, fun_mk l19 e19 k19, PySem.W.mg_of X G a19, (fun_mk l19 e19 k19).binds fun _ _ _ _ _ _ us hl => match us, hl with | [_, _], _ => rfl⟩,
    f__law_spoilt := ⟨_, _, fun_mk l20 e20 k20, PySem.W.mg_of X G a20, (fun_mk l20 e20 k20).binds fun _ _ _ _ _ _ us hl => match us, hl with | [_, _, _], _ => rfl⟩,
    f__law_word := ⟨_, _, fun_mk l21 e21 k21, PySem.W.mg_of X G a21, (fun_mk l21 e21 k21).binds fun _ _ _ _ _ _ us hl => match us, hl with | [_], _ => rfl⟩,
    f__law_do := ⟨_, _, fun_mk l22 e22 k22, PySem.W.mg_of X G a22, (fun_mk l22 e22 k22).binds fun _ _ _ _ _ _ us hl => match us, hl with | [_, _], _ => rfl⟩,
    f__law_text := ⟨_, _, fun_mk l23 e23 k23, PySem.W.mg_of X G a23, (fun_mk l23 e23 k23).binds fun _ _ _ _ _ _ us hl => match us, hl with | [_], _ => rfl⟩,
    f_law := ⟨_, _, fun_mk l24 e24 k24, PySem.W.mg_of X G a24, (fun_mk l24 e24 k24).binds fun _ _ _ _ _ _ us hl => match us, hl with | [_], _ => rfl⟩ }
  exact ⟨_, fun s v => .of_eq rfl, fun base _ _ => law_by rfl _ fun ns _ => ⟨_, law_true (pickJ ns) (pickJ_ok ns), s_law (cl := Glb.of (fun i => [C6, C0, C3, C2, C4, C5, C1, 0].getD i 0) ns []) T (pick_fn (s__law_pick T (s__law_cell T))) (fun_mk l24 e24 k24)⟩⟩
end Kx
open PySem PySem.W PyProof.Rows
set_option maxHeartbeats 0 in
theorem PySem.Challenge.cw_fairstops_k60_whole_texts_holds : PySem.Challenge.rw_fairstops_k60_whole_texts.Holds := by
  w_on; o_law; k_head; (case hw => w_witness2)
  k_fill
  refine L2.walk_of (l := PySem.Challenge.rw_fairstops_k60_whole_texts) (n := 63) (k := 27) (x := "script") (CX := fun w => L2.CX (PySem.Challenge.rw_fairstops_k60_whole_texts).prog w) (sp := fun w => Sm.spL _) rfl (by decide) rfl ⟨rfl, by decide, by decide⟩ (fun w h Y => by first | exact PySem.W.kIn_of Y | exact PySem.W.km_in_of Y) ?F (fun _ _ a ns hl _ hS => ⟨a, ns, rfl, hS, hl, fun _ => rfl⟩) (fun _ _ _ _ _ h => Sm.no_exc h)
  case F =>
    intro w mg fa h KX G hmg
    refine' Kx.all_mk KX G hmg ?a1 ?l1 ?e1 ?k1 ?a2 ?l2 ?e2 ?k2 ?a3 ?l3 ?e3 ?k3 ?a4 ?l4 ?e4 ?k4 ?a5 ?l5 ?e5 ?k5 ?a6 ?l6 ?e6 ?k6 ?a7 ?l7 ?e7 ?k7 ?a8 ?l8 ?e8 ?k8 ?a9 ?l9 ?e9 ?k9 ?a10 ?l10 ?e10 ?k10 ?a11 ?l11 ?e11 ?k11 ?a12 ?l12 ?e12 ?k12 ?a13 ?l13 ?e13 ?k13 ?a14 ?l14 ?e14 ?k14 ?a15 ?l15 ?e15 ?k15 ?a16 ?l16 ?e16 ?k16 ?a17 ?l17 ?e17 ?k17 ?a18 ?l18 ?e18 ?k18 ?a19 ?l19 ?e19 ?k19 ?a20 ?l20 ?e20 ?k20 ?a21 ?l21 ?e21 ?k21 ?a22 ?l22 ?e22 ?k22 ?a23 ?l23 ?e23 ?k23 ?a24 ?l24 ?e24 ?k24 ?z0 ?z1 ?z2 ?z3 ?z4 ?z5 ?z6 ?z7 ?z8 ?z9 ?z10 ?y0 ?y1 ?y2 ?y3 ?xa0 ?xe0 ?xk0 ?xb0 ?xt0 ?xa1 ?xe1 ?xk1 ?xb1 ?xt1 ?xa2 ?xe2 ?xk2 ?xb2 ?xt2 ?xa3 ?xe3 ?xk3 ?xb3 ?xt3 ?xa4 ?xe4 ?xk4 ?xb4 ?xt4 ?xa5 ?xe5 ?xk5 ?xb5 ?xt5 ?xa6 ?xe6 ?xk6 ?xb6 ?xt6 ?en ?et ?eg1 ?ek1 ?ed1 ?ea1 ?em1 ?eg2 ?ek2 ?ed2 ?ea2 ?em2 ?eg3 ?ek3 ?ed3 ?ea3 ?em3 ?eg4 ?ek4 ?ed4 ?ea4 ?em4 ?eg5 ?ek5 ?ed5 ?ea5 ?em5 ?eg6 ?ek6 ?ed6 ?ea6 ?em6 ?qNoGame1 ?qNoGame2 ?qNoGame3 ?qNoGame4 ?qNoGame5 ?qNoGame6 ?qNoPath1 ?qNoPath2 ?qNoPath3 ?qNoPath4 ?qNoPath5 ?qNoPath6 ?qNoRule1 ?qNoRule2 ?qNoRule3 ?qNoRule4 ?qNoRule5 ?qNoRule6 ?qNoBets1 ?qNoBets2 ?qNoBets3 ?qNoBets4 ?qNoBets5 ?qNoBets6 ?qUnpaid1 ?qUnpaid2 ?qUnpaid3 ?qUnpaid4 ?qUnpaid5 ?qUnpaid6 ?qNoText1 ?qNoText2 ?qNoText3 ?qNoText4 ?qNoText5 ?qNoText6 ?qv1 ?qv2 ?qv3 ?qv4 ?qv5 ?qv6 ?qc ?qx1 ?qx2 ?qx3 ?qx4 ?qx5 ?qx6
    (case a1 => k_is)
    (case l1 => k_is)
    (case e1 => k_is)
    (case k1 => k_is)
    (case a2 => k_is)
    (case l2 => k_is)
    (case e2 => k_is)
    (case k2 => k_is)
    (case a3 => k_is)
    (case l3 => k_is)
    (case e3 => k_is)
    (case k3 => k_is)
    (case a4 => k_is)
    (case l4 => k_is)
    (case e4 => k_is)
    (case k4 => k_is)
    (case a5 => k_is)
    (case l5 => k_is)
    (case e5 => k_is)
    (case k5 => k_is)
    (case a6 => k_is)
    (case l6 => k_is)
    (case e6 => k_is)
    (case k6 => k_is)
    (case a7 => k_is)
    (case l7 => k_is)
    (case e7 => k_is)
    (case k7 => k_is)
    (case a8 => k_is)
    (case l8 => k_is)
    (case e8 => k_is)
    (case k8 => k_is)
    (case a9 => k_is)
    (case l9 => k_is)
    (case e9 => k_is)
    (case k9 => k_is)
    (case a10 => k_is)
    (case l10 => k_is)
    (case e10 => k_is)
    (case k10 => k_is)
    (case a11 => k_is)
    (case l11 => k_is)
    (case e11 => k_is)
    (case k11 => k_is)
    (case a12 => k_is)
    (case l12 => k_is)
    (case e12 => k_is)
    (case k12 => k_is)
    (case a13 => k_is)
    (case l13 => k_is)
    (case e13 => k_is)
    (case k13 => k_is)
    (case a14 => k_is)
    (case l14 => k_is)
    (case e14 => k_is)
    (case k14 => k_is)
    (case a15 => k_is)
    (case l15 => k_is)
    (case e15 => k_is)
    (case k15 => k_is)
    (case a16 => k_is)
    (case l16 => k_is)
    (case e16 => k_is)
    (case k16 => k_is)
    (case a17 => k_is)
    (case l17 => k_is)
    (case e17 => k_is)
    (case k17 => k_is)
    (case a18 => k_is)
    (case l18 => k_is)
    (case e18 => k_is)
    (case k18 => k_is)
    (case a19 => k_is)
    (case l19 => k_is)
    (case e19 => k_is)
    (case k19 => k_is)
    (case a20 => k_is)
    (case l20 => k_is)
    (case e20 => k_is)
    (case k20 => k_is)
    (case a21 => k_is)
    (case l21 => k_is)
    (case e21 => k_is)
    (case k21 => k_is)
    (case a22 => k_is)
    (case l22 => k_is)
    (case e22 => k_is)
    (case k22 => k_is)
    (case a23 => k_is)
    (case l23 => k_is)
    (case e23 => k_is)
    (case k23 => k_is)
    (case a24 => k_is)
    (case l24 => k_is)
    (case e24 => k_is)
    (case k24 => k_is)
    (case z0 => k_is)
    (case z1 => k_is)
    (case z2 => k_is)
    (case z3 => k_is)
    (case z4 => k_is)
    (case z5 => k_is)
    (case z6 => k_is)
    (case z7 => k_is)
    (case z8 => k_is)
    (case z9 => k_is)
    (case z10 => k_is)
    (case y0 => k_is)
    (case y1 => k_is)
    (case y2 => k_is)
    (case y3 => k_is)
    (case xa0 => k_is)
    (case xe0 => k_exc)
    (case xk0 => k_is)
    (case xb0 => k_is)
    (case xt0 => k_is)
    (case xa1 => k_is)
    (case xe1 => k_exc)
    (case xk1 => k_is)
    (case xb1 => k_is)
    (case xt1 => k_is)
    (case xa2 => k_is)
    (case xe2 => k_exc)
    (case xk2 => k_is)
    (case xb2 => k_is)
    (case xt2 => k_is)
    (case xa3 => k_is)
    (case xe3 => k_exc)
    (case xk3 => k_is)
    (case xb3 => k_is)
    (case xt3 => k_is)
    (case xa4 => k_is)
    (case xe4 => k_exc)
    (case xk4 => k_is)
    (case xb4 => k_is)
    (case xt4 => k_is)
    (case xa5 => k_is)
    (case xe5 => k_exc)
    (case xk5 => k_is)
    (case xb5 => k_is)
    (case xt5 => k_is)
    (case xa6 => k_is)
    (case xe6 => k_exc)
    (case xk6 => k_is)
    (case xb6 => k_is)
    (case xt6 => k_is)
    (case en => k_is)
    (case et => k_is)
    (case eg1 => k_is)
    (case ek1 => k_is)
    (case ed1 => k_is)
    (case ea1 => k_is)
    (case em1 => k_is)
    (case eg2 => k_is)
    (case ek2 => k_is)
    (case ed2 => k_is)
    (case ea2 => k_is)
    (case em2 => k_is)
    (case eg3 => k_is)
    (case ek3 => k_is)
    (case ed3 => k_is)
    (case ea3 => k_is)
    (case em3 => k_is)
    (case eg4 => k_is)
    (case ek4 => k_is)
    (case ed4 => k_is)
    (case ea4 => k_is)
    (case em4 => k_is)
    (case eg5 => k_is)
    (case ek5 => k_is)
    (case ed5 => k_is)
    (case ea5 => k_is)
    (case em5 => k_is)
    (case eg6 => k_is)
    (case ek6 => k_is)
    (case ed6 => k_is)
    (case ea6 => k_is)
    (case em6 => k_is)
    (case qNoGame1 => kit_is)
    (case qNoGame2 => kit_is)
    (case qNoGame3 => kit_is)
    (case qNoGame4 => kit_is)
    (case qNoGame5 => kit_is)
    (case qNoGame6 => kit_is)
    (case qNoPath1 => kit_is)
    (case qNoPath2 => kit_is)
    (case qNoPath3 => kit_is)
    (case qNoPath4 => kit_is)
    (case qNoPath5 => kit_is)
    (case qNoPath6 => kit_is)
    (case qNoRule1 => kit_is)
    (case qNoRule2 => kit_is)
    (case qNoRule3 => kit_is)
    (case qNoRule4 => kit_is)
    (case qNoRule5 => kit_is)
    (case qNoRule6 => kit_is)
    (case qNoBets1 => kit_is)
    (case qNoBets2 => kit_is)
    (case qNoBets3 => kit_is)
    (case qNoBets4 => kit_is)
    (case qNoBets5 => kit_is)
    (case qNoBets6 => kit_is)
    (case qUnpaid1 => kit_is)
    (case qUnpaid2 => kit_is)
    (case qUnpaid3 => kit_is)
    (case qUnpaid4 => kit_is)
    (case qUnpaid5 => kit_is)
    (case qUnpaid6 => kit_is)
    (case qNoText1 => kit_is)
    (case qNoText2 => kit_is)
    (case qNoText3 => kit_is)
    (case qNoText4 => kit_is)
    (case qNoText5 => kit_is)
    (case qNoText6 => kit_is)
    (case qv1 => kit_is)
    (case qv2 => kit_is)
    (case qv3 => kit_is)
    (case qv4 => kit_is)
    (case qv5 => kit_is)
    (case qv6 => kit_is)
    (case qc => k_is)
    (case qx1 => k_is)
    (case qx2 => k_is)
    (case qx3 => k_is)
    (case qx4 => k_is)
    (case qx5 => k_is)
    (case qx6 => k_is)

