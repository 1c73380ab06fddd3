import PyProof.Rows.All
import Wide.All
import OpenK.AllK
import Wide.FinOn
import HandS.ForDict
import HandS.ForMost
import HandS.Exc
import HandS.ExcOwn
import HandS.TryOnly
import HandS.TryMany
import HandS.Wide
import HandS.Flow
import HandS.CallSlots
import HandS.WordsExc
import HandS.TupAny
import HandS.TupMul
import HandS.DictComp
import HandS.Conv
import HandS.More
import HandS.IsInst
import HandS.ExcSuper
import HandS.Style
import HandS.Zip
import HandS.DeepEq
import HandS.TupLen
import HandS.OwnEq
import HandS.Deep
import HandS.Text
import HandS.Rev
import HandS.ListItems
import HandS.Star
import KE.KDictList
import HandS.SortInts
import KE.KSortTup
import PyProof.InstNe
import HandS.ExcInit
import HandS.Nested
import KE.KExcSuper
import HandS.ExcField
import PySem.Challenge.RW_ballchutes_k07_refused_nets
set_option Elab.async false
set_option linter.all false
set_option maxRecDepth 100000
set_option maxHeartbeats 4000000
/-! Mo1: a store-passing mirror of Python over plain data: values U (tuples, and lists and dicts that nobody changes, by what is in them), the store of things that change, results; how they stand for the layer's abstract heap. -/
namespace Mo
open PySem PySem.Spec PyProof.Rows L2

/-! ### data -/
inductive Ky where
  | int (i : Int) | str (x : List Nat) | tup (ks : List Ky)
inductive U where
  | non | bl (b : Bool) | int (i : Int) | str (x : List Nat)
  | tup (us : List U) | lst (us : List U) | dct (t : Bool) (kvs : List (Ky × U)) | ref (i : Nat)
  /-- a locked list (the script), a written tuple -/
  | scr (us : List U) | wt (us : List U)
  /-- an instance that nobody changes any more -/
  | obj (cn : Nat) (fs : List (Nat × U))
/-- what stands in the store: a list, a dict, an instance of a class (by its name's code) with its fields (by their names' codes), or what has been frozen -/
inductive O where
  | lst (us : List U) | dct (t : Bool) (kvs : List (Ky × U)) | ins (cn : Nat) (fs : List (Nat × U)) | gone
  /-- a dict that is walked: it may be read alone -/
  | ld (t : Bool) (kvs : List (Ky × U))
abbrev S := List O
abbrev L := List (Option U)
/-- an exception: its class's name, its fields -/
structure XV where
  cn : Nat
  fs : List (Nat × U)
inductive R (α : Type) where
  | ok (a : α) (s : S) | ex (x : XV) (s : S) | no
inductive F where
  | nx (l : L) (s : S) | rt (u : U) (s : S) | bk (l : L) (s : S) | ct (l : L) (s : S) | ex (x : XV) (l : L) (s : S) | no
abbrev EM := L → S → R U
abbrev TMt := L → S → R Bool
abbrev AM := L → S → R (List U)
abbrev SM := L → S → F
@[simp] def R.bind {α β : Type} : R α → (α → S → R β) → R β
  | .ok a s, k => k a s
  | .ex x s, _ => .ex x s
  | .no, _ => .no

/-- texts by their code points -/
def st (x : List Nat) : Str := ⟨x.toArray⟩
theorem st_inj {x y : List Nat} (h : st x = st y) : x = y := by
  unfold st at h
  injection h with h
  simpa using congrArg Array.toList h
theorem st_len (x : List Nat) : (st x).length = x.length := by simp [st, Str.length]
theorem st_cps (x : List Nat) : (st x).cps.toList = x := by simp [st]
theorem st_cps' (z : Str) : st z.cps.toList = z := by simp [st]
/-- a name's code, digits to the base 256, the first sign the lowest -/
def nmL : Nat → Nat → List Nat
  | 0, _ => []
  | f + 1, n => if n = 0 then [] else (n % 256) :: nmL f (n / 256)
def nm (n : Nat) : Str := st (nmL n n)
def cdL : List Nat → Nat
  | [] => 0
  | c :: r => c + 256 * cdL r
theorem cd_nmL : ∀ (f n : Nat), n ≤ f → cdL (nmL f n) = n
  | 0, n, h => by
    have : n = 0 := by omega
    subst this; rfl
  | f + 1, n, h => by
    unfold nmL
    by_cases e : n = 0
    · rw [if_pos e, e]; rfl
    · rw [if_neg e]
      show n % 256 + 256 * cdL (nmL f (n / 256)) = n
      rw [cd_nmL f (n / 256) (by omega)]
      omega
theorem nm_inj {a b : Nat} (h : nm a = nm b) : a = b := by
  have q := congrArg cdL (st_inj h)
  rwa [cd_nmL a a (Nat.le_refl _), cd_nmL b b (Nat.le_refl _)] at q

def k1 : Ky → Option Key
  | .int i => some (.inl i)
  | .str x => some (.inr (st x))
  | .tup _ => none
def k1s : List Ky → Option (List Key)
  | [] => some []
  | k :: r => match k1 k, k1s r with
    | some a, some b => some (a :: b)
    | _, _ => none
def kt : Ky → Option (List Key)
  | .tup ks => k1s ks
  | _ => none
def isG : O → Bool
  | .gone => true
  | _ => false

def isL : O → Bool
  | .ld _ _ => true
  | _ => false

/-! ### how data stand for the heap -/
/-- the addresses of what may be changed -/
def Lw (ρ : List Addr) (s : S) (a : Addr) : Prop := ∃ (i : Nat) (o : O), s[i]? = some o ∧ isG o = false ∧ ρ[i]? = some a
/-- .. and of what others may change -/
def Lv (Pr : Addr → Prop) (ρ : List Addr) (s : S) (a : Addr) : Prop := Pr a ∨ Lw ρ s a
/-- a class of the program by its name's code -/
structure CI (K : PySem.W.Frag) (mg : Str → Option Value) (cn : Nat) (C : Addr) : Prop where
  mg : mg (nm cn) = some (.ref C)
  cl : Cls K C
/-- a list that nobody can change: known to the object, or of the module -/
def SqF (K : PySem.W.Frag) (H : Hp) (a : Addr) (xs : List V) : Prop :=
  (∃ o, H a = some (.frz o (.lst xs))) ∨
    ∃ (o : Obj) (its : Array Value) (n : Nat), K.lookup a = some o ∧ o.cls = .type "list" ∧ o.dict = none ∧ o.data = .seq its n ∧ its.size ≤ sizeLine ∧ Vals xs its.toList
theorem SqF.sq {K : PySem.W.Frag} {H : Hp} {a : Addr} {xs : List V} (h : SqF K H a xs) : SqL K H a xs := h.elim (fun h => .inl (.inr h)) .inr
theorem SqF.fix {K : PySem.W.Frag} {H H' : Hp} {a : Addr} {xs : List V} (h : SqF K H a xs) (f : ∀ o, H a = some (.frz o (.lst xs)) → H' a = some (.frz o (.lst xs))) : SqF K H' a xs := h.elim (fun ⟨o, h⟩ => .inl ⟨o, f o h⟩) .inr
mutual
def UR (Lp : Addr → Prop) (ρ : List Addr) (K : PySem.W.Frag) (mg : Str → Option Value) (H : Hp) : U → V → Prop
  | .non, v => v = .non
  | .bl b, v => v = .bl b
  | .int i, v => v = .int i
  | .str x, v => v = .str (st x) ∧ x.length ≤ sizeLine
  | .tup us, v => ∃ a xs, v = .ref a ∧ H a = some (.tup xs) ∧ xs.length ≤ sizeLine ∧ URs Lp ρ K mg H us xs
  | .lst us, v => ∃ a xs, v = .ref a ∧ H a = some (.lst xs) ∧ ¬ Lp a ∧ xs.length ≤ sizeLine ∧ URs Lp ρ K mg H us xs
  | .scr us, v => ∃ a xs, v = .ref a ∧ SqF K H a xs ∧ xs.length ≤ sizeLine ∧ URs Lp ρ K mg H us xs
  | .wt us, v => ∃ a xs, v = .ref a ∧ SqT K H a xs ∧ xs.length ≤ sizeLine ∧ URs Lp ρ K mg H us xs
  | .dct t kvs, v => ∃ a, v = .ref a ∧ ¬ Lp a ∧ kvs.length ≤ sizeLine ∧ ((t = false ∧ ∃ ks, Rd H a (.dK ks) ∧ URk Lp ρ K mg H kvs ks) ∨ (t = true ∧ ∃ ks, Rd H a (.dT ks) ∧ URt Lp ρ K mg H kvs ks))
  | .ref i, v => ∃ a, ρ[i]? = some a ∧ v = .ref a
  | .obj cn fs, v => ∃ a C dx fV, v = .ref a ∧ H a = some (.ins C dx fV) ∧ ¬ Lp a ∧ CI K mg cn C ∧ (∀ f ∈ fs.map (·.1), NoAttr K C (nm f)) ∧ URf Lp ρ K mg H fs fV
def URs (Lp : Addr → Prop) (ρ : List Addr) (K : PySem.W.Frag) (mg : Str → Option Value) (H : Hp) : List U → List V → Prop
  | [], xs => xs = []
  | u :: us, xs => ∃ x r, xs = x :: r ∧ UR Lp ρ K mg H u x ∧ URs Lp ρ K mg H us r
def URk (Lp : Addr → Prop) (ρ : List Addr) (K : PySem.W.Frag) (mg : Str → Option Value) (H : Hp) : List (Ky × U) → List (Key × V) → Prop
  | [], xs => xs = []
  | (k, u) :: us, xs => ∃ kk x r, xs = (kk, x) :: r ∧ k1 k = some kk ∧ UR Lp ρ K mg H u x ∧ URk Lp ρ K mg H us r
def URt (Lp : Addr → Prop) (ρ : List Addr) (K : PySem.W.Frag) (mg : Str → Option Value) (H : Hp) : List (Ky × U) → List (List Key × V) → Prop
  | [], xs => xs = []
  | (k, u) :: us, xs => ∃ kk x r, xs = (kk, x) :: r ∧ kt k = some kk ∧ UR Lp ρ K mg H u x ∧ URt Lp ρ K mg H us r
/-- fields -/
def URf (Lp : Addr → Prop) (ρ : List Addr) (K : PySem.W.Frag) (mg : Str → Option Value) (H : Hp) : List (Nat × U) → List (Str × V) → Prop
  | [], xs => xs = []
  | (k, u) :: us, xs => ∃ x r, xs = (nm k, x) :: r ∧ UR Lp ρ K mg H u x ∧ URf Lp ρ K mg H us r
end
def OR (Lp : Addr → Prop) (ρ : List Addr) (K : PySem.W.Frag) (mg : Str → Option Value) (H : Hp) (a : Addr) : O → Prop
  | .lst us => ∃ xs, H a = some (.lst xs) ∧ xs.length ≤ sizeLine ∧ URs Lp ρ K mg H us xs
  | .dct t kvs => kvs.length ≤ sizeLine ∧ ((t = false ∧ ∃ ks, H a = some (.dK ks) ∧ URk Lp ρ K mg H kvs ks) ∨ (t = true ∧ ∃ ks, H a = some (.dT ks) ∧ URt Lp ρ K mg H kvs ks))
  | .ins cn fs => ∃ C dx fV, H a = some (.ins C dx fV) ∧ CI K mg cn C ∧ fs.length ≤ 900 ∧ URf Lp ρ K mg H fs fV ∧ ∀ f ∈ fs.map (·.1), NoAttr K C (nm f)
  | .gone => True
  | .ld t kvs => kvs.length ≤ sizeLine ∧ ((t = false ∧ ∃ od ks, H a = some (.frz od (.dK ks)) ∧ URk Lp ρ K mg H kvs ks) ∨ (t = true ∧ ∃ od ks, H a = some (.frz od (.dT ks)) ∧ URt Lp ρ K mg H kvs ks))
structure Rel (K : PySem.W.Frag) (mg : Str → Option Value) (Pr : Addr → Prop) (ρ : List Addr) (s : S) (H : Hp) : Prop where
  len : ρ.length = s.length
  nd : ∀ (i j : Nat) (a : Addr), ρ[i]? = some a → ρ[j]? = some a → i = j
  ob : ∀ (i : Nat) (o : O) (a : Addr), s[i]? = some o → ρ[i]? = some a → OR (Lv Pr ρ s) ρ K mg H a o
  dom : ∀ a ∈ ρ, H a ≠ none
  pr : ∀ a, Pr a → H a ≠ none ∧ a ∉ ρ
/-- a dict, which may be locked for ever -/
def isD : HO → Prop
  | .dK _ => True
  | .dT _ => True
  | _ => False
/-- a thing that may be changed at all -/
def isM : HO → Prop
  | .lst _ => True
  | .dK _ => True
  | .dT _ => True
  | .ins _ _ _ => True
  | .frz _ (.dK _) => True
  | .frz _ (.dT _) => True
  | _ => False
/-- what comes behind: the store has grown, nothing but what may be changed is changed -/
structure Ext (Pr : Addr → Prop) (ρ : List Addr) (s : S) (H : Hp) (ρ' : List Addr) (s' : S) (H' : Hp) : Prop where
  pre : ∀ (i : Nat) (a : Addr), ρ[i]? = some a → ρ'[i]? = some a
  keep : ∀ b o, H b = some o → ¬ Lv Pr ρ s b → H' b = some o ∨ (isD o ∧ ∃ od, H' b = some (.frz od o))
  new : ∀ b, Lw ρ' s' b → Lw ρ s b ∨ H b = none
  dom : ∀ b, H b ≠ none → H' b ≠ none
  prot : ∀ b, Pr b → H' b = H b
  lk : ∀ (i : Nat) (o : O) (a : Addr), s[i]? = some o → isL o = true → ρ[i]? = some a → s'[i]? = some o ∧ H' a = H a
theorem Ext.refl (Pr : Addr → Prop) (ρ : List Addr) (s : S) (H : Hp) : Ext Pr ρ s H ρ s H := ⟨fun _ _ h => h, fun _ _ h _ => .inl h, fun _ h => .inl h, fun _ h => h, fun _ _ => rfl, fun _ _ _ h _ _ => ⟨h, rfl⟩⟩
theorem Ext.trans {Pr : Addr → Prop} {ρ ρ1 ρ2 : List Addr} {s s1 s2 : S} {H H1 H2 : Hp} (a : Ext Pr ρ s H ρ1 s1 H1) (b : Ext Pr ρ1 s1 H1 ρ2 s2 H2) : Ext Pr ρ s H ρ2 s2 H2 := by
  refine ⟨fun i x h => b.pre i x (a.pre i x h), fun c o h n => ?_, fun c h => ?_, fun c h => b.dom c (a.dom c h), fun c h => (b.prot c h).trans (a.prot c h), fun i o x h1 h2 h3 => let ⟨g1, g2⟩ := a.lk i o x h1 h2 h3; let ⟨g3, g4⟩ := b.lk i o x g1 h2 (a.pre i x h3); ⟨g3, g4.trans g2⟩⟩
  · have n1 : ¬ Lv Pr ρ1 s1 c := fun l => by
      rcases l with l | l
      · exact n (.inl l)
      · rcases a.new c l with q | q
        · exact n (.inr q)
        · rw [h] at q; cases q
    rcases a.keep c o h n with q | ⟨d, od, q⟩
    · exact b.keep c o q n1
    · rcases b.keep c _ q n1 with q2 | ⟨q2, _⟩
      · exact .inr ⟨d, od, q2⟩
      · exact q2.elim
  · rcases b.new c h with q | q
    · exact a.new c q
    · refine .inr ?_
      cases e : H c with
      | none => rfl
      | some o => exact absurd q (a.dom c (by rw [e]; exact fun z => nomatch z))
/-- nothing of the store stands at a tuple, at a locked thing -/
theorem Rel.notM {K : PySem.W.Frag} {mg : Str → Option Value} {Pr : Addr → Prop} {ρ : List Addr} {s : S} {H : Hp} (r : Rel K mg Pr ρ s H) {a : Addr} {u : HO} (h : H a = some u) (hu : ¬ isM u) : ¬ Lw ρ s a := by
  rintro ⟨i, o, h1, h2, h3⟩
  have q := r.ob i o a h1 h3
  cases o with
  | lst us => obtain ⟨xs, e, _⟩ := q; rw [h] at e; cases e; exact hu trivial
  | dct t kvs =>
    rcases q.2 with ⟨_, ks, e, _⟩ | ⟨_, ks, e, _⟩
    · rw [h] at e; cases e; exact hu trivial
    · rw [h] at e; cases e; exact hu trivial
  | ins cn fs => obtain ⟨C, dx, fV, e, _⟩ := q; rw [h] at e; cases e; exact hu trivial
  | gone => cases h2
  | ld t kvs =>
    rcases q.2 with ⟨_, od, ks, e, _⟩ | ⟨_, od, ks, e, _⟩
    · rw [h] at e; cases e; exact hu trivial
    · rw [h] at e; cases e; exact hu trivial
section
variable {K : PySem.W.Frag} {mg : Str → Option Value} {Pr : Addr → Prop} {ρ ρ' : List Addr} {s s' : S} {H H' : Hp}
/-- what cannot be changed stays -/
theorem Ext.fix (e : Ext Pr ρ s H ρ' s' H') (r : Rel K mg Pr ρ s H) {b : Addr} {o : HO} (h : H b = some o) (hm : ¬ isM o := by exact fun z => z) : H' b = some o := by
  by_cases hp : Pr b
  · rw [e.prot b hp]; exact h
  · have n : ¬ Lv Pr ρ s b := fun l => l.elim hp (r.notM h hm)
    rcases e.keep b o h n with q | ⟨q, _⟩
    · exact q
    · exact absurd (by cases o <;> first | exact trivial | exact q.elim) hm
/-- what nobody changes stays -/
theorem Ext.old (e : Ext Pr ρ s H ρ' s' H') (b : Addr) (o : HO) (h : H b = some o) (n : ¬ Lv Pr ρ s b) (hd : ¬ isD o := by exact fun z => z) : H' b = some o := by
  rcases e.keep b o h n with q | ⟨q, _⟩
  · exact q
  · exact absurd q hd
theorem Ext.rd (e : Ext Pr ρ s H ρ' s' H') (r : Rel K mg Pr ρ s H) {a : Addr} {u : HO} (h : Rd H a u) (n : ¬ Lv Pr ρ s a) : Rd H' a u := by
  rcases h with h | ⟨o, h⟩
  · rcases e.keep a _ h n with q | ⟨_, od, q⟩
    · exact .inl q
    · exact .inr ⟨od, q⟩
  · rcases e.keep a _ h n with q | ⟨q, _⟩
    · exact .inr ⟨o, q⟩
    · exact q.elim
theorem Ext.sqt (e : Ext Pr ρ s H ρ' s' H') (r : Rel K mg Pr ρ s H) {a : Addr} {xs : List V} (h : SqT K H a xs) : SqT K H' a xs := by
  rcases h with h | h
  · rcases h with h | ⟨o, h⟩
    · exact .inl (.inl (e.fix r h))
    · exact .inl (.inr ⟨o, e.fix r h⟩)
  · exact .inr h
theorem Ext.nlv (e : Ext Pr ρ s H ρ' s' H') {a : Addr} {u : HO} (h : Rd H a u) (n : ¬ Lv Pr ρ s a) : ¬ Lv Pr ρ' s' a := fun l => by
  rcases l with l | l
  · exact n (.inl l)
  · rcases e.new a l with q | q
    · exact n (.inr q)
    · rcases h with h | ⟨o, h⟩
      · rw [h] at q; cases q
      · rw [h] at q; cases q
mutual
theorem UR.ext (r : Rel K mg Pr ρ s H) (e : Ext Pr ρ s H ρ' s' H') : ∀ (u : U) (v : V), UR (Lv Pr ρ s) ρ K mg H u v → UR (Lv Pr ρ' s') ρ' K mg H' u v
  | .non, v, h => h
  | .bl _, v, h => h
  | .int _, v, h => h
  | .str _, v, h => h
  | .tup us, v, h => by
    obtain ⟨a, xs, h1, h2, h3, h4⟩ := h
    exact ⟨a, xs, h1, e.fix r h2, h3, URs.ext r e us xs h4⟩
  | .lst us, v, h => by
    obtain ⟨a, xs, h1, h2, n, h3, h4⟩ := h
    exact ⟨a, xs, h1, e.old a _ h2 n, e.nlv (.inl h2) n, h3, URs.ext r e us xs h4⟩
  | .scr us, v, h => by
    obtain ⟨a, xs, h1, h2, h3, h4⟩ := h
    exact ⟨a, xs, h1, h2.fix (fun o q => e.fix r q), h3, URs.ext r e us xs h4⟩
  | .wt us, v, h => by
    obtain ⟨a, xs, h1, h2, h3, h4⟩ := h
    exact ⟨a, xs, h1, e.sqt r h2, h3, URs.ext r e us xs h4⟩
  | .dct t kvs, v, h => by
    obtain ⟨a, h1, n, h3, h4⟩ := h
    rcases h4 with ⟨h0, ks, h4, h5⟩ | ⟨h0, ks, h4, h5⟩
    · exact ⟨a, h1, e.nlv h4 n, h3, .inl ⟨h0, ks, e.rd r h4 n, URk.ext r e kvs ks h5⟩⟩
    · exact ⟨a, h1, e.nlv h4 n, h3, .inr ⟨h0, ks, e.rd r h4 n, URt.ext r e kvs ks h5⟩⟩
  | .ref i, v, h => by
    obtain ⟨a, h1, h2⟩ := h
    exact ⟨a, e.pre i a h1, h2⟩
  | .obj cn fs, v, h => by
    obtain ⟨a, C, dx, fV, h1, h2, n, h3, h4, h5⟩ := h
    exact ⟨a, C, dx, fV, h1, e.old a _ h2 n, e.nlv (.inl h2) n, h3, h4, URf.ext r e fs fV h5⟩
theorem URs.ext (r : Rel K mg Pr ρ s H) (e : Ext Pr ρ s H ρ' s' H') : ∀ (us : List U) (xs : List V), URs (Lv Pr ρ s) ρ K mg H us xs → URs (Lv Pr ρ' s') ρ' K mg H' us xs
  | [], xs, h => h
  | u :: us, xs, h => by
    obtain ⟨x, t, h1, h2, h3⟩ := h
    exact ⟨x, t, h1, UR.ext r e u x h2, URs.ext r e us t h3⟩
theorem URk.ext (r : Rel K mg Pr ρ s H) (e : Ext Pr ρ s H ρ' s' H') : ∀ (us : List (Ky × U)) (xs : List (Key × V)), URk (Lv Pr ρ s) ρ K mg H us xs → URk (Lv Pr ρ' s') ρ' K mg H' us xs
  | [], xs, h => h
  | (k, u) :: us, xs, h => by
    obtain ⟨kk, x, t, h1, h0, h2, h3⟩ := h
    exact ⟨kk, x, t, h1, h0, UR.ext r e u x h2, URk.ext r e us t h3⟩
theorem URt.ext (r : Rel K mg Pr ρ s H) (e : Ext Pr ρ s H ρ' s' H') : ∀ (us : List (Ky × U)) (xs : List (List Key × V)), URt (Lv Pr ρ s) ρ K mg H us xs → URt (Lv Pr ρ' s') ρ' K mg H' us xs
  | [], xs, h => h
  | (k, u) :: us, xs, h => by
    obtain ⟨kk, x, t, h1, h0, h2, h3⟩ := h
    exact ⟨kk, x, t, h1, h0, UR.ext r e u x h2, URt.ext r e us t h3⟩
theorem URf.ext (r : Rel K mg Pr ρ s H) (e : Ext Pr ρ s H ρ' s' H') : ∀ (us : List (Nat × U)) (xs : List (Str × V)), URf (Lv Pr ρ s) ρ K mg H us xs → URf (Lv Pr ρ' s') ρ' K mg H' us xs
  | [], xs, h => h
  | (k, u) :: us, xs, h => by
    obtain ⟨x, t, h1, h2, h3⟩ := h
    exact ⟨x, t, h1, UR.ext r e u x h2, URf.ext r e us t h3⟩
end
end
end Mo
/-! Mo2: readings by a mirror; how results and stores are carried. -/
namespace Mo
open PySem PySem.Spec PyProof.Rows L2
theorem isL_G {o : O} (h : isL o = true) : isG o = false := by cases o <;> first | rfl | cases h
section
variable {K : PySem.W.Frag} {mg : Str → Option Value} {Pr : Addr → Prop} {ρ ρ' ρ1 : List Addr} {s s' s1 : S} {H H' H1 : Hp}
/-- a thing of the store that is changed, made, frozen -/
theorem OR.ext (r : Rel K mg Pr ρ s H) (e : Ext Pr ρ s H ρ' s' H') {a : Addr} (ha : H' a = H a) : ∀ {o : O}, OR (Lv Pr ρ s) ρ K mg H a o → OR (Lv Pr ρ' s') ρ' K mg H' a o
  | .lst us, h => by
    obtain ⟨xs, h1, h2, h3⟩ := h
    exact ⟨xs, ha.trans h1, h2, URs.ext r e us xs h3⟩
  | .dct t kvs, h => by
    obtain ⟨h0, h⟩ := h
    rcases h with ⟨ht, ks, h1, h2⟩ | ⟨ht, ks, h1, h2⟩
    · exact ⟨h0, .inl ⟨ht, ks, ha.trans h1, URk.ext r e kvs ks h2⟩⟩
    · exact ⟨h0, .inr ⟨ht, ks, ha.trans h1, URt.ext r e kvs ks h2⟩⟩
  | .ins cn fs, h => by
    obtain ⟨C, dx, fV, h1, h2, h3, h4, h5⟩ := h
    exact ⟨C, dx, fV, ha.trans h1, h2, h3, URf.ext r e fs fV h4, h5⟩
  | .gone, h => trivial
  | .ld t kvs, h => by
    obtain ⟨h0, h⟩ := h
    rcases h with ⟨ht, od, ks, h1, h2⟩ | ⟨ht, od, ks, h1, h2⟩
    · exact ⟨h0, .inl ⟨ht, od, ks, ha.trans h1, URk.ext r e kvs ks h2⟩⟩
    · exact ⟨h0, .inr ⟨ht, od, ks, ha.trans h1, URt.ext r e kvs ks h2⟩⟩
theorem Rel.nofree (r : Rel K mg Pr ρ s H) {p : Addr} (hp : H p = none) : p ∉ ρ := fun h => r.dom p h hp
theorem Rel.nlw (r : Rel K mg Pr ρ s H) {p : Addr} (hp : H p = none) : ¬ Lw ρ s p := fun ⟨i, o, _, _, h⟩ => r.nofree hp (List.mem_of_getElem? h)
theorem Rel.npr (r : Rel K mg Pr ρ s H) {p : Addr} (hp : H p = none) : ¬ Pr p := fun h => (r.pr p h).1 hp
theorem Rel.nlv (r : Rel K mg Pr ρ s H) {p : Addr} (hp : H p = none) : ¬ Lv Pr ρ s p := fun l => l.elim (r.npr hp) (r.nlw hp)
/-- a new thing that nobody changes -/
theorem Rel.fresh (r : Rel K mg Pr ρ s H) {p : Addr} (o : HO) (hp : H p = none) : Ext Pr ρ s H ρ s (upd H p o) ∧ Rel K mg Pr ρ s (upd H p o) ∧ ¬ Lv Pr ρ s p := by
  have e : Ext Pr ρ s H ρ s (upd H p o) := by
    refine ⟨fun _ _ h => h, fun b u h _ => ?_, fun b l => .inl l, fun b h => ?_, fun b h => ?_, fun i ob a h1 _ h3 => ⟨h1, upd_ne fun q => r.nofree hp (q ▸ List.mem_of_getElem? h3)⟩⟩
    · rw [upd_ne (ne_of_none h hp)]; exact .inl h
    · by_cases q : b = p
      · subst q; rw [upd_same]; exact fun z => by cases z
      · rw [upd_ne q]; exact h
    · exact upd_ne fun q => r.npr hp (q ▸ h)
  refine ⟨e, ⟨r.len, r.nd, fun i o' a h1 h2 => ?_, fun a h => e.dom a (r.dom a h), fun a h => ⟨e.dom a (r.pr a h).1, (r.pr a h).2⟩⟩, r.nlv hp⟩
  refine OR.ext r e ?_ (r.ob i o' a h1 h2)
  have : a ≠ p := fun q => r.nofree hp (q ▸ List.mem_of_getElem? h2)
  exact upd_ne this
/-- a dict that nobody changes is locked -/
theorem Rel.lock (r : Rel K mg Pr ρ s H) {d : Addr} {u : HO} (od : Obj) (hd : H d = some u) (hu : isD u) (hn : ¬ Lv Pr ρ s d) : Ext Pr ρ s H ρ s (upd H d (.frz od u)) ∧ Rel K mg Pr ρ s (upd H d (.frz od u)) := by
  have e : Ext Pr ρ s H ρ s (upd H d (.frz od u)) := by
    refine ⟨fun _ _ h => h, fun b o h _ => ?_, fun b l => .inl l, fun b h => ?_, fun b h => ?_, fun i ob a h1 h2 h3 => ⟨h1, upd_ne fun q => hn (.inr ⟨i, ob, h1, isL_G h2, q ▸ h3⟩)⟩⟩
    · by_cases q : b = d
      · subst q; rw [hd] at h; cases h; exact .inr ⟨hu, od, upd_same⟩
      · rw [upd_ne q]; exact .inl h
    · by_cases q : b = d
      · subst q; rw [upd_same]; exact fun z => by cases z
      · rw [upd_ne q]; exact h
    · exact upd_ne fun q => hn (.inl (q ▸ h))
  refine ⟨e, ⟨r.len, r.nd, fun i o' a h1 h2 => ?_, fun a h => e.dom a (r.dom a h), fun a h => ⟨e.dom a (r.pr a h).1, (r.pr a h).2⟩⟩⟩
  by_cases hg : isG o' = true
  · cases o' with
    | gone => trivial
    | _ => cases hg
  · refine OR.ext r e ?_ (r.ob i o' a h1 h2)
    exact upd_ne fun q => hn (.inr ⟨i, o', h1, by simpa using hg, q ▸ h2⟩)
/-- a new thing of the store -/
theorem Rel.push (r : Rel K mg Pr ρ s H) {p : Addr} {o : O} {ho : HO} (hp : H p = none) (h : Ext Pr ρ s H (ρ ++ [p]) (s ++ [o]) (upd H p ho) → OR (Lv Pr (ρ ++ [p]) (s ++ [o])) (ρ ++ [p]) K mg (upd H p ho) p o) :
    Ext Pr ρ s H (ρ ++ [p]) (s ++ [o]) (upd H p ho) ∧ Rel K mg Pr (ρ ++ [p]) (s ++ [o]) (upd H p ho) ∧ (ρ ++ [p])[s.length]? = some p := by
  have hz : (ρ ++ [p])[s.length]? = some p := by rw [← r.len]; simp
  have lvn : ∀ b, Lw (ρ ++ [p]) (s ++ [o]) b → Lw ρ s b ∨ b = p := fun b ⟨i, o', h1, h2, h3⟩ => by
    by_cases hi : i < s.length
    · rw [List.getElem?_append_left hi] at h1
      rw [List.getElem?_append_left (by rw [r.len]; exact hi)] at h3
      exact .inl ⟨i, o', h1, h2, h3⟩
    · have : i < (s ++ [o]).length := (List.getElem?_eq_some_iff.mp h1).1
      rw [List.length_append, List.length_singleton] at this
      have hi : i = s.length := by omega
      subst hi
      rw [hz] at h3
      exact .inr (Option.some.inj h3).symm
  have lvo : ∀ b, Lw ρ s b → Lw (ρ ++ [p]) (s ++ [o]) b := fun b ⟨i, o', h1, h2, h3⟩ =>
    ⟨i, o', by rw [List.getElem?_append_left (List.getElem?_eq_some_iff.mp h1).1]; exact h1, h2, by rw [List.getElem?_append_left (List.getElem?_eq_some_iff.mp h3).1]; exact h3⟩
  have e : Ext Pr ρ s H (ρ ++ [p]) (s ++ [o]) (upd H p ho) := by
    refine ⟨fun i a h => ?_, fun b u h _ => ?_, fun b l => ?_, fun b h => ?_, fun b h => ?_, fun i ob a h1 _ h3 => ⟨?_, upd_ne fun q => r.nofree hp (q ▸ List.mem_of_getElem? h3)⟩⟩
    · rw [List.getElem?_append_left (List.getElem?_eq_some_iff.mp h).1]; exact h
    · rw [upd_ne (ne_of_none h hp)]; exact .inl h
    · rcases lvn b l with q | q
      · exact .inl q
      · subst q; exact .inr hp
    · by_cases q : b = p
      · subst q; rw [upd_same]; exact fun z => by cases z
      · rw [upd_ne q]; exact h
    · exact upd_ne fun q => by subst q; exact r.npr hp ‹Pr b›
    · rw [List.getElem?_append_left (List.getElem?_eq_some_iff.mp h1).1]; exact h1
  refine ⟨e, ⟨by simp [r.len], fun i j a h1 h2 => ?_, fun i o' a h1 h2 => ?_, fun a h => ?_, fun a h => ⟨e.dom a (r.pr a h).1, fun q => ?_⟩⟩, hz⟩
  · by_cases hi : i < ρ.length
    · rw [List.getElem?_append_left hi] at h1
      by_cases hj : j < ρ.length
      · rw [List.getElem?_append_left hj] at h2
        exact r.nd i j a h1 h2
      · have : j < (ρ ++ [p]).length := (List.getElem?_eq_some_iff.mp h2).1
        rw [List.length_append, List.length_singleton] at this
        have hj : j = s.length := by have := r.len; omega
        subst hj
        rw [hz] at h2
        cases h2
        exact absurd (List.mem_of_getElem? h1) (r.nofree hp)
    · have : i < (ρ ++ [p]).length := (List.getElem?_eq_some_iff.mp h1).1
      rw [List.length_append, List.length_singleton] at this
      have hi : i = s.length := by have := r.len; omega
      subst hi
      rw [hz] at h1
      cases h1
      by_cases hj : j < ρ.length
      · rw [List.getElem?_append_left hj] at h2
        exact absurd (List.mem_of_getElem? h2) (r.nofree hp)
      · have : j < (ρ ++ [p]).length := (List.getElem?_eq_some_iff.mp h2).1
        rw [List.length_append, List.length_singleton] at this
        have := r.len
        omega
  · by_cases hi : i < s.length
    · rw [List.getElem?_append_left hi] at h1
      rw [List.getElem?_append_left (by rw [r.len]; exact hi)] at h2
      refine OR.ext r e ?_ (r.ob i o' a h1 h2)
      exact upd_ne fun q => r.nofree hp (q ▸ List.mem_of_getElem? h2)
    · have : i < (s ++ [o]).length := (List.getElem?_eq_some_iff.mp h1).1
      rw [List.length_append, List.length_singleton] at this
      have hi : i = s.length := by omega
      subst hi
      rw [hz] at h2
      cases h2
      have : o' = o := by simpa using h1.symm
      subst this
      exact h e
  · rcases List.mem_append.mp h with q | q
    · exact e.dom a (r.dom a q)
    · have : a = p := by simpa using q
      subst this
      rw [upd_same]; exact fun z => by cases z
  · rcases List.mem_append.mp q with q | q
    · exact (r.pr a h).2 q
    · have : a = p := by simpa using q
      subst this
      exact r.npr hp ‹Pr a›
/-- a thing of the store changed -/
theorem Rel.put (r : Rel K mg Pr ρ s H) {i : Nat} {a : Addr} {o o' : O} {ho : HO} (hi : s[i]? = some o) (ho1 : isG o = false) (ho2 : isL o = false) (ha : ρ[i]? = some a) (h : Ext Pr ρ s H ρ (s.set i o') (upd H a ho) → OR (Lv Pr ρ (s.set i o')) ρ K mg (upd H a ho) a o') :
    Ext Pr ρ s H ρ (s.set i o') (upd H a ho) ∧ Rel K mg Pr ρ (s.set i o') (upd H a ho) := by
  have hlv : Lw ρ s a := ⟨i, o, hi, ho1, ha⟩
  have hlt : i < s.length := (List.getElem?_eq_some_iff.mp hi).1
  have lvn : ∀ b, Lw ρ (s.set i o') b → Lw ρ s b := fun b ⟨j, u, h1, h2, h3⟩ => by
    by_cases hj : i = j
    · subst hj
      rw [ha] at h3; cases h3
      exact hlv
    · rw [List.getElem?_set_ne hj] at h1
      exact ⟨j, u, h1, h2, h3⟩
  have lvo : ∀ b, Lw ρ s b → b ≠ a → Lw ρ (s.set i o') b := fun b ⟨j, u, h1, h2, h3⟩ hb => by
    have hj : i ≠ j := fun q => by subst q; rw [ha] at h3; cases h3; exact hb rfl
    exact ⟨j, u, by rw [List.getElem?_set_ne hj]; exact h1, h2, h3⟩
  have e : Ext Pr ρ s H ρ (s.set i o') (upd H a ho) := by
    refine ⟨fun _ _ h => h, fun b u hb n => ?_, fun b l => .inl (lvn b l), fun b hb => ?_, fun b h => ?_, fun j ob b h1 h2 h3 => ?_⟩
    · have nb : b ≠ a := fun q => by subst q; exact n (.inr hlv)
      rw [upd_ne nb]; exact .inl hb
    · by_cases q : b = a
      · subst q; rw [upd_same]; exact fun z => by cases z
      · rw [upd_ne q]; exact hb
    · exact upd_ne fun q => (r.pr b h).2 (q ▸ List.mem_of_getElem? ha)
    · have hj : i ≠ j := fun q => by subst q; rw [hi] at h1; cases h1; rw [ho2] at h2; cases h2
      exact ⟨by rw [List.getElem?_set_ne hj]; exact h1, upd_ne fun q => hj (r.nd i j a ha (q ▸ h3))⟩
  refine ⟨e, ⟨by simp [r.len], r.nd, fun j u b h1 h2 => ?_, fun b hb => e.dom b (r.dom b hb), fun b h => ⟨e.dom b (r.pr b h).1, (r.pr b h).2⟩⟩⟩
  by_cases hj : i = j
  · subst hj
    rw [ha] at h2; cases h2
    rw [List.getElem?_set_self hlt] at h1
    cases h1
    exact h e
  · rw [List.getElem?_set_ne hj] at h1
    refine OR.ext r e ?_ (r.ob j u b h1 h2)
    exact upd_ne fun q => hj (r.nd i j a ha (q ▸ h2))
/-- a thing of the store is frozen: from now on it is data -/
theorem Rel.freeze (r : Rel K mg Pr ρ s H) {i : Nat} {a : Addr} {o : O} (hi : s[i]? = some o) (ho1 : isG o = false) (ho2 : isL o = false) (ha : ρ[i]? = some a) :
    Ext Pr ρ s H ρ (s.set i .gone) H ∧ Rel K mg Pr ρ (s.set i .gone) H ∧ ¬ Lv Pr ρ (s.set i .gone) a := by
  have hlv : Lw ρ s a := ⟨i, o, hi, ho1, ha⟩
  have hlt : i < s.length := (List.getElem?_eq_some_iff.mp hi).1
  have e : Ext Pr ρ s H ρ (s.set i .gone) H := by
    refine ⟨fun _ _ h => h, fun b u hb n => .inl hb, fun b ⟨j, u, h1, h2, h3⟩ => ?_, fun b hb => hb, fun _ _ => rfl, fun j ob b h1 h2 h3 => ⟨?_, rfl⟩⟩
    · by_cases hj : i = j
      · subst hj
        rw [ha] at h3; cases h3
        exact .inl hlv
      · rw [List.getElem?_set_ne hj] at h1
        exact .inl ⟨j, u, h1, h2, h3⟩
    · have hj : i ≠ j := fun q => by subst q; rw [hi] at h1; cases h1; rw [ho2] at h2; cases h2
      rw [List.getElem?_set_ne hj]; exact h1
  refine ⟨e, ⟨by simp [r.len], r.nd, fun j u b h1 h2 => ?_, r.dom, r.pr⟩, fun l => ?_⟩
  · by_cases hj : i = j
    · subst hj
      rw [List.getElem?_set_self hlt] at h1
      cases h1
      trivial
    · rw [List.getElem?_set_ne hj] at h1
      exact OR.ext r e rfl (r.ob j u b h1 h2)
  · rcases l with l | ⟨j, u, h1, h2, h3⟩
    · exact (r.pr a l).2 (List.mem_of_getElem? ha)
    · have hj : i = j := r.nd i j a ha h3
      subst hj
      rw [List.getElem?_set_self hlt] at h1
      cases h1
      cases h2
end

/-! ### results -/
abbrev RT (α β : Type) := (Addr → Prop) → List Addr → Hp → α → β → Prop
/-- what a result wants: of a value and of an exception -/
def OkA {α β : Type} (rl : RT α β) (K : PySem.W.Frag) (mg : Str → Option Value) (Pr : Addr → Prop) (ρ : List Addr) (s : S) (H : Hp) (Q : β → Hp → Prop) (W : XV → List Addr → S → Hp → Prop) : R α → Prop
  | .ok a s' => ∀ ρ' H' x, Ext Pr ρ s H ρ' s' H' → Rel K mg Pr ρ' s' H' → rl (Lv Pr ρ' s') ρ' H' a x → Q x H'
  | .ex e s' => ∀ ρ' H', Ext Pr ρ s H ρ' s' H' → Rel K mg Pr ρ' s' H' → W e ρ' s' H'
  | .no => False
section
variable {α β γ δ : Type} {rl : RT α β} {rl2 : RT γ δ} {K : PySem.W.Frag} {mg : Str → Option Value} {Pr : Addr → Prop} {ρ ρ' ρ1 : List Addr} {s s' s1 : S} {H H' H1 : Hp} {Q Q' : β → Hp → Prop} {Q2 : δ → Hp → Prop} {W : XV → List Addr → S → Hp → Prop}
theorem OkA.ext {r : R α} (e : Ext Pr ρ s H ρ1 s1 H1) (h : OkA rl K mg Pr ρ s H Q W r) : OkA rl K mg Pr ρ1 s1 H1 Q W r := by
  cases r with
  | ok a s' => exact fun ρ' H' x e' r' hx => h ρ' H' x (e.trans e') r' hx
  | ex x s' => exact fun ρ' H' e' r' => h ρ' H' (e.trans e') r'
  | no => exact h
theorem OkA.mono {r : R α} (h : OkA rl K mg Pr ρ s H Q W r) (hQ : ∀ x H', Q x H' → Q' x H') : OkA rl K mg Pr ρ s H Q' W r := by
  cases r with
  | ok a s' => exact fun ρ' H' x e' r' hx => hQ _ _ (h ρ' H' x e' r' hx)
  | ex x s' => exact h
  | no => exact h
theorem OkA.bind {m : R α} {k : α → S → R γ} (h : OkA rl2 K mg Pr ρ s H Q2 W (m.bind k)) :
    OkA rl K mg Pr ρ s H (fun x H1 => ∃ ρ1 s1 a, Rel K mg Pr ρ1 s1 H1 ∧ Ext Pr ρ s H ρ1 s1 H1 ∧ rl (Lv Pr ρ1 s1) ρ1 H1 a x ∧ OkA rl2 K mg Pr ρ1 s1 H1 Q2 W (k a s1)) W m := by
  cases m with
  | ok a s' => exact fun ρ' H' x e' r' hx => ⟨ρ', s', a, r', e', hx, OkA.ext e' h⟩
  | ex x s' => exact h
  | no => exact h
end
/-- slots -/
def LR (Lp : Addr → Prop) (ρ : List Addr) (K : PySem.W.Frag) (mg : Str → Option Value) (H : Hp) (l : L) (σ : L2.St) : Prop := l.length = σ.length ∧ ∀ (i : Nat) (u : U), l[i]? = some (some u) → ∃ v, σ[i]? = some (some v) ∧ UR Lp ρ K mg H u v
theorem LR.ext {K : PySem.W.Frag} {mg : Str → Option Value} {Pr : Addr → Prop} {ρ ρ' : List Addr} {s s' : S} {H H' : Hp} (r : Rel K mg Pr ρ s H) (e : Ext Pr ρ s H ρ' s' H') {l : L} {σ : L2.St} (h : LR (Lv Pr ρ s) ρ K mg H l σ) : LR (Lv Pr ρ' s') ρ' K mg H' l σ :=
  ⟨h.1, fun i u hi => let ⟨v, h1, h2⟩ := h.2 i u hi; ⟨v, h1, UR.ext r e u v h2⟩⟩
theorem LR.set {Lp : Addr → Prop} {ρ : List Addr} {K : PySem.W.Frag} {mg : Str → Option Value} {H : Hp} {l : L} {σ : L2.St} (h : LR Lp ρ K mg H l σ) (i : Nat) {u : U} {v : V} (r : UR Lp ρ K mg H u v) : LR Lp ρ K mg H (l.set i (some u)) (σ.set i (some v)) := by
  refine ⟨by simp [h.1], fun j w hj => ?_⟩
  by_cases q : i = j
  · subst q
    by_cases hi : i < l.length
    · rw [List.getElem?_set_self hi] at hj
      cases hj
      exact ⟨v, List.getElem?_set_self (by rw [← h.1]; exact hi), r⟩
    · rw [List.getElem?_eq_none (by simpa using Nat.le_of_not_lt hi)] at hj; cases hj
  · rw [List.getElem?_set_ne q] at hj
    rw [List.getElem?_set_ne q]
    exact h.2 j w hj
/-- an exception: its class, its own dict -/
def XR (Pr : Addr → Prop) (ρ : List Addr) (s : S) (K : PySem.W.Frag) (mg : Str → Option Value) (H : Hp) (x : XV) (c : Value) (d : Option Addr) : Prop :=
  ∃ C, mg (nm x.cn) = some (.ref C) ∧ c = .ref C ∧ (x.fs = [] ∨ ∃ dd fV, d = some dd ∧ H dd = some (.xd fV) ∧ URf (Lv Pr ρ s) ρ K mg H x.fs fV)
/-- what is wished of exceptions, by the mirror's -/
abbrev wX (K : PySem.W.Frag) (mg : Str → Option Value) (Pr : Addr → Prop) (W : Value → Option Addr → Hp → Prop) : XV → List Addr → S → Hp → Prop := fun x ρ s H => ∀ c d, XR Pr ρ s K mg H x c d → W c d H
abbrev rU (K : PySem.W.Frag) (mg : Str → Option Value) : RT U V := fun Lp ρ H u v => UR Lp ρ K mg H u v
abbrev rUs (K : PySem.W.Frag) (mg : Str → Option Value) : RT (List U) (List V) := fun Lp ρ H u v => URs Lp ρ K mg H u v
abbrev rB : RT Bool Bool := fun _ _ _ u v => u = v
abbrev OkU (K : PySem.W.Frag) (mg : Str → Option Value) (Pr : Addr → Prop) (ρ : List Addr) (s : S) (H : Hp) (Q : VK) (W : Value → Option Addr → Hp → Prop) : R U → Prop := OkA (rU K mg) K mg Pr ρ s H Q (wX K mg Pr W)

/-- a mirror's readings -/
def TM (K : PySem.W.Frag) (mg : Str → Option Value) (W : WX) (m : EM) : TE := fun σ H Q => ∃ Pr ρ l s, Rel K mg Pr ρ s H ∧ LR (Lv Pr ρ s) ρ K mg H l σ ∧ OkA (rU K mg) K mg Pr ρ s H Q (wX K mg Pr fun c d H' => W c d σ H') (m l s)
def TB (K : PySem.W.Frag) (mg : Str → Option Value) (W : WX) (m : TMt) : TT := fun σ H Q => ∃ Pr ρ l s, Rel K mg Pr ρ s H ∧ LR (Lv Pr ρ s) ρ K mg H l σ ∧ OkA rB K mg Pr ρ s H Q (wX K mg Pr fun c d H' => W c d σ H') (m l s)
def TL (K : PySem.W.Frag) (mg : Str → Option Value) (W : WX) (m : AM) : TA := fun σ H Q => ∃ Pr ρ l s, Rel K mg Pr ρ s H ∧ LR (Lv Pr ρ s) ρ K mg H l σ ∧ OkA (rUs K mg) K mg Pr ρ s H Q (wX K mg Pr fun c d H' => W c d σ H') (m l s)
/-- what a statement's end wants -/
def OkF (K : PySem.W.Frag) (mg : Str → Option Value) (Pr : Addr → Prop) (ρ : List Addr) (s : S) (H : Hp) (D : Ends) (W : WX) : F → Prop
  | .nx l' s' => ∀ ρ' H' σ', Ext Pr ρ s H ρ' s' H' → Rel K mg Pr ρ' s' H' → LR (Lv Pr ρ' s') ρ' K mg H' l' σ' → D.nx σ' H'
  | .rt u s' => ∀ ρ' H' v, Ext Pr ρ s H ρ' s' H' → Rel K mg Pr ρ' s' H' → UR (Lv Pr ρ' s') ρ' K mg H' u v → D.rt v H'
  | .bk l' s' => ∀ ρ' H' σ', Ext Pr ρ s H ρ' s' H' → Rel K mg Pr ρ' s' H' → LR (Lv Pr ρ' s') ρ' K mg H' l' σ' → D.bk σ' H'
  | .ct l' s' => ∀ ρ' H' σ', Ext Pr ρ s H ρ' s' H' → Rel K mg Pr ρ' s' H' → LR (Lv Pr ρ' s') ρ' K mg H' l' σ' → D.ct σ' H'
  | .ex x l' s' => ∀ ρ' H' σ' c d, Ext Pr ρ s H ρ' s' H' → Rel K mg Pr ρ' s' H' → LR (Lv Pr ρ' s') ρ' K mg H' l' σ' → XR Pr ρ' s' K mg H' x c d → W c d σ' H'
  | .no => False
theorem OkF.ext {K : PySem.W.Frag} {mg : Str → Option Value} {Pr : Addr → Prop} {ρ ρ1 : List Addr} {s s1 : S} {H H1 : Hp} {D : Ends} {W : WX} {f : F} (e : Ext Pr ρ s H ρ1 s1 H1) (h : OkF K mg Pr ρ s H D W f) : OkF K mg Pr ρ1 s1 H1 D W f := by
  cases f with
  | nx l' s' => exact fun ρ' H' σ' e' => h ρ' H' σ' (e.trans e')
  | rt u s' => exact fun ρ' H' σ' e' => h ρ' H' σ' (e.trans e')
  | bk l' s' => exact fun ρ' H' σ' e' => h ρ' H' σ' (e.trans e')
  | ct l' s' => exact fun ρ' H' σ' e' => h ρ' H' σ' (e.trans e')
  | ex x l' s' => exact fun ρ' H' σ' c d e' => h ρ' H' σ' c d (e.trans e')
  | no => exact h
def TF (K : PySem.W.Frag) (mg : Str → Option Value) (W : WX) (m : SM) : TS := fun D σ H => ∃ Pr ρ l s, Rel K mg Pr ρ s H ∧ LR (Lv Pr ρ s) ρ K mg H l σ ∧ OkF K mg Pr ρ s H D W (m l s)
end Mo
/-! Mo3: expressions by their mirrors: names, constants, operators of ints and texts, comparisons, and, or, not, tests. -/
namespace Mo
open PySem PySem.Spec PyProof.Rows L2
/-! ### weakening -/
theorem PE.imp {X : Cx} {e : Expr} {t t' : TE} (h : PE X e t) (f : ∀ σ H Q, t' σ H Q → t σ H Q) : PE X e t' := ⟨fun pins s σ H Q I q => h.run pins s σ H Q I (f σ H Q q)⟩
theorem PT.imp {X : Cx} {e : Expr} {t t' : TT} (h : PT X e t) (f : ∀ σ H Q, t' σ H Q → t σ H Q) : PT X e t' := ⟨fun pins s σ H Q I q => h.run pins s σ H Q I (f σ H Q q)⟩
theorem PA.imp {X : Cx} {e : List Expr} {t t' : TA} (h : PA X e t) (f : ∀ σ H Q, t' σ H Q → t σ H Q) : PA X e t' := ⟨fun pos pins s σ H Q I q => h.run pos pins s σ H Q I (f σ H Q q)⟩
theorem PS.imp {X : Cx} {e : Stmt} {t t' : TS} (h : PS X e t) (f : ∀ D σ H, t' D σ H → t D σ H) : PS X e t' := ⟨fun pins s σ H D I q => h.run pins s σ H D I (f D σ H q)⟩
theorem PSs.imp {X : Cx} {e : List Stmt} {t t' : TS} (h : PSs X e t) (f : ∀ D σ H, t' D σ H → t D σ H) : PSs X e t' := ⟨fun pins s σ H D I q => h.run pins s σ H D I (f D σ H q)⟩

/-! ### operations on data -/
abbrev G0 := Option (U × S)
def liftG : G0 → R U
  | some (u, s) => .ok u s
  | none => .no
/-- what an operation's result wants -/
def OkG (K : PySem.W.Frag) (mg : Str → Option Value) (Pr : Addr → Prop) (ρ : List Addr) (s : S) (H : Hp) (Q : VK) : G0 → Prop
  | some (u, s') => ∀ ρ' H' v, Ext Pr ρ s H ρ' s' H' → Rel K mg Pr ρ' s' H' → UR (Lv Pr ρ' s') ρ' K mg H' u v → Q v H'
  | none => False
theorem OkG.of {K : PySem.W.Frag} {mg : Str → Option Value} {Pr : Addr → Prop} {ρ : List Addr} {s : S} {H : Hp} {Q : VK} {W : XV → List Addr → S → Hp → Prop} {g : G0} (h : OkA (rU K mg) K mg Pr ρ s H Q W (liftG g)) : OkG K mg Pr ρ s H Q g := by
  cases g with
  | none => exact h
  | some p => exact h
def Op1 (X : Cx) (f : Value → Sem Value) (g : U → S → G0) : Prop :=
  ∀ (pins : List (Addr × Obj)) (sh : Shared) (σ : L2.St) (H : Hp) (Pr : Addr → Prop) (ρ : List Addr) (s : S) (x : V) (v : Value) (u : U) (Q : VK), Inv X pins σ H sh → Rel X.K X.mg Pr ρ s H → UR (Lv Pr ρ s) ρ X.K X.mg H u x → RelV x v →
    OkG X.K X.mg Pr ρ s H Q (g u s) → wpAny (model X.prog X.w) X.A (f v) (EP X pins σ Q) X.xe sh
def Op2 (X : Cx) (f : Value → Value → Sem Value) (g : U → U → S → G0) : Prop :=
  ∀ (pins : List (Addr × Obj)) (sh : Shared) (σ : L2.St) (H : Hp) (Pr : Addr → Prop) (ρ : List Addr) (s : S) (x y : V) (v w : Value) (u u' : U) (Q : VK), Inv X pins σ H sh → Rel X.K X.mg Pr ρ s H → UR (Lv Pr ρ s) ρ X.K X.mg H u x → UR (Lv Pr ρ s) ρ X.K X.mg H u' y → RelV x v → RelV y w →
    OkG X.K X.mg Pr ρ s H Q (g u u' s) → wpAny (model X.prog X.w) X.A (f v w) (EP X pins σ Q) X.xe sh
/-- a call of a known value -/
def OpN (X : Cx) (f : Value) (g : List U → S → G0) : Prop :=
  ∀ (pins : List (Addr × Obj)) (sh : Shared) (σ : L2.St) (H : Hp) (Pr : Addr → Prop) (ρ : List Addr) (s : S) (xs : List V) (vs : List Value) (us : List U) (Q : VK), Inv X pins σ H sh → Rel X.K X.mg Pr ρ s H → URs (Lv Pr ρ s) ρ X.K X.mg H us xs → Vals xs vs →
    OkG X.K X.mg Pr ρ s H Q (g us s) → wpAny (model X.prog X.w) X.A (call f vs) (EP X pins σ Q) X.xe sh
/-- the end of an operation that changes nothing -/
theorem OkG.here {K : PySem.W.Frag} {mg : Str → Option Value} {Pr : Addr → Prop} {ρ : List Addr} {s : S} {H : Hp} {Q : VK} {u : U} {v : V} (h : OkG K mg Pr ρ s H Q (some (u, s))) (r : Rel K mg Pr ρ s H) (q : UR (Lv Pr ρ s) ρ K mg H u v) : Q v H := h ρ H v (Ext.refl _ _ _ _) r q
/-- .. that makes a new thing of data -/
theorem OkG.new {K : PySem.W.Frag} {mg : Str → Option Value} {Pr : Addr → Prop} {ρ : List Addr} {s : S} {H : Hp} {Q : VK} {u : U} {p : Addr} {o : HO} (h : OkG K mg Pr ρ s H Q (some (u, s))) (r : Rel K mg Pr ρ s H) (hp : H p = none)
    (q : Ext Pr ρ s H ρ s (upd H p o) → Rel K mg Pr ρ s (upd H p o) → ¬ Lv Pr ρ s p → UR (Lv Pr ρ s) ρ K mg (upd H p o) u (.ref p)) : Q (.ref p) (upd H p o) := by
  obtain ⟨e, r', n⟩ := r.fresh o hp
  exact h ρ _ _ e r' (q e r' n)
section
variable {X : Cx} {W : WX} {a b c : Expr} {m m1 m2 m3 : EM} {pos : Pos}
def mV (i : Nat) : EM := fun l s => match l[i]? with
  | some (some u) => .ok u s
  | _ => .no
def mK (u : U) : EM := fun _ s => .ok u s
theorem me_var {i : Nat} {x : Str} (h : PE X (.Name x pos) (tVar i)) : PE X (.Name x pos) (TM X.K X.mg W (mV i)) := by
  refine PE.imp h fun σ H Q q => ?_
  obtain ⟨Pr, ρ, l, s, r, lr, q⟩ := q
  unfold mV at q
  cases e : l[i]? with
  | none => rw [e] at q; exact q.elim
  | some o =>
    cases o with
    | none => rw [e] at q; exact q.elim
    | some u =>
      rw [e] at q
      obtain ⟨v, h1, h2⟩ := lr.2 i u e
      exact ⟨v, h1, q ρ H v (Ext.refl _ _ _ _) r h2⟩
theorem mv (i : Nat) {x : Str} (hN : X.N[i]? = some x := by rfl) (hv : Vis X.env.scope x := by first | exact Or.inl rfl | exact Or.inr (Or.inl rfl) | exact Or.inr (Or.inr rfl)) (hd : (x == ("__debug__" : Str)) = false := by decide)
    (hcd : (x == ("__classdict__" : Str)) = false := by decide) : PE X (.Name x pos) (TM X.K X.mg W (mV i)) := me_var (pe_var hN hv hd hcd)
/-- a value that is known -/
theorem me_C {e : Expr} {u : U} {v : V} (h : PE X e (tC v)) (hu : ∀ Lp ρ H, UR Lp ρ X.K X.mg H u v) : PE X e (TM X.K X.mg W (mK u)) := by
  refine PE.imp h fun σ H Q q => ?_
  obtain ⟨Pr, ρ, l, s, r, lr, q⟩ := q
  exact q ρ H v (Ext.refl _ _ _ _) r (hu _ _ _)
theorem me_int {i : Int} {j} : PE X (.Constant (.int i) j pos) (TM X.K X.mg W (mK (.int i))) := me_C pe_int fun _ _ _ => rfl
theorem me_bl {b : Bool} {j} : PE X (.Constant (.bool b) j pos) (TM X.K X.mg W (mK (.bl b))) := me_C pe_bl fun _ _ _ => rfl
theorem me_non {j} : PE X (.Constant .none j pos) (TM X.K X.mg W (mK .non)) := me_C pe_non fun _ _ _ => rfl
theorem me_str {z : Str} {j} (x : List Nat) (h : z = st x := by decide +kernel) (hl : x.length ≤ sizeLine := by decide) : PE X (.Constant (.str z) j pos) (TM X.K X.mg W (mK (.str x))) := me_C pe_str fun _ _ _ => ⟨by rw [h], hl⟩
theorem me_globI {x : Str} {i : Int} {t : Tok} (hg : Gl X x) (hm : X.mg x = some (.int i t)) (hd : (x == ("__debug__" : Str)) = false := by decide) : PE X (.Name x pos) (TM X.K X.mg W (mK (.int i))) := me_C (pe_glob (v := .int i) hg hm ⟨_, rfl⟩ hd) fun _ _ _ => rfl
theorem me_globS {x z : Str} {t : Tok} (y : List Nat) (hg : Gl X x) (hm : X.mg x = some (.str z t)) (h : z = st y := by decide +kernel) (hl : y.length ≤ sizeLine := by decide) (hd : (x == ("__debug__" : Str)) = false := by decide) :
    PE X (.Name x pos) (TM X.K X.mg W (mK (.str y))) := me_C (pe_glob (v := .str z) hg hm ⟨_, rfl⟩ hd) fun _ _ _ => ⟨by rw [h], hl⟩

/-- two, three in a row -/
def eOp (g : U → U → S → G0) (m1 m2 : EM) : EM := fun l s => (m1 l s).bind fun u s1 => (m2 l s1).bind fun v s2 => liftG (g u v s2)
def eUn (g : U → S → G0) (m1 : EM) : EM := fun l s => (m1 l s).bind fun u s1 => liftG (g u s1)
/-- the second one from where the first one ends -/
theorem TM.then {m : EM} {k : U → L → S → R U} {σ : L2.St} {H : Hp} {Q : VK} (h : TM X.K X.mg W (fun l s => (m l s).bind fun u s1 => k u l s1) σ H Q) :
    TM X.K X.mg W m σ H (fun x H1 => ∃ Pr ρ1 l s1 u, Rel X.K X.mg Pr ρ1 s1 H1 ∧ LR (Lv Pr ρ1 s1) ρ1 X.K X.mg H1 l σ ∧ UR (Lv Pr ρ1 s1) ρ1 X.K X.mg H1 u x ∧ OkA (rU X.K X.mg) X.K X.mg Pr ρ1 s1 H1 Q (wX X.K X.mg Pr fun c d H' => W c d σ H') (k u l s1)) := by
  obtain ⟨Pr, ρ, l, s, r, lr, q⟩ := h
  refine ⟨Pr, ρ, l, s, r, lr, ?_⟩
  refine OkA.mono (OkA.bind (rl := rU X.K X.mg) q) fun x H1 ⟨ρ1, s1, u, r1, e1, hu, hk⟩ => ?_
  exact ⟨Pr, ρ1, l, s1, u, r1, LR.ext r e1 lr, hu, hk⟩
theorem TM.two {m1 m2 : EM} {k : U → U → S → R U} {σ : L2.St} {H : Hp} {Q : VK} (h : TM X.K X.mg W (fun l s => (m1 l s).bind fun u s1 => (m2 l s1).bind fun v s2 => k u v s2) σ H Q) :
    TM X.K X.mg W m1 σ H fun x H1 => TM X.K X.mg W m2 σ H1 fun y H2 => ∃ Pr ρ s u v, Rel X.K X.mg Pr ρ s H2 ∧ UR (Lv Pr ρ s) ρ X.K X.mg H2 u x ∧ UR (Lv Pr ρ s) ρ X.K X.mg H2 v y ∧ OkA (rU X.K X.mg) X.K X.mg Pr ρ s H2 Q (wX X.K X.mg Pr fun c d H' => W c d σ H') (k u v s) := by
  have h1 := TM.then (m := m1) (k := fun u l s1 => (m2 l s1).bind fun v s2 => k u v s2) h
  obtain ⟨Pr, ρ, l, s, r, lr, q⟩ := h1
  refine ⟨Pr, ρ, l, s, r, lr, OkA.mono q ?_⟩
  rintro x H1 ⟨Pr, ρ1, l1, s1, u, r1, lr1, hu, hk⟩
  refine ⟨Pr, ρ1, l1, s1, r1, lr1, OkA.mono (OkA.bind (rl := rU X.K X.mg) hk) ?_⟩
  rintro y H2 ⟨ρ2, s2, v, r2, e2, hv, hk2⟩
  exact ⟨Pr, ρ2, s2, u, v, r2, UR.ext r1 e2 u x hu, hv, hk2⟩
theorem me_op {op : Operator} {g : U → U → S → G0} (ho : Op2 X (binaryOp op) g) (ha : PE X a (TM X.K X.mg W m1)) (hb : PE X b (TM X.K X.mg W m2)) : PE X (.BinOp a op b pos) (TM X.K X.mg W (eOp g m1 m2)) := by
  refine ⟨fun pins s σ H Q I h => ?_⟩
  exact wpAny_BinOp (binT ha hb I (TM.two h) fun v w s2 x y H2 I2 rx ry ⟨Pr, ρ, st, u, u', r, hu, hu', q⟩ => ho pins s2 σ H2 Pr ρ st x y v w u u' Q I2 r hu hu' rx ry (OkG.of q))
theorem me_un {op : UnaryOp} {g : U → S → G0} (ho : Op1 X (unaryOp op) g) (ha : PE X a (TM X.K X.mg W m)) : PE X (.UnaryOp op a pos) (TM X.K X.mg W (eUn g m)) := by
  refine ⟨fun pins s σ H Q I h => ?_⟩
  refine UnaryOp_ (thn (ha.run pins s σ H _ I (TM.then (k := fun u l s => liftG (g u s)) h)) fun v s1 ⟨x, H1, I1, r1, Pr, ρ, l, st, u, r, lr, hu, q⟩ => ho pins s1 σ H1 Pr ρ st x v u Q I1 r hu r1 (OkG.of q))
theorem me_cmp {op : CmpOp} {g : U → U → S → G0} (ho : Op2 X (compareOp op) g) (ha : PE X a (TM X.K X.mg W m1)) (hb : PE X b (TM X.K X.mg W m2)) (hm : behindInMarks op b = false) : PE X (.Compare a [op] [b] pos) (TM X.K X.mg W (eOp g m1 m2)) := by
  refine ⟨fun pins s σ H Q I h => ?_⟩
  exact wpAny_Compare1 (binT ha hb I (TM.two h) fun v w s2 x y H2 I2 rx ry ⟨Pr, ρ, st, u, u', r, hu, hu', q⟩ => ho pins s2 σ H2 Pr ρ st x y v w u u' Q I2 r hu hu' rx ry (OkG.of q)) hm
/-- a value as a truth value -/
def asB : R U → R Bool
  | .ok (.bl b) s => .ok b s
  | .ok _ _ => .no
  | .ex x s => .ex x s
  | .no => .no
def mB (m : EM) : TMt := fun l s => asB (m l s)
theorem OkA.asB {K : PySem.W.Frag} {mg : Str → Option Value} {Pr : Addr → Prop} {ρ : List Addr} {s : S} {H : Hp} {Q : Bool → Hp → Prop} {W : XV → List Addr → S → Hp → Prop} {r : R U} (h : OkA rB K mg Pr ρ s H Q W (asB r)) : OkA (rU K mg) K mg Pr ρ s H (fun x H1 => ∃ k, x = .bl k ∧ Q k H1) W r := by
  cases r with
  | ok u s' =>
    cases u with
    | bl b => exact fun ρ' H' x e r hx => ⟨b, hx, h ρ' H' b e r rfl⟩
    | _ => exact h.elim
  | ex x s' => exact h
  | no => exact h
theorem TB.of {m : EM} {σ : L2.St} {H : Hp} {Q : Bool → Hp → Prop} (h : TB X.K X.mg W (mB m) σ H Q) : TM X.K X.mg W m σ H (fun x H1 => ∃ k, x = .bl k ∧ Q k H1) := by
  obtain ⟨Pr, ρ, l, s, r, lr, q⟩ := h
  exact ⟨Pr, ρ, l, s, r, lr, OkA.asB q⟩
theorem mt_cmp {op : CmpOp} {g : U → U → S → G0} (ho : Op2 X (compareOp op) g) (ha : PE X a (TM X.K X.mg W m1)) (hb : PE X b (TM X.K X.mg W m2)) (hm : behindInMarks op b = false) : PT X (.Compare a [op] [b] pos) (TB X.K X.mg W (mB (eOp g m1 m2))) := by
  refine ⟨fun pins s σ H Q I h => ?_⟩
  have h := TM.two (TB.of h)
  refine wpAny_isTrue_Compare1 (thn (ha.run pins s σ H _ I h) fun v s1 ⟨x, H1, I1, r1, q1⟩ => thn (hb.run pins s1 σ H1 _ I1 q1) fun w s2 ⟨y, H2, I2, r2, Pr, ρ, st, u, u', r, hu, hu', q2⟩ =>
    thn (ho pins s2 σ H2 Pr ρ st x y v w u u' _ I2 r hu hu' r1 r2 (OkG.of q2)) fun c s3 ⟨z, H3, I3, r3, k, e, q3⟩ => ?_) hm
  subst e
  cases r3
  exact wpAny_truthy_bool ⟨H3, I3, q3⟩
/-- a call, a name, a subscript, a field whose value is a truth value, as a test -/
theorem mt_val {e : Expr} (h : PE X e (TM X.K X.mg W m)) (he : ∀ whole, isTrue e X.env whole = (do let v ← whole; standAt e.pos; holding [v] (truthy v)) := by intro _; rfl) : PT X e (TB X.K X.mg W (mB m)) :=
  PT.imp (pt_val h he) fun σ H Q q => TB.of q
theorem mt_not {t : TMt} (h : PT X a (TB X.K X.mg W t)) : PT X (.UnaryOp .Not a pos) (TB X.K X.mg W (fun l s => (t l s).bind fun b s1 => .ok (!b) s1)) := by
  refine PT.imp (pt_not h) fun σ H Q q => ?_
  obtain ⟨Pr, ρ, l, s, r, lr, q⟩ := q
  refine ⟨Pr, ρ, l, s, r, lr, OkA.mono (OkA.bind (rl := rB) q) fun b H1 ⟨ρ1, s1, a, r1, e1, hb, hk⟩ => ?_⟩
  subst hb
  exact hk ρ1 H1 _ (Ext.refl _ _ _ _) r1 rfl
def tNotM (t : TMt) : TMt := fun l s => (t l s).bind fun b s1 => .ok (!b) s1
def tAndM (t u : TMt) : TMt := fun l s => (t l s).bind fun b s1 => if b = true then u l s1 else .ok false s1
def tOrM (t u : TMt) : TMt := fun l s => (t l s).bind fun b s1 => if b = true then .ok true s1 else u l s1
theorem TB.ite {t u1 u2 : TMt} {σ : L2.St} {H : Hp} {Q : Bool → Hp → Prop} (h : TB X.K X.mg W (fun l s => (t l s).bind fun b s1 => if b = true then u1 l s1 else u2 l s1) σ H Q) :
    TB X.K X.mg W t σ H fun b H1 => if b = true then TB X.K X.mg W u1 σ H1 Q else TB X.K X.mg W u2 σ H1 Q := by
  obtain ⟨Pr, ρ, l, s, r, lr, q⟩ := h
  refine ⟨Pr, ρ, l, s, r, lr, OkA.mono (OkA.bind (rl := rB) q) fun b H1 ⟨ρ1, s1, a, r1, e1, hb, hk⟩ => ?_⟩
  have hb : a = b := hb
  subst hb
  cases a with
  | true => exact ⟨Pr, ρ1, l, s1, r1, LR.ext r e1 lr, hk⟩
  | false => exact ⟨Pr, ρ1, l, s1, r1, LR.ext r e1 lr, hk⟩
theorem TB.ok {b : Bool} {σ : L2.St} {H : Hp} {Q : Bool → Hp → Prop} (h : TB X.K X.mg W (fun _ s => .ok b s) σ H Q) : Q b H := by
  obtain ⟨Pr, ρ, l, s, r, lr, q⟩ := h
  exact q ρ H b (Ext.refl _ _ _ _) r rfl
variable {t u : TMt} {rest : List Expr}
theorem mw_and1 (ha : PT X a (TB X.K X.mg W t)) : PW X (.BoolOp .And [a] pos) (TB X.K X.mg W t) := pw_and1 ha
theorem mw_or1 (ha : PT X a (TB X.K X.mg W t)) : PW X (.BoolOp .Or [a] pos) (TB X.K X.mg W t) := pw_or1 ha
theorem mw_and (ha : PT X a (TB X.K X.mg W t)) (hb : PW X (.BoolOp .And (b :: rest) pos) (TB X.K X.mg W u)) : PW X (.BoolOp .And (a :: b :: rest) pos) (TB X.K X.mg W (tAndM t u)) := by
  refine ⟨fun wh pins s σ H Q I h => (pw_and ha hb).run wh pins s σ H Q I ?_⟩
  obtain ⟨Pr, ρ, l, s, r, lr, q⟩ := TB.ite (u2 := fun _ s => .ok false s) h
  refine ⟨Pr, ρ, l, s, r, lr, OkA.mono q fun b H1 q => ?_⟩
  cases b with
  | true => exact q
  | false => exact TB.ok q
theorem mw_or (ha : PT X a (TB X.K X.mg W t)) (hb : PW X (.BoolOp .Or (b :: rest) pos) (TB X.K X.mg W u)) : PW X (.BoolOp .Or (a :: b :: rest) pos) (TB X.K X.mg W (tOrM t u)) := by
  refine ⟨fun wh pins s σ H Q I h => (pw_or ha hb).run wh pins s σ H Q I ?_⟩
  obtain ⟨Pr, ρ, l, s, r, lr, q⟩ := TB.ite (u1 := fun _ s => .ok true s) h
  refine ⟨Pr, ρ, l, s, r, lr, OkA.mono q fun b H1 q => ?_⟩
  cases b with
  | true => exact TB.ok q
  | false => exact q
theorem mt_not' (h : PT X a (TB X.K X.mg W t)) : PT X (.UnaryOp .Not a pos) (TB X.K X.mg W (tNotM t)) := mt_not h
/-- a test as a value: a comparison by me_cmp; and, or of truth values -/
def eAndM (m1 m2 : EM) : EM := fun l s => (m1 l s).bind fun u s1 => match u with
  | .bl true => m2 l s1
  | .bl false => .ok (.bl false) s1
  | _ => .no
def eOrM (m1 m2 : EM) : EM := fun l s => (m1 l s).bind fun u s1 => match u with
  | .bl false => m2 l s1
  | .bl true => .ok (.bl true) s1
  | _ => .no
theorem me_one {op} (h : PE X a (TM X.K X.mg W m)) : PE X (.BoolOp op [a] pos) (TM X.K X.mg W m) := pe_one h
theorem me_and (ha : PE X a (TM X.K X.mg W m1)) (hb : PE X (.BoolOp .And (b :: rest) pos) (TM X.K X.mg W m2)) : PE X (.BoolOp .And (a :: b :: rest) pos) (TM X.K X.mg W (eAndM m1 m2)) := by
  refine PE.imp (pe_and ha hb) fun σ H Q q => ?_
  obtain ⟨Pr, ρ, l, s, r, lr, q⟩ := TM.then (k := fun u l s1 => match u with
    | .bl true => m2 l s1
    | .bl false => .ok (.bl false) s1
    | _ => .no) q
  refine ⟨Pr, ρ, l, s, r, lr, OkA.mono q ?_⟩
  rintro x H1 ⟨Pr, ρ1, l1, s1, u, r1, lr1, hu, hk⟩
  cases u with
  | bl b =>
    refine ⟨b, hu, ?_⟩
    cases b with
    | true => exact ⟨Pr, ρ1, l1, s1, r1, lr1, hk⟩
    | false => exact hk ρ1 H1 _ (Ext.refl _ _ _ _) r1 rfl
  | _ => exact hk.elim
theorem me_or (ha : PE X a (TM X.K X.mg W m1)) (hb : PE X (.BoolOp .Or (b :: rest) pos) (TM X.K X.mg W m2)) : PE X (.BoolOp .Or (a :: b :: rest) pos) (TM X.K X.mg W (eOrM m1 m2)) := by
  refine PE.imp (pe_or ha hb) fun σ H Q q => ?_
  obtain ⟨Pr, ρ, l, s, r, lr, q⟩ := TM.then (k := fun u l s1 => match u with
    | .bl false => m2 l s1
    | .bl true => .ok (.bl true) s1
    | _ => .no) q
  refine ⟨Pr, ρ, l, s, r, lr, OkA.mono q ?_⟩
  rintro x H1 ⟨Pr, ρ1, l1, s1, u, r1, lr1, hu, hk⟩
  cases u with
  | bl b =>
    refine ⟨b, hu, ?_⟩
    cases b with
    | true => exact hk ρ1 H1 _ (Ext.refl _ _ _ _) r1 rfl
    | false => exact ⟨Pr, ρ1, l1, s1, r1, lr1, hk⟩
  | _ => exact hk.elim
def eNotM (m : EM) : EM := fun l s => (m l s).bind fun u s1 => match u with
  | .bl b => .ok (.bl (!b)) s1
  | _ => .no
theorem me_not (ha : PE X a (TM X.K X.mg W m)) : PE X (.UnaryOp .Not a pos) (TM X.K X.mg W (eNotM m)) := by
  refine PE.imp (pe_not ha) fun σ H Q q => ?_
  obtain ⟨Pr, ρ, l, s, r, lr, q⟩ := TM.then (k := fun u l s1 => match u with
    | .bl b => .ok (.bl (!b)) s1
    | _ => .no) q
  refine ⟨Pr, ρ, l, s, r, lr, OkA.mono q ?_⟩
  rintro x H1 ⟨Pr, ρ1, l1, s1, u, r1, lr1, hu, hk⟩
  cases u with
  | bl b => exact ⟨b, hu, hk ρ1 H1 _ (Ext.refl _ _ _ _) r1 rfl⟩
  | _ => exact hk.elim
def eIf (t : TMt) (m1 m2 : EM) : EM := fun l s => (t l s).bind fun b s1 => if b = true then m1 l s1 else m2 l s1
theorem me_if (hc : PT X c (TB X.K X.mg W t)) (ha : PE X a (TM X.K X.mg W m1)) (hb : PE X b (TM X.K X.mg W m2)) : PE X (.IfExp c a b pos) (TM X.K X.mg W (eIf t m1 m2)) := by
  refine PE.imp (pe_ifExp hc ha hb) fun σ H Q q => ?_
  obtain ⟨Pr, ρ, l, s, r, lr, q⟩ := q
  refine ⟨Pr, ρ, l, s, r, lr, OkA.mono (OkA.bind (rl := rB) q) fun b H1 ⟨ρ1, s1, a, r1, e1, hb, hk⟩ => ?_⟩
  have hb : a = b := hb
  subst hb
  cases a with
  | true => exact ⟨Pr, ρ1, l, s1, r1, LR.ext r e1 lr, hk⟩
  | false => exact ⟨Pr, ρ1, l, s1, r1, LR.ext r e1 lr, hk⟩
end
end Mo
/-! Mo4: statements, targets, loops, defs and their calls, by their mirrors. -/
namespace Mo
open PySem PySem.Spec PyProof.Rows L2
/-- a result, then a statement's end -/
@[simp] def FR {α : Type} : R α → L → (α → S → F) → F
  | .ok a s, _, k => k a s
  | .ex x s, l, _ => .ex x l s
  | .no, _, _ => .no
def sSeq (a b : SM) : SM := fun l s => match a l s with
  | .nx l1 s1 => b l1 s1
  | o => o
def sSkip : SM := fun l s => .nx l s
def sBrk : SM := fun l s => .bk l s
def sCont : SM := fun l s => .ct l s
def sExpr (m : EM) : SM := fun l s => FR (m l s) l fun _ s1 => .nx l s1
def sRet (m : EM) : SM := fun l s => FR (m l s) l fun u s1 => .rt u s1
def sRetN : SM := fun _ s => .rt .non s
def sIf (t : TMt) (a b : SM) : SM := fun l s => FR (t l s) l fun c s1 => if c = true then a l s1 else b l s1
/-- targets -/
abbrev GM := U → L → S → Option (L × S)
def gNm (i : Nat) : GM := fun u l s => some (l.set i (some u), s)
def gLs : List GM → List U → L → S → Option (L × S)
  | [], [], l, s => some (l, s)
  | g :: gs, u :: us, l, s => match g u l s with
    | some (l1, s1) => gLs gs us l1 s1
    | none => none
  | _, _, _, _ => none
def gTp (gs : List GM) : GM := fun u l s => match u with
  | .tup us => gLs gs us l s
  | .wt us => gLs gs us l s
  | _ => none
def FG : Option (L × S) → (L → S → F) → F
  | some (l, s), k => k l s
  | none, _ => .no
def sAsg (m : EM) (g : GM) : SM := fun l s => FR (m l s) l fun u s1 => FG (g u l s1) fun l2 s2 => .nx l2 s2
section
variable {X : Cx} {W : WX} {e : Expr} {m : EM} {t : TMt} {a b : SM} {pos : Pos} {stt : Stmt} {rest : List Stmt}
theorem OkF.ofA {α β : Type} {rl : RT α β} {K : PySem.W.Frag} {mg : Str → Option Value} {Pr : Addr → Prop} {ρ : List Addr} {s : S} {H : Hp} {D : Ends} {σ : L2.St} {l : L} {r : R α} {k : α → S → F} (hr : Rel K mg Pr ρ s H) (lr : LR (Lv Pr ρ s) ρ K mg H l σ) (h : OkF K mg Pr ρ s H D W (FR r l k)) :
    OkA rl K mg Pr ρ s H (fun x H1 => ∃ ρ1 s1 a, Rel K mg Pr ρ1 s1 H1 ∧ LR (Lv Pr ρ1 s1) ρ1 K mg H1 l σ ∧ rl (Lv Pr ρ1 s1) ρ1 H1 a x ∧ OkF K mg Pr ρ1 s1 H1 D W (k a s1)) (wX K mg Pr fun c d H' => W c d σ H') r := by
  cases r with
  | ok a s' => exact fun ρ' H' x e' r' hx => ⟨ρ', s', a, r', LR.ext hr e' lr, hx, OkF.ext e' h⟩
  | ex x s' => exact fun ρ' H' e' r' c d hx => h ρ' H' σ c d e' r' (LR.ext hr e' lr) hx
  | no => exact h
theorem TF.ofE {k : U → L → S → F} {D : Ends} {σ : L2.St} {H : Hp} (h : TF X.K X.mg W (fun l s => FR (m l s) l fun u s1 => k u l s1) D σ H) :
    TM X.K X.mg W m σ H (fun x H1 => ∃ Pr ρ1 l s1 u, Rel X.K X.mg Pr ρ1 s1 H1 ∧ LR (Lv Pr ρ1 s1) ρ1 X.K X.mg H1 l σ ∧ UR (Lv Pr ρ1 s1) ρ1 X.K X.mg H1 u x ∧ OkF X.K X.mg Pr ρ1 s1 H1 D W (k u l s1)) := by
  obtain ⟨Pr, ρ, l, s, r, lr, q⟩ := h
  exact ⟨Pr, ρ, l, s, r, lr, OkA.mono (OkF.ofA (rl := rU X.K X.mg) r lr q) fun x H1 ⟨ρ1, s1, u, r1, lr1, hu, hk⟩ => ⟨Pr, ρ1, l, s1, u, r1, lr1, hu, hk⟩⟩
theorem TF.ofT {k : Bool → L → S → F} {D : Ends} {σ : L2.St} {H : Hp} (h : TF X.K X.mg W (fun l s => FR (t l s) l fun u s1 => k u l s1) D σ H) :
    TB X.K X.mg W t σ H (fun x H1 => ∃ Pr ρ1 l s1, Rel X.K X.mg Pr ρ1 s1 H1 ∧ LR (Lv Pr ρ1 s1) ρ1 X.K X.mg H1 l σ ∧ OkF X.K X.mg Pr ρ1 s1 H1 D W (k x l s1)) := by
  obtain ⟨Pr, ρ, l, s, r, lr, q⟩ := h
  refine ⟨Pr, ρ, l, s, r, lr, OkA.mono (OkF.ofA (rl := rB) r lr q) fun x H1 ⟨ρ1, s1, u, r1, lr1, hu, hk⟩ => ?_⟩
  have hu : u = x := hu
  subst hu
  exact ⟨Pr, ρ1, l, s1, r1, lr1, hk⟩
theorem mss_nil : PSs X [] (TF X.K X.mg W sSkip) := PSs.imp pss_nil fun D σ H h => by
  obtain ⟨Pr, ρ, l, s, r, lr, q⟩ := h
  exact q ρ H σ (Ext.refl _ _ _ _) r lr
theorem mss_cons (h1 : PS X stt (TF X.K X.mg W a)) (h2 : PSs X rest (TF X.K X.mg W b)) : PSs X (stt :: rest) (TF X.K X.mg W (sSeq a b)) := PSs.imp (pss_cons h1 h2) fun D σ H h => by
  obtain ⟨Pr, ρ, l, s, r, lr, q⟩ := h
  refine ⟨Pr, ρ, l, s, r, lr, ?_⟩
  unfold sSeq at q
  cases e : a l s with
  | nx l1 s1 => rw [e] at q; exact fun ρ' H' σ' e' r' lr' => ⟨Pr, ρ', l1, s1, r', lr', OkF.ext e' q⟩
  | rt u s1 => rw [e] at q; exact q
  | bk l1 s1 => rw [e] at q; exact q
  | ct l1 s1 => rw [e] at q; exact q
  | ex x l1 s1 => rw [e] at q; exact q
  | no => rw [e] at q; exact q
theorem mss_one (h1 : PS X stt (TF X.K X.mg W a)) : PSs X [stt] (TF X.K X.mg W a) := pss_one h1
theorem ms_pass : PS X (.Pass pos) (TF X.K X.mg W sSkip) := PS.imp ps_pass fun D σ H h => by
  obtain ⟨Pr, ρ, l, s, r, lr, q⟩ := h
  exact q ρ H σ (Ext.refl _ _ _ _) r lr
theorem ms_break : PS X (.Break pos) (TF X.K X.mg W sBrk) := PS.imp ps_break fun D σ H h => by
  obtain ⟨Pr, ρ, l, s, r, lr, q⟩ := h
  exact q ρ H σ (Ext.refl _ _ _ _) r lr
theorem ms_cont : PS X (.Continue pos) (TF X.K X.mg W sCont) := PS.imp ps_continue fun D σ H h => by
  obtain ⟨Pr, ρ, l, s, r, lr, q⟩ := h
  exact q ρ H σ (Ext.refl _ _ _ _) r lr
theorem ms_expr (he : PE X e (TM X.K X.mg W m)) (hs : swapsWith e none pos.line X.env = pure false := by rfl) : PS X (.Expr e pos) (TF X.K X.mg W (sExpr m)) := PS.imp (ps_expr he hs) fun D σ H h => by
  obtain ⟨Pr, ρ, l, s, r, lr, q⟩ := TF.ofE (k := fun _ l s1 => .nx l s1) h
  refine ⟨Pr, ρ, l, s, r, lr, OkA.mono q ?_⟩
  rintro x H1 ⟨Pr, ρ1, l1, s1, u, r1, lr1, hu, hk⟩
  exact hk ρ1 H1 σ (Ext.refl _ _ _ _) r1 lr1
theorem ms_ret (he : PE X e (TM X.K X.mg W m)) : PS X (.Return (some e) pos) (TF X.K X.mg W (sRet m)) := PS.imp (ps_ret he) fun D σ H h => by
  obtain ⟨Pr, ρ, l, s, r, lr, q⟩ := TF.ofE (k := fun u _ s1 => .rt u s1) h
  refine ⟨Pr, ρ, l, s, r, lr, OkA.mono q ?_⟩
  rintro x H1 ⟨Pr, ρ1, l1, s1, u, r1, lr1, hu, hk⟩
  exact hk ρ1 H1 x (Ext.refl _ _ _ _) r1 hu
theorem ms_retN : PS X (.Return none pos) (TF X.K X.mg W sRetN) := PS.imp ps_retN fun D σ H h => by
  obtain ⟨Pr, ρ, l, s, r, lr, q⟩ := h
  exact q ρ H .non (Ext.refl _ _ _ _) r rfl
theorem ms_if {c : Expr} {xs ys : List Stmt} (hc : PT X c (TB X.K X.mg W t)) (ha : PSs X xs (TF X.K X.mg W a)) (hb : PSs X ys (TF X.K X.mg W b)) : PS X (.If c xs ys pos) (TF X.K X.mg W (sIf t a b)) := PS.imp (ps_if hc ha hb) fun D σ H h => by
  obtain ⟨Pr, ρ, l, s, r, lr, q⟩ := TF.ofT (k := fun c l s1 => if c = true then a l s1 else b l s1) h
  refine ⟨Pr, ρ, l, s, r, lr, OkA.mono q ?_⟩
  rintro x H1 ⟨Pr, ρ1, l1, s1, r1, lr1, hk⟩
  cases x with
  | true => exact ⟨Pr, ρ1, l1, s1, r1, lr1, hk⟩
  | false => exact ⟨Pr, ρ1, l1, s1, r1, lr1, hk⟩
/-! ### targets -/
def TG (K : PySem.W.Frag) (mg : Str → Option Value) (g : GM) : L2.TG := fun v σ H Q => ∃ Pr ρ l s u, Rel K mg Pr ρ s H ∧ LR (Lv Pr ρ s) ρ K mg H l σ ∧ UR (Lv Pr ρ s) ρ K mg H u v ∧ match g u l s with
  | some (l', s') => ∀ ρ' H' σ', Ext Pr ρ s H ρ' s' H' → Rel K mg Pr ρ' s' H' → LR (Lv Pr ρ' s') ρ' K mg H' l' σ' → Q σ' H'
  | none => False
def TGs (K : PySem.W.Frag) (mg : Str → Option Value) (gs : List GM) : L2.TGs := fun vs σ H Q => ∃ Pr ρ l s us, Rel K mg Pr ρ s H ∧ LR (Lv Pr ρ s) ρ K mg H l σ ∧ URs (Lv Pr ρ s) ρ K mg H us vs ∧ match gLs gs us l s with
  | some (l', s') => ∀ ρ' H' σ', Ext Pr ρ s H ρ' s' H' → Rel K mg Pr ρ' s' H' → LR (Lv Pr ρ' s') ρ' K mg H' l' σ' → Q σ' H'
  | none => False
theorem PG.imp {tg : Expr} {t t' : L2.TG} (h : PG X tg t) (f : ∀ v σ H Q, t' v σ H Q → t v σ H Q) : PG X tg t' := ⟨fun pins s σ H v u Q I r q => h.run pins s σ H v u Q I r (f v σ H Q q)⟩
theorem PGs.imp {tg : List Expr} {t t' : L2.TGs} (h : PGs X tg t) (f : ∀ v σ H Q, t' v σ H Q → t v σ H Q) : PGs X tg t' := ⟨fun pins s σ H v u Q I r q => h.run pins s σ H v u Q I r (f v σ H Q q)⟩
theorem mg_name {i : Nat} {x : Str} (hN : X.N.Nodup) (hi : X.N[i]? = some x := by rfl) (hx : Loc X.env.scope x := by first | exact Or.inl rfl | exact Or.inr rfl) (hf : X.fn x = true ∨ X.env.scope.names.lookup x = some .local := by first | exact .inl rfl | exact .inr rfl | assumption) :
    PG X (.Name x pos) (TG X.K X.mg (gNm i)) := PG.imp (pg_name hN hi hx hf) fun v σ H Q h => by
  obtain ⟨Pr, ρ, l, s, u, r, lr, hu, q⟩ := h
  exact q ρ H _ (Ext.refl _ _ _ _) r (lr.set i hu)
theorem mgs_nil : PGs X [] (TGs X.K X.mg []) := PGs.imp pgs_nil fun v σ H Q h => by
  obtain ⟨Pr, ρ, l, s, us, r, lr, hu, q⟩ := h
  cases us with
  | nil => exact ⟨hu, q ρ H _ (Ext.refl _ _ _ _) r lr⟩
  | cons u us => exact q.elim
theorem mgs_cons {es : List Expr} {g : GM} {gs : List GM} (h1 : PG X e (TG X.K X.mg g)) (h2 : PGs X es (TGs X.K X.mg gs)) (hs : (assignEach (e :: es) X.env).map (·.2) = assign e X.env :: (assignEach es X.env).map (·.2) := by rfl) :
    PGs X (e :: es) (TGs X.K X.mg (g :: gs)) := PGs.imp (pgs_cons h1 h2 hs) fun v σ H Q h => by
  obtain ⟨Pr, ρ, l, s, us, r, lr, hu, q⟩ := h
  cases us with
  | nil => exact q.elim
  | cons u us =>
    obtain ⟨x, t, e1, hx, ht⟩ := hu
    refine ⟨x, t, e1, Pr, ρ, l, s, u, r, lr, hx, ?_⟩
    unfold gLs at q
    cases e : g u l s with
    | none => rw [e] at q; exact q.elim
    | some p =>
      obtain ⟨l1, s1⟩ := p
      rw [e] at q
      intro ρ' H' σ' e' r' lr'
      refine ⟨Pr, ρ', l1, s1, us, r', lr', URs.ext r e' us t ht, ?_⟩
      cases e2 : gLs gs us l1 s1 with
      | none => simp only [e2] at q
      | some p2 =>
        obtain ⟨l2, s2⟩ := p2
        simp only [e2] at q
        exact fun ρ2 H2 σ2 e3 r3 lr3 => q ρ2 H2 σ2 (e'.trans e3) r3 lr3
theorem URs.length {Lp : Addr → Prop} {ρ : List Addr} {K : PySem.W.Frag} {mg : Str → Option Value} {H : Hp} : ∀ {us : List U} {xs : List V}, URs Lp ρ K mg H us xs → xs.length = us.length
  | [], xs, h => by have h : xs = [] := h; subst h; rfl
  | u :: us, xs, h => by
    obtain ⟨x, t, rfl, _, ht⟩ := h
    simp [URs.length ht]
theorem gLs_len : ∀ {gs : List GM} {us : List U} {l : L} {s : S} {p : L × S}, gLs gs us l s = some p → us.length = gs.length
  | [], [], _, _, _, _ => rfl
  | [], _ :: _, _, _, _, h => by cases h
  | _ :: _, [], _, _, _, h => by cases h
  | g :: gs, u :: us, l, s, p, h => by
    unfold gLs at h
    cases e : g u l s with
    | none => rw [e] at h; cases h
    | some q =>
      rw [e] at h
      simp [gLs_len (gs := gs) (us := us) h]
theorem mg_tup {es : List Expr} {k n : Nat} {gs : List GM} (hc : X.calm = true) (h : PGs X es (TGs X.K X.mg gs)) (hl : gs.length = n := by rfl) (hn : (assignEach es X.env).length = n := by rfl) (hst : (assignEach es X.env).findIdx? (·.1) = none := by rfl) :
    PG X (.Tuple es k pos) (TG X.K X.mg (gTp gs)) := PG.imp (pg_tup hc h hn hst) fun v σ H Q h => by
  obtain ⟨Pr, ρ, l, s, u, r, lr, hu, q⟩ := h
  have go : ∀ us a xs, SqT X.K H a xs → URs (Lv Pr ρ s) ρ X.K X.mg H us xs → v = .ref a → (match gLs gs us l s with
      | some (l', s') => ∀ ρ' H' σ', Ext Pr ρ s H ρ' s' H' → Rel X.K X.mg Pr ρ' s' H' → LR (Lv Pr ρ' s') ρ' X.K X.mg H' l' σ' → Q σ' H'
      | none => False) → gTup X.K n (TGs X.K X.mg gs) v σ H Q := fun us a xs h1 h2 ev q => by
    refine ⟨a, xs, ev, h1, ?_, Pr, ρ, l, s, us, r, lr, h2, q⟩
    cases e : gLs gs us l s with
    | none => simp only [e] at q
    | some p => rw [URs.length h2, gLs_len e, hl]
  cases u with
  | tup us =>
    obtain ⟨a, xs, ev, ha, _, hx⟩ := hu
    exact go us a xs (SqT.of ha) hx ev q
  | wt us =>
    obtain ⟨a, xs, ev, ha, _, hx⟩ := hu
    exact go us a xs ha hx ev q
  | _ => exact q.elim
theorem ms_asg {tg : Expr} {g : GM} (he : PE X e (TM X.K X.mg W m)) (hg : PG X tg (TG X.K X.mg g)) (hs : swapsWithSole [tg] e pos.line X.env = pure false := by rfl) (hw : swappedStores [tg] e X.env = pure none := by rfl)
    (h1 : (assignEach [tg] X.env).map (·.2) = [assign tg X.env] := by rfl) : PS X (.Assign [tg] e pos) (TF X.K X.mg W (sAsg m g)) := PS.imp (ps_asg he hg hs hw h1) fun D σ H h => by
  obtain ⟨Pr, ρ, l, s, r, lr, q⟩ := TF.ofE (k := fun u l s1 => FG (g u l s1) fun l2 s2 => .nx l2 s2) h
  refine ⟨Pr, ρ, l, s, r, lr, OkA.mono q ?_⟩
  rintro x H1 ⟨Pr, ρ1, l1, s1, u, r1, lr1, hu, hk⟩
  refine ⟨Pr, ρ1, l1, s1, u, r1, lr1, hu, ?_⟩
  cases e : g u l1 s1 with
  | none => rw [e] at hk; exact hk
  | some p => rw [e] at hk; exact hk
theorem ms_set {i : Nat} {x : Str} {pos' : Pos} (hN : X.N.Nodup) (he : PE X e (TM X.K X.mg W m)) (hi : X.N[i]? = some x := by rfl) (hx : Loc X.env.scope x := by first | exact Or.inl rfl | exact Or.inr rfl) (hs : swapsWith e (some (.Name x pos')) pos.line X.env = pure false := by rfl)
    (hf : X.fn x = true ∨ X.env.scope.names.lookup x = some .local := by first | exact .inl rfl | exact .inr rfl | assumption) :
    PS X (.Assign [.Name x pos'] e pos) (TF X.K X.mg W (sAsg m (gNm i))) := PS.imp (ps_set hN hi hx he hs hf) fun D σ H h => by
  obtain ⟨Pr, ρ, l, s, r, lr, q⟩ := TF.ofE (k := fun u l s1 => FG (gNm i u l s1) fun l2 s2 => .nx l2 s2) h
  refine ⟨Pr, ρ, l, s, r, lr, OkA.mono q ?_⟩
  rintro x H1 ⟨Pr, ρ1, l1, s1, u, r1, lr1, hu, hk⟩
  exact hk ρ1 H1 _ (Ext.refl _ _ _ _) r1 (lr1.set i hu)
end

/-! ### loops -/
def loopM (g : GM) (body : SM) : List U → SM
  | [], l, s => .nx l s
  | u :: us, l, s => match g u l s with
    | none => .no
    | some (l1, s1) => match body l1 s1 with
      | .nx l2 s2 => loopM g body us l2 s2
      | .ct l2 s2 => loopM g body us l2 s2
      | .bk l2 s2 => .nx l2 s2
      | .rt u s2 => .rt u s2
      | .ex x l2 s2 => .ex x l2 s2
      | .no => .no
/-- what is walked: its items -/
abbrev IM := L → S → R (List U)
def sFor (src : IM) (g : GM) (body : SM) : SM := fun l s => FR (src l s) l fun us s1 => loopM g body us l s1
/-- a walk stands for items: it yields them, whatever comes behind -/
def Wk (K : PySem.W.Frag) (mg : Str → Option Value) (Pr : Addr → Prop) (ρ : List Addr) (s : S) (H : Hp) (J : It) (us : List U) : Prop :=
  ∀ (Pr2 : Addr → Prop) ρ' s' H', (∀ a, Pr a → Pr2 a) → (∀ a, Pr2 a → Pr a ∨ H a = none) → Ext Pr ρ s H ρ' s' H' → Rel K mg Pr2 ρ' s' H' → (∀ (i : Nat) (u : U), us[i]? = some u → J.go i H' ∧ ∀ x H'', J.yld i H' x H'' → Ext Pr2 ρ' s' H' ρ' s' H'' ∧ Rel K mg Pr2 ρ' s' H'' ∧ UR (Lv Pr2 ρ' s') ρ' K mg H'' u x) ∧ J.stop us.length H'
def TI (K : PySem.W.Frag) (mg : Str → Option Value) (W : WX) (src : IM) : L2.TI := fun σ H Rr => ∃ Pr ρ l s, Rel K mg Pr ρ s H ∧ LR (Lv Pr ρ s) ρ K mg H l σ ∧ match src l s with
  | .ok us s1 => ∀ ρ1 H1 J, Ext Pr ρ s H ρ1 s1 H1 → Rel K mg Pr ρ1 s1 H1 → Wk K mg Pr ρ1 s1 H1 J us → Rr J H1
  | .ex x s1 => ∀ ρ1 H1 c d, Ext Pr ρ s H ρ1 s1 H1 → Rel K mg Pr ρ1 s1 H1 → XR Pr ρ1 s1 K mg H1 x c d → W c d σ H1
  | .no => False
section
variable {X : Cx} {W : WX} {tg iter c : Expr} {src : IM} {g : GM} {t : TMt} {body : SM} {pos : Pos} {xs : List Stmt}
theorem ms_for (hp : PassesOwn (model X.prog X.w) X.A X.env X.xe) (hc : X.calm = true) (hi : PI X tg iter (TI X.K X.mg W src)) (hg : PG X tg (TG X.K X.mg g)) (hb : PSs X xs (TF X.K X.mg W body)) (hs : ∀ x, foldedSetIterable iter X.env x = pure x := by intro _; rfl) :
    PS X (.For tg iter xs [] pos) (TF X.K X.mg W (sFor src g body)) := PS.imp (ps_for hp hc hi hg hb hs) fun D σ H h => by
  obtain ⟨Pr, ρ, l, s, r, lr, q⟩ := h
  refine ⟨Pr, ρ, l, s, r, lr, ?_⟩
  unfold sFor at q
  cases e : src l s with
  | no => rw [e] at q; exact q
  | ex x s1 => rw [e] at q; exact fun ρ1 H1 c d e1 r1 hx => q ρ1 H1 σ c d e1 r1 (LR.ext r e1 lr) hx
  | ok us s1 =>
    rw [e] at q
    intro ρ1 H1 J e1 r1 wk
    have q : OkF X.K X.mg Pr ρ s H D W (loopM g body us l s1) := q
    refine ⟨fun i m σ' H' => m = us.length - i ∧ i ≤ us.length ∧ ∃ ρ' l' s', Rel X.K X.mg Pr ρ' s' H' ∧ Ext Pr ρ1 s1 H1 ρ' s' H' ∧ LR (Lv Pr ρ' s') ρ' X.K X.mg H' l' σ' ∧ OkF X.K X.mg Pr ρ' s' H' D W (loopM g body (us.drop i) l' s'),
      ⟨us.length, by simp, Nat.zero_le _, ρ1, l, s1, r1, Ext.refl _ _ _ _, LR.ext r e1 lr, OkF.ext e1 q⟩, ?_⟩
    rintro i m σ' H' ⟨rfl, hi, ρ', l', s', r', e', lr', q'⟩
    obtain ⟨w1, w2⟩ := wk Pr ρ' s' H' (fun _ h => h) (fun _ h => .inl h) e' r'
    by_cases hlt : i < us.length
    · obtain ⟨go, yl⟩ := w1 i us[i] (List.getElem?_eq_getElem hlt)
      refine .inr ⟨go, fun σ2 H2 => i + 1 ≤ us.length ∧ ∃ ρ2 l2 s2, Rel X.K X.mg Pr ρ2 s2 H2 ∧ Ext Pr ρ1 s1 H1 ρ2 s2 H2 ∧ LR (Lv Pr ρ2 s2) ρ2 X.K X.mg H2 l2 σ2 ∧ OkF X.K X.mg Pr ρ2 s2 H2 D W (loopM g body (us.drop (i + 1)) l2 s2),
        fun σ2 H2 ⟨hi2, z⟩ => ⟨us.length - (i + 1), by omega, rfl, hi2, z⟩, fun x H'' y => ?_⟩
      obtain ⟨ey, ry, uy⟩ := yl x H'' y
      rw [List.drop_eq_getElem_cons hlt] at q'
      unfold loopM at q'
      refine ⟨Pr, ρ', l', s', us[i], ry, LR.ext r' ey lr', uy, ?_⟩
      cases e2 : g us[i] l' s' with
      | none => simp only [e2] at q'; exact q'
      | some p =>
        obtain ⟨l2, s2⟩ := p
        simp only [e2] at q'
        intro ρ2 H2 σ2 e3 r3 lr3
        refine ⟨Pr, ρ2, l2, s2, r3, lr3, ?_⟩
        have base : Ext Pr ρ' s' H' ρ2 s2 H2 := ey.trans e3
        cases e4 : body l2 s2 with
        | nx l3 s3 => simp only [e4] at q'; exact fun ρ4 H4 σ4 e5 r5 lr5 => ⟨hlt, ρ4, l3, s3, r5, (e'.trans base).trans e5, lr5, OkF.ext (base.trans e5) q'⟩
        | ct l3 s3 => simp only [e4] at q'; exact fun ρ4 H4 σ4 e5 r5 lr5 => ⟨hlt, ρ4, l3, s3, r5, (e'.trans base).trans e5, lr5, OkF.ext (base.trans e5) q'⟩
        | bk l3 s3 => simp only [e4] at q'; exact fun ρ4 H4 σ4 e5 r5 lr5 => q' ρ4 H4 σ4 (base.trans e5) r5 lr5
        | rt u s3 => simp only [e4] at q'; exact fun ρ4 H4 v e5 r5 hv => q' ρ4 H4 v (base.trans e5) r5 hv
        | ex x l3 s3 => simp only [e4] at q'; exact fun ρ4 H4 σ4 c d e5 r5 lr5 hx => q' ρ4 H4 σ4 c d (base.trans e5) r5 lr5 hx
        | no => simp only [e4] at q'; exact q'
    · have hi : i = us.length := by omega
      subst hi
      rw [List.drop_length] at q'
      exact .inl ⟨w2, q' ρ' H' σ' (Ext.refl _ _ _ _) r' lr'⟩
def whileM (t : TMt) (body : SM) : Nat → SM
  | 0, _, _ => .no
  | n + 1, l, s => FR (t l s) l fun b s1 => if b = true then (match body l s1 with
    | .nx l2 s2 => whileM t body n l2 s2
    | .ct l2 s2 => whileM t body n l2 s2
    | .bk l2 s2 => .nx l2 s2
    | .rt u s2 => .rt u s2
    | .ex x l2 s2 => .ex x l2 s2
    | .no => .no) else .nx l s1
/-- more turns than any while of ours has -/
def manyT : Nat := 2 ^ 4000
def sWhile (t : TMt) (body : SM) : SM := whileM t body manyT
theorem ms_while (hp : PassesOwn (model X.prog X.w) X.A X.env X.xe) (hc : PT X c (TB X.K X.mg W t)) (hb : PSs X xs (TF X.K X.mg W body)) : PS X (.While c xs [] pos) (TF X.K X.mg W (sWhile t body)) := PS.imp (ps_while hp hc hb) fun D σ H h => by
  unfold sWhile at h
  generalize manyT = n0 at h
  refine ⟨fun n σ H => TF X.K X.mg W (whileM t body n) D σ H, ⟨n0, h⟩, ?_⟩
  rintro n σ H h
  cases n with
  | zero =>
    obtain ⟨Pr, ρ, l, s, r, lr, q⟩ := h
    exact q.elim
  | succ n =>
    obtain ⟨Pr, ρ, l, s, r, lr, q⟩ := TF.ofT (k := fun b l s1 => if b = true then (match body l s1 with
      | .nx l2 s2 => whileM t body n l2 s2
      | .ct l2 s2 => whileM t body n l2 s2
      | .bk l2 s2 => .nx l2 s2
      | .rt u s2 => .rt u s2
      | .ex x l2 s2 => .ex x l2 s2
      | .no => .no) else .nx l s1) h
    refine ⟨Pr, ρ, l, s, r, lr, OkA.mono q ?_⟩
    rintro b H1 ⟨Pr, ρ1, l1, s1, r1, lr1, hk⟩
    cases b with
    | false => exact hk ρ1 H1 σ (Ext.refl _ _ _ _) r1 lr1
    | true =>
      refine ⟨fun σ' H' => TF X.K X.mg W (whileM t body n) D σ' H', fun σ' H' z => ⟨n, Nat.lt_succ_self n, z⟩, Pr, ρ1, l1, s1, r1, lr1, ?_⟩
      simp only [if_true] at hk
      cases e : body l1 s1 with
      | nx l2 s2 => rw [e] at hk; exact fun ρ2 H2 σ2 e2 r2 lr2 => ⟨Pr, ρ2, l2, s2, r2, lr2, OkF.ext e2 hk⟩
      | ct l2 s2 => rw [e] at hk; exact fun ρ2 H2 σ2 e2 r2 lr2 => ⟨Pr, ρ2, l2, s2, r2, lr2, OkF.ext e2 hk⟩
      | bk l2 s2 => rw [e] at hk; exact hk
      | rt u s2 => rw [e] at hk; exact hk
      | ex x l2 s2 => rw [e] at hk; exact hk
      | no => rw [e] at hk; exact hk
end

/-! ### arguments, defs, calls -/
def aNil : AM := fun _ s => .ok [] s
def aCons (m : EM) (a : AM) : AM := fun l s => (m l s).bind fun u s1 => (a l s1).bind fun us s2 => .ok (u :: us) s2
abbrev Fn := List U → S → R U
/-- a def's body at its arguments, n slots -/
def fnM (n : Nat) (b : SM) : Fn := fun us s => match b (us.map some ++ List.replicate (n - us.length) none) s with
  | .nx _ s1 => .ok .non s1
  | .rt u s1 => .ok u s1
  | .ex x _ s1 => .ex x s1
  | _ => .no
def SpM (K : PySem.W.Frag) (mg : Str → Option Value) (n : Nat) (f : Fn) : Sp := fun vs H Q E => vs.length = n ∧ ∃ Pr ρ s us, Rel K mg Pr ρ s H ∧ URs (Lv Pr ρ s) ρ K mg H us vs ∧ OkA (rU K mg) K mg Pr ρ s H Q (wX K mg Pr E) (f us s)
def eCall (f : Fn) (a : AM) : EM := fun l s => (a l s).bind fun us s1 => f us s1
section
variable {X : Cx} {W : WX} {e : Expr} {es : List Expr} {m : EM} {a : AM} {pos : Pos}
theorem ma_nil : PA X [] (TL X.K X.mg W aNil) := PA.imp pa_nil fun σ H Q h => by
  obtain ⟨Pr, ρ, l, s, r, lr, q⟩ := h
  exact q ρ H [] (Ext.refl _ _ _ _) r rfl
theorem ma_cons (ha : PE X e (TM X.K X.mg W m)) (hr : PA X es (TL X.K X.mg W a)) (hs : starEach (e :: es) X.env = (false, eval e X.env) :: starEach es X.env := by rfl) : PA X (e :: es) (TL X.K X.mg W (aCons m a)) := PA.imp (pa_cons ha hr hs) fun σ H Q h => by
  obtain ⟨Pr, ρ, l, s, r, lr, q⟩ := h
  refine ⟨Pr, ρ, l, s, r, lr, OkA.mono (OkA.bind (rl := rU X.K X.mg) q) ?_⟩
  rintro x H1 ⟨ρ1, s1, u, r1, e1, hu, hk⟩
  refine ⟨Pr, ρ1, l, s1, r1, LR.ext r e1 lr, OkA.mono (OkA.bind (rl := rUs X.K X.mg) hk) ?_⟩
  rintro xs H2 ⟨ρ2, s2, us, r2, e2, hus, hk2⟩
  exact hk2 ρ2 H2 (x :: xs) (Ext.refl _ _ _ _) r2 ⟨x, xs, rfl, UR.ext r1 e2 u x hu, hus⟩
/-- a list of values, then something with it -/
theorem TL.then {k : List U → S → R U} {σ : L2.St} {H : Hp} {Q : VK} (h : TM X.K X.mg W (fun l s => (a l s).bind fun us s1 => k us s1) σ H Q) :
    TL X.K X.mg W a σ H (fun xs H1 => ∃ Pr ρ1 s1 us, Rel X.K X.mg Pr ρ1 s1 H1 ∧ URs (Lv Pr ρ1 s1) ρ1 X.K X.mg H1 us xs ∧ OkA (rU X.K X.mg) X.K X.mg Pr ρ1 s1 H1 Q (wX X.K X.mg Pr fun c d H' => W c d σ H') (k us s1)) := by
  obtain ⟨Pr, ρ, l, s, r, lr, q⟩ := h
  refine ⟨Pr, ρ, l, s, r, lr, OkA.mono (OkA.bind (rl := rUs X.K X.mg) q) ?_⟩
  rintro x H1 ⟨ρ1, s1, us, r1, e1, hu, hk⟩
  exact ⟨Pr, ρ1, s1, us, r1, hu, hk⟩
end
theorem aNil_len (l : L) (s : S) (us : List U) (s1 : S) (h : aNil l s = .ok us s1) : us.length = 0 := by
  unfold aNil at h
  injection h with h1 h2
  subst h1; rfl
theorem aCons_len {m : EM} {a : AM} {n : Nat} (ha : ∀ l s us s1, a l s = .ok us s1 → us.length = n) (l : L) (s : S) (us : List U) (s1 : S) (h : aCons m a l s = .ok us s1) : us.length = n + 1 := by
  unfold aCons at h
  cases e : m l s with
  | no => rw [e] at h; cases h
  | ex x s2 => rw [e] at h; cases h
  | ok u s2 =>
    rw [e] at h
    have h : ((a l s2).bind fun us s2 => R.ok (u :: us) s2) = .ok us s1 := h
    cases e2 : a l s2 with
    | no => rw [e2] at h; cases h
    | ex x s3 => rw [e2] at h; cases h
    | ok ws s3 =>
      rw [e2] at h
      injection h with h1 h2
      subst h1
      simp [ha _ _ _ _ e2]
section
variable {P : Program} {w : World} {K : PySem.W.Frag} {mg : Str → Option Value} {base : Heap}
/-- THE RULE for a def: its body's derivation -/
theorem Fun.okM {x qual : Str} {stt : Stmt} {f : Addr} {fd : FuncData} {N ps : List Str} {k : Nat} {b : SM} (F : Fun K x qual stt f fd) (Sc : FnScope N ps (defScope stt))
    (hbody : ∀ (cdv : Value) (A : Around) (outer : List Env) (s : Shared) (H : Hp) (E : XK), Room k (A.deeper (envOfC qual (defScope stt) s.heap.objs.size f cdv)) →
      PSs (cxOf (L2.CX P w) P w K mg base N qual (defScope stt) f cdv A outer s H E) (defBody stt) (TF K mg (fun cls d _ H => E cls d H) b)) :
    FnOk P w K mg base (L2.CX P w) (k + 1) f fd ps (SpM K mg ps.length (fnM N.length b)) := by
  refine F.okX Sc (fun vs H Q E h => h.1) fun cdv A outer s H vs Q E hr h => ⟨_, hbody cdv A outer s H E hr, ?_⟩
  obtain ⟨hn, Pr, ρ, st0, us, r, hu, q⟩ := h
  have hlen : us.length = vs.length := (URs.length hu).symm
  have get : ∀ {us : List U} {vs : List V} (i : Nat) (u : U), URs (Lv Pr ρ st0) ρ K mg H us vs → us[i]? = some u → ∃ v, vs[i]? = some v ∧ UR (Lv Pr ρ st0) ρ K mg H u v := by
    intro us
    induction us with
    | nil => intro vs i u _ h; cases i <;> cases h
    | cons y ys ih =>
      intro vs i u hs h
      obtain ⟨x, t, rfl, h1, h2⟩ := hs
      cases i with
      | zero => cases h; exact ⟨x, rfl, h1⟩
      | succ i => exact ih i u h2 h
  refine ⟨Pr, ρ, us.map some ++ List.replicate (N.length - us.length) none, st0, r, ⟨?_, fun i u hi => ?_⟩, ?_⟩
  · simp [L2.start, hlen]
  · have hlt : i < us.length := by
      by_cases z : i < us.length
      · exact z
      · rw [List.getElem?_append_right (by simpa using z), List.getElem?_replicate] at hi
        split at hi <;> cases hi
    rw [List.getElem?_append_left (by simpa using hlt), List.getElem?_map] at hi
    cases e : us[i]? with
    | none => rw [e] at hi; cases hi
    | some u' =>
      rw [e] at hi
      cases hi
      obtain ⟨v, h1, h2⟩ := get i u hu e
      refine ⟨v, ?_, h2⟩
      unfold L2.start
      rw [List.getElem?_append_left (by rw [List.length_map, ← hlen]; exact hlt), List.getElem?_map, h1]
      rfl
  · unfold fnM at q
    cases e : b (us.map some ++ List.replicate (N.length - us.length) none) st0 with
    | nx l1 s1 => rw [e] at q; exact fun ρ' H' σ' e' r' lr' => q ρ' H' .non e' r' rfl
    | rt u s1 => rw [e] at q; exact fun ρ' H' v e' r' hv => q ρ' H' v e' r' hv
    | bk l1 s1 => rw [e] at q; exact q.elim
    | ct l1 s1 => rw [e] at q; exact q.elim
    | ex x l1 s1 => rw [e] at q; exact fun ρ' H' σ' c d e' r' lr' hx => q ρ' H' e' r' c d hx
    | no => rw [e] at q; exact q.elim
end
end Mo
/-! Mo5: calls of defs, of classes, of methods; by plain data alone; fields; own operators. -/
namespace Mo
open PySem PySem.Spec PyProof.Rows L2
/-! ### data that lean on no store -/
mutual
def pu : U → Bool
  | .ref _ => false
  | .tup us => pus us
  | .lst us => pus us
  | .scr us => pus us
  | .wt us => pus us
  | .dct _ kvs => puk kvs
  | .obj _ fs => puf fs
  | _ => true
def pus : List U → Bool
  | [] => true
  | u :: us => pu u && pus us
def puk : List (Ky × U) → Bool
  | [] => true
  | (_, u) :: us => pu u && puk us
def puf : List (Nat × U) → Bool
  | [] => true
  | (_, u) :: us => pu u && puf us
end
section
variable {K : PySem.W.Frag} {mg : Str → Option Value} {Lp Lp' : Addr → Prop} {ρ ρ' : List Addr} {H : Hp}
mutual
theorem UR.pure (hl : ∀ a, ¬ Lp a → ¬ Lp' a) : ∀ (u : U) (v : V), pu u = true → UR Lp ρ K mg H u v → UR Lp' ρ' K mg H u v
  | .non, _, _, h => h
  | .bl _, _, _, h => h
  | .int _, _, _, h => h
  | .str _, _, _, h => h
  | .tup us, v, p, h => by
    obtain ⟨a, xs, h1, h2, h3, h4⟩ := h
    exact ⟨a, xs, h1, h2, h3, URs.pure hl us xs p h4⟩
  | .lst us, v, p, h => by
    obtain ⟨a, xs, h1, h2, n, h3, h4⟩ := h
    exact ⟨a, xs, h1, h2, hl a n, h3, URs.pure hl us xs p h4⟩
  | .scr us, v, p, h => by
    obtain ⟨a, xs, h1, h2, h3, h4⟩ := h
    exact ⟨a, xs, h1, h2, h3, URs.pure hl us xs p h4⟩
  | .wt us, v, p, h => by
    obtain ⟨a, xs, h1, h2, h3, h4⟩ := h
    exact ⟨a, xs, h1, h2, h3, URs.pure hl us xs p h4⟩
  | .dct t kvs, v, p, h => by
    obtain ⟨a, h1, n, h3, h4⟩ := h
    rcases h4 with ⟨h0, ks, h4, h5⟩ | ⟨h0, ks, h4, h5⟩
    · exact ⟨a, h1, hl a n, h3, .inl ⟨h0, ks, h4, URk.pure hl kvs ks p h5⟩⟩
    · exact ⟨a, h1, hl a n, h3, .inr ⟨h0, ks, h4, URt.pure hl kvs ks p h5⟩⟩
  | .ref i, v, p, h => by cases p
  | .obj cn fs, v, p, h => by
    obtain ⟨a, C, dx, fV, h1, h2, n, h3, h4, h5⟩ := h
    exact ⟨a, C, dx, fV, h1, h2, hl a n, h3, h4, URf.pure hl fs fV p h5⟩
theorem URs.pure (hl : ∀ a, ¬ Lp a → ¬ Lp' a) : ∀ (us : List U) (xs : List V), pus us = true → URs Lp ρ K mg H us xs → URs Lp' ρ' K mg H us xs
  | [], _, _, h => h
  | u :: us, xs, p, h => by
    obtain ⟨x, t, h1, h2, h3⟩ := h
    have p : (pu u && pus us) = true := p
    rw [Bool.and_eq_true] at p
    exact ⟨x, t, h1, UR.pure hl u x p.1 h2, URs.pure hl us t p.2 h3⟩
theorem URk.pure (hl : ∀ a, ¬ Lp a → ¬ Lp' a) : ∀ (us : List (Ky × U)) (xs : List (Key × V)), puk us = true → URk Lp ρ K mg H us xs → URk Lp' ρ' K mg H us xs
  | [], _, _, h => h
  | (k, u) :: us, xs, p, h => by
    obtain ⟨kk, x, t, h1, h0, h2, h3⟩ := h
    have p : (pu u && puk us) = true := p
    rw [Bool.and_eq_true] at p
    exact ⟨kk, x, t, h1, h0, UR.pure hl u x p.1 h2, URk.pure hl us t p.2 h3⟩
theorem URt.pure (hl : ∀ a, ¬ Lp a → ¬ Lp' a) : ∀ (us : List (Ky × U)) (xs : List (List Key × V)), puk us = true → URt Lp ρ K mg H us xs → URt Lp' ρ' K mg H us xs
  | [], _, _, h => h
  | (k, u) :: us, xs, p, h => by
    obtain ⟨kk, x, t, h1, h0, h2, h3⟩ := h
    have p : (pu u && puk us) = true := p
    rw [Bool.and_eq_true] at p
    exact ⟨kk, x, t, h1, h0, UR.pure hl u x p.1 h2, URt.pure hl us t p.2 h3⟩
theorem URf.pure (hl : ∀ a, ¬ Lp a → ¬ Lp' a) : ∀ (us : List (Nat × U)) (xs : List (Str × V)), puf us = true → URf Lp ρ K mg H us xs → URf Lp' ρ' K mg H us xs
  | [], _, _, h => h
  | (k, u) :: us, xs, p, h => by
    obtain ⟨x, t, h1, h2, h3⟩ := h
    have p : (pu u && puf us) = true := p
    rw [Bool.and_eq_true] at p
    exact ⟨x, t, h1, UR.pure hl u x p.1 h2, URf.pure hl us t p.2 h3⟩
end
end
/-- a call whose arguments and whose answer are plain data: it leaves the store as it is -/
def callP (fm : Fn) : Fn := fun us s => if pus us = true then (match fm us [] with
  | .ok u _ => if pu u = true then .ok u s else .no
  | .ex x _ => if puf x.fs = true then .ex x s else .no
  | .no => .no) else .no
theorem lv_nil {Pr : Addr → Prop} {ρ : List Addr} {a : Addr} (h : Lv Pr ρ [] a) : Pr a := h.elim id fun ⟨i, o, e, _⟩ => by cases i <;> cases e
section
variable {K : PySem.W.Frag} {mg : Str → Option Value} {Pr : Addr → Prop} {ρ ρ' ρ1 : List Addr} {s s' s1 : S} {H H' H1 : Hp}
/-- from outside: all of the store is another's -/
theorem Rel.out (r : Rel K mg Pr ρ s H) : Rel K mg (Lv Pr ρ s) [] [] H := by
  refine ⟨rfl, (fun i j a h => by cases i <;> cases h), (fun i o a h => by cases i <;> cases h), (fun a h => by cases h), fun a h => ⟨?_, by simp⟩⟩
  rcases h with h | ⟨i, o, _, _, h⟩
  · exact (r.pr a h).1
  · exact r.dom a (List.mem_of_getElem? h)
/-- back from there -/
theorem Rel.back (r : Rel K mg Pr ρ s H) (e : Ext (Lv Pr ρ s) ρ1 s1 H ρ' s' H') (hs : ∀ b, Lw ρ1 s1 b → H b = none) : Ext Pr ρ s H ρ s H' ∧ Rel K mg Pr ρ s H' := by
  have e2 : Ext Pr ρ s H ρ s H' := by
    refine ⟨fun _ _ h => h, fun b o h n => e.keep b o h fun l => l.elim n fun l => ?_, fun b h => .inl h, e.dom, fun b h => e.prot b (.inl h), fun i o a h1 h2 h3 => ⟨h1, e.prot a (.inr ⟨i, o, h1, isL_G h2, h3⟩)⟩⟩
    have := hs b l
    rw [h] at this; cases this
  refine ⟨e2, ⟨r.len, r.nd, fun i o a h1 h2 => ?_, fun a h => e2.dom a (r.dom a h), fun a h => ⟨e2.dom a (r.pr a h).1, (r.pr a h).2⟩⟩⟩
  cases hg : isG o with
  | true =>
    cases o with
    | gone => trivial
    | _ => cases hg
  | false => exact OR.ext r e2 (e.prot a (.inr ⟨i, o, h1, hg, h2⟩)) (r.ob i o a h1 h2)
theorem SpM.pure {n : Nat} {fm : Fn} {vs : List V} {Q : VK} {E : XK} (h : SpM K mg n (callP fm) vs H Q E) : SpM K mg n fm vs H Q E := by
  obtain ⟨hn, Pr, ρ, s, us, r, hu, q⟩ := h
  unfold callP at q
  by_cases hp : pus us = true
  · rw [if_pos hp] at q
    refine ⟨hn, Lv Pr ρ s, [], [], us, r.out, URs.pure (fun a n l => n (lv_nil l)) us vs hp hu, ?_⟩
    have no : ∀ b, Lw ([] : List Addr) ([] : S) b → H b = none := fun b ⟨i, o, e, _⟩ => by cases i <;> cases e
    cases e : fm us [] with
    | no => rw [e] at q; exact q
    | ok u s' =>
      simp only [e] at q
      by_cases hu' : pu u = true
      · rw [if_pos hu'] at q
        intro ρ' H' v e' r' hv
        obtain ⟨e2, r2⟩ := r.back e' no
        exact q ρ H' v e2 r2 (UR.pure (fun a n l => n (.inl l)) u v hu' hv)
      · rw [if_neg hu'] at q; exact q.elim
    | ex x s' =>
      simp only [e] at q
      by_cases hu' : puf x.fs = true
      · rw [if_pos hu'] at q
        intro ρ' H' e' r' c d hx
        obtain ⟨e2, r2⟩ := r.back e' no
        refine q ρ H' e2 r2 c d ?_
        obtain ⟨C, h1, h2, h3⟩ := hx
        refine ⟨C, h1, h2, ?_⟩
        rcases h3 with h3 | ⟨dd, fV, h3, h4, h5⟩
        · exact .inl h3
        · exact .inr ⟨dd, fV, h3, h4, URf.pure (fun a n l => n (.inl l)) x.fs fV hu' h5⟩
      · rw [if_neg hu'] at q; exact q.elim
  · rw [if_neg hp] at q; exact q.elim
end
/-! ### what a caller must know of a def -/
structure DefAt (P : Program) (w : World) (K : PySem.W.Frag) (mg : Str → Option Value) (base : Heap) (k : Nat) (f : Addr) (n : Nat) (fm : Fn) : Prop where
  ex : ∃ (fd : FuncData) (ps : List Str) (sp : Sp) (dvs : List V) (ds : List Value), FnOk P w K mg base (L2.CX P w) k f fd ps sp ∧ Binds K fd ps ds ∧ Vals dvs ds ∧ ∀ vs H Q E, SpM K mg n fm vs H Q E → sp (vs ++ dvs) H Q E
structure Def (P : Program) (w : World) (K : PySem.W.Frag) (mg : Str → Option Value) (base : Heap) (k : Nat) (x : Str) (n : Nat) (fm : Fn) : Prop where
  ex : ∃ f, DefAt P w K mg base k f n fm ∧ mg x = some (.ref f) ∧ PySem.W.keepIn K (.ref f) = true
section
variable {P : Program} {w : World} {K : PySem.W.Frag} {mg : Str → Option Value} {base : Heap} {k n : Nat} {x : Str} {fm : Fn} {f : Addr}
theorem DefAt.pure (D : DefAt P w K mg base k f n fm) : DefAt P w K mg base k f n (callP fm) := by
  obtain ⟨fd, ps, sp, dvs, ds, ok, b, d, h⟩ := D.ex
  exact ⟨fd, ps, sp, dvs, ds, ok, b, d, fun vs H Q E q => h vs H Q E q.pure⟩
theorem Def.pure (D : Def P w K mg base k x n fm) : Def P w K mg base k x n (callP fm) := by
  obtain ⟨f, D, hm, hk⟩ := D.ex
  exact ⟨f, D.pure, hm, hk⟩
theorem DefAt.mono {j : Nat} (D : DefAt P w K mg base k f n fm) (h : k ≤ j) : DefAt P w K mg base j f n fm := by
  obtain ⟨fd, ps, sp, dvs, ds, ok, r⟩ := D.ex
  exact ⟨fd, ps, sp, dvs, ds, ok.mono h, r⟩
/-- the last parameters by their defaults -/
theorem DefAt.dflt {n0 : Nat} {fd : FuncData} {ps : List Str} {f0 : Fn} (ok : FnOk P w K mg base (L2.CX P w) k f fd ps (SpM K mg n0 f0)) (dvs : List V) (ds : List Value) (du : List U) (b : Binds K fd ps ds) (hv : Vals dvs ds) (hn : n + dvs.length = n0)
    (hu : ∀ Lp ρ H, URs Lp ρ K mg H du dvs) : DefAt P w K mg base k f n (fun us => f0 (us ++ du)) := by
  refine ⟨fd, ps, _, dvs, ds, ok, b, hv, fun vs H Q E h => ?_⟩
  obtain ⟨h1, Pr, ρ, s, us, r, hus, q⟩ := h
  refine ⟨by rw [List.length_append, h1]; exact hn, Pr, ρ, s, us ++ du, r, ?_, q⟩
  have app : ∀ {us : List U} {vs : List V}, URs (Lv Pr ρ s) ρ K mg H us vs → URs (Lv Pr ρ s) ρ K mg H (us ++ du) (vs ++ dvs) := by
    intro us
    induction us with
    | nil => intro vs h; have h : vs = [] := h; subst h; exact hu _ _ _
    | cons y ys ih =>
      intro vs h
      obtain ⟨x, t, rfl, h1, h2⟩ := h
      exact ⟨x, t ++ dvs, rfl, h1, ih h2⟩
  exact app hus
theorem DefAt.of {fd : FuncData} {ps : List Str} (ok : FnOk P w K mg base (L2.CX P w) k f fd ps (SpM K mg n fm)) (b : Binds K fd ps []) : DefAt P w K mg base k f n fm :=
  ⟨fd, ps, _, [], [], ok, b, .nil, fun vs H Q E h => by rw [List.append_nil]; exact h⟩
end
section
variable {X : Cx} {W : WX} {e o : Expr} {es : List Expr} {m : EM} {a : AM} {pos : Pos} {k n : Nat} {x : Str} {fm : Fn} {f : Addr}
/-- a known def is called with values, here or further in -/
theorem DefAt.run {A : Around} {pins : List (Addr × Obj)} {σ : L2.St} {H : Hp} {s : Shared} {Q : VK} {us : List Value} {vs : List V} (D : DefAt X.prog X.w X.K X.mg X.base k f n fm) (hr : Room k A) (hf : A.frames = X.A.frames) (tk : Takes X W) (I : L2.Inv X pins σ H s) (r : Vals vs us)
    (h : SpM X.K X.mg n fm vs H Q (fun c d H' => W c d σ H')) : wpAny (model X.prog X.w) A (call (.ref f) us) (EP X pins σ Q) X.xe s := by
  obtain ⟨fd, ps, sp, dvs, ds, F, hb, hd, im⟩ := D.ex
  have h := im _ _ _ _ h
  have r2 : Vals (vs ++ dvs) (us ++ ds) := r.append hd
  have hl : (us ++ ds).length = ps.length := by rw [← r2.length]; exact F.len _ _ _ _ h
  have e0 : Env0 X.prog X.w X.K X.mg X.base A X.stack s H := by
    have e := I.env0
    exact ⟨by rw [hf]; exact e.frames, e.mod, e.bs, e.bsz, e.funs, e.frf, e.hok, e.bare⟩
  refine wpAny_call (codeAny_mono (F.run A X.stack s H ⟨us, []⟩ (us ++ ds) (vs ++ dvs) Q _ hr e0 (hb s us I.kIn hl) r2 h) fun r s' hq => ?_)
  cases r with
  | error e => exact passAt tk σ pins H s e s' I hq
  | ok fl =>
    cases fl with
    | ret u => exact I.after hq
    | next => exact False.elim hq
    | brk => exact False.elim hq
    | cont => exact False.elim hq
/-- the reading of a call -/
theorem TL.call {σ : L2.St} {H : Hp} {Q : VK} (hal : ∀ l s us s1, a l s = .ok us s1 → us.length = n) (h : TM X.K X.mg W (eCall fm a) σ H Q) : TL X.K X.mg W a σ H (fun vs H1 => SpM X.K X.mg n fm vs H1 Q (fun c d H' => W c d σ H')) := by
  obtain ⟨Pr, ρ, l, s, r, lr, q⟩ := h
  refine ⟨Pr, ρ, l, s, r, lr, ?_⟩
  unfold eCall at q
  cases e0 : a l s with
  | no => rw [e0] at q; exact q
  | ex x s1 => rw [e0] at q; exact q
  | ok us s1 =>
    rw [e0] at q
    exact fun ρ1 H1 xs e1 r1 hx => ⟨by rw [URs.length hx]; exact hal l s us s1 e0, Pr, ρ1, s1, us, r1, hx, OkA.ext e1 q⟩
theorem me_call {p : Pos} (F : Def X.prog X.w X.K X.mg X.base k x n fm) (hr : Room k X.A) (hg : Gl X x) (tk : Takes X W) (ha : PA X (e :: es) (TL X.K X.mg W a)) (hal : ∀ l s us s1, a l s = .ok us s1 → us.length = n)
    (hdb : (x == ("__debug__" : Str)) = false := by decide) (he : starEach (e :: es) X.env = (false, eval e X.env) :: starEach es X.env := by rfl) (hpl : (backTo pos (starEach es X.env)).any (·.1) = false := by rfl) :
    PE X (.Call (.Name x p) (e :: es) [] pos) (TM X.K X.mg W (eCall fm a)) := by
  obtain ⟨f, D, hm, hk⟩ := F.ex
  refine ⟨fun pins s σ H Q I h => ?_⟩
  refine wpAny_Call_Name_kw (ld_glob I hg hm ?_ hdb)
  refine PySem.W.callWith_K (h₀ := X.base) I.ok.mod.kin hk (thn (ha.run pos pins s σ H _ I (TL.call hal h)) fun us s1 ⟨vs, H1, I1, r, q⟩ => ⟨I1.kIn, ?_⟩) he hpl
  exact D.run hr rfl tk I1 r q
theorem me_call0 {p : Pos} (F : Def X.prog X.w X.K X.mg X.base k x 0 fm) (hr : Room k X.A) (hg : Gl X x) (tk : Takes X W) (hdb : (x == ("__debug__" : Str)) = false := by decide) : PE X (.Call (.Name x p) [] [] pos) (TM X.K X.mg W (eCall fm aNil)) := by
  obtain ⟨f, D, hm, hk⟩ := F.ex
  refine ⟨fun pins s σ H Q I h => ?_⟩
  refine wpAny_Call_Name_kw (ld_glob I hg hm ?_ hdb)
  refine PySem.W.callWith_K0 I.kIn hk (D.run hr rfl tk I .nil ?_)
  obtain ⟨Pr, ρ, l, s, r, lr, q⟩ := h
  exact ⟨rfl, Pr, ρ, s, [], r, rfl, q⟩
/-! ### classes -/
/-- C(..), in the store -/
def mkS (cn : Nat) (fm : Fn) : Fn := fun us s => match fm (.ref s.length :: us) (s ++ [.ins cn []]) with
  | .ok .non s' => .ok (.ref s.length) s'
  | .ex x s' => .ex x s'
  | _ => .no
/-- .. as plain data -/
def mkP (cn : Nat) (fm : Fn) : Fn := fun us s => if pus us = true then (match fm (.ref 0 :: us) [.ins cn []] with
  | .ok .non s' => (match (s'[0]? : Option O) with
    | some (.ins cn' fs) => if (cn' == cn && puf fs) = true then .ok (.obj cn fs) s else .no
    | _ => .no)
  | .ex x _ => if puf x.fs = true then .ex x s else .no
  | _ => .no) else .no
structure CDef (P : Program) (w : World) (K : PySem.W.Frag) (mg : Str → Option Value) (base : Heap) (k : Nat) (x : Str) (cn n : Nat) (fm : Fn) : Prop where
  ex : ∃ C f, DefAt P w K mg base k f n fm ∧ CI K mg cn C ∧ mg x = some (.ref C) ∧ Mk K C f
/-- what the making of an instance wants, by its values -/
def SpC (K : PySem.W.Frag) (mg : Str → Option Value) (n : Nat) (C : Addr) (fm : Fn) : Sp := fun vs H Q E => ∀ x dx, H x = none → H dx = none → dx ≠ x → SpM K mg n fm (.ref x :: vs) (upd (upd H dx (.own x)) x (.ins C dx [])) (fun v H2 => v = .non ∧ Q (.ref x) H2) E
theorem OR.new {K : PySem.W.Frag} {mg : Str → Option Value} {Lp : Addr → Prop} {ρ : List Addr} {H : Hp} {x dx C : Addr} {cn : Nat} (c : CI K mg cn C) : OR Lp ρ K mg (upd H x (.ins C dx [])) x (.ins cn []) :=
  ⟨C, dx, [], upd_same, c, Nat.zero_le _, rfl, fun f hf => by cases hf⟩
theorem SpM.mkS {K : PySem.W.Frag} {mg : Str → Option Value} {C : Addr} {cn : Nat} {vs : List V} {H : Hp} {Q : VK} {E : XK} (c : CI K mg cn C) (h : SpM K mg n (mkS cn fm) vs H Q E) : SpC K mg (n + 1) C fm vs H Q E := by
  obtain ⟨hn, Pr, ρ, s, us, r, hu, q⟩ := h
  intro x dx hx hdx ne
  obtain ⟨e1, r1, n1⟩ := r.fresh (.own x) hdx
  have hx1 : (upd H dx (.own x)) x = none := by rw [upd_ne (Ne.symm ne)]; exact hx
  obtain ⟨e2, r2, g2⟩ := r1.push (o := .ins cn []) (ho := .ins C dx []) hx1 fun _ => OR.new c
  refine ⟨by rw [List.length_cons, hn], Pr, ρ ++ [x], s ++ [.ins cn []], .ref s.length :: us, r2, ⟨.ref x, vs, rfl, ⟨x, g2, rfl⟩, URs.ext r1 e2 us vs (URs.ext r e1 us vs hu)⟩, ?_⟩
  unfold Mo.mkS at q
  cases e : fm (.ref s.length :: us) (s ++ [.ins cn []]) with
  | no => rw [e] at q; exact q
  | ex y s' => rw [e] at q; exact OkA.ext (r := R.ex y s') (e1.trans e2) q
  | ok u s' =>
    simp only [e] at q
    cases u with
    | non =>
      intro ρ' H' v e' r' hv
      refine ⟨hv, q ρ' H' (.ref x) ((e1.trans e2).trans e') r' ⟨x, e'.pre _ _ g2, rfl⟩⟩
    | _ => exact q.elim
theorem SpM.mkP {K : PySem.W.Frag} {mg : Str → Option Value} {C : Addr} {cn : Nat} {vs : List V} {H : Hp} {Q : VK} {E : XK} (c : CI K mg cn C) (h : SpM K mg n (mkP cn fm) vs H Q E) : SpC K mg (n + 1) C fm vs H Q E := by
  obtain ⟨hn, Pr, ρ, s, us, r, hu, q⟩ := h
  intro x dx hx hdx ne
  unfold Mo.mkP at q
  by_cases hp : pus us = true
  · rw [if_pos hp] at q
    obtain ⟨e1, r1, n1⟩ := r.fresh (.own x) hdx
    have hx1 : (upd H dx (.own x)) x = none := by rw [upd_ne (Ne.symm ne)]; exact hx
    have ro := r1.out
    obtain ⟨e2, r2, g2⟩ := ro.push (o := .ins cn []) (ho := .ins C dx []) hx1 fun _ => OR.new c
    refine ⟨by rw [List.length_cons, hn], Lv Pr ρ s, [x], [.ins cn []], .ref 0 :: us, r2, ⟨.ref x, vs, rfl, ⟨x, rfl, rfl⟩, ?_⟩, ?_⟩
    · refine URs.ext ro e2 us vs ?_
      exact URs.pure (fun a n l => n (lv_nil l)) us vs hp (URs.ext r e1 us vs hu)
    · have no : ∀ b, Lw ([] : List Addr) ([] : S) b → (upd H dx (.own x)) b = none := fun b ⟨i, o, e, _⟩ => by cases i <;> cases e
      cases e : fm (.ref 0 :: us) [.ins cn []] with
      | no => rw [e] at q; exact q
      | ex y s' =>
        simp only [e] at q
        by_cases hu' : puf y.fs = true
        · rw [if_pos hu'] at q
          intro ρ' H' e' r' c d hx
          obtain ⟨e3, r3⟩ := r1.back (e2.trans e') no
          refine q ρ H' (e1.trans e3) r3 c d ?_
          obtain ⟨C, h1, h2, h3⟩ := hx
          refine ⟨C, h1, h2, ?_⟩
          rcases h3 with h3 | ⟨dd, fV, h3, h4, h5⟩
          · exact .inl h3
          · exact .inr ⟨dd, fV, h3, h4, URf.pure (fun a n l => n (.inl l)) y.fs fV hu' h5⟩
        · rw [if_neg hu'] at q; exact q.elim
      | ok u s' =>
        simp only [e] at q
        cases u with
        | non =>
          cases e0 : s'[0]? with
          | none => simp only [e0] at q; exact q.elim
          | some o =>
            cases o with
            | ins cn' fs =>
              simp only [e0] at q
              by_cases hb : (cn' == cn && puf fs) = true
              · rw [if_pos hb] at q
                rw [Bool.and_eq_true, beq_iff_eq] at hb
                obtain ⟨hb1, hb2⟩ := hb
                subst hb1
                intro ρ' H' v e' r' hv
                obtain ⟨e3, r3⟩ := r1.back (e2.trans e') no
                refine ⟨hv, q ρ H' (.ref x) (e1.trans e3) r3 ?_⟩
                have gx : ρ'[0]? = some x := e'.pre 0 x rfl
                obtain ⟨C', dx', fV, h1, h2, h3, h4, h5⟩ := r'.ob 0 _ x e0 gx
                exact ⟨x, C', dx', fV, rfl, h1, r.nlv hx, h2, h5, URf.pure (fun a n l => n (.inl l)) fs fV hb2 h4⟩
              · rw [if_neg hb] at q; exact q.elim
            | _ => simp only [e0] at q; exact q.elim
        | _ => exact q.elim
  · rw [if_neg hp] at q; exact q.elim
theorem run_make {C : Addr} {pins : List (Addr × Obj)} {σ : L2.St} {H : Hp} {s : Shared} {Q : VK} {us : List Value} {vs : List V} (M : Mk X.K C f) (D : DefAt X.prog X.w X.K X.mg X.base k f n fm) (hr : Room (k + 1) X.A) (tk : Takes X W) (I : L2.Inv X pins σ H s) (r : Vals vs us)
    (h : SpC X.K X.mg n C fm vs H Q (fun c d H' => W c d σ H')) : wpAny (model X.prog X.w) X.A (call (.ref C) us) (EP X pins σ Q) X.xe s := by
  obtain ⟨fd, ps, sp, dvs, ds, F, hb, hd, im⟩ := D.ex
  have hq := im _ _ _ _ (h (s.heap.objs.size + 1) s.heap.objs.size (I.hok.fresh (Nat.le_succ _)) (I.hok.fresh (Nat.le_refl _)) (Nat.ne_of_lt (Nat.lt_succ_self _)))
  have I2 := Inv.made (C := C) I
  have r2 : Vals (V.ref (s.heap.objs.size + 1) :: vs ++ dvs) (Value.ref (s.heap.objs.size + 1) :: us ++ ds) := Vals.append (.cons rfl r) hd
  have hl : (Value.ref (s.heap.objs.size + 1) :: us ++ ds).length = ps.length := by rw [← r2.length]; exact F.len _ _ _ _ hq
  refine wpAny_call (make_map (f := f) I.kIn M.makes M.init (beq_iff_eq.mp M.fn) (codeAny_mono (F.run _ X.stack _ _ ⟨Value.ref (s.heap.objs.size + 1) :: us, []⟩ (Value.ref (s.heap.objs.size + 1) :: us ++ ds) _ _ _ (hr.make C us [])
    (I2.env0.make C us []) (hb _ (Value.ref (s.heap.objs.size + 1) :: us) I2.kIn hl) r2 hq) fun r s' hq' => ?_))
  cases r with
  | error e => exact passAt tk σ pins _ _ e s' I2 hq'
  | ok fl =>
    cases fl with
    | ret u =>
      obtain ⟨v, H', I3, rv, ev, q3⟩ := I2.after hq'
      subst ev
      exact ⟨rv, ⟨V.ref (s.heap.objs.size + 1), H', I3, rfl, q3⟩⟩
    | next => exact False.elim hq'
    | brk => exact False.elim hq'
    | cont => exact False.elim hq'
theorem me_makeG {p : Pos} {cn : Nat} {gm : Fn} (F : CDef X.prog X.w X.K X.mg X.base k x cn (n + 1) fm) (hgm : ∀ {C vs H Q E}, CI X.K X.mg cn C → SpM X.K X.mg n gm vs H Q E → SpC X.K X.mg (n + 1) C fm vs H Q E) (hr : Room (k + 1) X.A) (hg : Gl X x) (tk : Takes X W) (ha : PA X (e :: es) (TL X.K X.mg W a)) (hal : ∀ l s us s1, a l s = .ok us s1 → us.length = n)
    (hdb : (x == ("__debug__" : Str)) = false := by decide) (he : starEach (e :: es) X.env = (false, eval e X.env) :: starEach es X.env := by rfl) (hpl : (backTo pos (starEach es X.env)).any (·.1) = false := by rfl) :
    PE X (.Call (.Name x p) (e :: es) [] pos) (TM X.K X.mg W (eCall gm a)) := by
  obtain ⟨C, f, D, c, hm, M⟩ := F.ex
  refine ⟨fun pins s σ H Q I h => ?_⟩
  refine wpAny_Call_Name_kw (ld_glob I hg hm ?_ hdb)
  refine PySem.W.callWith_K (h₀ := X.base) I.ok.mod.kin M.kp (thn (ha.run pos pins s σ H _ I (TL.call hal h)) fun us s1 ⟨vs, H1, I1, r, q⟩ => ⟨I1.kIn, ?_⟩) he hpl
  exact run_make M D hr tk I1 r (hgm c q)
theorem me_make {p : Pos} {cn : Nat} (F : CDef X.prog X.w X.K X.mg X.base k x cn (n + 1) fm) (hr : Room (k + 1) X.A) (hg : Gl X x) (tk : Takes X W) (ha : PA X (e :: es) (TL X.K X.mg W a)) (hal : ∀ l s us s1, a l s = .ok us s1 → us.length = n)
    (hdb : (x == ("__debug__" : Str)) = false := by decide) (he : starEach (e :: es) X.env = (false, eval e X.env) :: starEach es X.env := by rfl) (hpl : (backTo pos (starEach es X.env)).any (·.1) = false := by rfl) :
    PE X (.Call (.Name x p) (e :: es) [] pos) (TM X.K X.mg W (eCall (mkS cn fm) a)) := me_makeG F (fun c h => SpM.mkS c h) hr hg tk ha hal hdb he hpl
theorem me_makeP {p : Pos} {cn : Nat} (F : CDef X.prog X.w X.K X.mg X.base k x cn (n + 1) fm) (hr : Room (k + 1) X.A) (hg : Gl X x) (tk : Takes X W) (ha : PA X (e :: es) (TL X.K X.mg W a)) (hal : ∀ l s us s1, a l s = .ok us s1 → us.length = n)
    (hdb : (x == ("__debug__" : Str)) = false := by decide) (he : starEach (e :: es) X.env = (false, eval e X.env) :: starEach es X.env := by rfl) (hpl : (backTo pos (starEach es X.env)).any (·.1) = false := by rfl) :
    PE X (.Call (.Name x p) (e :: es) [] pos) (TM X.K X.mg W (eCall (mkP cn fm) a)) := me_makeG F (fun c h => SpM.mkP c h) hr hg tk ha hal hdb he hpl
end
/-! ### fields -/
def fldGet (f : Nat) : List (Nat × U) → Option U
  | [] => none
  | (g, u) :: r => if g == f then some u else fldGet f r
def fldPut (f : Nat) (u : U) : List (Nat × U) → List (Nat × U)
  | [] => [(f, u)]
  | (g, v) :: r => if g == f then (g, u) :: r else (g, v) :: fldPut f u r
/-- an instance's class and fields -/
def insOf : U → S → Option (Nat × List (Nat × U))
  | .ref i, s => match s[i]? with
    | some (.ins cn fs) => some (cn, fs)
    | _ => none
  | .obj cn fs, _ => some (cn, fs)
  | _, _ => none
def gFld (f : Nat) (u : U) (s : S) : G0 := match insOf u s with
  | some (_, fs) => (match fldGet f fs with
    | some v => some (v, s)
    | none => none)
  | none => none
def sFld (cn f : Nat) (mo mv : EM) : SM := fun l s => FR (mv l s) l fun v s1 => FR (mo l s1) l fun o s2 => match o with
  | .ref i => (match s2[i]? with
    | some (.ins cn' fs) => if (cn' == cn && decide (fs.length < 900)) = true then .nx l (s2.set i (.ins cn' (fldPut f v fs))) else .no
    | _ => .no)
  | _ => .no
section
variable {K : PySem.W.Frag} {mg : Str → Option Value} {Pr : Addr → Prop} {ρ ρ' ρ1 : List Addr} {s s' s1 : S} {H H' H1 : Hp} {Lp : Addr → Prop}
theorem URf.get {f : Nat} {u : U} : ∀ {fs : List (Nat × U)} {fV : List (Str × V)}, URf Lp ρ K mg H fs fV → fldGet f fs = some u → f ∈ fs.map (·.1) ∧ ∃ v, fV.lookup (nm f) = some v ∧ UR Lp ρ K mg H u v
  | [], _, _, h => by cases h
  | (g, w) :: r, fV, h, e => by
    obtain ⟨x, t, rfl, h1, h2⟩ := h
    unfold fldGet at e
    by_cases hg : (g == f) = true
    · rw [if_pos hg] at e
      cases e
      have hg : g = f := by simpa using hg
      subst hg
      exact ⟨by simp, x, by simp [List.lookup], h1⟩
    · rw [if_neg hg] at e
      obtain ⟨i1, v, i2, i3⟩ := URf.get h2 e
      have hne : ¬ nm f = nm g := fun z => hg (by simp [nm_inj z])
      have hb : (nm f == nm g) = false := beq_eq_false_iff_ne.mpr hne
      exact ⟨List.mem_cons_of_mem _ i1, v, by simp only [List.lookup, hb]; exact i2, i3⟩
theorem URf.none {f : Nat} : ∀ {fs : List (Nat × U)} {fV : List (Str × V)}, URf Lp ρ K mg H fs fV → fldGet f fs = none → fV.lookup (nm f) = none
  | [], _, h, _ => by have h : _ = [] := h; subst h; rfl
  | (g, w) :: r, fV, h, e => by
    obtain ⟨x, t, rfl, h1, h2⟩ := h
    unfold fldGet at e
    by_cases hg : (g == f) = true
    · rw [if_pos hg] at e; cases e
    · rw [if_neg hg] at e
      have hne : ¬ nm f = nm g := fun z => hg (by simp [nm_inj z])
      have hb : (nm f == nm g) = false := beq_eq_false_iff_ne.mpr hne
      simp only [List.lookup, hb]
      exact URf.none h2 e
theorem URf.put {f : Nat} {u : U} {v : V} (hv : UR Lp ρ K mg H u v) : ∀ {fs : List (Nat × U)} {fV : List (Str × V)}, URf Lp ρ K mg H fs fV → URf Lp ρ K mg H (fldPut f u fs) (putF (nm f) v fV)
  | [], _, h => by have h : _ = [] := h; subst h; exact ⟨v, [], rfl, hv, rfl⟩
  | (g, w) :: r, fV, h => by
    obtain ⟨x, t, rfl, h1, h2⟩ := h
    unfold fldPut putF
    by_cases hg : (g == f) = true
    · have e : nm g = nm f := by rw [show g = f by simpa using hg]
      rw [if_pos hg, if_pos e]
      exact ⟨v, t, rfl, hv, h2⟩
    · have hne : ¬ nm g = nm f := fun z => hg (by simp [nm_inj z])
      rw [if_neg hg, if_neg hne]
      exact ⟨x, _, rfl, h1, URf.put hv h2⟩
theorem fldPut_len (f : Nat) (u : U) : ∀ fs : List (Nat × U), (fldPut f u fs).length ≤ fs.length + 1
  | [] => by simp [fldPut]
  | (g, w) :: r => by
    unfold fldPut
    split
    · simp
    · have := fldPut_len f u r
      simp only [List.length_cons]; omega
theorem fldPut_keys {f : Nat} {u : U} : ∀ {fs : List (Nat × U)} {g : Nat}, g ∈ (fldPut f u fs).map (·.1) → g = f ∨ g ∈ fs.map (·.1)
  | [], g, h => by simp [fldPut] at h; exact .inl h
  | (k, w) :: r, g, h => by
    unfold fldPut at h
    split at h
    · exact .inr h
    · rcases List.mem_cons.mp h with e | h
      · exact .inr (by rw [e]; exact List.mem_cons_self)
      · rcases fldPut_keys h with e | h
        · exact .inl e
        · exact .inr (List.mem_cons_of_mem _ h)
/-- an instance, wherever it stands -/
theorem insOf.at {u : U} {v : V} {cn : Nat} {fs : List (Nat × U)} (r : Rel K mg Pr ρ s H) (hu : UR (Lv Pr ρ s) ρ K mg H u v) (h : insOf u s = some (cn, fs)) :
    ∃ a C dx fV, v = .ref a ∧ H a = some (.ins C dx fV) ∧ CI K mg cn C ∧ URf (Lv Pr ρ s) ρ K mg H fs fV ∧ ∀ f ∈ fs.map (·.1), NoAttr K C (nm f) := by
  cases u with
  | ref i =>
    obtain ⟨a, h1, h2⟩ := hu
    unfold insOf at h
    cases e : s[i]? with
    | none => simp only [e] at h; cases h
    | some o =>
      cases o with
      | ins cn' fs' =>
        simp only [e] at h
        cases h
        obtain ⟨C, dx, fV, g1, g2, g3, g4, g5⟩ := r.ob i _ a e h1
        exact ⟨a, C, dx, fV, h2, g1, g2, g4, g5⟩
      | _ => simp only [e] at h; cases h
  | obj cn' fs' =>
    cases h
    obtain ⟨a, C, dx, fV, h1, h2, n, h3, h4, h5⟩ := hu
    exact ⟨a, C, dx, fV, h1, h2, h3, h5, h4⟩
  | _ => cases h
end
section
variable {X : Cx} {W : WX} {e o : Expr} {m mo mv' : EM} {pos pos' : Pos}
theorem me_fld {z : Str} (f : Nat) (he : PE X e (TM X.K X.mg W m)) (hz : z = nm f := by decide +kernel) (hb : attributeBase e z X.env (eval e X.env) = eval e X.env := by rfl) : PE X (.Attribute e z pos) (TM X.K X.mg W (eUn (gFld f) m)) := by
  refine PE.imp (pe_fld he hb) fun σ H Q q => ?_
  obtain ⟨Pr, ρ, l, s, r, lr, q⟩ := TM.then (k := fun u l s => liftG (gFld f u s)) q
  refine ⟨Pr, ρ, l, s, r, lr, OkA.mono q ?_⟩
  rintro x H1 ⟨Pr, ρ1, l1, s1, u, r1, lr1, hu, hk⟩
  have hk := OkG.of hk
  unfold gFld at hk
  cases e1 : insOf u s1 with
  | none => simp only [e1] at hk; exact hk.elim
  | some p =>
    obtain ⟨cn, fs⟩ := p
    simp only [e1] at hk
    obtain ⟨a, C, dx, fV, h1, h2, h3, h4, h5⟩ := insOf.at r1 hu e1
    cases e2 : fldGet f fs with
    | none => simp only [e2] at hk; exact hk.elim
    | some v =>
      simp only [e2] at hk
      obtain ⟨g1, y, g2, g3⟩ := URf.get h4 e2
      exact ⟨a, C, dx, fV, y, h1, h2, h3.cl, by rw [hz]; exact h5 f g1, by rw [hz]; exact g2, hk.here r1 g3⟩
/-- o.f = value, o of the class cn -/
theorem ms_fld {z : Str} (cn f : Nat) (hf : ∀ C, CI X.K X.mg cn C → NoAttr X.K C (nm f)) (ho : PE X o (TM X.K X.mg W mo)) (hv : PE X e (TM X.K X.mg W m)) (hz : z = nm f := by decide +kernel) (hs : swapsWith e (some (.Attribute o z pos')) pos.line X.env = pure false := by rfl) :
    PS X (.Assign [.Attribute o z pos'] e pos) (TF X.K X.mg W (sFld cn f mo m)) := by
  refine PS.imp (ps_fld ho hv hs) fun D σ H h => ?_
  obtain ⟨Pr, ρ, l, s, r, lr, q⟩ := TF.ofE (k := fun v l s1 => FR (mo l s1) l fun o s2 => match o with
    | .ref i => (match s2[i]? with
      | some (.ins cn' fs) => if (cn' == cn && decide (fs.length < 900)) = true then .nx l (s2.set i (.ins cn' (fldPut f v fs))) else .no
      | _ => .no)
    | _ => .no) h
  refine ⟨Pr, ρ, l, s, r, lr, OkA.mono q ?_⟩
  rintro y H1 ⟨Pr, ρ1, l1, s1, v, r1, lr1, hu, hk⟩
  refine ⟨Pr, ρ1, l1, s1, r1, lr1, ?_⟩
  have hk2 := OkF.ofA (rl := rU X.K X.mg) (σ := σ) r1 lr1 hk
  have ext : OkA (rU X.K X.mg) X.K X.mg Pr ρ1 s1 H1 (fun x H2 => ∃ ρ2 s2 a, Rel X.K X.mg Pr ρ2 s2 H2 ∧ LR (Lv Pr ρ2 s2) ρ2 X.K X.mg H2 l1 σ ∧ UR (Lv Pr ρ2 s2) ρ2 X.K X.mg H2 a x ∧ UR (Lv Pr ρ2 s2) ρ2 X.K X.mg H2 v y ∧ OkF X.K X.mg Pr ρ2 s2 H2 D W (match a with
    | .ref i => (match s2[i]? with
      | some (.ins cn' fs) => if (cn' == cn && decide (fs.length < 900)) = true then .nx l1 (s2.set i (.ins cn' (fldPut f v fs))) else .no
      | _ => .no)
    | _ => .no)) (wX X.K X.mg Pr fun c d H' => W c d σ H') (mo l1 s1) := by
    cases e1 : mo l1 s1 with
    | no => rw [e1] at hk; exact hk.elim
    | ex x s2 => rw [e1] at hk; exact fun ρ' H' e' r' c d hx => hk ρ' H' σ c d e' r' (LR.ext r1 e' lr1) hx
    | ok a s2 => rw [e1] at hk; exact fun ρ' H' x e' r' hx => ⟨ρ', s2, a, r', LR.ext r1 e' lr1, hx, UR.ext r1 e' v y hu, OkF.ext e' hk⟩
  refine OkA.mono ext ?_
  rintro x H2 ⟨ρ2, s2, a, r2, lr2, ha, hv2, hk3⟩
  cases a with
  | ref i =>
    obtain ⟨ad, g1, g2⟩ := ha
    cases e2 : s2[i]? with
    | none => simp only [e2] at hk3; exact hk3.elim
    | some ob =>
      cases ob with
      | ins cn' fs =>
        simp only [e2] at hk3
        by_cases hb : (cn' == cn && decide (fs.length < 900)) = true
        · rw [if_pos hb] at hk3
          rw [Bool.and_eq_true, beq_iff_eq, decide_eq_true_eq] at hb
          obtain ⟨hb1, hb2⟩ := hb
          subst hb1
          obtain ⟨C, dx, fV, h1, h2, h3, h4, h5⟩ := r2.ob i _ ad e2 g1
          have hlen : fV.length = fs.length := by
            have go : ∀ {fs : List (Nat × U)} {fV : List (Str × V)}, URf (Lv Pr ρ2 s2) ρ2 X.K X.mg H2 fs fV → fV.length = fs.length := by
              intro fs
              induction fs with
              | nil => intro fV h; have h : fV = [] := h; subst h; rfl
              | cons p r ih => intro fV h; obtain ⟨x, t, rfl, _, h⟩ := h; simp [ih h]
            exact go h4
          refine ⟨ad, C, dx, fV, g2, h1, h2.cl, by rw [hz]; exact hf C h2, by omega, ?_⟩
          obtain ⟨e5, r5⟩ := r2.put (o' := .ins cn' (fldPut f v fs)) (ho := .ins C dx (putF z y fV)) e2 rfl rfl g1 fun e5 => by
            refine ⟨C, dx, putF z y fV, upd_same, h2, ?_, ?_, fun g hg => ?_⟩
            · have := fldPut_len f v fs; omega
            · have hp := URf.put (UR.ext r2 e5 v y hv2) (URf.ext r2 e5 fs fV h4) (f := f)
              rw [← hz] at hp
              exact hp
            · rcases fldPut_keys hg with e | hg
              · rw [e]; exact hf C h2
              · exact h5 g hg
          exact hk3 ρ2 _ σ e5 r5 (LR.ext r2 e5 lr2)
        · rw [if_neg hb] at hk3; exact hk3.elim
      | _ => simp only [e2] at hk3; exact hk3.elim
  | _ => exact hk3.elim
end
end Mo
/-! Mo6: operations on data: making, arithmetic, comparisons, subscripts. -/
namespace Mo
open PySem PySem.Spec PyProof.Rows L2
/-! ### from the rules by values -/
section
variable {X : Cx}
theorem Op2.of {f : Value → Value → Sem Value} {r : R2} {g : U → U → S → G0} (h : OpR X f r)
    (k : ∀ (Pr : Addr → Prop) (ρ : List Addr) (s : S) (H : Hp) (x y : V) (u u' : U) (Q : VK), Rel X.K X.mg Pr ρ s H → UR (Lv Pr ρ s) ρ X.K X.mg H u x → UR (Lv Pr ρ s) ρ X.K X.mg H u' y → OkG X.K X.mg Pr ρ s H Q (g u u' s) → r x y H Q) : Op2 X f g :=
  fun pins sh σ H Pr ρ s x y v w u u' Q I rl hu hu' rx ry q => h pins sh σ H x y v w Q I rx ry (k Pr ρ s H x y u u' Q rl hu hu' q)
theorem Op1.of {f : Value → Sem Value} {r : V → Hp → VK → Prop} {g : U → S → G0} (h : UnR X f r)
    (k : ∀ (Pr : Addr → Prop) (ρ : List Addr) (s : S) (H : Hp) (x : V) (u : U) (Q : VK), Rel X.K X.mg Pr ρ s H → UR (Lv Pr ρ s) ρ X.K X.mg H u x → OkG X.K X.mg Pr ρ s H Q (g u s) → r x H Q) : Op1 X f g :=
  fun pins sh σ H Pr ρ s x v u Q I rl hu rx q => h pins sh σ H x v Q I rx (k Pr ρ s H x u Q rl hu q)
theorem OpN.of {f : Value} {r : List V → Hp → VK → Prop} {g : List U → S → G0} (h : CallR X f r)
    (k : ∀ (Pr : Addr → Prop) (ρ : List Addr) (s : S) (H : Hp) (xs : List V) (us : List U) (Q : VK), Rel X.K X.mg Pr ρ s H → URs (Lv Pr ρ s) ρ X.K X.mg H us xs → OkG X.K X.mg Pr ρ s H Q (g us s) → r xs H Q) : OpN X f g :=
  fun pins sh σ H Pr ρ s xs vs us Q I rl hu rx q => h pins sh σ H xs vs Q I rx (k Pr ρ s H xs us Q rl hu q)
end
/-! ### containers, read -/
def lstOf : U → S → Option (List U)
  | .lst us, _ => some us
  | .scr us, _ => some us
  | .ref i, s => match s[i]? with
    | some (.lst us) => some us
    | _ => none
  | _, _ => none
/-- .. that is no locked one -/
def lstW : U → S → Option (List U)
  | .lst us, _ => some us
  | .ref i, s => match s[i]? with
    | some (.lst us) => some us
    | _ => none
  | _, _ => none
def tupOf : U → Option (List U)
  | .tup us => some us
  | .wt us => some us
  | _ => none
def dctOf : U → S → Option (Bool × List (Ky × U))
  | .dct t kvs, _ => some (t, kvs)
  | .ref i, s => match s[i]? with
    | some (.dct t kvs) => some (t, kvs)
    | some (.ld t kvs) => some (t, kvs)
    | _ => none
  | _, _ => none
/-- a list or a tuple -/
def seqOf (u : U) (s : S) : Option (List U) := match tupOf u with
  | some us => some us
  | none => lstOf u s
section
variable {K : PySem.W.Frag} {mg : Str → Option Value} {Pr : Addr → Prop} {ρ : List Addr} {s : S} {H : Hp} {u : U} {v : V} {us : List U}
theorem lstOf.at (r : Rel K mg Pr ρ s H) (hu : UR (Lv Pr ρ s) ρ K mg H u v) (h : lstOf u s = some us) : ∃ a xs, v = .ref a ∧ SqL K H a xs ∧ xs.length ≤ sizeLine ∧ URs (Lv Pr ρ s) ρ K mg H us xs := by
  cases u with
  | lst ws =>
    cases h
    obtain ⟨a, xs, h1, h2, _, h3, h4⟩ := hu
    exact ⟨a, xs, h1, .inl (.inl h2), h3, h4⟩
  | scr ws =>
    cases h
    obtain ⟨a, xs, h1, h2, h3, h4⟩ := hu
    exact ⟨a, xs, h1, h2.sq, h3, h4⟩
  | ref i =>
    obtain ⟨a, h1, h2⟩ := hu
    unfold lstOf at h
    cases e : s[i]? with
    | none => simp only [e] at h; cases h
    | some o =>
      cases o with
      | lst ws =>
        simp only [e] at h
        cases h
        obtain ⟨xs, g1, g2, g3⟩ := r.ob i _ a e h1
        exact ⟨a, xs, h2, .inl (.inl g1), g2, g3⟩
      | _ => simp only [e] at h; cases h
  | _ => cases h
theorem lstW.at (r : Rel K mg Pr ρ s H) (hu : UR (Lv Pr ρ s) ρ K mg H u v) (h : lstW u s = some us) : ∃ a xs, v = .ref a ∧ H a = some (.lst xs) ∧ xs.length ≤ sizeLine ∧ URs (Lv Pr ρ s) ρ K mg H us xs := by
  cases u with
  | lst ws =>
    cases h
    obtain ⟨a, xs, h1, h2, _, h3, h4⟩ := hu
    exact ⟨a, xs, h1, h2, h3, h4⟩
  | ref i =>
    obtain ⟨a, h1, h2⟩ := hu
    unfold lstW at h
    cases e : s[i]? with
    | none => simp only [e] at h; cases h
    | some o =>
      cases o with
      | lst ws =>
        simp only [e] at h
        cases h
        obtain ⟨xs, g1, g2, g3⟩ := r.ob i _ a e h1
        exact ⟨a, xs, h2, g1, g2, g3⟩
      | _ => simp only [e] at h; cases h
  | _ => cases h
theorem tupOf.at {Lp : Addr → Prop} (hu : UR Lp ρ K mg H u v) (h : tupOf u = some us) : ∃ a xs, v = .ref a ∧ SqT K H a xs ∧ xs.length ≤ sizeLine ∧ URs Lp ρ K mg H us xs := by
  cases u with
  | tup ws =>
    cases h
    obtain ⟨a, xs, h1, h2, h3, h4⟩ := hu
    exact ⟨a, xs, h1, SqT.of h2, h3, h4⟩
  | wt ws =>
    cases h
    obtain ⟨a, xs, h1, h2, h3, h4⟩ := hu
    exact ⟨a, xs, h1, h2, h3, h4⟩
  | _ => cases h
theorem seqOf.at (r : Rel K mg Pr ρ s H) (hu : UR (Lv Pr ρ s) ρ K mg H u v) (h : seqOf u s = some us) : ∃ a xs, v = .ref a ∧ (SqL K H a xs ∨ SqT K H a xs) ∧ xs.length ≤ sizeLine ∧ URs (Lv Pr ρ s) ρ K mg H us xs := by
  unfold seqOf at h
  cases e : tupOf u with
  | some ws =>
    simp only [e] at h
    cases h
    obtain ⟨a, xs, h1, h2, h3, h4⟩ := tupOf.at hu e
    exact ⟨a, xs, h1, .inr h2, h3, h4⟩
  | none =>
    simp only [e] at h
    obtain ⟨a, xs, h1, h2, h3, h4⟩ := lstOf.at r hu h
    exact ⟨a, xs, h1, .inl h2, h3, h4⟩
theorem dctOf.at {t : Bool} {kvs : List (Ky × U)} (r : Rel K mg Pr ρ s H) (hu : UR (Lv Pr ρ s) ρ K mg H u v) (h : dctOf u s = some (t, kvs)) :
    ∃ a, v = .ref a ∧ kvs.length ≤ sizeLine ∧ ((t = false ∧ ∃ ks, Rd H a (.dK ks) ∧ URk (Lv Pr ρ s) ρ K mg H kvs ks) ∨ (t = true ∧ ∃ ks, Rd H a (.dT ks) ∧ URt (Lv Pr ρ s) ρ K mg H kvs ks)) := by
  cases u with
  | dct t' ws =>
    cases h
    obtain ⟨a, h1, _, h3, h4⟩ := hu
    exact ⟨a, h1, h3, h4⟩
  | ref i =>
    obtain ⟨a, h1, h2⟩ := hu
    unfold dctOf at h
    cases e : s[i]? with
    | none => simp only [e] at h; cases h
    | some o =>
      cases o with
      | dct t' ws =>
        simp only [e] at h
        cases h
        obtain ⟨g1, g2⟩ := r.ob i _ a e h1
        refine ⟨a, h2, g1, ?_⟩
        rcases g2 with ⟨q, ks, g2, g3⟩ | ⟨q, ks, g2, g3⟩
        · exact .inl ⟨q, ks, .inl g2, g3⟩
        · exact .inr ⟨q, ks, .inl g2, g3⟩
      | ld t' ws =>
        simp only [e] at h
        cases h
        obtain ⟨g1, g2⟩ := r.ob i _ a e h1
        refine ⟨a, h2, g1, ?_⟩
        rcases g2 with ⟨q, od, ks, g2, g3⟩ | ⟨q, od, ks, g2, g3⟩
        · exact .inl ⟨q, ks, .inr ⟨od, g2⟩, g3⟩
        · exact .inr ⟨q, ks, .inr ⟨od, g2⟩, g3⟩
      | _ => simp only [e] at h; cases h
  | _ => cases h
/-! items by their place -/
variable {Lp : Addr → Prop}
theorem URs.get' {u : U} : ∀ (us : List U) (xs : List V) (i : Nat), URs Lp ρ K mg H us xs → us[i]? = some u → ∃ x, xs[i]? = some x ∧ UR Lp ρ K mg H u x
  | [], _, i, _, h => by cases i <;> cases h
  | w :: ws, xs, 0, hs, h => by
    obtain ⟨x, t, rfl, h1, h2⟩ := hs
    cases h; exact ⟨x, rfl, h1⟩
  | w :: ws, xs, i + 1, hs, h => by
    obtain ⟨x, t, rfl, h1, h2⟩ := hs
    exact URs.get' ws t i h2 h
theorem URs.get {u : U} {us : List U} {xs : List V} {i : Nat} (hs : URs Lp ρ K mg H us xs) (h : us[i]? = some u) : ∃ x, xs[i]? = some x ∧ UR Lp ρ K mg H u x := URs.get' us xs i hs h
theorem URs.getV' {x : V} : ∀ (us : List U) (xs : List V) (i : Nat), URs Lp ρ K mg H us xs → xs[i]? = some x → ∃ u, us[i]? = some u ∧ UR Lp ρ K mg H u x
  | [], xs, i, hs, h => by
    have hs : xs = [] := hs
    subst hs
    cases i <;> cases h
  | w :: ws, xs, 0, hs, h => by
    obtain ⟨x, t, rfl, h1, h2⟩ := hs
    cases h; exact ⟨w, rfl, h1⟩
  | w :: ws, xs, i + 1, hs, h => by
    obtain ⟨x, t, rfl, h1, h2⟩ := hs
    exact URs.getV' ws t i h2 h
theorem URs.getV {x : V} {us : List U} {xs : List V} {i : Nat} (hs : URs Lp ρ K mg H us xs) (h : xs[i]? = some x) : ∃ u, us[i]? = some u ∧ UR Lp ρ K mg H u x := URs.getV' us xs i hs h
theorem URs.append : ∀ {us ws : List U} {xs ys : List V}, URs Lp ρ K mg H us xs → URs Lp ρ K mg H ws ys → URs Lp ρ K mg H (us ++ ws) (xs ++ ys)
  | [], ws, xs, ys, h, h' => by
    have h : xs = [] := h
    subst h
    exact h'
  | u :: us, ws, xs, ys, h, h' => by
    obtain ⟨x, t, rfl, h1, h2⟩ := h
    exact ⟨x, t ++ ys, rfl, h1, URs.append h2 h'⟩
theorem URs.drop : ∀ {us : List U} {xs : List V} (n : Nat), URs Lp ρ K mg H us xs → URs Lp ρ K mg H (us.drop n) (xs.drop n)
  | us, xs, 0, h => h
  | [], xs, n + 1, h => by
    have h : xs = [] := h
    subst h
    exact rfl
  | u :: us, xs, n + 1, h => by
    obtain ⟨x, t, rfl, _, h2⟩ := h
    exact URs.drop n h2
theorem URs.take : ∀ {us : List U} {xs : List V} (n : Nat), URs Lp ρ K mg H us xs → URs Lp ρ K mg H (us.take n) (xs.take n)
  | us, xs, 0, h => by rw [List.take_zero, List.take_zero]; exact rfl
  | [], xs, n + 1, h => by
    have h : xs = [] := h
    subst h
    exact rfl
  | u :: us, xs, n + 1, h => by
    obtain ⟨x, t, rfl, h1, h2⟩ := h
    exact ⟨x, t.take n, rfl, h1, URs.take n h2⟩
theorem URs.rep {us : List U} {xs : List V} (h : URs Lp ρ K mg H us xs) : ∀ n : Nat, URs Lp ρ K mg H (List.replicate n us).flatten (List.replicate n xs).flatten
  | 0 => rfl
  | n + 1 => by
    rw [List.replicate_succ, List.replicate_succ, List.flatten_cons, List.flatten_cons]
    exact URs.append h (URs.rep h n)
theorem URs.rev : ∀ {us : List U} {xs : List V}, URs Lp ρ K mg H us xs → URs Lp ρ K mg H us.reverse xs.reverse
  | [], xs, h => by
    have h : xs = [] := h
    subst h
    exact rfl
  | u :: us, xs, h => by
    obtain ⟨x, t, rfl, h1, h2⟩ := h
    rw [List.reverse_cons, List.reverse_cons]
    exact URs.append (URs.rev h2) ⟨x, [], rfl, h1, rfl⟩
theorem URs.ints : ∀ {ns : List Int} {xs : List V}, URs Lp ρ K mg H (ns.map U.int) xs → xs = ns.map V.int
  | [], xs, h => h
  | n :: ns, xs, h => by
    obtain ⟨x, t, rfl, h1, h2⟩ := h
    have h1 : x = .int n := h1
    rw [h1, URs.ints h2]; rfl
end

/-! ### new things: in the store, or as data -/
def mkL (live : Bool) (us : List U) (s : S) : G0 := if us.length ≤ sizeLine then (if live = true then some (.ref s.length, s ++ [.lst us]) else some (.lst us, s)) else none
def mkD (live t : Bool) (kvs : List (Ky × U)) (s : S) : G0 := if kvs.length ≤ sizeLine then (if live = true then some (.ref s.length, s ++ [.dct t kvs]) else some (.dct t kvs, s)) else none
def mkT (us : List U) (s : S) : G0 := if us.length ≤ sizeLine then some (.tup us, s) else none
section
variable {K : PySem.W.Frag} {mg : Str → Option Value} {Pr : Addr → Prop} {ρ : List Addr} {s : S} {H : Hp} {Q : VK} {us : List U} {xs : List V} {live : Bool} {p : Addr}
theorem mkL.len {s' : S} (h : OkG K mg Pr ρ s H Q (mkL live us s')) : us.length ≤ sizeLine := by
  unfold mkL at h
  by_cases e : us.length ≤ sizeLine
  · exact e
  · rw [if_neg e] at h; exact h.elim
theorem mkT.len {s' : S} (h : OkG K mg Pr ρ s H Q (mkT us s')) : us.length ≤ sizeLine := by
  unfold mkT at h
  by_cases e : us.length ≤ sizeLine
  · exact e
  · rw [if_neg e] at h; exact h.elim
theorem OkG.mkL (h : OkG K mg Pr ρ s H Q (mkL live us s)) (r : Rel K mg Pr ρ s H) (hx : URs (Lv Pr ρ s) ρ K mg H us xs) (hp : H p = none) : Q (.ref p) (upd H p (.lst xs)) := by
  have hl : xs.length ≤ sizeLine := by rw [URs.length hx]; exact mkL.len h
  have hl' := mkL.len h
  unfold Mo.mkL at h
  rw [if_pos hl'] at h
  by_cases e : live = true
  · rw [if_pos e] at h
    obtain ⟨e1, r1, g⟩ := r.push (o := .lst us) (ho := .lst xs) hp fun e1 => ⟨xs, upd_same, hl, URs.ext r e1 us xs hx⟩
    exact h (ρ ++ [p]) _ _ e1 r1 ⟨p, g, rfl⟩
  · rw [if_neg e] at h
    exact h.new r hp fun e1 r1 n => ⟨p, xs, rfl, upd_same, n, hl, URs.ext r e1 us xs hx⟩
theorem OkG.mkT (h : OkG K mg Pr ρ s H Q (mkT us s)) (r : Rel K mg Pr ρ s H) (hx : URs (Lv Pr ρ s) ρ K mg H us xs) (hp : H p = none) : Q (.ref p) (upd H p (.tup xs)) := by
  have hl : xs.length ≤ sizeLine := by rw [URs.length hx]; exact mkT.len h
  have hl' := mkT.len h
  unfold Mo.mkT at h
  rw [if_pos hl'] at h
  exact h.new r hp fun e1 r1 n => ⟨p, xs, rfl, upd_same, hl, URs.ext r e1 us xs hx⟩
theorem URk.length {Lp : Addr → Prop} : ∀ {kvs : List (Ky × U)} {ks : List (Key × V)}, URk Lp ρ K mg H kvs ks → ks.length = kvs.length
  | [], _, h => by have h : _ = [] := h; subst h; rfl
  | (k, u) :: r, ks, h => by
    obtain ⟨kk, x, t, rfl, _, _, h⟩ := h
    simp [URk.length h]
theorem URt.length {Lp : Addr → Prop} : ∀ {kvs : List (Ky × U)} {ks : List (List Key × V)}, URt Lp ρ K mg H kvs ks → ks.length = kvs.length
  | [], _, h => by have h : _ = [] := h; subst h; rfl
  | (k, u) :: r, ks, h => by
    obtain ⟨kk, x, t, rfl, _, _, h⟩ := h
    simp [URt.length h]
theorem mkD.len {s' : S} {t : Bool} {kvs : List (Ky × U)} (h : OkG K mg Pr ρ s H Q (mkD live t kvs s')) : kvs.length ≤ sizeLine := by
  unfold mkD at h
  by_cases e : kvs.length ≤ sizeLine
  · exact e
  · rw [if_neg e] at h; exact h.elim
theorem OkG.mkD {kvs : List (Ky × U)} {ks : List (Key × V)} (h : OkG K mg Pr ρ s H Q (mkD live false kvs s)) (r : Rel K mg Pr ρ s H) (hx : URk (Lv Pr ρ s) ρ K mg H kvs ks) (hp : H p = none) : Q (.ref p) (upd H p (.dK ks)) := by
  have hl := mkD.len h
  unfold Mo.mkD at h
  rw [if_pos hl] at h
  by_cases e : live = true
  · rw [if_pos e] at h
    obtain ⟨e1, r1, g⟩ := r.push (o := .dct false kvs) (ho := .dK ks) hp fun e1 => ⟨hl, .inl ⟨rfl, ks, upd_same, URk.ext r e1 kvs ks hx⟩⟩
    exact h (ρ ++ [p]) _ _ e1 r1 ⟨p, g, rfl⟩
  · rw [if_neg e] at h
    exact h.new r hp fun e1 r1 n => ⟨p, rfl, n, hl, .inl ⟨rfl, ks, .inl upd_same, URk.ext r e1 kvs ks hx⟩⟩
theorem OkG.mkDT {kvs : List (Ky × U)} {ks : List (List Key × V)} (h : OkG K mg Pr ρ s H Q (Mo.mkD live true kvs s)) (r : Rel K mg Pr ρ s H) (hx : URt (Lv Pr ρ s) ρ K mg H kvs ks) (hp : H p = none) : Q (.ref p) (upd H p (.dT ks)) := by
  have hl := mkD.len h
  unfold Mo.mkD at h
  rw [if_pos hl] at h
  by_cases e : live = true
  · rw [if_pos e] at h
    obtain ⟨e1, r1, g⟩ := r.push (o := .dct true kvs) (ho := .dT ks) hp fun e1 => ⟨hl, .inr ⟨rfl, ks, upd_same, URt.ext r e1 kvs ks hx⟩⟩
    exact h (ρ ++ [p]) _ _ e1 r1 ⟨p, g, rfl⟩
  · rw [if_neg e] at h
    exact h.new r hp fun e1 r1 n => ⟨p, rfl, n, hl, .inr ⟨rfl, ks, .inl upd_same, URt.ext r e1 kvs ks hx⟩⟩
end

/-! ### arithmetic -/
def gI (C : Int → Int → Bool) (g : Int → Int → U) : U → U → S → G0 := fun u u' s => match u, u' with
  | .int i, .int j => if C i j = true then some (g i j, s) else none
  | _, _ => none
theorem Op2.int {X : Cx} {f : Value → Value → Sem Value} {C : Int → Int → Prop} {g : Int → Int → V} {C' : Int → Int → Bool} {g' : Int → Int → U} (h : OpR X f (rI C g)) (hC : ∀ i j, C' i j = true → C i j) (hg : ∀ i j Lp ρ H, UR Lp ρ X.K X.mg H (g' i j) (g i j)) : Op2 X f (gI C' g') :=
  Op2.of h fun Pr ρ s H x y u u' Q r hu hu' q => by
    unfold gI at q
    split at q
    · rename_i i j
      by_cases c : C' i j = true
      · rw [if_pos c] at q
        exact ⟨i, j, hu, hu', hC i j c, q.here r (hg i j _ _ _)⟩
      · rw [if_neg c] at q; exact q.elim
    · exact q.elim
theorem ofI0 {X : Cx} {f : Value → Value → Sem Value} {g : Int → Int → V} (h : OpR X f (rI0 g)) : OpR X f (rI (fun _ _ => True) g) := fun pins s σ H x y v w Q I rx ry ⟨i, j, e1, e2, _, q⟩ => h pins s σ H x y v w Q I rx ry ⟨i, j, e1, e2, q⟩
theorem Op2.int0 {X : Cx} {f : Value → Value → Sem Value} {g : Int → Int → V} {g' : Int → Int → U} (h : OpR X f (rI0 g)) (hg : ∀ i j Lp ρ H, UR Lp ρ X.K X.mg H (g' i j) (g i j)) : Op2 X f (gI (fun _ _ => true) g') :=
  Op2.int (ofI0 h) (fun _ _ _ => trivial) hg
def gSub := gI (fun _ _ => true) fun i j => .int (i - j)
def gFdiv := gI (fun _ j => decide (0 < j) && decide (j.natAbs.log2 < 9000)) fun i j => .int (i / j)
def gMod := gI (fun _ j => decide (0 < j)) fun i j => .int (i % j)
def gPow := gI (fun i j => decide (0 ≤ j) && decide (j ≤ 1000000) && decide (i.natAbs < 2 ^ 64)) fun i j => .int (i ^ j.toNat)
def gLtI := gI (fun _ _ => true) fun i j => .bl (decide (i < j))
def gLeI := gI (fun _ _ => true) fun i j => .bl (decide (i ≤ j))
def gGtI := gI (fun _ _ => true) fun i j => .bl (decide (j < i))
def gGeI := gI (fun _ _ => true) fun i j => .bl (decide (j ≤ i))
section
variable {X : Cx}
theorem o_sub : Op2 X (binaryOp .Sub) gSub := Op2.int0 op_sub fun _ _ _ _ _ => rfl
theorem o_fdiv : Op2 X (binaryOp .FloorDiv) gFdiv := Op2.int op_fdivW (fun i j h => by
  rw [Bool.and_eq_true, decide_eq_true_eq, decide_eq_true_eq] at h
  exact h) fun _ _ _ _ _ => rfl
theorem o_mod : Op2 X (binaryOp .Mod) gMod := Op2.int op_mod (fun i j h => of_decide_eq_true h) fun _ _ _ _ _ => rfl
theorem o_pow : Op2 X (binaryOp .Pow) gPow := Op2.int op_pow (fun i j h => by
  rw [Bool.and_eq_true, Bool.and_eq_true, decide_eq_true_eq, decide_eq_true_eq, decide_eq_true_eq] at h
  exact ⟨h.1.1, h.1.2, h.2⟩) fun _ _ _ _ _ => rfl
/-- + : ints, texts, tuples, lists -/
def gAdd (live : Bool) : U → U → S → G0 := fun u u' s => match u, u' with
  | .int i, .int j => some (.int (i + j), s)
  | .str a, .str b => if a.length + b.length ≤ sizeLine then some (.str (a ++ b), s) else none
  | u, u' => match tupOf u, tupOf u' with
    | some a, some b => if a.isEmpty = true then some (u', s) else if b.isEmpty = true then some (u, s) else mkT (a ++ b) s
    | _, _ => match lstW u s, lstW u' s with
      | some a, some b => mkL live (a ++ b) s
      | _, _ => none
theorem st_app (a b : List Nat) : st a ++ st b = st (a ++ b) := by
  show Str.append _ _ = _
  unfold Str.append st
  simp
theorem o_add {live : Bool} : Op2 X (binaryOp .Add) (gAdd live) := by
  intro pins sh σ H Pr ρ s x y v w u u' Q I rl hu hu' rx ry q
  unfold gAdd at q
  split at q
  · exact op_add pins sh σ H x y v w Q I rx ry ⟨_, _, hu, hu', q.here rl rfl⟩
  · rename_i a b
    by_cases e : a.length + b.length ≤ sizeLine
    · rw [if_pos e] at q
      refine op_add_str pins sh σ H x y v w Q I rx ry ⟨_, _, hu.1, hu'.1, ?_, ?_⟩
      · rw [st_len, st_len]; exact e
      · rw [st_app]; exact q.here rl ⟨rfl, by rw [List.length_append]; exact e⟩
    · rw [if_neg e] at q; exact q.elim
  · split at q
    · rename_i a b e1 e2
      obtain ⟨l, xs, h1, h2, h3, h4⟩ := tupOf.at hu e1
      obtain ⟨l', xs', g1, g2, g3, g4⟩ := tupOf.at hu' e2
      have a1 := URs.length h4
      have a2 := URs.length g4
      by_cases ha : a = []
      · subst ha
        have hx : xs = [] := h4
        subst hx
        simp only [List.isEmpty_nil, if_true] at q
        refine op_catA pins sh σ H x y v w Q I rx ry ⟨l, l', [], xs', h1, g1, h2, g2, by simpa using g3, fun _ => ?_, fun h => absurd rfl h, fun h => absurd rfl h⟩
        rw [← g1]; exact q.here rl hu'
      · have hx : xs ≠ [] := fun z => by subst z; exact ha (List.eq_nil_of_length_eq_zero a1.symm)
        have ea : a.isEmpty = false := by cases a with
          | nil => exact absurd rfl ha
          | cons _ _ => rfl
        simp only [ea, Bool.false_eq_true, if_false] at q
        by_cases hb : b = []
        · subst hb
          have hx' : xs' = [] := g4
          subst hx'
          simp only [List.isEmpty_nil, if_true] at q
          refine op_catA pins sh σ H x y v w Q I rx ry ⟨l, l', xs, [], h1, g1, h2, g2, by simpa using h3, fun h => absurd h hx, fun _ _ => ?_, fun _ h => absurd rfl h⟩
          rw [← h1]; exact q.here rl hu
        · have hx' : xs' ≠ [] := fun z => by subst z; exact hb (List.eq_nil_of_length_eq_zero a2.symm)
          have eb : b.isEmpty = false := by cases b with
            | nil => exact absurd rfl hb
            | cons _ _ => rfl
          simp only [eb, Bool.false_eq_true, if_false] at q
          have hz := mkT.len q
          rw [List.length_append] at hz
          exact op_catA pins sh σ H x y v w Q I rx ry ⟨l, l', xs, xs', h1, g1, h2, g2, by omega, fun h => absurd h hx, fun _ h => absurd h hx', fun _ _ p hp => q.mkT rl (URs.append h4 g4) hp⟩
    · split at q
      · rename_i a b e1 e2
        obtain ⟨l, xs, h1, h2, h3, h4⟩ := lstW.at rl hu e1
        obtain ⟨l', xs', g1, g2, g3, g4⟩ := lstW.at rl hu' e2
        have hz := mkL.len q
        rw [List.length_append] at hz
        have a1 := URs.length h4
        have a2 := URs.length g4
        exact op_cat pins sh σ H x y v w Q I rx ry ⟨l, l', xs, xs', h1, g1, h2, g2, by omega, fun p hp => q.mkL rl (URs.append h4 g4) hp⟩
      · exact q.elim
end
end Mo
/-! Mo7: products, comparisons, keys, dicts, subscripts, slices. -/
namespace Mo
open PySem PySem.Spec PyProof.Rows L2
section
variable {X : Cx}
/-- * : ints, a list, a tuple times an int -/
def gMul (live : Bool) : U → U → S → G0 := fun u u' s => match u, u' with
  | .int i, .int j => if i.natAbs.log2 + j.natAbs.log2 < 1000000 then some (.int (i * j), s) else none
  | u, .int k => if -(2 ^ 63) ≤ k ∧ k < 2 ^ 63 then (match lstW u s with
    | some us => if us.length * k.toNat ≤ sizeLine then mkL live (List.replicate k.toNat us).flatten s else none
    | none => match tupOf u with
      | some us => if us.isEmpty = false ∧ 2 ≤ k ∧ k ≤ 1000 ∧ us.length ≤ 1000 then mkT (List.replicate k.toNat us).flatten s else none
      | none => none) else none
  | _, _ => none
theorem o_mul {live : Bool} : Op2 X (binaryOp .Mult) (gMul live) := by
  intro pins sh σ H Pr ρ s x y v w u u' Q I rl hu hu' rx ry q
  unfold gMul at q
  split at q
  · rename_i i j
    by_cases e : i.natAbs.log2 + j.natAbs.log2 < 1000000
    · rw [if_pos e] at q
      exact op_mulW pins sh σ H x y v w Q I rx ry ⟨_, _, hu, hu', e, q.here rl rfl⟩
    · rw [if_neg e] at q; exact q.elim
  · rename_i k _
    by_cases e : -(2 ^ 63) ≤ k ∧ k < 2 ^ 63
    · rw [if_pos e] at q
      split at q
      · rename_i us e1
        obtain ⟨l, xs, h1, h2, h3, h4⟩ := lstW.at rl hu e1
        by_cases e2 : us.length * k.toNat ≤ sizeLine
        · rw [if_pos e2] at q
          exact op_rep pins sh σ H x y v w Q I rx ry ⟨l, k, xs, h1, hu', h2, e.1, e.2, by rw [URs.length h4]; exact e2, fun p hp => q.mkL rl (URs.rep h4 _) hp⟩
        · rw [if_neg e2] at q; exact q.elim
      · split at q
        · rename_i us e1
          obtain ⟨l, xs, h1, h2, h3, h4⟩ := tupOf.at hu e1
          by_cases e2 : us.isEmpty = false ∧ 2 ≤ k ∧ k ≤ 1000 ∧ us.length ≤ 1000
          · rw [if_pos e2] at q
            have hl := URs.length h4
            refine op_repT pins sh σ H x y v w Q I rx ry ⟨l, k, xs, h1, hu', h2, fun z => ?_, e2.2.1, e2.2.2.1, by rw [hl]; exact e2.2.2.2, fun p hp => q.mkT rl (URs.rep h4 _) hp⟩
            subst z
            have : us = [] := List.eq_nil_of_length_eq_zero hl.symm
            subst this
            exact absurd e2.1 (by decide)
          · rw [if_neg e2] at q; exact q.elim
        · exact q.elim
    · rw [if_neg e] at q; exact q.elim
  · exact q.elim
def gNeg : U → S → G0 := fun u s => match u with
  | .int i => some (.int (-i), s)
  | _ => none
theorem o_neg : Op1 X (unaryOp .USub) gNeg := Op1.of un_neg fun Pr ρ s H x u Q r hu q => by
  unfold gNeg at q
  split at q
  · exact ⟨_, hu, q.here r rfl⟩
  · exact q.elim
/-! ### <, <=, >, >= -/
def sLt (a b : List Nat) : Bool := match a, b with
  | _, [] => false
  | [], _ :: _ => true
  | x :: a, y :: b => if x < y then true else if y < x then false else sLt a b
theorem sLt_iff : ∀ (a b : List Nat), sLt a b = decide (a < b)
  | a, [] => by simp [sLt]
  | [], y :: b => by simp [sLt]
  | x :: a, y :: b => by
    unfold sLt
    by_cases h1 : x < y
    · rw [if_pos h1]; exact (decide_eq_true (List.cons_lt_cons_iff.mpr (.inl h1))).symm
    · by_cases h2 : y < x
      · simp [h1, h2, List.cons_lt_cons_iff, Nat.ne_of_gt h2]
      · have : x = y := by omega
        subst this
        simp [sLt_iff a b]
def gCmp (fi : Int → Int → Bool) (fs : List Nat → List Nat → Bool) : U → U → S → G0 := fun u u' s => match u, u' with
  | .int i, .int j => some (.bl (fi i j), s)
  | .str a, .str b => some (.bl (fs a b), s)
  | _, _ => none
def gLt := gCmp (fun i j => decide (i < j)) sLt
def gLe := gCmp (fun i j => decide (i ≤ j)) fun a b => !sLt b a
def gGt := gCmp (fun i j => decide (j < i)) fun a b => sLt b a
def gGe := gCmp (fun i j => decide (j ≤ i)) fun a b => !sLt a b
theorem o_lt : Op2 X (compareOp .Lt) gLt := by
  intro pins sh σ H Pr ρ s x y v w u u' Q I rl hu hu' rx ry q
  unfold gLt gCmp at q
  split at q
  · exact op_lt pins sh σ H x y v w Q I rx ry ⟨_, _, hu, hu', q.here rl rfl⟩
  · refine op_lt_str pins sh σ H x y v w Q I rx ry ⟨_, _, hu.1, hu'.1, ?_⟩
    rw [st_cps, st_cps, ← sLt_iff]
    exact q.here rl rfl
  · exact q.elim
theorem o_le : Op2 X (compareOp .LtE) gLe := by
  intro pins sh σ H Pr ρ s x y v w u u' Q I rl hu hu' rx ry q
  unfold gLe gCmp at q
  split at q
  · exact op_le pins sh σ H x y v w Q I rx ry ⟨_, _, hu, hu', q.here rl rfl⟩
  · refine op_le_str pins sh σ H x y v w Q I rx ry ⟨_, _, hu.1, hu'.1, ?_⟩
    rw [st_cps, st_cps, ← sLt_iff]
    exact q.here rl rfl
  · exact q.elim
theorem o_gt : Op2 X (compareOp .Gt) gGt := by
  intro pins sh σ H Pr ρ s x y v w u u' Q I rl hu hu' rx ry q
  unfold gGt gCmp at q
  split at q
  · exact op_gt pins sh σ H x y v w Q I rx ry ⟨_, _, hu, hu', q.here rl rfl⟩
  · refine op_gt_str pins sh σ H x y v w Q I rx ry ⟨_, _, hu.1, hu'.1, ?_⟩
    rw [st_cps, st_cps, ← sLt_iff]
    exact q.here rl rfl
  · exact q.elim
theorem o_ge : Op2 X (compareOp .GtE) gGe := by
  intro pins sh σ H Pr ρ s x y v w u u' Q I rl hu hu' rx ry q
  unfold gGe gCmp at q
  split at q
  · exact op_ge pins sh σ H x y v w Q I rx ry ⟨_, _, hu, hu', q.here rl rfl⟩
  · refine op_ge_str pins sh σ H x y v w Q I rx ry ⟨_, _, hu.1, hu'.1, ?_⟩
    rw [st_cps, st_cps, ← sLt_iff]
    exact q.here rl rfl
  · exact q.elim
def isNon : U → Bool
  | .non => true
  | _ => false
def gIsN : U → U → S → G0 := fun u u' s => if isNon u' = true then some (.bl (isNon u), s) else none
def gNotN : U → U → S → G0 := fun u u' s => if isNon u' = true then some (.bl (!isNon u), s) else none
theorem isNon.at {Lp : Addr → Prop} {ρ : List Addr} {K : PySem.W.Frag} {mg : Str → Option Value} {H : Hp} {u : U} {v : V} (h : UR Lp ρ K mg H u v) : decide (v = .non) = isNon u := by
  cases u with
  | non => have h : v = .non := h; subst h; rfl
  | bl b => have h : v = .bl b := h; subst h; rfl
  | int b => have h : v = .int b := h; subst h; rfl
  | str b => have h : v = .str (st b) := h.1; subst h; rfl
  | tup us => obtain ⟨a, _, h, _⟩ := h; subst h; rfl
  | lst us => obtain ⟨a, _, h, _⟩ := h; subst h; rfl
  | scr us => obtain ⟨a, _, h, _⟩ := h; subst h; rfl
  | wt us => obtain ⟨a, _, h, _⟩ := h; subst h; rfl
  | dct t us => obtain ⟨a, h, _⟩ := h; subst h; rfl
  | ref i => obtain ⟨a, _, h⟩ := h; subst h; rfl
  | obj cn fs => obtain ⟨a, _, _, _, h, _⟩ := h; subst h; rfl
theorem isNon.eq {Lp : Addr → Prop} {ρ : List Addr} {K : PySem.W.Frag} {mg : Str → Option Value} {H : Hp} {u : U} {v : V} (h : UR Lp ρ K mg H u v) (e : isNon u = true) : v = .non := by
  rw [← isNon.at h] at e
  exact of_decide_eq_true e
theorem o_isN : Op2 X (compareOp .Is) gIsN := Op2.of op_isN fun Pr ρ s H x y u u' Q r hu hu' q => by
  unfold gIsN at q
  by_cases e : isNon u' = true
  · rw [if_pos e] at q
    refine ⟨isNon.eq hu' e, ?_⟩
    rw [isNon.at hu]
    exact q.here r rfl
  · rw [if_neg e] at q; exact q.elim
theorem o_notN : Op2 X (compareOp .IsNot) gNotN := Op2.of op_notN fun Pr ρ s H x y u u' Q r hu hu' q => by
  unfold gNotN at q
  by_cases e : isNon u' = true
  · rw [if_pos e] at q
    refine ⟨isNon.eq hu' e, ?_⟩
    rw [isNon.at hu]
    exact q.here r rfl
  · rw [if_neg e] at q; exact q.elim
/-! ### chains -/
def eChain (g g' : U → U → S → G0) (m1 m2 m3 : EM) : EM := fun l s => (m1 l s).bind fun u s1 => (m2 l s1).bind fun v s2 => match g u v s2 with
  | some (.bl true, s3) => (m3 l s3).bind fun w s4 => liftG (g' v w s4)
  | some (.bl false, s3) => .ok (.bl false) s3
  | _ => .no
variable {W : WX} {a b c : Expr} {m1 m2 m3 : EM} {pos : Pos}
theorem TM.ch {g g' : U → U → S → G0} {σ : L2.St} {H : Hp} {Q : VK} (h : TM X.K X.mg W (eChain g g' m1 m2 m3) σ H Q) :
    TM X.K X.mg W m1 σ H fun x H1 => TM X.K X.mg W m2 σ H1 fun y H2 => ∃ Pr ρ l s u v, Rel X.K X.mg Pr ρ s H2 ∧ LR (Lv Pr ρ s) ρ X.K X.mg H2 l σ ∧ UR (Lv Pr ρ s) ρ X.K X.mg H2 u x ∧ UR (Lv Pr ρ s) ρ X.K X.mg H2 v y ∧
      OkA (rU X.K X.mg) X.K X.mg Pr ρ s H2 Q (wX X.K X.mg Pr fun c d H' => W c d σ H') (match g u v s with
        | some (.bl true, s3) => (m3 l s3).bind fun w s4 => liftG (g' v w s4)
        | some (.bl false, s3) => .ok (.bl false) s3
        | _ => .no) := by
  have h1 := TM.then (m := m1) (k := fun u l s1 => (m2 l s1).bind fun v s2 => match g u v s2 with
    | some (.bl true, s3) => (m3 l s3).bind fun w s4 => liftG (g' v w s4)
    | some (.bl false, s3) => .ok (.bl false) s3
    | _ => .no) h
  obtain ⟨Pr, ρ, l, s, r, lr, q⟩ := h1
  refine ⟨Pr, ρ, l, s, r, lr, OkA.mono q ?_⟩
  rintro x H1 ⟨Pr, ρ1, l1, s1, u, r1, lr1, hu, hk⟩
  refine ⟨Pr, ρ1, l1, s1, r1, lr1, OkA.mono (OkA.bind (rl := rU X.K X.mg) hk) ?_⟩
  rintro y H2 ⟨ρ2, s2, v, r2, e2, hv, hk2⟩
  exact ⟨Pr, ρ2, l1, s2, u, v, r2, LR.ext r1 e2 lr1, UR.ext r1 e2 u x hu, hv, hk2⟩
/-- the second comparison behind the first -/
theorem chain_mid {op op' : CmpOp} {g g' : U → U → S → G0} (ho : Op2 X (compareOp op) g) {pins : List (Addr × Obj)} {σ : L2.St} {H : Hp} {sh : Shared} {Pr : Addr → Prop} {ρ : List Addr} {s : S} {l : L} {x y : V} {v w : Value} {u u' : U} {Q : VK}
    (I : Inv X pins σ H sh) (r : Rel X.K X.mg Pr ρ s H) (lr : LR (Lv Pr ρ s) ρ X.K X.mg H l σ) (hu : UR (Lv Pr ρ s) ρ X.K X.mg H u x) (hu' : UR (Lv Pr ρ s) ρ X.K X.mg H u' y) (rx : RelV x v) (ry : RelV y w)
    (q : OkA (rU X.K X.mg) X.K X.mg Pr ρ s H Q (wX X.K X.mg Pr fun c d H' => W c d σ H') (match g u u' s with
        | some (.bl true, s3) => (m3 l s3).bind fun w s4 => liftG (g' u' w s4)
        | some (.bl false, s3) => .ok (.bl false) s3
        | _ => .no)) :
    wpAny (model X.prog X.w) X.A (compareOp op v w) (EP X pins σ fun z H3 => ∃ k, z = .bl k ∧ if k = true then TM X.K X.mg W m3 σ H3 fun z' H4 => ∃ Pr ρ s u2 u3, Rel X.K X.mg Pr ρ s H4 ∧ UR (Lv Pr ρ s) ρ X.K X.mg H4 u2 y ∧ UR (Lv Pr ρ s) ρ X.K X.mg H4 u3 z' ∧ OkG X.K X.mg Pr ρ s H4 Q (g' u2 u3 s) else Q (.bl false) H3) X.xe sh := by
  cases e : g u u' s with
  | none => rw [e] at q; exact q.elim
  | some p =>
    obtain ⟨t, s3⟩ := p
    rw [e] at q
    cases t with
    | bl b =>
      refine ho pins sh σ H Pr ρ s x y v w u u' _ I r hu hu' rx ry ?_
      rw [e]
      intro ρ' H' z e' r' hz
      refine ⟨b, hz, ?_⟩
      cases b with
      | false => exact q ρ' H' _ e' r' rfl
      | true =>
        refine ⟨Pr, ρ', l, s3, r', LR.ext r e' lr, OkA.mono (OkA.bind (rl := rU X.K X.mg) (OkA.ext e' q)) ?_⟩
        rintro z' H4 ⟨ρ4, s4, u3, r4, e4, hu3, hk⟩
        exact ⟨Pr, ρ4, s4, u', u3, r4, UR.ext r' e4 u' y (UR.ext r e' u' y hu'), hu3, OkG.of hk⟩
    | _ => exact q.elim
theorem me_chain {op op' : CmpOp} {g g' : U → U → S → G0} (ho : Op2 X (compareOp op) g) (ho' : Op2 X (compareOp op') g') (ha : PE X a (TM X.K X.mg W m1)) (hb : PE X b (TM X.K X.mg W m2)) (hc : PE X c (TM X.K X.mg W m3))
    (hm : lastMarks [op, op'] [b, c] = false := by with_unfolding_all rfl) : PE X (.Compare a [op, op'] [b, c] pos) (TM X.K X.mg W (eChain g g' m1 m2 m3)) := by
  refine ⟨fun pins s σ H Q I h => ?_⟩
  refine Compare_chain (thn (ha.run pins s σ H _ I (TM.ch h)) fun v s1 ⟨x, H1, I1, r1, q1⟩ => chain_link (thn (hb.run pins s1 σ H1 _ I1 q1) fun u s2 ⟨y, H2, I2, r2, Pr, ρ, l, st, u1, u2, r, lr, hu1, hu2, q2⟩ =>
    thn (chain_mid (op' := op') ho I2 r lr hu1 hu2 r1 r2 q2) fun d s3 ⟨z, H3, I3, r3, k, e, q3⟩ => ?_)) hm
  subst e
  cases r3
  refine wpAny_truthy_bool ?_
  cases k with
  | false => exact ite_ff ⟨.bl false, H3, I3, rfl, q3⟩
  | true => exact ite_tt (chain_last (thn (hc.run pins s3 σ H3 _ I3 q3) fun w' s4 ⟨z', H4, I4, r4, Pr4, ρ4, st4, w1, w2, rr, hw1, hw2, q4⟩ => ho' pins s4 σ H4 Pr4 ρ4 st4 y z' u w' w1 w2 Q I4 rr hw1 hw2 r2 r4 q4))
theorem mt_chain {op op' : CmpOp} {g g' : U → U → S → G0} (ho : Op2 X (compareOp op) g) (ho' : Op2 X (compareOp op') g') (ha : PE X a (TM X.K X.mg W m1)) (hb : PE X b (TM X.K X.mg W m2)) (hc : PE X c (TM X.K X.mg W m3))
    (hm : lastMarks [op, op'] [b, c] = false := by with_unfolding_all rfl) : PT X (.Compare a [op, op'] [b, c] pos) (TB X.K X.mg W (mB (eChain g g' m1 m2 m3))) := by
  refine ⟨fun pins s σ H Q I h => ?_⟩
  refine isTrue_chain (thn (ha.run pins s σ H _ I (TM.ch (TB.of h))) fun v s1 ⟨x, H1, I1, r1, q1⟩ => test_link (thn (hb.run pins s1 σ H1 _ I1 q1) fun u s2 ⟨y, H2, I2, r2, Pr, ρ, l, st, u1, u2, r, lr, hu1, hu2, q2⟩ =>
    thn (chain_mid (op' := op') ho I2 r lr hu1 hu2 r1 r2 q2) fun d s3 ⟨z, H3, I3, r3, k, e, q3⟩ => ?_)) hm
  subst e
  cases r3
  refine wpAny_truthy_bool ?_
  cases k with
  | false =>
    obtain ⟨k', e', q'⟩ := q3
    cases e'
    exact ite_ff ⟨H3, I3, q'⟩
  | true =>
    refine ite_tt (test_last (thn (hc.run pins s3 σ H3 _ I3 q3) fun w' s4 ⟨z', H4, I4, r4, Pr4, ρ4, st4, w1, w2, rr, hw1, hw2, q4⟩ => thn (ho' pins s4 σ H4 Pr4 ρ4 st4 y z' u w' w1 w2 _ I4 rr hw1 hw2 r2 r4 q4) fun d' s5 ⟨z2, H5, I5, r5, k2, e2, q5⟩ => ?_))
    subst e2
    cases r5
    exact wpAny_truthy_bool ⟨H5, I5, q5⟩
end
/-! ### keys -/
mutual
def kyEq : Ky → Ky → Bool
  | .int i, .int j => i == j
  | .str a, .str b => a == b
  | .tup a, .tup b => kysEq a b
  | _, _ => false
def kysEq : List Ky → List Ky → Bool
  | [], [] => true
  | a :: r, b :: t => kyEq a b && kysEq r t
  | _, _ => false
end
def kyOf : U → Option Ky
  | .int i => some (.int i)
  | .str x => some (.str x)
  | .tup us => kysOf us
  | _ => none
where
  kysOf (us : List U) : Option Ky := match ksOf us with
    | some ks => some (.tup ks)
    | none => none
  ksOf : List U → Option (List Ky)
    | [] => some []
    | .int i :: r => match ksOf r with
      | some ks => some (.int i :: ks)
      | none => none
    | .str x :: r => match ksOf r with
      | some ks => some (.str x :: ks)
      | none => none
    | _ => none
def kyU : Ky → U
  | .int i => .int i
  | .str x => .str x
  | .tup ks => .tup (ks.map kyU1)
where kyU1 : Ky → U
    | .int i => .int i
    | .str x => .str x
    | _ => .non
theorem k1_eq {a b : Ky} {x y : Key} (ha : k1 a = some x) (hb : k1 b = some y) : decide (x = y) = kyEq a b := by
  cases a with
  | int i =>
    cases ha
    cases b with
    | int j =>
      cases hb
      rw [Bool.eq_iff_iff]
      simp [kyEq]
    | str j => cases hb; simp [kyEq]
    | tup j => cases hb
  | str i =>
    cases ha
    cases b with
    | int j => cases hb; simp [kyEq]
    | str j =>
      cases hb
      by_cases e : i = j
      · subst e; simp [kyEq]
      · have : st i ≠ st j := fun z => e (st_inj z)
        simp [kyEq, e, this]
    | tup j => cases hb
  | tup i => cases ha
theorem k1s_eq : ∀ {a b : List Ky} {x y : List Key}, k1s a = some x → k1s b = some y → decide (x = y) = kysEq a b
  | [], [], x, y, ha, hb => by cases ha; cases hb; simp [kysEq]
  | [], k :: r, x, y, ha, hb => by
    cases ha
    unfold k1s at hb
    split at hb
    · cases hb; simp [kysEq]
    · cases hb
  | k :: r, [], x, y, ha, hb => by
    cases hb
    unfold k1s at ha
    split at ha
    · cases ha; simp [kysEq]
    · cases ha
  | k :: r, j :: t, x, y, ha, hb => by
    unfold k1s at ha hb
    split at ha
    · rename_i p q e1 e2
      split at hb
      · rename_i p' q' e3 e4
        cases ha
        cases hb
        have h1 := k1_eq e1 e3
        have h2 := k1s_eq e2 e4
        have : decide (p :: q = p' :: q') = (decide (p = p') && decide (q = q')) := by
          rw [Bool.eq_iff_iff]; simp
        rw [this, h1, h2]; rfl
      · cases hb
    · cases ha
theorem kt_eq {a b : Ky} {x y : List Key} (ha : kt a = some x) (hb : kt b = some y) : decide (x = y) = kyEq a b := by
  cases a with
  | tup i =>
    cases b with
    | tup j => exact k1s_eq ha hb
    | _ => cases hb
  | _ => cases ha
/-- what a dict holds -/
def dGet : List (Ky × U) → Ky → Option U
  | [], _ => none
  | (j, u) :: r, k => if kyEq j k = true then some u else dGet r k
def dPut (kvs : List (Ky × U)) (k : Ky) (u : U) : List (Ky × U) :=
  if (dGet kvs k).isSome = true then kvs.map (fun p => if kyEq p.1 k = true then (p.1, u) else p) else kvs ++ [(k, u)]
/-- the key fits the dict -/
def fits : Bool → Ky → Bool
  | true, .tup _ => true
  | false, .int _ => true
  | false, .str _ => true
  | _, _ => false
section
variable {K : PySem.W.Frag} {mg : Str → Option Value} {Lp : Addr → Prop} {ρ : List Addr} {H : Hp}
theorem URk.val {k : Ky} {kk : Key} (hk : k1 k = some kk) : ∀ {kvs : List (Ky × U)} {ks : List (Key × V)}, URk Lp ρ K mg H kvs ks → match dGet kvs k with
    | some u => ∃ v, valV ks kk = some v ∧ UR Lp ρ K mg H u v
    | none => valV ks kk = none
  | [], ks, h => by have h : ks = [] := h; subst h; rfl
  | (j, u) :: r, ks, h => by
    obtain ⟨jj, x, t, rfl, h0, h1, h2⟩ := h
    unfold dGet
    have hd := k1_eq h0 hk
    by_cases e : kyEq j k = true
    · rw [e] at hd
      rw [if_pos e]
      exact ⟨x, valV_pos (of_decide_eq_true hd), h1⟩
    · rw [if_neg e]
      have hn : ¬ jj = kk := fun z => e (by rw [← hd]; simpa using z)
      have := URk.val hk h2
      rw [valV_neg (by exact hn)]
      exact this
theorem URt.val {k : Ky} {kk : List Key} (hk : kt k = some kk) : ∀ {kvs : List (Ky × U)} {ks : List (List Key × V)}, URt Lp ρ K mg H kvs ks → match dGet kvs k with
    | some u => ∃ v, valV ks kk = some v ∧ UR Lp ρ K mg H u v
    | none => valV ks kk = none
  | [], ks, h => by have h : ks = [] := h; subst h; rfl
  | (j, u) :: r, ks, h => by
    obtain ⟨jj, x, t, rfl, h0, h1, h2⟩ := h
    unfold dGet
    have hd := kt_eq h0 hk
    by_cases e : kyEq j k = true
    · rw [e] at hd
      rw [if_pos e]
      exact ⟨x, valV_pos (of_decide_eq_true hd), h1⟩
    · rw [if_neg e]
      have hn : ¬ jj = kk := fun z => e (by rw [← hd]; simpa using z)
      have := URt.val hk h2
      rw [valV_neg (by exact hn)]
      exact this
/-- a value that is a key -/
theorem kyOf.k {u : U} {v : V} {k : Ky} (hu : UR Lp ρ K mg H u v) (h : kyOf u = some k) (hf : fits false k = true) : ∃ kk, k1 k = some kk ∧ v = kV kk := by
  cases u with
  | int i => cases h; exact ⟨.inl i, rfl, hu⟩
  | str x => cases h; exact ⟨.inr (st x), rfl, hu.1⟩
  | tup us =>
    simp only [kyOf, kyOf.kysOf] at h
    split at h
    · cases h; cases hf
    · cases h
  | _ => cases h
theorem ksOf.k : ∀ {us : List U} {xs : List V} {ks : List Ky}, URs Lp ρ K mg H us xs → kyOf.ksOf us = some ks → ∃ kk, k1s ks = some kk ∧ xs = kk.map kV
  | [], xs, ks, hu, h => by
    have hu : xs = [] := hu
    subst hu
    cases h
    exact ⟨[], rfl, rfl⟩
  | u :: us, xs, ks, hu, h => by
    obtain ⟨x, t, rfl, h1, h2⟩ := hu
    cases u with
    | int i =>
      simp only [kyOf.ksOf] at h
      split at h
      · rename_i ks' e
        cases h
        obtain ⟨kk, g1, g2⟩ := ksOf.k h2 e
        have h1 : x = .int i := h1
        exact ⟨.inl i :: kk, by simp [k1s, k1, g1], by rw [h1, g2]; rfl⟩
      · cases h
    | str i =>
      simp only [kyOf.ksOf] at h
      split at h
      · rename_i ks' e
        cases h
        obtain ⟨kk, g1, g2⟩ := ksOf.k h2 e
        have h1 : x = .str (st i) := h1.1
        exact ⟨.inr (st i) :: kk, by simp [k1s, k1, g1], by rw [h1, g2]; rfl⟩
      · cases h
    | _ => cases h
theorem kyOf.t {u : U} {v : V} {k : Ky} (hu : UR Lp ρ K mg H u v) (h : kyOf u = some k) (hf : fits true k = true) : ∃ b kk, kt k = some kk ∧ v = .ref b ∧ H b = some (.tup (kk.map kV)) := by
  cases u with
  | int i => cases h; cases hf
  | str x => cases h; cases hf
  | tup us =>
    simp only [kyOf, kyOf.kysOf] at h
    split at h
    · rename_i ks e
      cases h
      obtain ⟨a, xs, h1, h2, h3, h4⟩ := hu
      obtain ⟨kk, g1, g2⟩ := ksOf.k h4 e
      exact ⟨a, kk, g1, h1, by rw [h2, g2]⟩
    · cases h
  | _ => cases h
variable {Pr : Addr → Prop} {s : S}
/-- what a dict holds at a key, by values -/
theorem dctOf.get {u uk : U} {v y : V} {t : Bool} {kvs : List (Ky × U)} {k : Ky} (r : Rel K mg Pr ρ s H) (hu : UR (Lv Pr ρ s) ρ K mg H u v) (h : dctOf u s = some (t, kvs)) (hy : UR (Lv Pr ρ s) ρ K mg H uk y) (hk : kyOf uk = some k) (hf : fits t k = true) :
    ∃ a o, v = .ref a ∧ DGet H a y o ∧ match dGet kvs k with
      | some w => ∃ x, o = some x ∧ UR (Lv Pr ρ s) ρ K mg H w x
      | none => o = none := by
  obtain ⟨a, h1, h2, h3⟩ := dctOf.at r hu h
  rcases h3 with ⟨rfl, ks, h3, h4⟩ | ⟨rfl, ks, h3, h4⟩
  · obtain ⟨kk, g1, g2⟩ := kyOf.k hy hk hf
    refine ⟨a, valV ks kk, h1, .inl ⟨ks, kk, h3, g2, rfl⟩, ?_⟩
    exact URk.val g1 h4
  · obtain ⟨b, kk, g1, g2, g3⟩ := kyOf.t hy hk hf
    refine ⟨a, valV ks kk, h1, .inr ⟨ks, kk, b, h3, g2, g3, rfl⟩, ?_⟩
    exact URt.val g1 h4
end
end Mo
/-! Mo8: subscripts, slices, in, len. -/
namespace Mo
open PySem PySem.Spec PyProof.Rows L2
/-! ### a[b] -/
def gDget (u u' : U) (s : S) : G0 := match dctOf u s, kyOf u' with
  | some (t, kvs), some k => if fits t k = true then (match dGet kvs k with
    | some w => some (w, s)
    | none => none) else none
  | _, _ => none
def gIxI (u : U) (i : Int) (s : S) : G0 := match u with
  | .str x => if x.length ≤ sizeLine then (match atI x i with
    | some c => some (.str [c], s)
    | none => none) else none
  | _ => match seqOf u s with
    | some us => (match atI us i with
      | some w => some (w, s)
      | none => none)
    | none => none
def gIx : U → U → S → G0 := fun u u' s => match dctOf u s with
  | some _ => gDget u u' s
  | none => match u' with
    | .int i => gIxI u i s
    | _ => none
def rIxA (K : PySem.W.Frag) : R2 := fun x y H Q => rIx K x y H Q ∨ ∃ a v, x = .ref a ∧ DGet H a y (some v) ∧ Q v H
section
variable {X : Cx}
theorem ix_dct (hu : X.A.units + 64 < cLine) : IxR X (fun x y H Q => ∃ a v, x = .ref a ∧ DGet H a y (some v) ∧ Q v H) := by
  intro value slice pins s σ H x y v u Q I rx ry h hs
  obtain ⟨a, z, rfl, g, q⟩ := h
  cases rx
  exact tail_any (dict_typeIs I g) PySem.F.slot_dict_getitem.lookup (d_getItem (by omega) I g ry fun w' s3 I3 rw' => ⟨z, H, I3, rw', q⟩) hs
theorem ix_all (hu : X.A.units + 64 < cLine) : IxR X (rIxA X.K) := ix_seq.or (ix_dct hu)
section
variable {K : PySem.W.Frag} {mg : Str → Option Value} {Pr : Addr → Prop} {ρ : List Addr} {s : S} {H : Hp} {Lp : Addr → Prop}
theorem URs.at {us : List U} {xs : List V} {i : Int} {w : U} (h : URs Lp ρ K mg H us xs) (e : atI us i = some w) : ∃ x, atI xs i = some x ∧ UR Lp ρ K mg H w x := by
  unfold atI at e ⊢
  rw [URs.length h]
  cases e1 : ixN us.length i with
  | none => rw [e1] at e; cases e
  | some j =>
    rw [e1] at e
    exact URs.get h e
theorem gIx.at {u u' : U} {x y : V} {Q : VK} (r : Rel K mg Pr ρ s H) (hu : UR (Lv Pr ρ s) ρ K mg H u x) (hu' : UR (Lv Pr ρ s) ρ K mg H u' y) (q : OkG K mg Pr ρ s H Q (gIx u u' s)) : rIxA K x y H Q := by
  unfold gIx at q
  cases e : dctOf u s with
  | some p =>
    obtain ⟨t, kvs⟩ := p
    simp only [e] at q
    unfold gDget at q
    cases e2 : kyOf u' with
    | none => simp only [e, e2] at q; exact q.elim
    | some k =>
      simp only [e, e2] at q
      by_cases hf : fits t k = true
      · rw [if_pos hf] at q
        obtain ⟨a, o, h1, h2, h3⟩ := dctOf.get r hu e hu' e2 hf
        cases e3 : dGet kvs k with
        | none => simp only [e3] at q; exact q.elim
        | some w =>
          simp only [e3] at q h3
          obtain ⟨z, rfl, hz⟩ := h3
          exact .inr ⟨a, z, h1, h2, q.here r hz⟩
      · rw [if_neg hf] at q; exact q.elim
  | none =>
    simp only [e] at q
    split at q
    · rename_i i
      unfold gIxI at q
      split at q
      · rename_i z
        by_cases hl : z.length ≤ sizeLine
        · rw [if_pos hl] at q
          cases e3 : atI z i with
          | none => simp only [e3] at q; exact q.elim
          | some c =>
            simp only [e3] at q
            refine .inl (.inr (.inr ⟨st z, i, c, hu.1, hu', by rw [st_len]; exact hl, by rw [st_cps]; exact e3, ?_⟩))
            exact q.here r ⟨rfl, by show 1 ≤ sizeLine; decide⟩
        · rw [if_neg hl] at q; exact q.elim
      · cases e3 : seqOf u s with
        | none => simp only [e3] at q; exact q.elim
        | some us =>
          simp only [e3] at q
          obtain ⟨a, xs, h1, h2, h3, h4⟩ := seqOf.at r hu e3
          cases e4 : atI us i with
          | none => simp only [e4] at q; exact q.elim
          | some w =>
            simp only [e4] at q
            obtain ⟨z, g1, g2⟩ := URs.at h4 e4
            rcases h2 with h2 | h2
            · exact .inl (.inl ⟨a, xs, i, z, h1, hu', h2, g1, q.here r g2⟩)
            · exact .inl (.inr (.inl ⟨a, xs, i, z, h1, hu', h2, g1, q.here r g2⟩))
    · exact q.elim
end
variable {W : WX} {a b : Expr} {m1 m2 : EM} {pos : Pos}
theorem me_ix (hr : X.A.units + 64 < cLine) (ha : PE X a (TM X.K X.mg W m1)) (hb : PE X b (TM X.K X.mg W m2)) (hs : PlainIx b := by intro _ _; with_unfolding_all rfl) : PE X (.Subscript a b pos) (TM X.K X.mg W (eOp gIx m1 m2)) := by
  refine PE.imp (pe_ix (ix_all hr) ha hb hs) fun σ H Q h => ?_
  obtain ⟨Pr, ρ, l, s, r, lr, q⟩ := TM.two (k := fun u v s => liftG (gIx u v s)) h
  refine ⟨Pr, ρ, l, s, r, lr, OkA.mono q ?_⟩
  rintro x H1 ⟨Pr1, ρ1, l1, s1, r1, lr1, q1⟩
  refine ⟨Pr1, ρ1, l1, s1, r1, lr1, OkA.mono q1 ?_⟩
  rintro y H2 ⟨Pr2, ρ2, s2, u, v, r2, hu, hv, q2⟩
  exact gIx.at r2 hu hv (OkG.of q2)
/-! ### a[b:c] -/
def cutU {α : Type} (xs : List α) (lo hi : Option Int) : List α := (xs.drop (HT.sIx xs.length 0 lo)).take (HT.sIx xs.length xs.length hi - HT.sIx xs.length 0 lo)
def gSl (live : Bool) (u : U) (lo hi : Option Int) (s : S) : G0 := match u with
  | .str x => if x.length ≤ sizeLine then some (.str (cutU x lo hi), s) else none
  | _ => match tupOf u with
    | some us => if HT.sIx us.length 0 lo = 0 ∧ HT.sIx us.length us.length hi = us.length then some (u, s) else mkT (cutU us lo hi) s
    | none => match lstOf u s with
      | some us => mkL live (cutU us lo hi) s
      | none => none
def rSlAll (K : PySem.W.Frag) : V → Option Int → Option Int → Hp → VK → Prop := fun x lo hi H Q => (rSlL K x lo hi H Q ∨ rSlA K x lo hi H Q) ∨ rSlS x lo hi H Q
theorem sl_all : SlR X (rSlAll X.K) := (sl_list.or sl_tupA).or sl_str
theorem cutU_len {α : Type} (xs : List α) (lo hi : Option Int) : (cutU xs lo hi).length ≤ xs.length := by
  unfold cutU
  rw [List.length_take, List.length_drop]
  omega
section
variable {K : PySem.W.Frag} {mg : Str → Option Value} {Pr : Addr → Prop} {ρ : List Addr} {s : S} {H : Hp} {Lp : Addr → Prop}
theorem URs.cut {us : List U} {xs : List V} (h : URs Lp ρ K mg H us xs) (lo hi : Option Int) : URs Lp ρ K mg H (cutU us lo hi) (cutV xs lo hi) := by
  unfold cutU cutV
  rw [URs.length h]
  exact URs.take _ (URs.drop _ h)
theorem gSl.at {live : Bool} {u : U} {x : V} {lo hi : Option Int} {Q : VK} (r : Rel K mg Pr ρ s H) (hu : UR (Lv Pr ρ s) ρ K mg H u x) (q : OkG K mg Pr ρ s H Q (gSl live u lo hi s)) : rSlAll K x lo hi H Q := by
  unfold gSl at q
  split at q
  · rename_i z
    by_cases hl : z.length ≤ sizeLine
    · rw [if_pos hl] at q
      refine .inr ⟨st z, hu.1, by rw [st_len]; exact hl, ?_⟩
      have : cutS (st z) lo hi = st (cutU z lo hi) := by
        unfold cutS cutU
        rw [st_cps, st_len]; rfl
      rw [this]
      exact q.here r ⟨rfl, Nat.le_trans (cutU_len _ _ _) hl⟩
    · rw [if_neg hl] at q; exact q.elim
  · cases e : tupOf u with
    | some us =>
      simp only [e] at q
      obtain ⟨a, xs, h1, h2, h3, h4⟩ := tupOf.at hu e
      have hl := URs.length h4
      refine .inl (.inr ⟨a, xs, h1, h2, fun hw => ?_, fun hw p hp => ?_⟩)
      · rw [hl] at hw
        rw [if_pos hw] at q
        rw [← h1]
        exact q.here r hu
      · rw [hl] at hw
        rw [if_neg hw] at q
        exact q.mkT r (URs.cut h4 lo hi) hp
    | none =>
      simp only [e] at q
      cases e2 : lstOf u s with
      | none => simp only [e2] at q; exact q.elim
      | some us =>
        simp only [e2] at q
        obtain ⟨a, xs, h1, h2, h3, h4⟩ := lstOf.at r hu e2
        exact .inl (.inl ⟨a, xs, h1, h2, fun p hp => q.mkL r (URs.cut h4 lo hi) hp⟩)
end
def eSlH (live : Bool) (m mh : EM) : EM := eOp (fun u i s => match i with
  | .int i => gSl live u none (some i) s
  | _ => none) m mh
def eSlL (live : Bool) (m ml : EM) : EM := eOp (fun u i s => match i with
  | .int i => gSl live u (some i) none s
  | _ => none) m ml
def eSlB (live : Bool) (m ml mh : EM) : EM := fun l s => (m l s).bind fun u s1 => (ml l s1).bind fun i s2 => match i with
  | .int i => (mh l s2).bind fun j s3 => (match j with
    | .int j => liftG (gSl live u (some i) (some j) s3)
    | _ => .no)
  | _ => .no
def eSlN (live : Bool) (m : EM) : EM := eUn (fun u s => gSl live u none none s) m
variable {live : Bool} {m ml mh : EM} {e lo hi : Expr} {p2 : Pos}
theorem me_slH (he : PE X e (TM X.K X.mg W m)) (hh : PE X hi (TM X.K X.mg W mh)) : PE X (.Subscript e (.Slice none (some hi) none p2) pos) (TM X.K X.mg W (eSlH live m mh)) := by
  refine PE.imp (pe_slice sl_all he po_none (po_some hh)) fun σ H Q h => ?_
  obtain ⟨Pr, ρ, l, s, r, lr, q⟩ := TM.two (k := fun u i s => liftG (match i with
    | .int i => gSl live u none (some i) s
    | _ => none)) h
  refine ⟨Pr, ρ, l, s, r, lr, OkA.mono q ?_⟩
  rintro x H1 ⟨Pr1, ρ1, l1, s1, r1, lr1, q1⟩
  refine ⟨Pr1, ρ1, l1, s1, r1, lr1, OkA.mono q1 ?_⟩
  rintro y H2 ⟨Pr2, ρ2, s2, u, v, r2, hu, hv, q2⟩
  cases v with
  | int i => exact ⟨i, hv, gSl.at r2 hu (OkG.of q2)⟩
  | _ => exact q2.elim
theorem me_slL (he : PE X e (TM X.K X.mg W m)) (hh : PE X lo (TM X.K X.mg W ml)) : PE X (.Subscript e (.Slice (some lo) none none p2) pos) (TM X.K X.mg W (eSlL live m ml)) := by
  refine PE.imp (pe_slice sl_all he (po_some hh) po_none) fun σ H Q h => ?_
  obtain ⟨Pr, ρ, l, s, r, lr, q⟩ := TM.two (k := fun u i s => liftG (match i with
    | .int i => gSl live u (some i) none s
    | _ => none)) h
  refine ⟨Pr, ρ, l, s, r, lr, OkA.mono q ?_⟩
  rintro x H1 ⟨Pr1, ρ1, l1, s1, r1, lr1, q1⟩
  refine ⟨Pr1, ρ1, l1, s1, r1, lr1, OkA.mono q1 ?_⟩
  rintro y H2 ⟨Pr2, ρ2, s2, u, v, r2, hu, hv, q2⟩
  cases v with
  | int i => exact ⟨i, hv, gSl.at r2 hu (OkG.of q2)⟩
  | _ => exact q2.elim
theorem me_slN (he : PE X e (TM X.K X.mg W m)) : PE X (.Subscript e (.Slice none none none p2) pos) (TM X.K X.mg W (eSlN live m)) := by
  refine PE.imp (pe_slice sl_all he po_none po_none) fun σ H Q h => ?_
  obtain ⟨Pr, ρ, l, s, r, lr, q⟩ := TM.then (k := fun u l s => liftG (gSl live u none none s)) h
  refine ⟨Pr, ρ, l, s, r, lr, OkA.mono q ?_⟩
  rintro x H1 ⟨Pr1, ρ1, l1, s1, u, r1, lr1, hu, q1⟩
  exact gSl.at r1 hu (OkG.of q1)
theorem me_slB (he : PE X e (TM X.K X.mg W m)) (hl : PE X lo (TM X.K X.mg W ml)) (hh : PE X hi (TM X.K X.mg W mh)) : PE X (.Subscript e (.Slice (some lo) (some hi) none p2) pos) (TM X.K X.mg W (eSlB live m ml mh)) := by
  refine PE.imp (pe_slice sl_all he (po_some hl) (po_some hh)) fun σ H Q h => ?_
  have h1 := TM.then (m := m) (k := fun u l s1 => (ml l s1).bind fun i s2 => match i with
    | .int i => (mh l s2).bind fun j s3 => (match j with
      | .int j => liftG (gSl live u (some i) (some j) s3)
      | _ => .no)
    | _ => .no) h
  obtain ⟨Pr, ρ, l, s, r, lr, q⟩ := h1
  refine ⟨Pr, ρ, l, s, r, lr, OkA.mono q ?_⟩
  rintro x H1 ⟨Pr, ρ1, l1, s1, u, r1, lr1, hu, hk⟩
  refine ⟨Pr, ρ1, l1, s1, r1, lr1, OkA.mono (OkA.bind (rl := rU X.K X.mg) hk) ?_⟩
  rintro y H2 ⟨ρ2, s2, i, r2, e2, hi', hk2⟩
  have hu2 := UR.ext r1 e2 u x hu
  cases i with
  | int i =>
    refine ⟨i, hi', Pr, ρ2, l1, s2, r2, LR.ext r1 e2 lr1, OkA.mono (OkA.bind (rl := rU X.K X.mg) hk2) ?_⟩
    rintro z H3 ⟨ρ3, s3, j, r3, e3, hj, hk3⟩
    have hu3 := UR.ext r2 e3 u x hu2
    cases j with
    | int j => exact ⟨j, hj, gSl.at r3 hu3 (OkG.of hk3)⟩
    | _ => exact hk3.elim
  | _ => exact hk2.elim
/-! ### len -/
def gLen : List U → S → G0 := fun us s => match us with
  | [.str x] => if x.length ≤ sizeLine then some (.int x.length, s) else none
  | [u] => match seqOf u s with
    | some us => some (.int us.length, s)
    | none => match dctOf u s with
      | some (_, kvs) => some (.int kvs.length, s)
      | none => none
  | _ => none
theorem dT_len {Q : Value → Shared → Prop} {pins : List (Addr × Obj)} {σ : L2.St} {H : Hp} {s : Shared} {a : Addr} {A : Around} {E : Value → Shared → Prop} {kvs : List (List Key × V)} (I : Inv X pins σ H s) (e : Rd H a (.dT kvs)) (h : ∀ t s', Inv X pins σ H s' → Q (.int kvs.length t) s') : wpAny (model X.prog X.w) A (call (.builtin "len") [.ref a]) Q E s := by
  obtain ⟨z, hd, ys, rel, dd⟩ := dt_rd I.hok e
  have hl : kvs.length = ys.length := Paired.length rel
  refine call_len_dictH hd dd (by rw [← hl]; rw [sizeLine_eq] at z; omega) ?_
  rw [← hl]
  exact h _ _ (I.tok _)
theorem c_len : OpN X (.builtin "len") gLen := by
  intro pins sh σ H Pr ρ s xs vs us Q I r hus rv q
  unfold gLen at q
  split at q
  · rename_i z
    obtain ⟨x, t, rfl, hx, ht⟩ := hus
    have ht : t = [] := ht
    subst ht
    by_cases hl : z.length ≤ sizeLine
    · rw [if_pos hl] at q
      refine call_len_str pins sh σ H _ vs Q I rv ⟨st z, by rw [hx.1], by rw [st_len]; exact hl, ?_⟩
      rw [st_len]
      exact q.here r rfl
    · rw [if_neg hl] at q; exact q.elim
  · rename_i u _
    obtain ⟨x, t, rfl, hx, ht⟩ := hus
    have ht : t = [] := ht
    subst ht
    cases e : seqOf u s with
    | some ws =>
      simp only [e] at q
      obtain ⟨a, ys, h1, h2, h3, h4⟩ := seqOf.at r hx e
      refine call_len_seq pins sh σ H _ vs Q I rv ⟨a, ys, by rw [h1], h2, ?_⟩
      rw [URs.length h4]
      exact q.here r rfl
    | none =>
      simp only [e] at q
      cases e2 : dctOf u s with
      | none => simp only [e2] at q; exact q.elim
      | some p =>
        obtain ⟨tt, kvs⟩ := p
        simp only [e2] at q
        obtain ⟨a, h1, h2, h3⟩ := dctOf.at r hx e2
        subst h1
        obtain rfl := Vals.ref1 rv
        rcases h3 with ⟨_, ks, h3, h4⟩ | ⟨_, ks, h3, h4⟩
        · refine d_len I h3 fun t s' I' => ⟨.int ks.length, H, I', ⟨t, rfl⟩, ?_⟩
          rw [URk.length h4]
          exact q.here r rfl
        · refine dT_len I h3 fun t s' I' => ⟨.int ks.length, H, I', ⟨t, rfl⟩, ?_⟩
          rw [URt.length h4]
          exact q.here r rfl
  · exact q.elim
end
end Mo
/-! Mo9: == and != of data, dicts within them too. -/
namespace Mo9T
open PySem PySem.SeqAt
open AutoSeq1 (wpAny_loadPart')
open MeetsSeq MeetsSeq2 MeetsSeq3 SeqRoads2
section
variable {prog : Program} {w : World}
theorem tupEqIn (p q : Addr) (xs ys : Array Value) (n1 n2 : Nat) (d1 d2 : Option Addr) (z1 z2 : Array (Option Value)) (f : Nat → Bool) :
    MeetsIn prog w (Builtin.«tuple.__eq__» ⟨[.ref p, .ref q], []⟩)
      (fun A R s => s.heap.get? p = some { cls := .type "tuple", dict := d1, data := .seq xs n1, slots := z1 } ∧ s.heap.get? q = some { cls := .type "tuple", dict := d2, data := .seq ys n2, slots := z2 } ∧
        (∀ j (g1 : j < xs.size) (g2 : j < ys.size), EqP prog w A.in1 s xs[j] ys[j] (f j)) ∧
        R (.ok (.ret (.bool ((List.range (min xs.size ys.size)).all f && xs.size == ys.size)))) s) := by
  intro A R s h
  obtain ⟨hp, g, d, tk, os⟩ := s
  obtain ⟨k1, k2, k3, k4⟩ := h
  have f2 := AutoSeq1.sub_tuple_tuple
  have lz : (xs.toList.zip ys.toList).length = min xs.size ys.size := by simp
  wp_walk using wpAny_loadPart' k1, wpAny_loadPart' k2, wpAny_forIn_list _ (fun rest b t => b.1 = none ∧ t = ⟨hp, g, d, tk, os⟩ ∧ ∃ i, rest = (xs.toList.zip ys.toList).drop i ∧
    R (.ok (.ret (.bool (((List.range (min xs.size ys.size)).drop i).all f && xs.size == ys.size)))) ⟨hp, g, d, tk, os⟩) _
  case turn =>
    rintro ⟨y, x⟩ rest b t ⟨eb, rfl, i, ez, er⟩
    have lt0 : i < (xs.toList.zip ys.toList).length := by
      rcases Nat.lt_or_ge i (xs.toList.zip ys.toList).length with z | z
      · exact z
      · rw [List.drop_of_length_le z] at ez; cases ez
    have ltm : i < min xs.size ys.size := lz ▸ lt0
    have g1 : i < xs.size := Nat.lt_of_lt_of_le ltm (Nat.min_le_left _ _)
    have g2 : i < ys.size := Nat.lt_of_lt_of_le ltm (Nat.min_le_right _ _)
    rw [List.drop_eq_getElem_cons lt0] at ez
    injection ez with e1 e2
    have ey : y = xs[i] := by have := congrArg Prod.fst e1; simpa using this
    have ex : x = ys[i] := by have := congrArg Prod.snd e1; simpa using this
    subst ey ex
    have ed : (List.range (min xs.size ys.size)).drop i = i :: (List.range (min xs.size ys.size)).drop (i + 1) := by simp [List.drop_eq_getElem_cons, ltm]
    rw [ed, List.all_cons] at er
    refine wpAny_bind (k3 i g1 g2 _ _ ?_)
    cases ef : f i with
    | true =>
      rw [ef] at er
      wp_walk
      exact ⟨rfl, rfl, i + 1, e2, by simpa using er⟩
    | false =>
      rw [ef] at er
      wp_walk
      simpa using er
  case fin =>
    rintro ⟨b1, b2⟩ t ⟨eb, rfl, i, ez, er⟩
    simp only at eb
    subst eb
    have ge0 : min xs.size ys.size ≤ i := by
      rcases Nat.lt_or_ge i (xs.toList.zip ys.toList).length with z | z
      · rw [List.drop_eq_getElem_cons z] at ez; cases ez
      · exact lz ▸ z
    rw [List.drop_of_length_le (by simpa using ge0)] at er
    wp_walk
    simpa [Builtin.Tuple.tupleCompareSizes] using er
  case h =>
    exact ⟨rfl, rfl, 0, rfl, by simpa using k4⟩
theorem rcP_tups {A : Around} {s : Shared} {p q : Addr} {xs ys : Array Value} {f : Nat → Bool} (k1 : s.heap.IsTuple p xs) (k2 : s.heap.IsTuple q ys) (hu : A.units < cLine)
    (k3 : ∀ j (g1 : j < xs.size) (g2 : j < ys.size), EqP prog w A.in1 s xs[j] ys[j] (f j)) (E Q : Value → Shared → Prop) (h : Q (.bool ((List.range (min xs.size ys.size)).all f && xs.size == ys.size)) s) : wpAny (model prog w) A (richCompare .Eq (.ref p) (.ref q)) Q E s := by
  obtain ⟨⟨c1, d1, t1, z1⟩, o1, e1, n1, f1⟩ := id k1
  obtain ⟨⟨c2, d2, t2, z2⟩, o2, e2, n2, f2⟩ := id k2
  simp only at e1 f1 e2 f2
  subst e1 f1 e2 f2
  have ta : s.TypeIs (.ref p) "tuple" := ⟨_, o1, rfl⟩
  have tb : s.TypeIs (.ref q) "tuple" := ⟨_, o2, rfl⟩
  exact wpAny_richCompare_same_room (op := .Eq) ta tb F.slot_tuple_eq (call_meetsIn F.slot_tuple_eq ta F.entry_tuple_eq (F.args_tuple_eq_2 _ _) (tupEqIn p q xs ys n1 n2 d1 d2 z1 z2 f)
    ⟨o1, o2, k3, show Value.bool ((List.range (min xs.size ys.size)).all f && xs.size == ys.size) ≠ Value.notImplemented ∧ Q (.bool ((List.range (min xs.size ys.size)).all f && xs.size == ys.size)) s from ⟨(fun x => nomatch x), h⟩⟩) hu
end
end Mo9T
namespace Mo
open PySem PySem.Spec PyProof.Rows L2
/-- data by their worth alone -/
inductive D where
  | non | bl (b : Bool) | int (i : Int) | str (x : List Nat)
  | lst (ds : List D) | tup (ds : List D) | dct (t : Bool) (kvs : List (Ky × D))
def mapO {α β : Type} (f : α → Option β) : List α → Option (List β)
  | [] => some []
  | u :: us => match f u with
    | some d => (match mapO f us with
      | some ds => some (d :: ds)
      | none => none)
    | none => none
def mapK {α β : Type} (f : α → Option β) : List (Ky × α) → Option (List (Ky × β))
  | [] => some []
  | (k, u) :: us => match f u with
    | some d => (match mapK f us with
      | some ds => some ((k, d) :: ds)
      | none => none)
    | none => none
def dat : Nat → S → U → Option D
  | 0, _, _ => none
  | n + 1, s, u => match u with
    | .non => some .non
    | .bl b => some (.bl b)
    | .int i => some (.int i)
    | .str x => some (.str x)
    | _ => match tupOf u with
      | some us => (match mapO (dat n s) us with
        | some ds => some (.tup ds)
        | none => none)
      | none => match lstOf u s with
        | some us => (match mapO (dat n s) us with
          | some ds => some (.lst ds)
          | none => none)
        | none => match dctOf u s with
          | some (t, kvs) => (match mapK (dat n s) kvs with
            | some ds => some (.dct t ds)
            | none => none)
          | none => none
mutual
def DR (K : PySem.W.Frag) (H : Hp) : D → V → Prop
  | .non, v => v = .non
  | .bl b, v => v = .bl b
  | .int i, v => v = .int i
  | .str x, v => v = .str (st x)
  | .lst ds, v => ∃ a xs, v = .ref a ∧ SqL K H a xs ∧ DRs K H ds xs
  | .tup ds, v => ∃ a xs, v = .ref a ∧ SqT K H a xs ∧ DRs K H ds xs
  | .dct t kvs, v => ∃ a, v = .ref a ∧ ((t = false ∧ ∃ ks, Rd H a (.dK ks) ∧ DRk K H kvs ks) ∨ (t = true ∧ ∃ ks, Rd H a (.dT ks) ∧ DRt K H kvs ks))
def DRs (K : PySem.W.Frag) (H : Hp) : List D → List V → Prop
  | [], xs => xs = []
  | d :: ds, xs => ∃ x r, xs = x :: r ∧ DR K H d x ∧ DRs K H ds r
def DRk (K : PySem.W.Frag) (H : Hp) : List (Ky × D) → List (Key × V) → Prop
  | [], xs => xs = []
  | (k, d) :: ds, xs => ∃ kk x r, xs = (kk, x) :: r ∧ k1 k = some kk ∧ DR K H d x ∧ DRk K H ds r
def DRt (K : PySem.W.Frag) (H : Hp) : List (Ky × D) → List (List Key × V) → Prop
  | [], xs => xs = []
  | (k, d) :: ds, xs => ∃ kk x r, xs = (kk, x) :: r ∧ kt k = some kk ∧ DR K H d x ∧ DRt K H ds r
end
section
variable {K : PySem.W.Frag} {mg : Str → Option Value} {Pr : Addr → Prop} {ρ : List Addr} {s : S} {H : Hp}
variable {f : U → Option D}
theorem dats.at (hf : ∀ u v d, UR (Lv Pr ρ s) ρ K mg H u v → f u = some d → DR K H d v) : ∀ (us : List U) (xs : List V) (ds : List D), URs (Lv Pr ρ s) ρ K mg H us xs → mapO f us = some ds → DRs K H ds xs
  | [], xs, ds, hu, h => by
    cases h
    exact hu
  | u :: us, xs, ds, hu, h => by
    obtain ⟨x, t, rfl, h1, h2⟩ := hu
    unfold mapO at h
    cases e : f u with
    | none => simp only [e] at h; cases h
    | some d =>
      simp only [e] at h
      cases e2 : mapO f us with
      | none => simp only [e2] at h; cases h
      | some ds' =>
        simp only [e2] at h
        cases h
        exact ⟨x, t, rfl, hf u x d h1 e, dats.at hf us t ds' h2 e2⟩
theorem datk.at (hf : ∀ u v d, UR (Lv Pr ρ s) ρ K mg H u v → f u = some d → DR K H d v) : ∀ (us : List (Ky × U)) (xs : List (Key × V)) (ds : List (Ky × D)), URk (Lv Pr ρ s) ρ K mg H us xs → mapK f us = some ds → DRk K H ds xs
  | [], xs, ds, hu, h => by
    cases h
    exact hu
  | (k, u) :: us, xs, ds, hu, h => by
    obtain ⟨kk, x, t, rfl, h0, h1, h2⟩ := hu
    unfold mapK at h
    cases e : f u with
    | none => simp only [e] at h; cases h
    | some d =>
      simp only [e] at h
      cases e2 : mapK f us with
      | none => simp only [e2] at h; cases h
      | some ds' =>
        simp only [e2] at h
        cases h
        exact ⟨kk, x, t, rfl, h0, hf u x d h1 e, datk.at hf us t ds' h2 e2⟩
theorem datt.at (hf : ∀ u v d, UR (Lv Pr ρ s) ρ K mg H u v → f u = some d → DR K H d v) : ∀ (us : List (Ky × U)) (xs : List (List Key × V)) (ds : List (Ky × D)), URt (Lv Pr ρ s) ρ K mg H us xs → mapK f us = some ds → DRt K H ds xs
  | [], xs, ds, hu, h => by
    cases h
    exact hu
  | (k, u) :: us, xs, ds, hu, h => by
    obtain ⟨kk, x, t, rfl, h0, h1, h2⟩ := hu
    unfold mapK at h
    cases e : f u with
    | none => simp only [e] at h; cases h
    | some d =>
      simp only [e] at h
      cases e2 : mapK f us with
      | none => simp only [e2] at h; cases h
      | some ds' =>
        simp only [e2] at h
        cases h
        exact ⟨kk, x, t, rfl, h0, hf u x d h1 e, datt.at hf us t ds' h2 e2⟩
theorem dat.at (r : Rel K mg Pr ρ s H) : ∀ (n : Nat) (u : U) (v : V) (d : D), UR (Lv Pr ρ s) ρ K mg H u v → dat n s u = some d → DR K H d v := by
  intro n
  induction n with
  | zero => intro u v d _ h; cases h
  | succ n ih =>
    intro u v d hu h
    unfold dat at h
    split at h
    · cases h; exact hu
    · cases h; exact hu
    · cases h; exact hu
    · cases h; exact hu.1
    · cases e : tupOf u with
      | some us =>
        simp only [e] at h
        cases e2 : mapO (dat n s) us with
        | none => simp only [e2] at h; cases h
        | some ds =>
          simp only [e2] at h
          cases h
          obtain ⟨a, xs, h1, h2, h3, h4⟩ := tupOf.at hu e
          exact ⟨a, xs, h1, h2, dats.at ih us xs ds h4 e2⟩
      | none =>
        simp only [e] at h
        cases e1 : lstOf u s with
        | some us =>
          simp only [e1] at h
          cases e2 : mapO (dat n s) us with
          | none => simp only [e2] at h; cases h
          | some ds =>
            simp only [e2] at h
            cases h
            obtain ⟨a, xs, h1, h2, h3, h4⟩ := lstOf.at r hu e1
            exact ⟨a, xs, h1, h2, dats.at ih us xs ds h4 e2⟩
        | none =>
          simp only [e1] at h
          cases e3 : dctOf u s with
          | none => simp only [e3] at h; cases h
          | some p =>
            obtain ⟨t, kvs⟩ := p
            simp only [e3] at h
            cases e2 : mapK (dat n s) kvs with
            | none => simp only [e2] at h; cases h
            | some ds =>
              simp only [e2] at h
              cases h
              obtain ⟨a, h1, h2, h3⟩ := dctOf.at r hu e3
              refine ⟨a, h1, ?_⟩
              rcases h3 with ⟨ht, ks, h3, h4⟩ | ⟨ht, ks, h3, h4⟩
              · exact .inl ⟨ht, ks, h3, datk.at ih kvs ks ds h4 e2⟩
              · exact .inr ⟨ht, ks, h3, datt.at ih kvs ks ds h4 e2⟩
theorem DRs.length : ∀ {ds : List D} {xs : List V}, DRs K H ds xs → xs.length = ds.length
  | [], _, h => by have h : _ = [] := h; subst h; rfl
  | d :: ds, _, h => by
    obtain ⟨x, t, rfl, _, h⟩ := h
    simp [DRs.length h]
theorem DRk.length : ∀ {ds : List (Ky × D)} {xs : List (Key × V)}, DRk K H ds xs → xs.length = ds.length
  | [], _, h => by have h : _ = [] := h; subst h; rfl
  | (k, d) :: ds, _, h => by
    obtain ⟨kk, x, t, rfl, _, _, h⟩ := h
    simp [DRk.length h]
theorem DRs.get : ∀ {ds : List D} {xs : List V} {i : Nat} {x : V}, DRs K H ds xs → xs[i]? = some x → ∃ d, ds[i]? = some d ∧ DR K H d x
  | [], xs, i, x, hs, h => by
    have hs : xs = [] := hs
    subst hs
    cases i <;> cases h
  | d :: ds, xs, 0, x, hs, h => by
    obtain ⟨y, t, rfl, h1, h2⟩ := hs
    cases h; exact ⟨d, rfl, h1⟩
  | d :: ds, xs, i + 1, x, hs, h => by
    obtain ⟨y, t, rfl, h1, h2⟩ := hs
    exact DRs.get (i := i) h2 h
end
/-! ### the answer of == -/
def flatD : D → Option V
  | .non => some .non
  | .bl b => some (.bl b)
  | .int i => some (.int i)
  | .str x => some (.str (st x))
  | _ => none
/-- == of what is no container -/
def flEq : D → D → Option Bool
  | .non, .non => some true
  | .bl a, .bl b => some (a == b)
  | .int a, .int b => some (a == b)
  | .str a, .str b => some (a == b)
  | .non, .bl _ | .non, .int _ | .non, .str _ | .bl _, .non | .bl _, .str _ | .int _, .non | .int _, .str _ | .str _, .non | .str _, .bl _ | .str _, .int _ => some false
  | _, _ => none
def dGetD : List (Ky × D) → Ky → Option D
  | [], _ => none
  | (j, u) :: r, k => if kyEq j k = true then some u else dGetD r k
/-- answers of pairs -/
def andO : Option Bool → Option Bool → Option Bool
  | some a, some b => some (a && b)
  | _, _ => none
def allZ (f : D → D → Option Bool) : List D → List D → Option Bool
  | a :: as, b :: bs => andO (f a b) (allZ f as bs)
  | _, _ => some true
def hitsZ (f : D → D → Option Bool) (kb : List (Ky × D)) : List (Ky × D) → Option Bool
  | [] => some true
  | (k, v) :: r => match dGetD kb k with
    | none => some false
    | some y => andO (f v y) (hitsZ f kb r)
def deqO : Nat → D → D → Option Bool
  | 0, _, _ => none
  | n + 1, d, e => match d, e with
    | .lst a, .lst b => if a.length == b.length then allZ (deqO n) a b else some false
    | .tup a, .tup b => andO (allZ (deqO n) a b) (some (a.length == b.length))
    | .dct false a, .dct false b => if a.length == b.length then hitsZ (deqO n) b a else some false
    | d, e => flEq d e
section
variable {X : Cx} {pins : List (Addr × Obj)} {σ : L2.St} {H : Hp} {s : Shared}
theorem st_beq (a b : List Nat) : (st a == st b) = (a == b) := by
  rw [Bool.eq_iff_iff]
  simp only [beq_iff_eq]
  exact ⟨fun h => st_inj h, fun h => by rw [h]⟩
/-- flat ones -/
theorem flEq.at {d e : D} {x y : V} {v w : Value} {b : Bool} {A : Around} (hd : DR X.K H d x) (he : DR X.K H e y) (rx : RelV x v) (ry : RelV y w) (h : flEq d e = some b) : SeqAt.EqAt A s v w b := by
  have go : ∀ z : Bool, flatV x = true → flatV y = true → eqV x y = z → SeqAt.EqAt A s v w z := fun z f1 f2 ez => by
    subst ez
    exact eqAt_V rx ry f1 f2
  unfold flEq at h
  split at h
  all_goals first
    | (cases h; done)
    | (cases hd; cases he; cases h; exact go _ rfl rfl (by simp only [eqV, st_beq]))
theorem deqO.same (I : Inv X pins σ H s) : ∀ (n : Nat) (d e : D) (x : V) (b : Bool), DR X.K H d x → DR X.K H e x → deqO n d e = some b → b = true := by
  intro n
  induction n with
  | zero => intro d e x b _ _ h; cases h
  | succ n ih =>
    have lz : ∀ (a b : List D) (xs : List V) (z : Bool), DRs X.K H a xs → DRs X.K H b xs → allZ (deqO n) a b = some z → z = true := by
      intro a
      induction a with
      | nil => intro b xs z _ _ h; cases b <;> (cases h; rfl)
      | cons p ps ih2 =>
        intro b xs z ha hb h
        obtain ⟨x, t, rfl, h1, h2⟩ := ha
        cases b with
        | nil => cases h; rfl
        | cons q qs =>
          obtain ⟨x', t', e, g1, g2⟩ := hb
          cases e
          unfold allZ andO at h
          cases e1 : deqO n p q with
          | none => simp only [e1] at h; cases h
          | some r1 =>
            cases e2 : allZ (deqO n) ps qs with
            | none => simp only [e1, e2] at h; cases h
            | some r2 =>
              simp only [e1, e2] at h
              cases h
              rw [ih p q _ r1 h1 g1 e1, ih2 qs _ r2 h2 g2 e2]; rfl
    intro d e x b hd he h
    unfold deqO at h
    split at h
    · obtain ⟨a1, xs, h1, h2, h3⟩ := hd
      obtain ⟨a2, ys, g1, g2, g3⟩ := he
      subst h1
      cases g1
      obtain ⟨its, r1, ⟨o1, n1, e1, _, _, e2⟩, _⟩ := I.list h2
      obtain ⟨its2, r2, ⟨o2, n2, f1, _, _, f2⟩, _⟩ := I.list g2
      rw [e1] at f1
      cases f1
      rw [e2] at f2
      have hi : its = its2 := by injection f2 with f2 _; exact (by simpa using f2)
      subst hi
      have := Vals.inj r1 r2
      subst this
      have l1 := DRs.length h3
      have l2 := DRs.length g3
      rw [if_pos (by rw [beq_iff_eq]; omega)] at h
      exact lz _ _ _ _ h3 g3 h
    · rename_i pa pb
      obtain ⟨a1, xs, h1, h2, h3⟩ := hd
      obtain ⟨a2, ys, g1, g2, g3⟩ := he
      subst h1
      cases g1
      obtain ⟨its, r1, ⟨o1, e1, _, n1, e2⟩, _⟩ := I.tuple h2
      obtain ⟨its2, r2, ⟨o2, f1, _, n2, f2⟩, _⟩ := I.tuple g2
      rw [e1] at f1
      cases f1
      rw [e2] at f2
      have hi : its = its2 := by injection f2 with f2 _; exact (by simpa using f2)
      subst hi
      have := Vals.inj r1 r2
      subst this
      have l1 := DRs.length h3
      have l2 := DRs.length g3
      have h : andO (allZ (deqO n) pa pb) (some (pa.length == pb.length)) = some b := h
      unfold andO at h
      split at h
      · rename_i r3 r4 e3 e4
        cases h
        cases e4
        rw [lz _ _ _ _ h3 g3 e3, Bool.true_and, beq_iff_eq]
        omega
      · cases h
    · rename_i ka kb
      obtain ⟨a1, h1, h2⟩ := hd
      obtain ⟨a2, g1, g2⟩ := he
      subst h1
      cases g1
      rcases h2 with ⟨_, ks, h2, h3⟩ | ⟨h2, _⟩
      · rcases g2 with ⟨_, ls, g2, g3⟩ | ⟨g2, _⟩
        · obtain ⟨_, _, vs, rl, dd⟩ := dk_rd I.hok h2
          obtain ⟨_, _, ws, rl2, dd2⟩ := dk_rd I.hok g2
          have hks : ls = ks := by
            rcases h2 with h2 | ⟨o, h2⟩ <;> rcases g2 with g2 | ⟨o', g2⟩ <;> (rw [h2] at g2; cases g2 <;> rfl)
          subst hks
          have nd : (ls.map (·.1)).Nodup := by
            obtain ⟨_, _, _, _, _, _, _, _, nd⟩ := dd
            rw [rl.keys]; exact nd
          have l1 := DRk.length h3
          have l2 := DRk.length g3
          rw [if_pos (by rw [beq_iff_eq]; omega)] at h
          -- what stands at a place of the one stands there in the other
          have fd : ∀ (kb : List (Ky × D)) (ls : List (Key × V)), DRk X.K H kb ls → (ls.map (·.1)).Nodup → ∀ k kk x, k1 k = some kk → (kk, x) ∈ ls → ∃ d, dGetD kb k = some d ∧ DR X.K H d x := by
            intro kb
            induction kb with
            | nil => intro ls h _ k kk x _ hm; have h : ls = [] := h; subst h; cases hm
            | cons p ps ih2 =>
              intro ls h nd k kk x hk hm
              obtain ⟨j, u⟩ := p
              obtain ⟨jj, y, t, rfl, q1, q2, q3⟩ := h
              have hd := k1_eq q1 hk
              unfold dGetD
              rw [List.map_cons, List.nodup_cons] at nd
              rcases List.mem_cons.mp hm with e | hm
              · cases e
                rw [decide_eq_true rfl] at hd
                rw [if_pos hd.symm]
                exact ⟨u, rfl, q2⟩
              · have hne : ¬ jj = kk := fun z => nd.1 (by rw [show ((jj, y) : Key × V).1 = kk from z]; exact List.mem_map.mpr ⟨_, hm, rfl⟩)
                rw [decide_eq_false hne] at hd
                rw [if_neg (by rw [← hd]; exact Bool.false_ne_true)]
                exact ih2 t q3 nd.2 k kk x hk hm
          have go : ∀ (ka : List (Ky × D)) (ks : List (Key × V)) (z : Bool), DRk X.K H ka ks → (∀ p ∈ ks, p ∈ ls) → hitsZ (deqO n) kb ka = some z → z = true := by
            intro ka
            induction ka with
            | nil => intro ks z _ _ h; cases h; rfl
            | cons p ps ih2 =>
              intro ks z h hs hz
              obtain ⟨j, u⟩ := p
              obtain ⟨jj, y, t, rfl, q1, q2, q3⟩ := h
              obtain ⟨w, w1, w2⟩ := fd kb ls g3 nd j jj y q1 (hs _ List.mem_cons_self)
              unfold hitsZ at hz
              simp only [w1] at hz
              unfold andO at hz
              cases e1 : deqO n u w with
              | none => simp only [e1] at hz; cases hz
              | some r1 =>
                cases e2 : hitsZ (deqO n) kb ps with
                | none => simp only [e1, e2] at hz; cases hz
                | some r2 =>
                  simp only [e1, e2] at hz
                  cases hz
                  rw [ih u w y r1 q2 w2 e1, ih2 t r2 q3 (fun p hp => hs p (List.mem_cons_of_mem _ hp)) e2]; rfl
          exact go ka ls b h3 (fun _ h => h) h
        · cases g2
      · cases h2
    · -- flat
      rename_i h0 h1 h2
      unfold flEq at h
      split at h
      all_goals first
        | (cases h; done)
        | (cases hd; cases h; first | rfl | (cases he; simp))
        | (cases hd; cases h; cases he)
        | (cases hd; cases h; have he := st_inj (V.str.inj he); subst he; simp)
end
end Mo
/-! Mo10: the operators ==, !=, in, not in. -/
namespace Mo
open PySem PySem.Spec PyProof.Rows L2
def zAt (f : D → D → Option Bool) (a b : List D) (j : Nat) : Bool := match a[j]?, b[j]? with
  | some p, some q => f p q == some true
  | _, _ => true
theorem zAt_cons {f : D → D → Option Bool} {p q : D} {a b : List D} : (fun j => zAt f (p :: a) (q :: b) (j + 1)) = zAt f a b := by
  funext j; simp [zAt]
theorem allZ_all {f : D → D → Option Bool} : ∀ {a b : List D} {z : Bool}, allZ f a b = some z → (List.range (min a.length b.length)).all (zAt f a b) = z ∧ ∀ j p q, a[j]? = some p → b[j]? = some q → f p q = some (zAt f a b j)
  | [], b, z, h => by
    have : z = true := by cases b <;> (cases h; rfl)
    subst this
    simp
  | p :: a, [], z, h => by
    cases h
    simp
  | p :: a, q :: b, z, h => by
    unfold allZ andO at h
    split at h
    · rename_i r1 r2 e1 e2
      cases h
      obtain ⟨h1, h2⟩ := allZ_all e2
      have hm : min (p :: a).length (q :: b).length = min a.length b.length + 1 := by simp only [List.length_cons]; omega
      have e0 : zAt f (p :: a) (q :: b) 0 = r1 := by
        unfold zAt
        simp only [List.getElem?_cons_zero]
        rw [e1]
        cases r1 <;> rfl
      refine ⟨?_, fun j x y hx hy => ?_⟩
      · rw [hm, List.range_succ_eq_map, List.all_cons, List.all_map, e0]
        have : (zAt f (p :: a) (q :: b) ∘ Nat.succ) = zAt f a b := zAt_cons
        rw [this, h1]
      · cases j with
        | zero => cases hx; cases hy; rw [e0]; exact e1
        | succ j =>
          have := h2 j x y hx hy
          rw [this]
          exact congrArg some (congrFun zAt_cons j).symm
    · cases h
section
variable {X : Cx} {pins : List (Addr × Obj)} {σ : L2.St} {H : Hp} {s : Shared}
theorem items_at {P : Program} {w : World} {A : Around} {f : D → D → Option Bool} {K : PySem.W.Frag} (ih : ∀ d e x y v w' b, f d e = some b → DR K H d x → DR K H e y → RelV x v → RelV y w' → SeqAt.EqP P w A s v w' b) {a b : List D} {z : Bool} {xs ys : List V} {us ws : List Value} (h : allZ f a b = some z)
    (ha : DRs K H a xs) (hb : DRs K H b ys) (r1 : Vals xs us) (r2 : Vals ys ws) (j : Nat) (g1 : j < us.length) (g2 : j < ws.length) : SeqAt.EqP P w A s us[j] ws[j] (zAt f a b j) := by
  have l1 := r1.length
  have l2 := r2.length
  have hx : xs[j]? = some xs[j] := List.getElem?_eq_getElem (by omega)
  have hy : ys[j]? = some ys[j] := List.getElem?_eq_getElem (by omega)
  obtain ⟨d, hd1, hd2⟩ := DRs.get ha hx
  obtain ⟨e, he1, he2⟩ := DRs.get hb hy
  obtain ⟨u, hu1, hu2⟩ := r1.get hx
  obtain ⟨w', hw1, hw2⟩ := r2.get hy
  rw [List.getElem?_eq_getElem g1] at hu1
  rw [List.getElem?_eq_getElem g2] at hw1
  cases hu1
  cases hw1
  exact ih d e _ _ _ _ _ ((allZ_all h).2 j d e hd1 he1) hd2 he2 hu2 hw2
theorem dct_hits {X : Cx} {H : Hp} {s : Shared} {A : Around} {n : Nat} (ih : ∀ d e x y v w' b, deqO n d e = some b → DR X.K H d x → DR X.K H e y → RelV x v → RelV y w' → SeqAt.EqP X.prog X.w A.in1 s v w' b) {ka kb : List (Ky × D)} {ks ls : List (Key × V)} {va vb : List (Key × Value)} {b : Bool}
    (h3 : DRk X.K H ka ks) (g3 : DRk X.K H kb ls) (ra : KV ks va) (rb : KV ls vb) (h : hitsZ (deqO n) kb ka = some b) : PySem.W.KeqHitsP X.prog X.w A.in1 s vb va b := by
  have fd : ∀ {kb : List (Ky × D)} {ls : List (Key × V)} {k : Ky} {kk : Key}, DRk X.K H kb ls → k1 k = some kk → match dGetD kb k with
      | some u => ∃ v, valV ls kk = some v ∧ DR X.K H u v
      | none => valV ls kk = none := by
    intro kb
    induction kb with
    | nil => intro ls k kk h _; have h : ls = [] := h; subst h; rfl
    | cons p ps ih2 =>
      intro ls k kk h hk
      obtain ⟨j, u⟩ := p
      obtain ⟨jj, y, t, rfl, q1, q2, q3⟩ := h
      have hd := k1_eq q1 hk
      unfold dGetD
      by_cases e : kyEq j k = true
      · rw [if_pos e]
        rw [e] at hd
        exact ⟨y, valV_pos (of_decide_eq_true hd), q2⟩
      · rw [if_neg e]
        have hn : ¬ jj = kk := fun z => e (by rw [← hd]; simpa using z)
        have := ih2 q3 hk
        rw [valV_neg (by exact hn)]
        exact this
  have go : ∀ (ka : List (Ky × D)) (ks : List (Key × V)) (va : List (Key × Value)) (z : Bool), DRk X.K H ka ks → KV ks va → hitsZ (deqO n) kb ka = some z → PySem.W.KeqHitsP X.prog X.w A.in1 s vb va z := by
    intro ka
    induction ka with
    | nil =>
      intro ks va z h r hz
      have h : ks = [] := h
      subst h
      cases r
      cases hz
      exact .nil
    | cons p ps ih2 =>
      intro ks va z h r hz
      obtain ⟨j, u⟩ := p
      obtain ⟨jj, y', t, rfl, q1, q2, q3⟩ := h
      unfold KV at r
      cases r with
      | @cons _ vv _ vs r1 r2 =>
        obtain ⟨key, val⟩ := vv
        obtain ⟨s1, s2⟩ := r1
        have s1 : jj = key := s1
        subst s1
        have hf := fd (kb := kb) g3 q1
        have hro := rb.val jj
        unfold hitsZ at hz
        cases e1 : dGetD kb j with
        | none =>
          simp only [e1] at hz hf
          cases hz
          rw [hf] at hro
          refine .miss ?_
          cases e5 : valueAt vb jj with
          | none => rfl
          | some _ => rw [e5] at hro; exact hro.elim
        | some w1 =>
          simp only [e1] at hz hf
          obtain ⟨v1, f1, f2⟩ := hf
          rw [f1] at hro
          obtain ⟨y1, hy, ry1⟩ := RelO.some_of hro
          unfold andO at hz
          split at hz
          · rename_i b1 b2 e3 e4
            cases hz
            exact .hit hy (ih u w1 y' v1 val y1 b1 e3 q2 f2 s2 ry1) (ih2 t vs b2 q3 r2 e4)
          · cases hz
  exact go ka ks va b h3 ra h
/-- == of two containers, by what is known of their items -/
theorem deq_rc (I : Inv X pins σ H s) {A : Around} {n : Nat} (hu : A.units + 1 < cLine) (ih : ∀ d e x y v w' b, deqO n d e = some b → DR X.K H d x → DR X.K H e y → RelV x v → RelV y w' → SeqAt.EqP X.prog X.w A.in1 s v w' b)
    {d e : D} {x y : V} {v w : Value} {b : Bool} (h : deqO (n + 1) d e = some b) (nf : flatD d = none ∨ flatD e = none) (hd : DR X.K H d x) (he : DR X.K H e y) (rx : RelV x v) (ry : RelV y w) (E Q : Value → Shared → Prop) (q : Q (.bool b) s) : wpAny (model X.prog X.w) A (richCompare .Eq v w) Q E s := by
  unfold deqO at h
  split at h
  · rename_i pa pb
    obtain ⟨a1, xs, rfl, h2, h3⟩ := hd
    obtain ⟨a2, ys, rfl, g2, g3⟩ := he
    cases rx
    cases ry
    obtain ⟨us, r1, p1, _⟩ := I.list h2
    obtain ⟨ws, r2, p2, _⟩ := I.list g2
    have l1 := DRs.length h3
    have l2 := DRs.length g3
    have m1 := r1.length
    have m2 := r2.length
    by_cases hl : pa.length = pb.length
    · rw [if_pos (by rw [beq_iff_eq]; exact hl)] at h
      have hsz : us.toArray.size = ws.toArray.size := by rw [List.size_toArray, List.size_toArray]; omega
      refine SeqAt.rcP_lists (e := zAt (deqO n) pa pb) p1.isList p2.isList hsz (by omega) (fun j g1 g2 => ?_) E Q ?_
      · have := items_at ih h h3 g3 r1 r2 j (by simpa using g1) (by simpa using g2)
        simpa using this
      · have := (allZ_all h).1
        rw [show us.toArray.size = min pa.length pb.length by rw [List.size_toArray]; omega, this]
        exact q
    · rw [if_neg (by rw [beq_iff_eq]; exact hl)] at h
      cases h
      exact SeqAt.RcAt.lists_lengths p1.isList p2.isList (by simp only [List.size_toArray, bne_iff_ne]; omega) (by omega) _ _ E Q q
  · rename_i pa pb
    obtain ⟨a1, xs, rfl, h2, h3⟩ := hd
    obtain ⟨a2, ys, rfl, g2, g3⟩ := he
    cases rx
    cases ry
    obtain ⟨us, r1, p1, _⟩ := I.tuple h2
    obtain ⟨ws, r2, p2, _⟩ := I.tuple g2
    have l1 := DRs.length h3
    have l2 := DRs.length g3
    have m1 := r1.length
    have m2 := r2.length
    unfold andO at h
    split at h
    · rename_i z1 z2 e1 e2
      cases h
      cases e2
      refine Mo9T.rcP_tups (f := zAt (deqO n) pa pb) p1 p2 (by omega) (fun j g1 g2 => ?_) E Q ?_
      · have := items_at ih e1 h3 g3 r1 r2 j (by simpa using g1) (by simpa using g2)
        simpa using this
      · have := (allZ_all e1).1
        rw [show min us.toArray.size ws.toArray.size = min pa.length pb.length by rw [List.size_toArray, List.size_toArray]; omega, this]
        rw [show (us.toArray.size == ws.toArray.size) = (pa.length == pb.length) by
          rw [List.size_toArray, List.size_toArray, Bool.eq_iff_iff, beq_iff_eq, beq_iff_eq]; omega]
        exact q
    · cases h
  · rename_i ka kb
    obtain ⟨a1, rfl, h2⟩ := hd
    obtain ⟨a2, rfl, g2⟩ := he
    cases rx
    cases ry
    rcases h2 with ⟨_, ks, h2, h3⟩ | ⟨h2, _⟩
    · rcases g2 with ⟨_, ls, g2, g3⟩ | ⟨g2, _⟩
      · obtain ⟨_, ya, va, ra, da⟩ := dk_rd I.hok h2
        obtain ⟨_, yb, vb, rb, db⟩ := dk_rd I.hok g2
        have l1 := DRk.length h3
        have l2 := DRk.length g3
        have m1 := ra.length
        have m2 := rb.length
        have hv : (va.length == vb.length) = (ka.length == kb.length) := by rw [Bool.eq_iff_iff, beq_iff_eq, beq_iff_eq]; omega
        by_cases hl : ka.length = kb.length
        · rw [if_pos (by rw [beq_iff_eq]; exact hl)] at h
          refine PySem.W.rcP_dicts (knd := mixKind X.prog X.w) (r := b) ya yb da db (by omega) (fun _ => ?_) E Q ?_
          · exact dct_hits ih h3 g3 ra rb h
          · rw [hv, show (ka.length == kb.length) = true by rw [beq_iff_eq]; exact hl, Bool.true_and]
            exact q
        · rw [if_neg (by rw [beq_iff_eq]; exact hl)] at h
          cases h
          refine PySem.W.rcP_dicts (knd := mixKind X.prog X.w) (r := false) ya yb da db (by omega) (fun z => absurd (by omega) hl) E Q ?_
          rw [Bool.and_false]
          exact q
      · cases g2
    · cases h2
  · exfalso
    unfold flEq at h
    split at h
    all_goals first
      | (cases h; done)
      | (rcases nf with z | z <;> (cases z; done))
theorem deq_run (I : Inv X pins σ H s) : ∀ (n : Nat) (A : Around) (d e : D) (x y : V) (v w : Value) (b : Bool), A.units + n + 1 < cLine → deqO n d e = some b → DR X.K H d x → DR X.K H e y → RelV x v → RelV y w → SeqAt.EqP X.prog X.w A s v w b := by
  intro n
  induction n with
  | zero => intro A d e x y v w b _ h; cases h
  | succ n ih =>
    intro A d e x y v w b hu h hd he rx ry
    by_cases nf : flatD d = none ∨ flatD e = none
    · have step := deq_rc I (A := A) (by omega) (fun d e x y v w' b => ih A.in1 d e x y v w' b (by show A.units + 1 + n + 1 < cLine; omega)) h nf hd he rx ry
      have ref : ∀ {d : D} {x : V}, flatD d = none → DR X.K H d x → ∃ a, x = .ref a := by
        intro d x hf hd
        cases d with
        | lst ds => obtain ⟨a, _, h, _⟩ := hd; exact ⟨a, h⟩
        | tup ds => obtain ⟨a, _, h, _⟩ := hd; exact ⟨a, h⟩
        | dct t ds => obtain ⟨a, h, _⟩ := hd; exact ⟨a, h⟩
        | _ => cases hf
      have both : flatD d = none ∧ flatD e = none := by
        unfold deqO at h
        split at h
        · exact ⟨rfl, rfl⟩
        · exact ⟨rfl, rfl⟩
        · exact ⟨rfl, rfl⟩
        · exfalso
          unfold flEq at h
          split at h
          all_goals first
            | (cases h; done)
            | (rcases nf with z | z <;> (cases z; done))
      obtain ⟨a1, rfl⟩ := ref both.1 hd
      obtain ⟨a2, rfl⟩ := ref both.2 he
      cases rx
      cases ry
      by_cases e0 : a1 = a2
      · subst e0
        rw [deqO.same I (n + 1) d e _ b hd he h]
        exact (SeqAt.EqAt.same _).eqP
      · exact SeqAt.eqP_refs e0 step
    · unfold deqO at h
      split at h
      · exact absurd (.inl rfl) nf
      · exact absurd (.inl rfl) nf
      · exact absurd (.inl rfl) nf
      · exact (flEq.at hd he rx ry h).eqP
end
def deep : Nat := 40
theorem flEq.scal {K : PySem.W.Frag} {H : Hp} {d e : D} {x y : V} {b : Bool} (hd : DR K H d x) (he : DR K H e y) (h : flEq d e = some b) : scal x y = true ∧ decide (x = y) = b := by
  unfold flEq at h
  split at h
  all_goals first
    | (cases h; done)
    | (cases hd; cases he; cases h; exact ⟨rfl, rfl⟩)
    | (cases hd; cases he; cases h; exact ⟨rfl, dec_int⟩)
    | (cases hd; cases he; cases h; exact ⟨rfl, dec_bl⟩)
    | (cases hd; cases he; cases h; exact ⟨rfl, dec_str.trans (st_beq _ _)⟩)
    | (cases hd; cases he; cases h; exact ⟨rfl, by simp⟩)
def ueq (s : S) (u u' : U) : Option Bool := match dat deep s u, dat deep s u' with
  | some d, some e => deqO deep d e
  | _, _ => none
def gEq : U → U → S → G0 := fun u u' s => match ueq s u u' with
  | some b => some (.bl b, s)
  | none => none
section
variable {X : Cx}
theorem o_eq (hr : X.A.units + 64 < cLine) : Op2 X (compareOp .Eq) gEq := by
  intro pins sh σ H Pr ρ s x y v w u u' Q I rl hu hu' rx ry q
  unfold gEq ueq at q
  cases e1 : dat deep s u with
  | none => simp only [e1] at q; exact q.elim
  | some d =>
    cases e2 : dat deep s u' with
    | none => simp only [e1, e2] at q; exact q.elim
    | some e =>
      cases e3 : deqO deep d e with
      | none => simp only [e1, e2, e3] at q; exact q.elim
      | some b =>
        simp only [e1, e2, e3] at q
        have hd := dat.at rl deep u x d hu e1
        have he := dat.at rl deep u' y e hu' e2
        by_cases nf : flatD d = none ∨ flatD e = none
        · exact deq_rc I (A := X.A) (n := 39) (by omega) (fun d e x y v w' b => deq_run I 39 X.A.in1 d e x y v w' b (by show X.A.units + 1 + 39 + 1 < cLine; omega)) e3 nf hd he rx ry _ _ ⟨.bl b, H, I, rfl, q.here rl rfl⟩
        · have h := e3
          unfold deep deqO at h
          split at h
          · exact absurd (.inl rfl) nf
          · exact absurd (.inl rfl) nf
          · exact absurd (.inl rfl) nf
          · obtain ⟨h1, h2⟩ := flEq.scal hd he h
            refine op_eq pins sh σ H x y v w Q I rx ry ⟨h1, ?_⟩
            rw [h2]
            exact q.here rl rfl
/-! ### != -/
/-- no dict within -/
def noD : Nat → D → Bool
  | 0, _ => false
  | n + 1, d => match d with
    | .lst a => a.all (noD n)
    | .tup a => a.all (noD n)
    | .dct _ _ => false
    | _ => true
theorem itemsA_at {A : Around} {s : Shared} {n : Nat} {f : D → D → Option Bool} {K : PySem.W.Frag} {H : Hp} (ih : ∀ d e x y v w' b, noD n d = true → noD n e = true → f d e = some b → DR K H d x → DR K H e y → RelV x v → RelV y w' → SeqAt.EqAt A s v w' b) {a b : List D} {z : Bool} {xs ys : List V} {us ws : List Value} (h : allZ f a b = some z)
    (na : a.all (noD n) = true) (nb : b.all (noD n) = true) (ha : DRs K H a xs) (hb : DRs K H b ys) (r1 : Vals xs us) (r2 : Vals ys ws) (j : Nat) (g1 : j < us.length) (g2 : j < ws.length) : SeqAt.EqAt A s us[j] ws[j] (zAt f a b j) := by
  have l1 := r1.length
  have l2 := r2.length
  have hx : xs[j]? = some xs[j] := List.getElem?_eq_getElem (by omega)
  have hy : ys[j]? = some ys[j] := List.getElem?_eq_getElem (by omega)
  obtain ⟨d, hd1, hd2⟩ := DRs.get ha hx
  obtain ⟨e, he1, he2⟩ := DRs.get hb hy
  obtain ⟨u, hu1, hu2⟩ := r1.get hx
  obtain ⟨w', hw1, hw2⟩ := r2.get hy
  rw [List.getElem?_eq_getElem g1] at hu1
  rw [List.getElem?_eq_getElem g2] at hw1
  cases hu1
  cases hw1
  exact ih d e _ _ _ _ _ (List.all_eq_true.mp na d (List.mem_of_getElem? hd1)) (List.all_eq_true.mp nb e (List.mem_of_getElem? he1)) ((allZ_all h).2 j d e hd1 he1) hd2 he2 hu2 hw2
section
variable {X : Cx} {pins : List (Addr × Obj)} {σ : L2.St} {H : Hp} {s : Shared}
/-- two lists, two tuples, dict-free: their == and their != -/
theorem deqA_rc (I : Inv X pins σ H s) {A : Around} {n : Nat} (hu : A.units + 1 < cLine) (ih : ∀ d e x y v w' b, noD n d = true → noD n e = true → deqO n d e = some b → DR X.K H d x → DR X.K H e y → RelV x v → RelV y w' → SeqAt.EqAt A.in1 s v w' b)
    {d e : D} {x y : V} {v w : Value} {b : Bool} (nd : noD (n + 1) d = true) (ne : noD (n + 1) e = true) (h : deqO (n + 1) d e = some b) (nf : flatD d = none ∨ flatD e = none) (hd : DR X.K H d x) (he : DR X.K H e y) (rx : RelV x v) (ry : RelV y w) : SeqAt.RcAt A s v w b ∧ SeqAt.RcNeAt A s v w (!b) := by
  unfold deqO at h
  split at h
  · rename_i pa pb
    obtain ⟨a1, xs, rfl, h2, h3⟩ := hd
    obtain ⟨a2, ys, rfl, g2, g3⟩ := he
    cases rx
    cases ry
    obtain ⟨us, r1, p1, _⟩ := I.list h2
    obtain ⟨ws, r2, p2, _⟩ := I.list g2
    have l1 := DRs.length h3
    have l2 := DRs.length g3
    have m1 := r1.length
    have m2 := r2.length
    by_cases hl : pa.length = pb.length
    · rw [if_pos (by rw [beq_iff_eq]; exact hl)] at h
      have hsz : us.toArray.size = ws.toArray.size := by rw [List.size_toArray, List.size_toArray]; omega
      have hit : ∀ j (g1 : j < us.toArray.size) (g2 : j < ws.toArray.size), SeqAt.EqAt A.in1 s us.toArray[j] ws.toArray[j] (zAt (deqO n) pa pb j) := fun j g1 g2 => by
        have := itemsA_at ih h nd ne h3 g3 r1 r2 j (by simpa using g1) (by simpa using g2)
        simpa using this
      have hall := (allZ_all h).1
      rw [show min pa.length pb.length = us.toArray.size by rw [List.size_toArray]; omega] at hall
      have q1 := SeqAt.RcAt.lists p1.isList p2.isList hsz (by omega) hit
      have q2 := SeqAt.RcNeAt.lists p1.isList p2.isList hsz (by omega) hit
      rw [hall] at q1 q2
      exact ⟨q1, q2⟩
    · rw [if_neg (by rw [beq_iff_eq]; exact hl)] at h
      cases h
      have hz : (us.toArray.size != ws.toArray.size) = true := by simp only [List.size_toArray, bne_iff_ne]; omega
      exact ⟨SeqAt.RcAt.lists_lengths p1.isList p2.isList hz (by omega), SeqAt.RcNeAt.lists_lengths p1.isList p2.isList hz (by omega)⟩
  · rename_i pa pb
    obtain ⟨a1, xs, rfl, h2, h3⟩ := hd
    obtain ⟨a2, ys, rfl, g2, g3⟩ := he
    cases rx
    cases ry
    obtain ⟨us, r1, p1, _⟩ := I.tuple h2
    obtain ⟨ws, r2, p2, _⟩ := I.tuple g2
    have l1 := DRs.length h3
    have l2 := DRs.length g3
    have m1 := r1.length
    have m2 := r2.length
    unfold andO at h
    split at h
    · rename_i z1 z2 e1 e2
      cases h
      cases e2
      have hit : ∀ j (g1 : j < us.toArray.size) (g2 : j < ws.toArray.size), SeqAt.EqAt A.in1 s us.toArray[j] ws.toArray[j] (zAt (deqO n) pa pb j) := fun j g1 g2 => by
        have := itemsA_at ih e1 nd ne h3 g3 r1 r2 j (by simpa using g1) (by simpa using g2)
        simpa using this
      have hall := (allZ_all e1).1
      rw [show min pa.length pb.length = min us.toArray.size ws.toArray.size by rw [List.size_toArray, List.size_toArray]; omega] at hall
      have hsz : (us.toArray.size == ws.toArray.size) = (pa.length == pb.length) := by
        rw [List.size_toArray, List.size_toArray, Bool.eq_iff_iff, beq_iff_eq, beq_iff_eq]; omega
      have q1 := SeqAt.RcAt.tuples p1 p2 (by omega) hit
      have q2 := SeqAt.RcNeAt.tuples p1 p2 (by omega) hit
      rw [hall, hsz] at q1 q2
      exact ⟨q1, q2⟩
    · cases h
  · cases nd
  · exfalso
    unfold flEq at h
    split at h
    all_goals first
      | (cases h; done)
      | (rcases nf with z | z <;> (cases z; done))
theorem deqA_run (I : Inv X pins σ H s) : ∀ (n : Nat) (A : Around) (d e : D) (x y : V) (v w : Value) (b : Bool), A.units + n + 1 < cLine → noD n d = true → noD n e = true → deqO n d e = some b → DR X.K H d x → DR X.K H e y → RelV x v → RelV y w → SeqAt.EqAt A s v w b := by
  intro n
  induction n with
  | zero => intro A d e x y v w b _ _ _ h; cases h
  | succ n ih =>
    intro A d e x y v w b hu nd ne h hd he rx ry
    by_cases nf : flatD d = none ∨ flatD e = none
    · have step := (deqA_rc I (A := A) (by omega) (fun d e x y v w' b => ih A.in1 d e x y v w' b (by show A.units + 1 + n + 1 < cLine; omega)) nd ne h nf hd he rx ry).1
      have ref : ∀ {d : D} {x : V}, flatD d = none → DR X.K H d x → ∃ a, x = .ref a := by
        intro d x hf hd
        cases d with
        | lst ds => obtain ⟨a, _, h, _⟩ := hd; exact ⟨a, h⟩
        | tup ds => obtain ⟨a, _, h, _⟩ := hd; exact ⟨a, h⟩
        | dct t ds => obtain ⟨a, h, _⟩ := hd; exact ⟨a, h⟩
        | _ => cases hf
      have both : flatD d = none ∧ flatD e = none := by
        unfold deqO at h
        split at h
        · exact ⟨rfl, rfl⟩
        · exact ⟨rfl, rfl⟩
        · exact ⟨rfl, rfl⟩
        · exfalso
          unfold flEq at h
          split at h
          all_goals first
            | (cases h; done)
            | (rcases nf with z | z <;> (cases z; done))
      obtain ⟨a1, rfl⟩ := ref both.1 hd
      obtain ⟨a2, rfl⟩ := ref both.2 he
      cases rx
      cases ry
      by_cases e0 : a1 = a2
      · subst e0
        rw [deqO.same I (n + 1) d e _ b hd he h]
        exact SeqAt.EqAt.same _
      · exact SeqAt.EqAt.of_refs e0 step
    · unfold deqO at h
      split at h
      · exact absurd (.inl rfl) nf
      · exact absurd (.inl rfl) nf
      · exact absurd (.inl rfl) nf
      · exact flEq.at hd he rx ry h
end
/-- two dicts' != -/
theorem neP_dicts {K' : Type} [DecidableEq K'] {prog : Program} {w : World} {knd : KeyKind prog w K'} {A : Around} {s : Shared} {p q : Addr} {kp kq : List (K' × Value)} {r : Bool} (hp : (p == sysModules) = false) (hq : (q == sysModules) = false)
    (dp : s.heap.DictOf knd p kp) (dq : s.heap.DictOf knd q kq) (hu : A.units < cLine) (hits : kp.length = kq.length → PySem.W.KeqHitsP prog w A.in1 s kq kp r) (E Q : Value → Shared → Prop) (h : Q (.bool (!(kp.length == kq.length && r))) s) : wpAny (model prog w) A (richCompare .NotEq (.ref p) (.ref q)) Q E s := by
  refine wpAny_richCompare_same_room (op := .NotEq) dp.typeIs dq.typeIs PySem.F.slot_dict_ne (wpAny_call_entry PySem.F.slot_dict_ne dp.typeIs PySem.F.entry_dict_ne ?_ (PySem.F.args_dict_ne_2 _ _)) hu
  show wpAny _ _ (Builtin.Dict.dictSlotArgs "__ne__" ⟨[.ref p, .ref q], []⟩ >>= _) _ _ s
  refine wpAny_bind ?_; unfold Builtin.Dict.dictSlotArgs; refine wpAny_bind (wpAny_notOrdered_dict dp.typeIs ?_)
  show wpAny _ _ (pure (Value.ref p, Value.ref q)) _ _ s
  refine wpAny_pure ?_; refine wpAny_bind (wpAny_isInstance (T := "dict") dq.typeIs PySem.F.sub_dict_dict ?_); simp only [Bool.not_true, Bool.false_eq_true, if_false]
  refine wpAny_bind (wpAny_pure (wpAny_bind (wpAny_pure ?_))); refine wpAny_bind (PySem.W.samePairsP hp hq dp dq hits ?_); refine wpAny_pure ⟨_, rfl, ?_, ?_⟩
  · exact fun x => nomatch x
  · simpa using h
def isDct : D → Bool
  | .dct false _ => true
  | _ => false
def okNe (d e : D) : Bool := (noD deep d && noD deep e) || (isDct d && isDct e)
def gNe : U → U → S → G0 := fun u u' s => match dat deep s u, dat deep s u' with
  | some d, some e => if okNe d e = true then (match deqO deep d e with
    | some b => some (.bl (!b), s)
    | none => none) else none
  | _, _ => none
theorem flEq.ne {X : Cx} {pins : List (Addr × Obj)} {σ : L2.St} {H : Hp} {s : Shared} {Q : VK} {d e : D} {x y : V} {v w : Value} {b : Bool} (I : Inv X pins σ H s) (rx : RelV x v) (ry : RelV y w) (hd : DR X.K H d x) (he : DR X.K H e y) (h : flEq d e = some b) (q : Q (.bl (!b)) H) : wpAny (model X.prog X.w) X.A (compareOp .NotEq v w) (EP X pins σ Q) X.xe s := by
  obtain ⟨h1, h2⟩ := flEq.scal hd he h
  refine op_ne pins s σ H x y v w Q I rx ry ⟨h1, ?_⟩
  rw [h2]
  exact q
theorem o_ne {X : Cx} (hr : X.A.units + 64 < cLine) : Op2 X (compareOp .NotEq) gNe := by
  intro pins sh σ H Pr ρ s x y v w u u' Q I rl hu hu' rx ry q
  unfold gNe at q
  cases e1 : dat deep s u with
  | none => simp only [e1] at q; exact q.elim
  | some d =>
    cases e2 : dat deep s u' with
    | none => simp only [e1, e2] at q; exact q.elim
    | some e =>
      simp only [e1, e2] at q
      by_cases ok : okNe d e = true
      · rw [if_pos ok] at q
        cases e3 : deqO deep d e with
        | none => simp only [e3] at q; exact q.elim
        | some b =>
          simp only [e3] at q
          have hd := dat.at rl deep u x d hu e1
          have he := dat.at rl deep u' y e hu' e2
          by_cases nf : flatD d = none ∨ flatD e = none
          · unfold okNe at ok
            rw [Bool.or_eq_true] at ok
            rcases ok with ok | ok
            · rw [Bool.and_eq_true] at ok
              exact (deqA_rc I (A := X.A) (n := 39) (by omega) (fun d e x y v w' b => deqA_run I 39 X.A.in1 d e x y v w' b (by show X.A.units + 1 + 39 + 1 < cLine; omega)) ok.1 ok.2 e3 nf hd he rx ry).2 X.prog X.w _ _ ⟨.bl (!b), H, I, rfl, q.here rl rfl⟩
            · rw [Bool.and_eq_true] at ok
              obtain ⟨ka, rfl⟩ : ∃ ka, d = .dct false ka := by
                unfold isDct at ok
                split at ok
                · exact ⟨_, rfl⟩
                · exact absurd ok.1 Bool.false_ne_true
              obtain ⟨kb, rfl⟩ : ∃ kb, e = .dct false kb := by
                have o2 := ok.2
                unfold isDct at o2
                split at o2
                · exact ⟨_, rfl⟩
                · cases o2
              have e3 : (if ka.length == kb.length then hitsZ (deqO 39) kb ka else some false) = some b := e3
              obtain ⟨a1, rfl, h2⟩ := hd
              obtain ⟨a2, rfl, g2⟩ := he
              cases rx
              cases ry
              rcases h2 with ⟨_, ks, h2, h3⟩ | ⟨h2, _⟩
              · rcases g2 with ⟨_, ls, g2, g3⟩ | ⟨g2, _⟩
                · obtain ⟨_, ya, va, ra, da⟩ := dk_rd I.hok h2
                  obtain ⟨_, yb, vb, rb, db⟩ := dk_rd I.hok g2
                  have l1 := DRk.length h3
                  have l2 := DRk.length g3
                  have m1 := ra.length
                  have m2 := rb.length
                  have hv : (va.length == vb.length) = (ka.length == kb.length) := by rw [Bool.eq_iff_iff, beq_iff_eq, beq_iff_eq]; omega
                  by_cases hl : ka.length = kb.length
                  · rw [if_pos (by rw [beq_iff_eq]; exact hl)] at e3
                    refine neP_dicts (knd := mixKind X.prog X.w) (r := b) ya yb da db (by omega) (fun _ => ?_) _ _ ?_
                    · exact dct_hits (fun d e x y v w' b => deq_run I 39 X.A.in1 d e x y v w' b (by show X.A.units + 1 + 39 + 1 < cLine; omega)) h3 g3 ra rb e3
                    · rw [hv, show (ka.length == kb.length) = true by rw [beq_iff_eq]; exact hl, Bool.true_and]
                      exact ⟨.bl (!b), H, I, rfl, q.here rl rfl⟩
                  · rw [if_neg (by rw [beq_iff_eq]; exact hl)] at e3
                    cases e3
                    refine neP_dicts (knd := mixKind X.prog X.w) (r := false) ya yb da db (by omega) (fun z => absurd (by omega) hl) _ _ ?_
                    rw [Bool.and_false]
                    exact ⟨.bl (!false), H, I, rfl, q.here rl rfl⟩
                · cases g2
              · cases h2
          · have h := e3
            unfold deep deqO at h
            split at h
            · exact absurd (.inl rfl) nf
            · exact absurd (.inl rfl) nf
            · exact absurd (.inl rfl) nf
            · exact flEq.ne I rx ry hd he h (q.here rl rfl)
      · rw [if_neg ok] at q; exact q.elim
end
end Mo
/-! Mo11: in, not in; displays; built-ins. -/
namespace Mo
open PySem PySem.Spec PyProof.Rows L2
/-! ### in -/
def isFl : U → Bool
  | .non => true
  | .bl _ => true
  | .int _ => true
  | .str _ => true
  | _ => false
def flb : U → U → Bool
  | .non, .non => true
  | .bl a, .bl b => a == b
  | .bl a, .int b => (if a then 1 else 0) == b
  | .int a, .bl b => a == (if b then 1 else 0)
  | .int a, .int b => a == b
  | .str a, .str b => a == b
  | _, _ => false
/-- without lists and dicts: as the library's data -/
def toPy : Nat → D → Option PyData
  | 0, _ => none
  | n + 1, d => match d with
    | .non => some .none
    | .bl b => some (.bool b)
    | .int i => some (.int i)
    | .str x => some (.str (st x))
    | .lst a => (match mapO (toPy n) a with
      | some ds => some (.list ds)
      | none => none)
    | .tup a => (match mapO (toPy n) a with
      | some ds => some (.tuple ds)
      | none => none)
    | .dct _ _ => none
def pyOf (s : S) (u : U) : Option PyData := match dat deep s u with
  | some d => toPy deep d
  | none => none
/-- the answer of in -/
def inA (u u' : U) (s : S) : Option Bool := match dctOf u' s with
  | some (t, kvs) => (match kyOf u with
    | some k => if fits t k = true then some (dGet kvs k).isSome else none
    | none => none)
  | none => match u' with
    | .str x => (match u with
      | .str [c] => some (x.any fun d => d == c)
      | _ => none)
    | _ => match seqOf u' s with
      | some us => if isFl u = true ∧ us.all isFl = true then some (us.any fun w => flb w u) else
        (match tupOf u' with
          | some _ => none
          | none => match pyOf s u, pyOf s u' with
            | some d, some (.list ds) => if SeqAt.shaped d = true ∧ SeqAt.shaped (.list ds) = true then some (ds.any fun z => PyData.eqv z d) else none
            | _, _ => none)
      | none => none
def gIn : U → U → S → G0 := fun u u' s => match inA u u' s with
  | some b => some (.bl b, s)
  | none => none
def gNotIn : U → U → S → G0 := fun u u' s => match inA u u' s with
  | some b => some (.bl (!b), s)
  | none => none
section
variable {K : PySem.W.Frag} {mg : Str → Option Value} {Pr : Addr → Prop} {ρ : List Addr} {s : S} {H : Hp} {Lp : Addr → Prop}
theorem isFl.at {u : U} {x : V} (h : UR Lp ρ K mg H u x) (f : isFl u = true) : flatV x = true := by
  cases u with
  | non => cases h; rfl
  | bl b => cases h; rfl
  | int b => cases h; rfl
  | str b => obtain ⟨h, _⟩ := h; subst h; rfl
  | _ => cases f
theorem flb.at {u w : U} {x y : V} (h : UR Lp ρ K mg H u x) (h' : UR Lp ρ K mg H w y) (f : isFl u = true) (f' : isFl w = true) : eqV x y = flb u w := by
  cases u with
  | str b =>
    obtain ⟨h, _⟩ := h; subst h
    cases w with
    | str c => obtain ⟨h', _⟩ := h'; subst h'; exact st_beq b c
    | _ => first | (cases f'; done) | (cases h'; rfl)
  | _ =>
    first
      | (cases f; done)
      | (cases h
         cases w with
         | str c => obtain ⟨h', _⟩ := h'; subst h'; rfl
         | _ => first | (cases f'; done) | (cases h'; rfl))
theorem inFl {u : U} {x : V} (hx : UR Lp ρ K mg H u x) (fx : isFl u = true) : ∀ {us : List U} {xs : List V}, URs Lp ρ K mg H us xs → us.all isFl = true → xs.all flatV = true ∧ inV x xs = us.any fun w => flb w u
  | [], xs, h, _ => by have h : xs = [] := h; subst h; exact ⟨rfl, rfl⟩
  | w :: ws, xs, h, f => by
    obtain ⟨y, t, rfl, h1, h2⟩ := h
    rw [List.all_cons, Bool.and_eq_true] at f
    obtain ⟨i1, i2⟩ := inFl hx fx h2 f.2
    refine ⟨by rw [List.all_cons, isFl.at h1 f.1, i1]; rfl, ?_⟩
    show ((y :: t).any fun z => eqV z x) = _
    rw [List.any_cons, List.any_cons, flb.at h1 hx f.1 fx]
    exact congrArg _ i2
theorem toPy.at : ∀ (n : Nat) (d : D) (x : V) (p : PyData), DR K H d x → toPy n d = some p → Dp K H x p := by
  intro n
  induction n with
  | zero => intro d x p _ h; cases h
  | succ n ih =>
    have all : ∀ (a : List D) (xs : List V) (ps : List PyData), DRs K H a xs → mapO (toPy n) a = some ps → DpAll K H xs ps := by
      intro a
      induction a with
      | nil => intro xs ps h1 h2; have h1 : xs = [] := h1; subst h1; cases h2; exact .nil
      | cons d ds ih2 =>
        intro xs ps h1 h2
        obtain ⟨x, t, rfl, g1, g2⟩ := h1
        unfold mapO at h2
        cases e : toPy n d with
        | none => simp only [e] at h2; cases h2
        | some p =>
          simp only [e] at h2
          cases e2 : mapO (toPy n) ds with
          | none => simp only [e2] at h2; cases h2
          | some qs =>
            simp only [e2] at h2
            cases h2
            exact .cons (ih d x p g1 e) (ih2 t qs g2 e2)
    intro d x p hd h
    unfold toPy at h
    cases d with
    | non => cases hd; cases h; exact .non
    | bl b => cases hd; cases h; exact .bl b
    | int b => cases hd; cases h; exact .int b
    | str b => cases hd; cases h; exact .str _
    | lst a =>
      obtain ⟨ad, xs, rfl, h2, h3⟩ := hd
      cases e : mapO (toPy n) a with
      | none => simp only [e] at h; cases h
      | some ps => simp only [e] at h; cases h; exact .lst h2 (all a xs ps h3 e)
    | tup a =>
      obtain ⟨ad, xs, rfl, h2, h3⟩ := hd
      cases e : mapO (toPy n) a with
      | none => simp only [e] at h; cases h
      | some ps => simp only [e] at h; cases h; exact .tup h2 (all a xs ps h3 e)
    | dct t a => cases h
theorem pyOf.at {u : U} {x : V} {p : PyData} (r : Rel K mg Pr ρ s H) (hu : UR (Lv Pr ρ s) ρ K mg H u x) (h : pyOf s u = some p) : Dp K H x p := by
  unfold pyOf at h
  cases e : dat deep s u with
  | none => simp only [e] at h; cases h
  | some d => simp only [e] at h; exact toPy.at deep d x p (dat.at r deep u x d hu e) h
end
section
variable {X : Cx}
theorem in_run (hr : X.A.units + 100 < cLine) {pins : List (Addr × Obj)} {sh : Shared} {σ : L2.St} {H : Hp} {Pr : Addr → Prop} {ρ : List Addr} {s : S} {x y : V} {v w : Value} {u u' : U} {b : Bool} (I : Inv X pins σ H sh) (rl : Rel X.K X.mg Pr ρ s H)
    (hu : UR (Lv Pr ρ s) ρ X.K X.mg H u x) (hu' : UR (Lv Pr ρ s) ρ X.K X.mg H u' y) (rx : RelV x v) (ry : RelV y w) (h : inA u u' s = some b) {Q1 Q2 : VK} (neg : Bool) (q : Q1 (.bl (if neg then !b else b)) H) :
    wpAny (model X.prog X.w) X.A (compareOp (if neg then .NotIn else .In) v w) (EP X pins σ Q1) X.xe sh := by
  unfold inA at h
  cases e : dctOf u' s with
  | some p =>
    obtain ⟨t, kvs⟩ := p
    simp only [e] at h
    cases e2 : kyOf u with
    | none => simp only [e2] at h; cases h
    | some k =>
      simp only [e2] at h
      by_cases hf : fits t k = true
      · rw [if_pos hf] at h
        cases h
        obtain ⟨a, o, rfl, h2, h3⟩ := dctOf.get rl hu' e hu e2 hf
        cases ry
        have ho : o.isSome = (dGet kvs k).isSome := by
          cases e3 : dGet kvs k with
          | none => simp only [e3] at h3; subst h3; rfl
          | some z => simp only [e3] at h3; obtain ⟨z', h3, _⟩ := h3; subst h3; rfl
        cases neg with
        | true => exact d_notIn (by omega) I h2 rx fun s' I' => ⟨.bl _, H, I', by rw [ho]; rfl, q⟩
        | false => exact d_in (by omega) I h2 rx fun s' I' => ⟨.bl _, H, I', by rw [ho]; rfl, q⟩
      · rw [if_neg hf] at h; cases h
  | none =>
    simp only [e] at h
    split at h
    · rename_i z
      split at h
      · rename_i c
        cases h
        have hd : decide (c ∈ (st z).cps.toList) = z.any fun d => d == c := by
          rw [st_cps, Bool.eq_iff_iff, decide_eq_true_eq, List.any_eq_true]
          exact ⟨fun h => ⟨c, h, by simp⟩, fun ⟨d, h1, h2⟩ => by rw [beq_iff_eq] at h2; rw [← h2]; exact h1⟩
        cases neg with
        | true => exact op_notIn_sign pins sh σ H x y v w Q1 I rx ry ⟨c, st z, hu.1, hu'.1, by rw [hd]; exact q⟩
        | false => exact op_in_sign pins sh σ H x y v w Q1 I rx ry ⟨c, st z, hu.1, hu'.1, by rw [hd]; exact q⟩
      · cases h
    · cases e3 : seqOf u' s with
      | none => simp only [e3] at h; cases h
      | some us =>
        simp only [e3] at h
        obtain ⟨a, xs, h1, h2, h3, h4⟩ := seqOf.at rl hu' e3
        by_cases hf : isFl u = true ∧ us.all isFl = true
        · rw [if_pos hf] at h
          cases h
          obtain ⟨i1, i2⟩ := inFl hu hf.1 h4 hf.2
          cases neg with
          | true => exact op_notIn_seq pins sh σ H x y v w Q1 I rx ry ⟨a, xs, h1, h2, isFl.at hu hf.1, i1, by rw [i2]; exact q⟩
          | false => exact op_in_seq pins sh σ H x y v w Q1 I rx ry ⟨a, xs, h1, h2, isFl.at hu hf.1, i1, by rw [i2]; exact q⟩
        · rw [if_neg hf] at h
          split at h
          · cases h
          · split at h
            · rename_i d ds e5 e6
              by_cases hs : SeqAt.shaped d = true ∧ SeqAt.shaped (.list ds) = true
              · rw [if_pos hs] at h
                cases h
                have p1 := pyOf.at rl hu e5
                have p2 := pyOf.at rl hu' e6
                cases neg with
                | true => exact op_notInD (by omega) pins sh σ H x y v w Q1 I rx ry ⟨d, ds, p1, p2, hs.1, hs.2, q⟩
                | false => exact op_inD (by omega) pins sh σ H x y v w Q1 I rx ry ⟨d, ds, p1, p2, hs.1, hs.2, q⟩
              · rw [if_neg hs] at h; cases h
            · cases h
theorem o_in (hr : X.A.units + 100 < cLine) : Op2 X (compareOp .In) gIn := by
  intro pins sh σ H Pr ρ s x y v w u u' Q I rl hu hu' rx ry q
  unfold gIn at q
  cases e : inA u u' s with
  | none => simp only [e] at q; exact q.elim
  | some b =>
    simp only [e] at q
    exact in_run hr I rl hu hu' rx ry e (Q2 := Q) false (q.here rl rfl)
theorem o_notIn (hr : X.A.units + 100 < cLine) : Op2 X (compareOp .NotIn) gNotIn := by
  intro pins sh σ H Pr ρ s x y v w u u' Q I rl hu hu' rx ry q
  unfold gNotIn at q
  cases e : inA u u' s with
  | none => simp only [e] at q; exact q.elim
  | some b =>
    simp only [e] at q
    exact in_run hr I rl hu hu' rx ry e (Q2 := Q) true (q.here rl rfl)
end
/-! ### displays -/
def eLst (live : Bool) (a : AM) : EM := fun l s => (a l s).bind fun us s1 => liftG (mkL live us s1)
def eTup (a : AM) : EM := fun l s => (a l s).bind fun us s1 => liftG (mkT us s1)
section
variable {X : Cx} {W : WX} {es : List Expr} {a : AM} {pos : Pos}
theorem me_lst {live : Bool} (h : PA X es (TL X.K X.mg W a)) : PE X (.List es pos) (TM X.K X.mg W (eLst live a)) := by
  refine PE.imp (pe_lst h) fun σ H Q q => ?_
  obtain ⟨Pr, ρ, l, s, r, lr, q⟩ := TL.then (k := fun us s1 => liftG (mkL live us s1)) q
  refine ⟨Pr, ρ, l, s, r, lr, OkA.mono q ?_⟩
  rintro xs H1 ⟨Pr1, ρ1, s1, us, r1, hu, hk⟩
  have g := OkG.of hk
  exact ⟨by rw [URs.length hu]; exact mkL.len g, fun p hp => g.mkL r1 hu hp⟩
theorem me_tup {x1} (h : PA X es (TL X.K X.mg W a)) : PE X (.Tuple es x1 pos) (TM X.K X.mg W (eTup a)) := by
  refine PE.imp (pe_tup h) fun σ H Q q => ?_
  obtain ⟨Pr, ρ, l, s, r, lr, q⟩ := TL.then (k := fun us s1 => liftG (mkT us s1)) q
  refine ⟨Pr, ρ, l, s, r, lr, OkA.mono q ?_⟩
  rintro xs H1 ⟨Pr1, ρ1, s1, us, r1, hu, hk⟩
  have g := OkG.of hk
  exact ⟨by rw [URs.length hu]; exact mkT.len g, fun p hp => g.mkT r1 hu hp⟩
/-- {} -/
def eD0 (live t : Bool) : EM := fun _ s => liftG (mkD live t [] s)
theorem me_d0 {live : Bool} : PE X (.Dict [] [] pos) (TM X.K X.mg W (eD0 live false)) := PE.imp pe_dnewK fun σ H Q q => by
  obtain ⟨Pr, ρ, l, s, r, lr, q⟩ := q
  exact fun p hp => (OkG.of q).mkD r rfl hp
theorem me_d0T {live : Bool} : PE X (.Dict [] [] pos) (TM X.K X.mg W (eD0 live true)) := PE.imp pe_dnewT fun σ H Q q => by
  obtain ⟨Pr, ρ, l, s, r, lr, q⟩ := q
  exact fun p hp => (OkG.of q).mkDT r rfl hp
end
end Mo
/-! Mo12: things that stand while others are made; comprehensions. -/
namespace Mo
open PySem PySem.Spec PyProof.Rows L2
section
variable {K : PySem.W.Frag} {mg : Str → Option Value} {Lp Lp' : Addr → Prop} {ρ ρ' : List Addr} {H H' : Hp}
/-- what must hold that data stay data -/
structure Car (Lp Lp' : Addr → Prop) (ρ ρ' : List Addr) (H H' : Hp) : Prop where
  pre : ∀ (i : Nat) (a : Addr), ρ[i]? = some a → ρ'[i]? = some a
  fix : ∀ b o, H b = some o → ¬ isM o → H' b = some o
  rd : ∀ b o, H b = some o → ¬ Lp b → (H' b = some o ∨ (isD o ∧ ∃ od, H' b = some (.frz od o))) ∧ ¬ Lp' b
theorem Car.rdd (c : Car Lp Lp' ρ ρ' H H') {a : Addr} {u : HO} (h : Rd H a u) (n : ¬ Lp a) : Rd H' a u ∧ ¬ Lp' a := by
  rcases h with h | ⟨o, h⟩
  · obtain ⟨q, n'⟩ := c.rd a _ h n
    refine ⟨?_, n'⟩
    rcases q with q | ⟨_, od, q⟩
    · exact .inl q
    · exact .inr ⟨od, q⟩
  · obtain ⟨q, n'⟩ := c.rd a _ h n
    refine ⟨?_, n'⟩
    rcases q with q | ⟨q, _⟩
    · exact .inr ⟨o, q⟩
    · exact q.elim
theorem Car.old (c : Car Lp Lp' ρ ρ' H H') {a : Addr} {o : HO} (h : H a = some o) (n : ¬ Lp a) (hd : ¬ isD o := by exact fun z => z) : H' a = some o ∧ ¬ Lp' a := by
  obtain ⟨q, n'⟩ := c.rd a _ h n
  refine ⟨?_, n'⟩
  rcases q with q | ⟨q, _⟩
  · exact q
  · exact absurd q hd
mutual
theorem UR.carry (c : Car Lp Lp' ρ ρ' H H') : ∀ (u : U) (v : V), UR Lp ρ K mg H u v → UR Lp' ρ' K mg H' u v
  | .non, v, h => h
  | .bl _, v, h => h
  | .int _, v, h => h
  | .str _, v, h => h
  | .tup us, v, h => by
    obtain ⟨a, xs, h1, h2, h3, h4⟩ := h
    exact ⟨a, xs, h1, c.fix a _ h2 (fun z => z), h3, URs.carry c us xs h4⟩
  | .lst us, v, h => by
    obtain ⟨a, xs, h1, h2, n, h3, h4⟩ := h
    obtain ⟨q, n'⟩ := c.old h2 n
    exact ⟨a, xs, h1, q, n', h3, URs.carry c us xs h4⟩
  | .scr us, v, h => by
    obtain ⟨a, xs, h1, h2, h3, h4⟩ := h
    exact ⟨a, xs, h1, h2.fix (fun o q => c.fix a _ q (fun z => z)), h3, URs.carry c us xs h4⟩
  | .wt us, v, h => by
    obtain ⟨a, xs, h1, h2, h3, h4⟩ := h
    refine ⟨a, xs, h1, ?_, h3, URs.carry c us xs h4⟩
    rcases h2 with (h2 | ⟨o, h2⟩) | h2
    · exact .inl (.inl (c.fix a _ h2 (fun z => z)))
    · exact .inl (.inr ⟨o, c.fix a _ h2 (fun z => z)⟩)
    · exact .inr h2
  | .dct t kvs, v, h => by
    obtain ⟨a, h1, n, h3, h4⟩ := h
    rcases h4 with ⟨h0, ks, h4, h5⟩ | ⟨h0, ks, h4, h5⟩
    · obtain ⟨q, n'⟩ := c.rdd h4 n
      exact ⟨a, h1, n', h3, .inl ⟨h0, ks, q, URk.carry c kvs ks h5⟩⟩
    · obtain ⟨q, n'⟩ := c.rdd h4 n
      exact ⟨a, h1, n', h3, .inr ⟨h0, ks, q, URt.carry c kvs ks h5⟩⟩
  | .ref i, v, h => by
    obtain ⟨a, h1, h2⟩ := h
    exact ⟨a, c.pre i a h1, h2⟩
  | .obj cn fs, v, h => by
    obtain ⟨a, C, dx, fV, h1, h2, n, h3, h4, h5⟩ := h
    obtain ⟨q, n'⟩ := c.old h2 n
    exact ⟨a, C, dx, fV, h1, q, n', h3, h4, URf.carry c fs fV h5⟩
theorem URs.carry (c : Car Lp Lp' ρ ρ' H H') : ∀ (us : List U) (xs : List V), URs Lp ρ K mg H us xs → URs Lp' ρ' K mg H' us xs
  | [], xs, h => h
  | u :: us, xs, h => by
    obtain ⟨x, t, h1, h2, h3⟩ := h
    exact ⟨x, t, h1, UR.carry c u x h2, URs.carry c us t h3⟩
theorem URk.carry (c : Car Lp Lp' ρ ρ' H H') : ∀ (us : List (Ky × U)) (xs : List (Key × V)), URk Lp ρ K mg H us xs → URk Lp' ρ' K mg H' us xs
  | [], xs, h => h
  | (k, u) :: us, xs, h => by
    obtain ⟨kk, x, t, h1, h0, h2, h3⟩ := h
    exact ⟨kk, x, t, h1, h0, UR.carry c u x h2, URk.carry c us t h3⟩
theorem URt.carry (c : Car Lp Lp' ρ ρ' H H') : ∀ (us : List (Ky × U)) (xs : List (List Key × V)), URt Lp ρ K mg H us xs → URt Lp' ρ' K mg H' us xs
  | [], xs, h => h
  | (k, u) :: us, xs, h => by
    obtain ⟨kk, x, t, h1, h0, h2, h3⟩ := h
    exact ⟨kk, x, t, h1, h0, UR.carry c u x h2, URt.carry c us t h3⟩
theorem URf.carry (c : Car Lp Lp' ρ ρ' H H') : ∀ (us : List (Nat × U)) (xs : List (Str × V)), URf Lp ρ K mg H us xs → URf Lp' ρ' K mg H' us xs
  | [], xs, h => h
  | (k, u) :: us, xs, h => by
    obtain ⟨x, t, h1, h2, h3⟩ := h
    exact ⟨x, t, h1, UR.carry c u x h2, URf.carry c us t h3⟩
end
theorem OR.carry (c : Car Lp Lp' ρ ρ' H H') {a : Addr} (ha : H' a = H a) : ∀ {o : O}, OR Lp ρ K mg H a o → OR Lp' ρ' K mg H' a o
  | .lst us, h => by
    obtain ⟨xs, h1, h2, h3⟩ := h
    exact ⟨xs, ha.trans h1, h2, URs.carry c us xs h3⟩
  | .dct t kvs, h => by
    obtain ⟨h0, h⟩ := h
    rcases h with ⟨ht, ks, h1, h2⟩ | ⟨ht, ks, h1, h2⟩
    · exact ⟨h0, .inl ⟨ht, ks, ha.trans h1, URk.carry c kvs ks h2⟩⟩
    · exact ⟨h0, .inr ⟨ht, ks, ha.trans h1, URt.carry c kvs ks h2⟩⟩
  | .ins cn fs, h => by
    obtain ⟨C, dx, fV, h1, h2, h3, h4, h5⟩ := h
    exact ⟨C, dx, fV, ha.trans h1, h2, h3, URf.carry c fs fV h4, h5⟩
  | .gone, h => trivial
  | .ld t kvs, h => by
    obtain ⟨h0, h⟩ := h
    rcases h with ⟨ht, od, ks, h1, h2⟩ | ⟨ht, od, ks, h1, h2⟩
    · exact ⟨h0, .inl ⟨ht, od, ks, ha.trans h1, URk.carry c kvs ks h2⟩⟩
    · exact ⟨h0, .inr ⟨ht, od, ks, ha.trans h1, URt.carry c kvs ks h2⟩⟩
end
section
variable {K : PySem.W.Frag} {mg : Str → Option Value} {Pr Pr2 : Addr → Prop} {ρ ρ' ρ1 : List Addr} {s s' s1 : S} {H H' H1 : Hp} {p : Addr} {o o' : HO}
abbrev and1 (Pr : Addr → Prop) (p : Addr) : Addr → Prop := fun a => Pr a ∨ a = p
/-- data that are older than what stands -/
theorem Ext.car (e : Ext Pr ρ s H ρ' s' H') (r : Rel K mg Pr ρ s H) (hN : ∀ a, Pr2 a → Pr a ∨ H a = none) : Car (Lv Pr ρ s) (Lv Pr2 ρ' s') ρ ρ' H H' := by
  refine ⟨e.pre, fun b o h hm => e.fix r h hm, fun b o h n => ⟨e.keep b o h n, fun l => ?_⟩⟩
  rcases l with l | l
  · rcases hN b l with q | q
    · exact n (.inl q)
    · rw [h] at q; cases q
  · rcases e.new b l with q | q
    · exact n (.inr q)
    · rw [h] at q; cases q
/-- a new thing that stands -/
theorem Rel.lay (r : Rel K mg Pr ρ s H) (hp : H p = none) : Rel K mg (and1 Pr p) ρ s (upd H p o) := by
  obtain ⟨e, r1, _⟩ := r.fresh o hp
  have c : Car (Lv Pr ρ s) (Lv (and1 Pr p) ρ s) ρ ρ H (upd H p o) := e.car r fun a h => h.elim .inl fun h => .inr (h ▸ hp)
  refine ⟨r.len, r.nd, fun i ob a h1 h2 => ?_, r1.dom, fun a h => ?_⟩
  · exact OR.carry c (upd_ne fun q => r.nofree hp (q ▸ List.mem_of_getElem? h2)) (r.ob i ob a h1 h2)
  · rcases h with h | h
    · exact r1.pr a h
    · subst h
      exact ⟨(by rw [upd_same]; exact fun z => nomatch z), r.nofree hp⟩
theorem Ext.lay (r : Rel K mg Pr ρ s H) (hp : H p = none) : Ext Pr ρ s H ρ s (upd H p o) := (r.fresh o hp).1
theorem car_chg (r : Rel K mg Pr2 ρ s H) (hP : Pr2 p) (h : H p = some o) (hm : isM o) : Car (Lv Pr2 ρ s) (Lv Pr2 ρ s) ρ ρ H (upd H p o') := by
  refine ⟨fun _ _ h => h, fun b u hb hu => ?_, fun b u hb n => ⟨.inl ?_, n⟩⟩
  · rw [upd_ne fun q => by subst q; rw [h] at hb; cases hb; exact hu hm]; exact hb
  · rw [upd_ne (fun (q : b = p) => n (.inl (q ▸ hP)))]; exact hb
/-- what stands is changed -/
theorem Rel.chg (r : Rel K mg Pr2 ρ s H) (hP : Pr2 p) (h : H p = some o) (hm : isM o) : Rel K mg Pr2 ρ s (upd H p o') := by
  have c := car_chg (o' := o') r hP h hm
  have dm : ∀ a, H a ≠ none → upd H p o' a ≠ none := fun a ha => by
    by_cases q : a = p
    · subst q; rw [upd_same]; exact fun z => by cases z
    · rw [upd_ne q]; exact ha
  refine ⟨r.len, r.nd, fun i ob a h1 h2 => ?_, fun a h => dm a (r.dom a h), fun a h => ⟨dm a (r.pr a h).1, (r.pr a h).2⟩⟩
  exact OR.carry c (upd_ne fun q => (r.pr p hP).2 (q ▸ List.mem_of_getElem? h2)) (r.ob i ob a h1 h2)
theorem Ext.chg (e : Ext Pr ρ s H ρ' s' H') (r : Rel K mg Pr ρ s H) (hp : H p = none) (np : ¬ Pr p) : Ext Pr ρ s H ρ' s' (upd H' p o') := by
  refine ⟨e.pre, fun b u hb n => ?_, e.new, fun b hb => ?_, fun b hb => ?_, fun i o a h1 h2 h3 => ⟨(e.lk i o a h1 h2 h3).1, ?_⟩⟩
  rotate_left 3
  · rw [upd_ne (fun (q : a = p) => r.nofree hp (q ▸ List.mem_of_getElem? h3))]; exact (e.lk i o a h1 h2 h3).2
  · rw [upd_ne fun q => by subst q; rw [hp] at hb; cases hb]; exact e.keep b u hb n
  · by_cases q : b = p
    · subst q; rw [upd_same]; exact fun z => by cases z
    · rw [upd_ne q]; exact e.dom b hb
  · rw [upd_ne (fun (q : b = p) => np (q ▸ hb))]; exact e.prot b hb
/-- less stands -/
theorem Rel.less (r : Rel K mg Pr2 ρ s H) (hP : ∀ a, Pr a → Pr2 a) : Rel K mg Pr ρ s H := by
  refine ⟨r.len, r.nd, fun i ob a h1 h2 => ?_, r.dom, fun a h => r.pr a (hP a h)⟩
  refine OR.carry ⟨fun _ _ h => h, fun b u hb _ => hb, fun b u hb n => ⟨.inl hb, fun l => n ?_⟩⟩ rfl (r.ob i ob a h1 h2)
  exact l.imp (hP b) id
theorem UR.less (hP : ∀ a, Pr a → Pr2 a) {u : U} {v : V} (h : UR (Lv Pr2 ρ s) ρ K mg H u v) : UR (Lv Pr ρ s) ρ K mg H u v :=
  UR.carry ⟨fun _ _ h => h, fun b u hb _ => hb, fun b u hb n => ⟨.inl hb, fun l => n (l.imp (hP b) id)⟩⟩ u v h
theorem URs.less (hP : ∀ a, Pr a → Pr2 a) {u : List U} {v : List V} (h : URs (Lv Pr2 ρ s) ρ K mg H u v) : URs (Lv Pr ρ s) ρ K mg H u v :=
  URs.carry ⟨fun _ _ h => h, fun b u hb _ => hb, fun b u hb n => ⟨.inl hb, fun l => n (l.imp (hP b) id)⟩⟩ u v h
theorem URk.less (hP : ∀ a, Pr a → Pr2 a) {u : List (Ky × U)} {v : List (Key × V)} (h : URk (Lv Pr2 ρ s) ρ K mg H u v) : URk (Lv Pr ρ s) ρ K mg H u v :=
  URk.carry ⟨fun _ _ h => h, fun b u hb _ => hb, fun b u hb n => ⟨.inl hb, fun l => n (l.imp (hP b) id)⟩⟩ u v h
/-- .. what is reached with more that stands -/
theorem Ext.less (e : Ext Pr ρ s H ρ1 s1 H1) (e2 : Ext (and1 Pr p) ρ1 s1 H1 ρ' s' H') (hp : H p = none) : Ext Pr ρ s H ρ' s' H' := by
  have n1 : ∀ b o, H b = some o → ¬ Lv Pr ρ s b → ¬ Lv (and1 Pr p) ρ1 s1 b := fun b o h n l => by
    rcases l with (l | l) | l
    · exact n (.inl l)
    · subst l; rw [hp] at h; cases h
    · rcases e.new b l with q | q
      · exact n (.inr q)
      · rw [h] at q; cases q
  refine ⟨fun i a h => e2.pre i a (e.pre i a h), fun b o h n => ?_, fun b l => ?_, fun b h => e2.dom b (e.dom b h), fun b h => (e2.prot b (.inl h)).trans (e.prot b h), fun i o x h1 h2 h3 => let ⟨g1, g2⟩ := e.lk i o x h1 h2 h3; let ⟨g3, g4⟩ := e2.lk i o x g1 h2 (e.pre i x h3); ⟨g3, g4.trans g2⟩⟩
  · rcases e.keep b o h n with q | ⟨d, od, q⟩
    · exact e2.keep b o q (n1 b o h n)
    · rcases e2.keep b _ q (n1 b o h n) with q2 | ⟨q2, _⟩
      · exact .inr ⟨d, od, q2⟩
      · exact q2.elim
  · rcases e2.new b l with q | q
    · exact e.new b q
    · refine .inr ?_
      cases e0 : H b with
      | none => rfl
      | some o => exact absurd q (e.dom b (by rw [e0]; exact fun z => nomatch z))
/-- what stood is now in the store -/
theorem lw_push {ob : O} {b : Addr} (hl : ρ.length = s.length) (l : Lw (ρ ++ [p]) (s ++ [ob]) b) : Lw ρ s b ∨ b = p := by
  obtain ⟨i, o', h1, h2, h3⟩ := l
  by_cases hi : i < s.length
  · rw [List.getElem?_append_left hi] at h1
    rw [List.getElem?_append_left (by omega)] at h3
    exact .inl ⟨i, o', h1, h2, h3⟩
  · have : i < (s ++ [ob]).length := (List.getElem?_eq_some_iff.mp h1).1
    rw [List.length_append, List.length_singleton] at this
    have hi : i = ρ.length := by omega
    subst hi
    have hz : (ρ ++ [p])[ρ.length]? = some p := by simp
    rw [hz] at h3
    exact .inr (Option.some.inj h3).symm
theorem car_push {ob : O} (r : Rel K mg (and1 Pr p) ρ s H) : Car (Lv (and1 Pr p) ρ s) (Lv Pr (ρ ++ [p]) (s ++ [ob])) ρ (ρ ++ [p]) H H := by
  refine ⟨fun i a h => ?_, fun b u hb _ => hb, fun b u hb n => ⟨.inl hb, fun l => n ?_⟩⟩
  · rw [List.getElem?_append_left (List.getElem?_eq_some_iff.mp h).1]; exact h
  · rcases l with l | l
    · exact .inl (.inl l)
    · rcases lw_push r.len l with q | q
      · exact .inr q
      · exact .inl (.inr q)
theorem Rel.put0 (r : Rel K mg (and1 Pr p) ρ s H) (np : ¬ Pr p) {ob : O} (h : OR (Lv Pr (ρ ++ [p]) (s ++ [ob])) (ρ ++ [p]) K mg H p ob) : Rel K mg Pr (ρ ++ [p]) (s ++ [ob]) H := by
  have hp := r.pr p (.inr rfl)
  have hz : (ρ ++ [p])[ρ.length]? = some p := by simp
  have hl := r.len
  refine ⟨by simp [r.len], fun i j a h1 h2 => ?_, fun i o' a h1 h2 => ?_, fun a h => ?_, fun a ha => ⟨(r.pr a (.inl ha)).1, fun q => ?_⟩⟩
  · by_cases hi : i < ρ.length
    · rw [List.getElem?_append_left hi] at h1
      by_cases hj : j < ρ.length
      · rw [List.getElem?_append_left hj] at h2
        exact r.nd i j a h1 h2
      · have : j < (ρ ++ [p]).length := (List.getElem?_eq_some_iff.mp h2).1
        rw [List.length_append, List.length_singleton] at this
        have hj : j = ρ.length := by omega
        subst hj
        rw [hz] at h2
        cases h2
        exact absurd (List.mem_of_getElem? h1) hp.2
    · have : i < (ρ ++ [p]).length := (List.getElem?_eq_some_iff.mp h1).1
      rw [List.length_append, List.length_singleton] at this
      have hi : i = ρ.length := by omega
      subst hi
      rw [hz] at h1
      cases h1
      by_cases hj : j < ρ.length
      · rw [List.getElem?_append_left hj] at h2
        exact absurd (List.mem_of_getElem? h2) hp.2
      · have : j < (ρ ++ [p]).length := (List.getElem?_eq_some_iff.mp h2).1
        rw [List.length_append, List.length_singleton] at this
        omega
  · by_cases hi : i < s.length
    · rw [List.getElem?_append_left hi] at h1
      rw [List.getElem?_append_left (by omega)] at h2
      exact OR.carry (car_push r) rfl (r.ob i o' a h1 h2)
    · have : i < (s ++ [ob]).length := (List.getElem?_eq_some_iff.mp h1).1
      rw [List.length_append, List.length_singleton] at this
      have hi : i = s.length := by omega
      subst hi
      rw [← hl, hz] at h2
      cases h2
      have : o' = ob := by simpa using h1.symm
      subst this
      exact h
  · rcases List.mem_append.mp h with q | q
    · exact r.dom a q
    · have : a = p := by simpa using q
      subst this
      exact hp.1
  · rcases List.mem_append.mp q with q | q
    · exact (r.pr a (.inl ha)).2 q
    · have : a = p := by simpa using q
      subst this
      exact np ha
theorem Ext.put0 (e : Ext Pr ρ s H ρ' s' H') (hl : ρ'.length = s'.length) (hp : H p = none) {ob : O} : Ext Pr ρ s H (ρ' ++ [p]) (s' ++ [ob]) H' := by
  refine ⟨fun i a h => ?_, e.keep, fun b l => ?_, e.dom, e.prot, fun i o a h1 h2 h3 => ⟨?_, (e.lk i o a h1 h2 h3).2⟩⟩
  · have := e.pre i a h
    rw [List.getElem?_append_left (List.getElem?_eq_some_iff.mp this).1]; exact this
  · rcases lw_push hl l with q | q
    · exact e.new b q
    · subst q; exact .inr hp
  · have := (e.lk i o a h1 h2 h3).1
    rw [List.getElem?_append_left (List.getElem?_eq_some_iff.mp this).1]; exact this
/-- a list, a dict that stood while it was made -/
theorem stoodL {Q : VK} {live : Bool} {ws : List U} {xs : List V} (h : OkG K mg Pr ρ s H Q (Mo.mkL live ws s')) (e : Ext Pr ρ s H ρ' s' H') (r : Rel K mg (and1 Pr p) ρ' s' H') (hp : H p = none) (np : ¬ Pr p) (hv : H' p = some (.lst xs)) (hx : URs (Lv (and1 Pr p) ρ' s') ρ' K mg H' ws xs) : Q (.ref p) H' := by
  have hl := mkL.len h
  have hl' : xs.length ≤ sizeLine := by rw [URs.length hx]; exact hl
  unfold Mo.mkL at h
  rw [if_pos hl] at h
  by_cases el : live = true
  · rw [if_pos el] at h
    refine h (ρ' ++ [p]) H' _ (e.put0 r.len hp) (r.put0 np ⟨xs, hv, hl', URs.carry (car_push r) ws xs hx⟩) ⟨p, ?_, rfl⟩
    rw [← r.len]; simp
  · rw [if_neg el] at h
    refine h ρ' H' _ e (r.less fun _ h => .inl h) ⟨p, xs, rfl, hv, fun l => ?_, hl', hx.less fun _ h => .inl h⟩
    rcases l with l | ⟨i, o, _, _, h3⟩
    · exact np l
    · exact (r.pr p (.inr rfl)).2 (List.mem_of_getElem? h3)
theorem stoodD {Q : VK} {live : Bool} {ws : List (Ky × U)} {xs : List (Key × V)} (h : OkG K mg Pr ρ s H Q (Mo.mkD live false ws s')) (e : Ext Pr ρ s H ρ' s' H') (r : Rel K mg (and1 Pr p) ρ' s' H') (hp : H p = none) (np : ¬ Pr p) (hv : H' p = some (.dK xs)) (hx : URk (Lv (and1 Pr p) ρ' s') ρ' K mg H' ws xs) : Q (.ref p) H' := by
  have hl := mkD.len h
  unfold Mo.mkD at h
  rw [if_pos hl] at h
  by_cases el : live = true
  · rw [if_pos el] at h
    refine h (ρ' ++ [p]) H' _ (e.put0 r.len hp) (r.put0 np ⟨hl, .inl ⟨rfl, xs, hv, URk.carry (car_push r) ws xs hx⟩⟩) ⟨p, ?_, rfl⟩
    rw [← r.len]; simp
  · rw [if_neg el] at h
    refine h ρ' H' _ e (r.less fun _ h => .inl h) ⟨p, rfl, fun l => ?_, hl, .inl ⟨rfl, xs, .inl hv, hx.less fun _ h => .inl h⟩⟩
    rcases l with l | ⟨i, o, _, _, h3⟩
    · exact np l
    · exact (r.pr p (.inr rfl)).2 (List.mem_of_getElem? h3)
end
/-! ### list comprehensions -/
/-- a target: a name's slot, a row of them -/
inductive Tg where
  | nm (i : Nat) | tp (is : List Nat)
def setS : List Nat → List U → L → Option L
  | [], [], l => some l
  | i :: is, u :: us, l => setS is us (l.set i (some u))
  | _, _, _ => none
def setT : Tg → U → L → Option L
  | .nm i, u, l => some (l.set i (some u))
  | .tp is, u, l => match tupOf u with
    | some us => setS is us l
    | none => none
def wipeL (l : L) : List Nat → L
  | [] => l
  | v :: vs => (wipeL l vs).set v none
def lcGo (g : Tg) (t : TMt) (e : EM) (l : L) : List U → S → Option (List U × S)
  | [], s => some ([], s)
  | u :: us, s => match setT g u l with
    | none => none
    | some l1 => match t l1 s with
      | .ok true s1 => (match e l1 s1 with
        | .ok v s2 => (match lcGo g t e l us s2 with
          | some (vs, s3) => some (v :: vs, s3)
          | none => none)
        | _ => none)
      | .ok false s1 => lcGo g t e l us s1
      | _ => none
def eLc (live : Bool) (vs : List Nat) (src : IM) (g : Tg) (t : TMt) (e : EM) : EM := fun l s => (src l s).bind fun us s1 => match lcGo g t e (wipeL l vs) us s1 with
  | some (ws, s2) => liftG (mkL live ws s2)
  | none => .no
/-- a comprehension's own target -/
def gX (K : PySem.W.Frag) (mg : Str → Option Value) (vs : List Nat) (g : Tg) : L2.TG := fun x σ H Q => ∃ Pr ρ l s u, Rel K mg Pr ρ s H ∧ LR (Lv Pr ρ s) ρ K mg H l σ ∧ UR (Lv Pr ρ s) ρ K mg H u x ∧ match setT g u l with
  | some l' => ∀ σ', LR (Lv Pr ρ s) ρ K mg H l' σ' → wipe σ' vs = wipe σ vs → Q σ' H
  | none => False
def gXs (K : PySem.W.Frag) (mg : Str → Option Value) (vs : List Nat) (is : List Nat) : L2.TGs := fun xs σ H Q => ∃ Pr ρ l s us, Rel K mg Pr ρ s H ∧ LR (Lv Pr ρ s) ρ K mg H l σ ∧ URs (Lv Pr ρ s) ρ K mg H us xs ∧ match setS is us l with
  | some l' => ∀ σ', LR (Lv Pr ρ s) ρ K mg H l' σ' → wipe σ' vs = wipe σ vs → Q σ' H
  | none => False
theorem wipe_set {σ : L2.St} {i : Nat} {x : Option V} : ∀ {vs : List Nat}, i ∈ vs → wipe (σ.set i x) vs = wipe σ vs
  | [], h => by cases h
  | v :: vs, h => by
    show (wipe (σ.set i x) vs).set v none = (wipe σ vs).set v none
    by_cases hv : i ∈ vs
    · rw [wipe_set hv]
    · have e : i = v := by
        rcases List.mem_cons.mp h with e | h
        · exact e
        · exact absurd h hv
      subst e
      have : ∀ (vs : List Nat), i ∉ vs → wipe (σ.set i x) vs = (wipe σ vs).set i x := by
        intro vs
        induction vs with
        | nil => intro _; rfl
        | cons w ws ih =>
          intro hn
          rw [List.mem_cons, not_or] at hn
          show (wipe (σ.set i x) ws).set w none = ((wipe σ ws).set w none).set i x
          rw [ih hn.2, List.set_comm _ _ hn.1]
      rw [this vs hv, List.set_set]
theorem wipe_wipe (σ : L2.St) (vs : List Nat) : wipe (wipe σ vs) vs = wipe σ vs := by
  have : ∀ ws : List Nat, (∀ w ∈ ws, w ∈ vs) → wipe (wipe σ ws) vs = wipe σ vs := by
    intro ws
    induction ws with
    | nil => intro _; rfl
    | cons w ws ih =>
      intro h
      show wipe ((wipe σ ws).set w none) vs = _
      rw [wipe_set (h w List.mem_cons_self)]
      exact ih fun x hx => h x (List.mem_cons_of_mem _ hx)
  exact this vs fun _ h => h
section
variable {X : Cx} {W : WX} {vs : List Nat} {pos : Pos}
theorem cg_name {i : Nat} {x : Str} (hN : X.N.Nodup) (hv : i ∈ vs) (hi : X.N[i]? = some x := by rfl) (hx : Loc X.env.scope x := by first | exact Or.inl rfl | exact Or.inr rfl) (hf : X.fn x = true ∨ X.env.scope.names.lookup x = some .local := by first | exact .inl rfl | exact .inr rfl | assumption) :
    PG X (.Name x pos) (gX X.K X.mg vs (.nm i)) := PG.imp (pg_name hN hi hx hf) fun v σ H Q h => by
  obtain ⟨Pr, ρ, l, s, u, r, lr, hu, q⟩ := h
  exact q _ (lr.set i hu) (wipe_set hv)
theorem cgs_nil : PGs X [] (gXs X.K X.mg vs []) := PGs.imp pgs_nil fun v σ H Q h => by
  obtain ⟨Pr, ρ, l, s, us, r, lr, hu, q⟩ := h
  cases us with
  | nil => exact ⟨hu, q _ lr rfl⟩
  | cons u us => exact q.elim
theorem cgs_cons {i : Nat} {x : Str} {es : List Expr} {is : List Nat} (hN : X.N.Nodup) (hv : i ∈ vs) (h2 : PGs X es (gXs X.K X.mg vs is)) (hi : X.N[i]? = some x := by rfl) (hx : Loc X.env.scope x := by first | exact Or.inl rfl | exact Or.inr rfl) (hf : X.fn x = true ∨ X.env.scope.names.lookup x = some .local := by first | exact .inl rfl | exact .inr rfl | assumption)
    (hs : (assignEach (.Name x pos :: es) X.env).map (·.2) = assign (.Name x pos) X.env :: (assignEach es X.env).map (·.2) := by rfl) : PGs X (.Name x pos :: es) (gXs X.K X.mg vs (i :: is)) := PGs.imp (pgs_cons (pg_name hN hi hx hf) h2 hs) fun v σ H Q h => by
  obtain ⟨Pr, ρ, l, s, us, r, lr, hu, q⟩ := h
  cases us with
  | nil => exact q.elim
  | cons u us =>
    obtain ⟨y, t, rfl, h1, h3⟩ := hu
    refine ⟨y, t, rfl, Pr, ρ, l.set i (some u), s, us, r, lr.set i h1, h3, ?_⟩
    have q : (match setS is us (l.set i (some u)) with
      | some l' => ∀ σ', LR (Lv Pr ρ s) ρ X.K X.mg H l' σ' → wipe σ' vs = wipe σ vs → Q σ' H
      | none => False) := q
    cases e : setS is us (l.set i (some u)) with
    | none => rw [e] at q; exact q
    | some l' =>
      rw [e] at q
      exact fun σ' lr' hw => q σ' lr' (hw.trans (wipe_set hv))
theorem setS_len : ∀ {is : List Nat} {us : List U} {l l' : L}, setS is us l = some l' → us.length = is.length
  | [], [], _, _, _ => rfl
  | [], _ :: _, _, _, h => by cases h
  | _ :: _, [], _, _, h => by cases h
  | i :: is, u :: us, l, l', h => by
    have := setS_len (is := is) (us := us) h
    simp [this]
theorem cg_tup {es : List Expr} {k n : Nat} {is : List Nat} (hc : X.calm = true) (h : PGs X es (gXs X.K X.mg vs is)) (hl : is.length = n := by rfl) (hn : (assignEach es X.env).length = n := by rfl) (hst : (assignEach es X.env).findIdx? (·.1) = none := by rfl) :
    PG X (.Tuple es k pos) (gX X.K X.mg vs (.tp is)) := PG.imp (pg_tup hc h hn hst) fun v σ H Q h => by
  obtain ⟨Pr, ρ, l, s, u, r, lr, hu, q⟩ := h
  unfold setT at q
  cases e : tupOf u with
  | none => simp only [e] at q
  | some us =>
    simp only [e] at q
    obtain ⟨a, xs, h1, h2, h3, h4⟩ := tupOf.at hu e
    refine ⟨a, xs, h1, h2, ?_, Pr, ρ, l, s, us, r, lr, h4, q⟩
    cases e2 : setS is us l with
    | none => simp only [e2] at q
    | some l' => rw [URs.length h4, setS_len e2, hl]
end
theorem LR.wipe {Lp : Addr → Prop} {ρ : List Addr} {K : PySem.W.Frag} {mg : Str → Option Value} {H : Hp} {l : L} {σ : L2.St} (h : LR Lp ρ K mg H l σ) : ∀ vs : List Nat, LR Lp ρ K mg H (wipeL l vs) (L2.wipe σ vs)
  | [] => h
  | v :: vs => by
    have ih := LR.wipe h vs
    refine ⟨by simp [wipeL, L2.wipe, ih.1], fun i u hi => ?_⟩
    have hi : ((wipeL l vs).set v none)[i]? = some (some u) := hi
    show ∃ x, ((L2.wipe σ vs).set v none)[i]? = some (some x) ∧ _
    by_cases q : v = i
    · subst q
      by_cases hv : v < (wipeL l vs).length
      · rw [List.getElem?_set_self hv] at hi; cases hi
      · rw [List.getElem?_eq_none (by simpa using Nat.le_of_not_lt hv)] at hi; cases hi
    · rw [List.getElem?_set_ne q] at hi
      rw [List.getElem?_set_ne q]
      exact ih.2 i u hi
theorem LR.carry {Lp Lp' : Addr → Prop} {ρ ρ' : List Addr} {K : PySem.W.Frag} {mg : Str → Option Value} {H H' : Hp} {l : L} {σ : L2.St} (c : Car Lp Lp' ρ ρ' H H') (h : LR Lp ρ K mg H l σ) : LR Lp' ρ' K mg H' l σ :=
  ⟨h.1, fun i u hi => let ⟨v, h1, h2⟩ := h.2 i u hi; ⟨v, h1, UR.carry c u v h2⟩⟩
/-- no exceptions -/
abbrev W0 : WX := fun _ _ _ _ => False
/-- a result that is no exception -/
theorem OkA.val {α β : Type} {rl : RT α β} {K : PySem.W.Frag} {mg : Str → Option Value} {Pr : Addr → Prop} {ρ : List Addr} {s s' : S} {H : Hp} {Q : β → Hp → Prop} {W : XV → List Addr → S → Hp → Prop} {a : α} (h : ∀ ρ' H' x, Ext Pr ρ s H ρ' s' H' → Rel K mg Pr ρ' s' H' → rl (Lv Pr ρ' s') ρ' H' a x → Q x H') : OkA rl K mg Pr ρ s H Q W (.ok a s') := h
section
variable {X : Cx} {W : WX} {vs : List Nat} {src : IM} {g : Tg} {t : TMt} {e : EM} {live : Bool}
theorem lc_read {σ : L2.St} {H : Hp} {Q : VK} (h : TM X.K X.mg W (eLc live vs src g t e) σ H Q) : tLc (TI X.K X.mg W src) (gX X.K X.mg vs g) (TB X.K X.mg W0 t) (TM X.K X.mg W0 e) vs σ H Q := by
  obtain ⟨Pr, ρ, l, s, r, lr, q⟩ := h
  refine ⟨Pr, ρ, l, s, r, lr, ?_⟩
  unfold eLc at q
  cases e0 : src l s with
  | no => rw [e0] at q; exact q
  | ex x s1 => rw [e0] at q; exact fun ρ1 H1 c d e1 r1 hx => q ρ1 H1 e1 r1 c d hx
  | ok us s1 =>
    rw [e0] at q
    intro ρ1 H1 J e1 r1 wk D hD
    have q := OkA.ext e1 q
    simp only [R.bind] at q
    cases e2 : lcGo g t e (wipeL l vs) us s1 with
    | none => simp only [e2] at q; exact q.elim
    | some p =>
      obtain ⟨ws, s2⟩ := p
      simp only [e2] at q
      have q := OkG.of q
      have np : ¬ Pr D := r1.npr hD
      have e3 := Ext.lay (o := .lst []) r1 hD
      have c1 : Car (Lv Pr ρ1 s1) (Lv (and1 Pr D) ρ1 s1) ρ1 ρ1 H1 (upd H1 D (.lst [])) := e3.car r1 fun a h => h.elim .inl fun h => .inr (h ▸ hD)
      refine ⟨fun i m H5 => m = us.length - i ∧ i ≤ us.length ∧ ∃ ρ5 s5 acc accV rest, Rel X.K X.mg (and1 Pr D) ρ5 s5 H5 ∧ Ext Pr ρ1 s1 H1 ρ5 s5 H5 ∧ LR (Lv (and1 Pr D) ρ5 s5) ρ5 X.K X.mg H5 (wipeL l vs) (wipe σ vs) ∧ H5 D = some (.lst accV) ∧
        URs (Lv (and1 Pr D) ρ5 s5) ρ5 X.K X.mg H5 acc accV ∧ lcGo g t e (wipeL l vs) (us.drop i) s5 = some (rest, s2) ∧ acc ++ rest = ws,
        ⟨us.length, by simp, Nat.zero_le _, ρ1, s1, [], [], ws, r1.lay hD, e3, LR.carry c1 ((LR.ext r e1 lr).wipe vs), upd_same, rfl, e2, rfl⟩, ?_⟩
      rintro i m H5 ⟨rfl, hi, ρ5, s5, acc, accV, rest, r5, e5, lr5, hD5, ha, hg, hw⟩
      obtain ⟨w1, w2⟩ := wk (and1 Pr D) ρ5 s5 H5 (fun _ h => .inl h) (fun a h => h.elim .inl fun h => .inr (h ▸ hD)) e5 r5
      by_cases hlt : i < us.length
      · obtain ⟨go, yl⟩ := w1 i us[i] (List.getElem?_eq_getElem hlt)
        rw [List.drop_eq_getElem_cons hlt] at hg
        unfold lcGo at hg
        refine .inr ⟨go, fun H6 => i + 1 ≤ us.length ∧ ∃ ρ5 s5 acc accV rest, Rel X.K X.mg (and1 Pr D) ρ5 s5 H6 ∧ Ext Pr ρ1 s1 H1 ρ5 s5 H6 ∧ LR (Lv (and1 Pr D) ρ5 s5) ρ5 X.K X.mg H6 (wipeL l vs) (wipe σ vs) ∧ H6 D = some (.lst accV) ∧
          URs (Lv (and1 Pr D) ρ5 s5) ρ5 X.K X.mg H6 acc accV ∧ lcGo g t e (wipeL l vs) (us.drop (i + 1)) s5 = some (rest, s2) ∧ acc ++ rest = ws, fun H6 ⟨h1, h2⟩ => ⟨us.length - (i + 1), by omega, rfl, h1, h2⟩, fun x H6 y => ?_⟩
        obtain ⟨e6, r6, u6⟩ := yl x H6 y
        have e6' : Ext Pr ρ1 s1 H1 ρ5 s5 H6 := e5.less e6 hD
        have D6 : H6 D = some (.lst accV) := (e6.prot D (.inr rfl)).trans hD5
        refine ⟨and1 Pr D, ρ5, wipeL l vs, s5, us[i], r6, LR.ext r5 e6 lr5, u6, ?_⟩
        cases e7 : setT g us[i] (wipeL l vs) with
        | none => simp only [e7] at hg; cases hg
        | some l1 =>
          simp only [e7] at hg
          intro σ2 lr2 hw2
          refine ⟨hw2.trans (wipe_wipe σ vs), and1 Pr D, ρ5, l1, s5, r6, lr2, ?_⟩
          cases e8 : t l1 s5 with
          | no => simp only [e8] at hg; cases hg
          | ex x s6 => simp only [e8] at hg; cases hg
          | ok b s6 =>
            refine OkA.val fun ρ7 H7 b' e9 r7 hb => ?_
            have hb : b = b' := hb
            subst hb
            have e9' : Ext Pr ρ1 s1 H1 ρ7 s6 H7 := e6'.less e9 hD
            have D7 : H7 D = some (.lst accV) := (e9.prot D (.inr rfl)).trans D6
            have ha7 := URs.ext r6 e9 acc accV (URs.ext r5 e6 acc accV ha)
            have lr7 := LR.ext r6 e9 (LR.ext r5 e6 lr5)
            cases b with
            | false =>
              simp only [e8] at hg
              simp only [Bool.false_eq_true, if_false]
              exact ⟨hlt, ρ7, s6, acc, accV, rest, r7, e9', lr7, D7, ha7, hg, hw⟩
            | true =>
              simp only [e8] at hg
              simp only [if_true]
              refine ⟨and1 Pr D, ρ7, l1, s6, r7, LR.ext r6 e9 lr2, ?_⟩
              cases e10 : e l1 s6 with
              | no => simp only [e10] at hg; cases hg
              | ex x s7 => simp only [e10] at hg; cases hg
              | ok v s7 =>
                simp only [e10] at hg
                cases e11 : lcGo g t e (wipeL l vs) (us.drop (i + 1)) s7 with
                | none => simp only [e11] at hg; cases hg
                | some p2 =>
                  obtain ⟨vs2, s8⟩ := p2
                  simp only [e11] at hg
                  cases hg
                  refine OkA.val fun ρ8 H8 y8 e12 r8 hv => ?_
                  have D8 : H8 D = some (.lst accV) := (e12.prot D (.inr rfl)).trans D7
                  have c8 := car_chg (o' := .lst (accV ++ [y8])) r8 (.inr rfl) D8 trivial
                  refine ⟨accV, D8, ?_, hlt, ρ8, s7, acc ++ [v], accV ++ [y8], vs2, r8.chg (.inr rfl) D8 trivial, (e9'.less e12 hD).chg r1 hD np, LR.carry c8 (LR.ext r7 e12 lr7), upd_same, ?_, e11, by rw [List.append_assoc]; exact hw⟩
                  · have := mkL.len q
                    rw [← hw, List.length_append, List.length_cons] at this
                    rw [URs.length ha]; omega
                  · exact URs.append (URs.carry c8 acc accV (URs.ext r7 e12 acc accV ha7)) ⟨y8, [], rfl, UR.carry c8 v y8 hv, rfl⟩
      · have hi : i = us.length := by omega
        subst hi
        rw [List.drop_length] at hg
        unfold lcGo at hg
        cases hg
        rw [List.append_nil] at hw
        subst hw
        exact .inl ⟨w2, stoodL q e5 r5 hD np hD5 ha⟩
end
end Mo
/-! Mo13: dict comprehensions; the rules for comprehensions. -/
namespace Mo
open PySem PySem.Spec PyProof.Rows L2
def dcGo (g : Tg) (t : TMt) (k e : EM) (l : L) : List U → S → List (Ky × U) → Option (List (Ky × U) × S)
  | [], s, acc => some (acc, s)
  | u :: us, s, acc => match setT g u l with
    | none => none
    | some l1 => match t l1 s with
      | .ok true s1 => (match k l1 s1 with
        | .ok kk s2 => (match e l1 s2 with
          | .ok v s3 => (match kyOf kk with
            | some ky => if fits false ky = true ∧ acc.length < sizeLine then dcGo g t k e l us s3 (dPut acc ky v) else none
            | none => none)
          | _ => none)
        | _ => none)
      | .ok false s1 => dcGo g t k e l us s1 acc
      | _ => none
def eDc (live : Bool) (vs : List Nat) (src : IM) (g : Tg) (t : TMt) (k e : EM) : EM := fun l s => (src l s).bind fun us s1 => match dcGo g t k e (wipeL l vs) us s1 [] with
  | some (ws, s2) => liftG (mkD live false ws s2)
  | none => .no
section
variable {K : PySem.W.Frag} {mg : Str → Option Value} {Lp : Addr → Prop} {ρ : List Addr} {H : Hp}
theorem URk.append : ∀ {us ws : List (Ky × U)} {xs ys : List (Key × V)}, URk Lp ρ K mg H us xs → URk Lp ρ K mg H ws ys → URk Lp ρ K mg H (us ++ ws) (xs ++ ys)
  | [], ws, xs, ys, h, h' => by
    have h : xs = [] := h
    subst h
    exact h'
  | (k, u) :: us, ws, xs, ys, h, h' => by
    obtain ⟨kk, x, t, rfl, h0, h1, h2⟩ := h
    exact ⟨kk, x, t ++ ys, rfl, h0, h1, URk.append h2 h'⟩
theorem URk.put {k : Ky} {kk : Key} {u : U} {v : V} {kvs : List (Ky × U)} {ks : List (Key × V)} (h : URk Lp ρ K mg H kvs ks) (hk : k1 k = some kk) (hv : UR Lp ρ K mg H u v) : URk Lp ρ K mg H (dPut kvs k u) (putK ks kk v) := by
  have hval := URk.val hk h
  have ha : (ks.any fun kv => decide (kv.1 = kk)) = (dGet kvs k).isSome := by
    rw [valV_any]
    cases e : dGet kvs k with
    | none => simp only [e] at hval; rw [hval]; rfl
    | some w => simp only [e] at hval; obtain ⟨x, h1, _⟩ := hval; rw [h1]; rfl
  unfold dPut putK
  rw [ha]
  by_cases c : (dGet kvs k).isSome = true
  · rw [if_pos c, if_pos c]
    clear ha hval c
    induction kvs generalizing ks with
    | nil => have h : ks = [] := h; subst h; exact rfl
    | cons p ps ih =>
      obtain ⟨j, w⟩ := p
      obtain ⟨jj, x, t, rfl, h0, h1, h2⟩ := h
      have hd := k1_eq h0 hk
      rw [List.map_cons, List.map_cons]
      by_cases e : kyEq j k = true
      · rw [e] at hd
        have e' : jj = kk := of_decide_eq_true hd
        rw [if_pos (by exact e), if_pos (by exact e')]
        exact ⟨jj, v, _, rfl, h0, hv, ih h2⟩
      · have hn : ¬ jj = kk := fun z => e (by rw [← hd]; simpa using z)
        rw [if_neg (by exact e), if_neg (by exact hn)]
        exact ⟨jj, x, _, rfl, h0, h1, ih h2⟩
  · rw [if_neg c, if_neg c]
    exact URk.append h ⟨kk, v, [], rfl, hk, hv, rfl⟩
theorem URt.append : ∀ {us ws : List (Ky × U)} {xs ys : List (List Key × V)}, URt Lp ρ K mg H us xs → URt Lp ρ K mg H ws ys → URt Lp ρ K mg H (us ++ ws) (xs ++ ys)
  | [], ws, xs, ys, h, h' => by
    have h : xs = [] := h
    subst h
    exact h'
  | (k, u) :: us, ws, xs, ys, h, h' => by
    obtain ⟨kk, x, t, rfl, h0, h1, h2⟩ := h
    exact ⟨kk, x, t ++ ys, rfl, h0, h1, URt.append h2 h'⟩
theorem URt.put {k : Ky} {kk : List Key} {u : U} {v : V} {kvs : List (Ky × U)} {ks : List (List Key × V)} (h : URt Lp ρ K mg H kvs ks) (hk : kt k = some kk) (hv : UR Lp ρ K mg H u v) : URt Lp ρ K mg H (dPut kvs k u) (putK ks kk v) := by
  have hval := URt.val hk h
  have ha : (ks.any fun kv => decide (kv.1 = kk)) = (dGet kvs k).isSome := by
    rw [valV_any]
    cases e : dGet kvs k with
    | none => simp only [e] at hval; rw [hval]; rfl
    | some w => simp only [e] at hval; obtain ⟨x, h1, _⟩ := hval; rw [h1]; rfl
  unfold dPut putK
  rw [ha]
  by_cases c : (dGet kvs k).isSome = true
  · rw [if_pos c, if_pos c]
    clear ha hval c
    induction kvs generalizing ks with
    | nil => have h : ks = [] := h; subst h; exact rfl
    | cons p ps ih =>
      obtain ⟨j, w⟩ := p
      obtain ⟨jj, x, t, rfl, h0, h1, h2⟩ := h
      have hd := kt_eq h0 hk
      rw [List.map_cons, List.map_cons]
      by_cases e : kyEq j k = true
      · rw [e] at hd
        have e' : jj = kk := of_decide_eq_true hd
        rw [if_pos (by exact e), if_pos (by exact e')]
        exact ⟨jj, v, _, rfl, h0, hv, ih h2⟩
      · have hn : ¬ jj = kk := fun z => e (by rw [← hd]; simpa using z)
        rw [if_neg (by exact e), if_neg (by exact hn)]
        exact ⟨jj, x, _, rfl, h0, h1, ih h2⟩
  · rw [if_neg c, if_neg c]
    exact URt.append h ⟨kk, v, [], rfl, hk, hv, rfl⟩
end
section
variable {X : Cx} {W : WX} {vs : List Nat} {src : IM} {g : Tg} {t : TMt} {k e : EM} {live : Bool}
theorem dc_read {σ : L2.St} {H : Hp} {Q : VK} (h : TM X.K X.mg W (eDc live vs src g t k e) σ H Q) : tDc (TI X.K X.mg W src) (gX X.K X.mg vs g) (TB X.K X.mg W0 t) (TM X.K X.mg W0 k) (TM X.K X.mg W0 e) vs σ H Q := by
  obtain ⟨Pr, ρ, l, s, r, lr, q⟩ := h
  refine ⟨Pr, ρ, l, s, r, lr, ?_⟩
  unfold eDc at q
  cases e0 : src l s with
  | no => rw [e0] at q; exact q
  | ex x s1 => rw [e0] at q; exact fun ρ1 H1 c d e1 r1 hx => q ρ1 H1 e1 r1 c d hx
  | ok us s1 =>
    rw [e0] at q
    intro ρ1 H1 J e1 r1 wk D hD
    have q := OkA.ext e1 q
    simp only [R.bind] at q
    cases e2 : dcGo g t k e (wipeL l vs) us s1 [] with
    | none => simp only [e2] at q; exact q.elim
    | some p =>
      obtain ⟨ws, s2⟩ := p
      simp only [e2] at q
      have q := OkG.of q
      have np : ¬ Pr D := r1.npr hD
      have e3 := Ext.lay (o := .dK []) r1 hD
      have c1 : Car (Lv Pr ρ1 s1) (Lv (and1 Pr D) ρ1 s1) ρ1 ρ1 H1 (upd H1 D (.dK [])) := e3.car r1 fun a h => h.elim .inl fun h => .inr (h ▸ hD)
      refine ⟨fun i m H5 => m = us.length - i ∧ i ≤ us.length ∧ ∃ ρ5 s5 acc accV, Rel X.K X.mg (and1 Pr D) ρ5 s5 H5 ∧ Ext Pr ρ1 s1 H1 ρ5 s5 H5 ∧ LR (Lv (and1 Pr D) ρ5 s5) ρ5 X.K X.mg H5 (wipeL l vs) (wipe σ vs) ∧ H5 D = some (.dK accV) ∧
        URk (Lv (and1 Pr D) ρ5 s5) ρ5 X.K X.mg H5 acc accV ∧ dcGo g t k e (wipeL l vs) (us.drop i) s5 acc = some (ws, s2),
        ⟨us.length, by simp, Nat.zero_le _, ρ1, s1, [], [], r1.lay hD, e3, LR.carry c1 ((LR.ext r e1 lr).wipe vs), upd_same, rfl, e2⟩, ?_⟩
      rintro i m H5 ⟨rfl, hi, ρ5, s5, acc, accV, r5, e5, lr5, hD5, ha, hg⟩
      obtain ⟨w1, w2⟩ := wk (and1 Pr D) ρ5 s5 H5 (fun _ h => .inl h) (fun a h => h.elim .inl fun h => .inr (h ▸ hD)) e5 r5
      by_cases hlt : i < us.length
      · obtain ⟨go, yl⟩ := w1 i us[i] (List.getElem?_eq_getElem hlt)
        rw [List.drop_eq_getElem_cons hlt] at hg
        unfold dcGo at hg
        refine .inr ⟨go, fun H6 => i + 1 ≤ us.length ∧ ∃ ρ5 s5 acc accV, Rel X.K X.mg (and1 Pr D) ρ5 s5 H6 ∧ Ext Pr ρ1 s1 H1 ρ5 s5 H6 ∧ LR (Lv (and1 Pr D) ρ5 s5) ρ5 X.K X.mg H6 (wipeL l vs) (wipe σ vs) ∧ H6 D = some (.dK accV) ∧
          URk (Lv (and1 Pr D) ρ5 s5) ρ5 X.K X.mg H6 acc accV ∧ dcGo g t k e (wipeL l vs) (us.drop (i + 1)) s5 acc = some (ws, s2), fun H6 ⟨h1, h2⟩ => ⟨us.length - (i + 1), by omega, rfl, h1, h2⟩, fun x H6 y => ?_⟩
        obtain ⟨e6, r6, u6⟩ := yl x H6 y
        have e6' : Ext Pr ρ1 s1 H1 ρ5 s5 H6 := e5.less e6 hD
        have D6 : H6 D = some (.dK accV) := (e6.prot D (.inr rfl)).trans hD5
        refine ⟨and1 Pr D, ρ5, wipeL l vs, s5, us[i], r6, LR.ext r5 e6 lr5, u6, ?_⟩
        cases e7 : setT g us[i] (wipeL l vs) with
        | none => simp only [e7] at hg; cases hg
        | some l1 =>
          simp only [e7] at hg
          intro σ2 lr2 hw2
          refine ⟨hw2.trans (wipe_wipe σ vs), and1 Pr D, ρ5, l1, s5, r6, lr2, ?_⟩
          cases e8 : t l1 s5 with
          | no => simp only [e8] at hg; cases hg
          | ex x s6 => simp only [e8] at hg; cases hg
          | ok b s6 =>
            refine OkA.val fun ρ7 H7 b' e9 r7 hb => ?_
            have hb : b = b' := hb
            subst hb
            have e9' : Ext Pr ρ1 s1 H1 ρ7 s6 H7 := e6'.less e9 hD
            have D7 : H7 D = some (.dK accV) := (e9.prot D (.inr rfl)).trans D6
            have ha7 := URk.ext r6 e9 acc accV (URk.ext r5 e6 acc accV ha)
            have lr7 := LR.ext r6 e9 (LR.ext r5 e6 lr5)
            cases b with
            | false =>
              simp only [e8] at hg
              simp only [Bool.false_eq_true, if_false]
              exact ⟨hlt, ρ7, s6, acc, accV, r7, e9', lr7, D7, ha7, hg⟩
            | true =>
              simp only [e8] at hg
              simp only [if_true]
              have lr2' := LR.ext r6 e9 lr2
              refine ⟨and1 Pr D, ρ7, l1, s6, r7, lr2', ?_⟩
              cases e10 : k l1 s6 with
              | no => simp only [e10] at hg; cases hg
              | ex x s7 => simp only [e10] at hg; cases hg
              | ok kk s7 =>
                simp only [e10] at hg
                refine OkA.val fun ρ8 H8 y8 e12 r8 hkk => ?_
                refine ⟨and1 Pr D, ρ8, l1, s7, r8, LR.ext r7 e12 lr2', ?_⟩
                cases e13 : e l1 s7 with
                | no => simp only [e13] at hg; cases hg
                | ex x s8 => simp only [e13] at hg; cases hg
                | ok v s8 =>
                  simp only [e13] at hg
                  refine OkA.val fun ρ9 H9 y9 e14 r9 hv => ?_
                  cases e15 : kyOf kk with
                  | none => simp only [e15] at hg; cases hg
                  | some ky =>
                    simp only [e15] at hg
                    by_cases hf : fits false ky = true ∧ acc.length < sizeLine
                    · rw [if_pos hf] at hg
                      have D9 : H9 D = some (.dK accV) := (e14.prot D (.inr rfl)).trans ((e12.prot D (.inr rfl)).trans D7)
                      obtain ⟨kk1, g1, g2⟩ := kyOf.k (UR.ext r8 e14 kk y8 hkk) e15 hf.1
                      have c9 := car_chg (o' := .dK (putK accV kk1 y9)) r9 (.inr rfl) D9 trivial
                      refine ⟨accV, kk1, g2, D9, by rw [URk.length ha]; exact hf.2, hlt, ρ9, s8, dPut acc ky v, putK accV kk1 y9, r9.chg (.inr rfl) D9 trivial, ((e9'.less e12 hD).less e14 hD).chg r1 hD np, LR.carry c9 (LR.ext r8 e14 (LR.ext r7 e12 lr7)), upd_same, ?_, hg⟩
                      exact URk.put (URk.carry c9 acc accV (URk.ext r8 e14 acc accV (URk.ext r7 e12 acc accV ha7))) g1 (UR.carry c9 v y9 hv)
                    · rw [if_neg hf] at hg; cases hg
      · have hi : i = us.length := by omega
        subst hi
        rw [List.drop_length] at hg
        unfold dcGo at hg
        cases hg
        exact .inl ⟨w2, stoodD q e5 r5 hD np hD5 ha⟩
/-! ### the rules -/
/-- a comprehension's condition: none -/
def tAll : TMt := fun _ s => .ok true s
variable {elt kx vx tg iter : Expr} {ifs : List Expr} {scope : Scope} {own : List (Str × Nat)} {pos : Pos}
theorem mts_nil : PTs X [] (TB X.K X.mg W tAll) := ⟨fun pins s σ H Q I h => pts_nil.run pins s σ H Q I (by
  obtain ⟨Pr, ρ, l, s, r, lr, q⟩ := h
  exact q ρ H true (Ext.refl _ _ _ _) r rfl)⟩
theorem mts_one {c : Expr} (h : PT X c (TB X.K X.mg W t)) : PTs X [c] (TB X.K X.mg W t) := pts_one h
theorem me_lc (hc : X.calm = true) (hN : X.N.Nodup) (hi : PI X tg iter (TI X.K X.mg W src)) (ok : blkC X.N X.env.scope scope own = true)
    (hg : ∀ (s : Shared) (H : Hp) (C : Addr) (cl : List (Str × Addr)) (fp : List Addr), PG (X.blk s H scope (compEnvC scope cl C X.env) fp) tg (gX X.K X.mg (own.map (·.2)) g)) (ht : ∀ (s : Shared) (H : Hp) (C : Addr) (cl : List (Str × Addr)) (fp : List Addr), PTs (X.blk s H scope (compEnvC scope cl C X.env) fp) ifs (TB X.K X.mg W0 t))
    (he : ∀ (s : Shared) (H : Hp) (C : Addr) (cl : List (Str × Addr)) (fp : List Addr), PE (X.blk s H scope (compEnvC scope cl C X.env) fp) elt (TM X.K X.mg W0 e)) (hs : ∀ x, foldedSetIterable iter X.env x = pure x := by intro _; rfl) :
    PE X (.ListComp elt [⟨tg, iter, ifs, 0⟩] scope pos) (TM X.K X.mg W (eLc live (own.map (·.2)) src g t e)) := PE.imp (pe_lc hc hN hi (blkOk_by ok) hg ht he hs) fun σ H Q q => lc_read q
theorem me_dc (hc : X.calm = true) (hN : X.N.Nodup) (hi : PI X tg iter (TI X.K X.mg W src)) (ok : blkC X.N X.env.scope scope own = true)
    (hg : ∀ (s : Shared) (H : Hp) (C : Addr) (cl : List (Str × Addr)) (fp : List Addr), PG (X.blk s H scope (compEnvC scope cl C X.env) fp) tg (gX X.K X.mg (own.map (·.2)) g)) (ht : ∀ (s : Shared) (H : Hp) (C : Addr) (cl : List (Str × Addr)) (fp : List Addr), PTs (X.blk s H scope (compEnvC scope cl C X.env) fp) ifs (TB X.K X.mg W0 t))
    (hk : ∀ (s : Shared) (H : Hp) (C : Addr) (cl : List (Str × Addr)) (fp : List Addr), PE (X.blk s H scope (compEnvC scope cl C X.env) fp) kx (TM X.K X.mg W0 k))
    (he : ∀ (s : Shared) (H : Hp) (C : Addr) (cl : List (Str × Addr)) (fp : List Addr), PE (X.blk s H scope (compEnvC scope cl C X.env) fp) vx (TM X.K X.mg W0 e)) (hs : ∀ x, foldedSetIterable iter X.env x = pure x := by intro _; rfl) :
    PE X (.DictComp kx vx [⟨tg, iter, ifs, 0⟩] scope pos) (TM X.K X.mg W (eDc live (own.map (·.2)) src g t k e)) := PE.imp (pe_dc hc hN hi (blkOk_by ok) hg ht hk he hs) fun σ H Q q => dc_read q
/-- name = [..] -/
theorem ms_setLc {i : Nat} {y : Str} {py : Pos} {spos : Pos} (hc : X.calm = true) (hN : X.N.Nodup) (hyl : X.env.scope.names.lookup y = some .local) (hsw : swapsWith (.ListComp elt [⟨tg, iter, ifs, 0⟩] scope pos) (some (.Name y py)) spos.line X.env = pure true)
    (hi : PI X tg iter (TI X.K X.mg W src)) (ok : blkC X.N X.env.scope scope own = true)
    (hg : ∀ (s : Shared) (H : Hp) (C : Addr) (cl : List (Str × Addr)) (fp : List Addr), PG (X.blk s H scope (compEnvC scope cl C X.env) fp) tg (gX X.K X.mg (own.map (·.2)) g)) (ht : ∀ (s : Shared) (H : Hp) (C : Addr) (cl : List (Str × Addr)) (fp : List Addr), PTs (X.blk s H scope (compEnvC scope cl C X.env) fp) ifs (TB X.K X.mg W0 t))
    (he : ∀ (s : Shared) (H : Hp) (C : Addr) (cl : List (Str × Addr)) (fp : List Addr), PE (X.blk s H scope (compEnvC scope cl C X.env) fp) elt (TM X.K X.mg W0 e)) (hy : X.N[i]? = some y := by rfl) (hs : ∀ x, foldedSetIterable iter X.env x = pure x := by intro _; rfl) :
    PS X (.Assign [.Name y py] (.ListComp elt [⟨tg, iter, ifs, 0⟩] scope pos) spos) (TF X.K X.mg W (sAsg (eLc live (own.map (·.2)) src g t e) (gNm i))) := PS.imp (ps_setLc hc hN hy hyl hsw hi (blkOk_by ok) hg ht he hs) fun D σ H h => by
  have h2 := TF.ofE (k := fun u l s1 => FG (gNm i u l s1) fun l2 s2 => .nx l2 s2) h
  obtain ⟨Pr, ρ, l, s, r, lr, q⟩ := h2
  refine lc_read (live := live) ⟨Pr, ρ, l, s, r, lr, OkA.mono q ?_⟩
  rintro x H1 ⟨Pr, ρ1, l1, s1, u, r1, lr1, hu, hk⟩
  exact hk ρ1 H1 _ (Ext.refl _ _ _ _) r1 (lr1.set i hu)
end
end Mo
/-! Mo14: what is walked. -/
namespace Mo
open PySem PySem.Spec PyProof.Rows L2
/-- the items of what is walked -/
def kyOk1 : Ky → Bool
  | .str z => decide (z.length ≤ sizeLine)
  | .int _ => true
  | .tup _ => false
def kyOk : Ky → Bool
  | .tup ks => ks.all kyOk1 && decide (ks.length ≤ sizeLine)
  | k => kyOk1 k
def keysOf (kvs : List (Ky × U)) : Option (List U) := if kvs.all (fun p => kyOk p.1) = true then some (kvs.map fun p => kyU p.1) else none
def itemsOf (u : U) (s : S) : Option (List U) := match u with
  | .str x => some (x.map fun c => .str [c])
  | .lst us => some us
  | .scr us => some us
  | .tup us => some us
  | .wt us => some us
  | .dct _ kvs => keysOf kvs
  | .ref i => (match s[i]? with
    | some (.ld _ kvs) => keysOf kvs
    | _ => none)
  | _ => none
def iFn (f : U → S → Option (List U)) (m : EM) : IM := fun l s => match m l s with
  | .ok u s1 => (match f u s1 with
    | some us => .ok us s1
    | none => .no)
  | .ex x s1 => .ex x s1
  | .no => .no
def iAny (m : EM) : IM := iFn itemsOf m
section
variable {X : Cx} {W : WX} {tg e : Expr} {m : EM}
/-- the walk's source, read -/
theorem TI.src {f : U → S → Option (List U)} {σ : L2.St} {H : Hp} {Rr : It → Hp → Prop} (h : TI X.K X.mg W (iFn f m) σ H Rr) : TM X.K X.mg W m σ H (fun x H1 => ∃ Pr ρ1 s1 u us, Rel X.K X.mg Pr ρ1 s1 H1 ∧ UR (Lv Pr ρ1 s1) ρ1 X.K X.mg H1 u x ∧ f u s1 = some us ∧ ∀ ρ2 H2 J, Ext Pr ρ1 s1 H1 ρ2 s1 H2 → Rel X.K X.mg Pr ρ2 s1 H2 → Wk X.K X.mg Pr ρ2 s1 H2 J us → Rr J H2) := by
  obtain ⟨Pr, ρ, l, s, r, lr, q⟩ := h
  refine ⟨Pr, ρ, l, s, r, lr, ?_⟩
  cases e1 : m l s with
  | no => simp only [iFn, e1] at q
  | ex x s1 => simp only [iFn, e1] at q; exact fun ρ1 H1 e r1 c d hx => q ρ1 H1 c d e r1 hx
  | ok u s1 =>
    simp only [iFn, e1] at q
    cases e2 : f u s1 with
    | none => simp only [e2] at q
    | some us =>
      simp only [e2] at q
      exact fun ρ1 H1 x e r1 hx => ⟨Pr, ρ1, s1, u, us, r1, hx, e2, fun ρ2 H2 J e' r2 wk => q ρ2 H2 J (e.trans e') r2 wk⟩
end
section
variable {K : PySem.W.Frag} {mg : Str → Option Value} {Pr : Addr → Prop} {ρ : List Addr} {s : S} {H : Hp} {us : List U} {xs : List V} {a : Addr}
/-- a row of values, walked: what is yielded is in the row, the heap stays -/
theorem Wk.row {J : It} (r : Rel K mg Pr ρ s H) (hx : URs (Lv Pr ρ s) ρ K mg H us xs)
    (hJ : ∀ (H' : Hp), (∀ b o, H b = some o → ¬ isM o → H' b = some o) → (∀ b o, H b = some o → ¬ Lv Pr ρ s b → H' b = some o ∨ (isD o ∧ ∃ od, H' b = some (.frz od o))) → (∀ i x, xs[i]? = some x → J.go i H' ∧ ∀ y H'', J.yld i H' y H'' → H'' = H' ∧ y = x) ∧ J.stop xs.length H') : Wk K mg Pr ρ s H J us := by
  intro Pr2 ρ' s' H' hP hN e r'
  have c := e.car (Pr2 := Pr2) r hN
  obtain ⟨j1, j2⟩ := hJ H' (fun b o h hm => e.fix r h hm) e.keep
  rw [URs.length hx] at j2
  refine ⟨fun i u hu => ?_, j2⟩
  obtain ⟨x, h1, h2⟩ := URs.get hx hu
  obtain ⟨g1, g2⟩ := j1 i x h1
  refine ⟨g1, fun y H'' hy => ?_⟩
  obtain ⟨rfl, rfl⟩ := g2 y H'' hy
  exact ⟨Ext.refl _ _ _ _, r', UR.carry c u y h2⟩
end
section
variable {K : PySem.W.Frag} {mg : Str → Option Value} {Pr : Addr → Prop} {ρ : List Addr} {s : S} {H H' : Hp} {us : List U} {xs : List V} {a : Addr}
/-- what may change of the heap while walked -/
structure Kp (Pr : Addr → Prop) (ρ : List Addr) (s : S) (H H' : Hp) : Prop where
  fix : ∀ b o, H b = some o → ¬ isM o → H' b = some o
  old : ∀ b o, H b = some o → ¬ Lv Pr ρ s b → H' b = some o ∨ (isD o ∧ ∃ od, H' b = some (.frz od o))
theorem Kp.sqt (k : Kp Pr ρ s H H') {a : Addr} (h : SqT K H a xs) : SqT K H' a xs := by
  rcases h with (h | ⟨o, h⟩) | h
  · exact .inl (.inl (k.fix a _ h (fun z => z)))
  · exact .inl (.inr ⟨o, k.fix a _ h (fun z => z)⟩)
  · exact .inr h
theorem Kp.frzD (k : Kp Pr ρ s H H') {a : Addr} {od : Obj} {u : HO} (h : H a = some (.frz od u)) (n : ¬ Lv Pr ρ s a) : H' a = some (.frz od u) := by
  rcases k.old a _ h n with q | ⟨q, _⟩
  · exact q
  · exact q.elim
theorem Wk.seqT (r : Rel K mg Pr ρ s H) (hx : URs (Lv Pr ρ s) ρ K mg H us xs) (h : SqT K H a xs) : Wk K mg Pr ρ s H (Itt K a) us :=
  Wk.row r hx fun H' f o => by
    have h' := Kp.sqt ⟨f, o⟩ h
    exact ⟨fun i x e => ⟨⟨xs, x, h', e⟩, fun y H'' ⟨h1, h2⟩ => ⟨h1, by have := h2 xs h'; rw [e] at this; exact (Option.some.inj this).symm⟩⟩, ⟨xs, h', Nat.le_refl _⟩⟩
/-- a list that nobody changes -/
def lstF : U → Option (List U)
  | .lst us => some us
  | .scr us => some us
  | _ => none
theorem lstF.at {u : U} {v : V} (r : Rel K mg Pr ρ s H) (hu : UR (Lv Pr ρ s) ρ K mg H u v) (h : lstF u = some us) : ∃ a xs, v = .ref a ∧ SqL K H a xs ∧ xs.length ≤ sizeLine ∧ URs (Lv Pr ρ s) ρ K mg H us xs ∧ ∀ H', Kp Pr ρ s H H' → SqL K H' a xs := by
  cases u with
  | lst ws =>
    cases h
    obtain ⟨a, xs, h1, h2, n, h3, h4⟩ := hu
    refine ⟨a, xs, h1, .inl (.inl h2), h3, h4, fun H' k => ?_⟩
    rcases k.old a _ h2 n with q | ⟨q, _⟩
    · exact .inl (.inl q)
    · exact q.elim
  | scr ws =>
    cases h
    obtain ⟨a, xs, h1, h2, h3, h4⟩ := hu
    exact ⟨a, xs, h1, h2.sq, h3, h4, fun H' k => (h2.fix (fun o q => k.fix a _ q (fun z => z))).sq⟩
  | _ => cases h
theorem Wk.seqL (r : Rel K mg Pr ρ s H) (hx : URs (Lv Pr ρ s) ρ K mg H us xs) (h : ∀ H', Kp Pr ρ s H H' → SqL K H' a xs) : Wk K mg Pr ρ s H (Itl K a) us :=
  Wk.row r hx fun H' f o => by
    have h' := h H' ⟨f, o⟩
    exact ⟨fun i x e => ⟨⟨xs, x, h', e⟩, fun y H'' ⟨h1, h2⟩ => ⟨h1, by have := h2 xs h'; rw [e] at this; exact (Option.some.inj this).symm⟩⟩, ⟨xs, h', Nat.le_refl _⟩⟩
theorem URs.signs {Lp : Addr → Prop} : ∀ z : List Nat, URs Lp ρ K mg H (z.map fun c => U.str [c]) (z.map fun c => V.str ⟨#[c]⟩)
  | [] => rfl
  | c :: z => ⟨_, _, rfl, ⟨rfl, by show 1 ≤ sizeLine; decide⟩, URs.signs z⟩
theorem Wk.str (r : Rel K mg Pr ρ s H) (z : List Nat) : Wk K mg Pr ρ s H (Its (st z)) (z.map fun c => .str [c]) :=
  Wk.row r (URs.signs z) fun H' f o => by
    have hz : (st z).cps.size = z.length := by simp [st]
    refine ⟨fun i x e => ?_, by show (st z).cps.size ≤ _; rw [hz, List.length_map]; exact Nat.le_refl _⟩
    rw [List.getElem?_map] at e
    cases e1 : z[i]? with
    | none => rw [e1] at e; cases e
    | some c =>
      rw [e1] at e
      have e : V.str ⟨#[c]⟩ = x := Option.some.inj e
      refine ⟨?_, fun y H'' ⟨h1, c', h2, h3⟩ => ⟨h1, ?_⟩⟩
      · show i < (st z).cps.size
        rw [hz]; exact (List.getElem?_eq_some_iff.mp e1).1
      · have : (st z).cps[i]? = some c := by simp [st, e1]
        rw [this] at h2
        cases h2
        rw [h3, e]
/-- the keys -/
theorem kyU.k {Lp : Addr → Prop} {k : Ky} {kk : Key} (h0 : k1 k = some kk) (hz : kyOk k = true) : UR Lp ρ K mg H (kyU k) (kV kk) := by
  cases k with
  | int i => cases h0; exact rfl
  | str z => cases h0; exact ⟨rfl, of_decide_eq_true hz⟩
  | tup ks => cases h0
theorem kyU.t {Lp : Addr → Prop} {k : Ky} {kk : List Key} {q : Addr} (h0 : kt k = some kk) (hz : kyOk k = true) (hq : H q = some (.tup (kk.map kV))) : UR Lp ρ K mg H (kyU k) (.ref q) := by
  cases k with
  | int i => cases h0
  | str z => cases h0
  | tup ks =>
    have hz : (ks.all kyOk1 && decide (ks.length ≤ sizeLine)) = true := hz
    rw [Bool.and_eq_true, decide_eq_true_eq] at hz
    have go : ∀ (ks : List Ky) (kk : List Key), k1s ks = some kk → ks.all kyOk1 = true → kk.length = ks.length ∧ URs Lp ρ K mg H (ks.map kyU.kyU1) (kk.map kV) := by
      intro ks
      induction ks with
      | nil => intro kk h _; cases h; exact ⟨rfl, rfl⟩
      | cons k r ih =>
        intro kk h ha
        rw [List.all_cons, Bool.and_eq_true] at ha
        unfold k1s at h
        split at h
        · rename_i a b e1 e2
          cases h
          obtain ⟨i1, i2⟩ := ih b e2 ha.2
          refine ⟨by simp [i1], kV a, b.map kV, rfl, ?_, i2⟩
          cases k with
          | int i => cases e1; exact rfl
          | str z => cases e1; exact ⟨rfl, of_decide_eq_true ha.1⟩
          | tup _ => cases e1
        · cases h
    obtain ⟨g1, g2⟩ := go ks kk h0 hz.1
    exact ⟨q, kk.map kV, rfl, hq, by rw [List.length_map, g1]; exact hz.2, g2⟩
theorem URk.at {Lp : Addr → Prop} : ∀ {kvs : List (Ky × U)} {ks : List (Key × V)} {i : Nat} {p : Ky × U}, URk Lp ρ K mg H kvs ks → kvs[i]? = some p → ∃ kk v, ks[i]? = some (kk, v) ∧ k1 p.1 = some kk ∧ UR Lp ρ K mg H p.2 v
  | [], _, i, _, _, h => by cases i <;> cases h
  | (k, u) :: r, _, 0, _, hs, h => by
    obtain ⟨kk, x, t, rfl, h0, h1, h2⟩ := hs
    cases h; exact ⟨kk, x, rfl, h0, h1⟩
  | (k, u) :: r, _, i + 1, _, hs, h => by
    obtain ⟨kk, x, t, rfl, h0, h1, h2⟩ := hs
    exact URk.at (i := i) h2 h
theorem URt.at {Lp : Addr → Prop} : ∀ {kvs : List (Ky × U)} {ks : List (List Key × V)} {i : Nat} {p : Ky × U}, URt Lp ρ K mg H kvs ks → kvs[i]? = some p → ∃ kk v, ks[i]? = some (kk, v) ∧ kt p.1 = some kk ∧ UR Lp ρ K mg H p.2 v
  | [], _, i, _, _, h => by cases i <;> cases h
  | (k, u) :: r, _, 0, _, hs, h => by
    obtain ⟨kk, x, t, rfl, h0, h1, h2⟩ := hs
    cases h; exact ⟨kk, x, rfl, h0, h1⟩
  | (k, u) :: r, _, i + 1, _, hs, h => by
    obtain ⟨kk, x, t, rfl, h0, h1, h2⟩ := hs
    exact URt.at (i := i) h2 h
/-- a locked dict, walked: i is what stands at a place -/
theorem Wk.frz {J : It} {us : List U} {od : Obj} {u : HO} {d : Addr} (r : Rel K mg Pr ρ s H) (hd : H d = some (.frz od u)) (hlk : ∀ ρ' s' H', Ext Pr ρ s H ρ' s' H' → H' d = some (.frz od u))
    (hJ : ∀ (Pr2 : Addr → Prop) (ρ' : List Addr) (s' : S) (H' : Hp), H' d = some (.frz od u) → Rel K mg Pr2 ρ' s' H' → Car (Lv Pr ρ s) (Lv Pr2 ρ' s') ρ ρ' H H' → (∀ (i : Nat) (w : U), us[i]? = some w → J.go i H' ∧ ∀ x H'', J.yld i H' x H'' → Ext Pr2 ρ' s' H' ρ' s' H'' ∧ Rel K mg Pr2 ρ' s' H'' ∧ UR (Lv Pr2 ρ' s') ρ' K mg H'' w x) ∧ J.stop us.length H') : Wk K mg Pr ρ s H J us := by
  intro Pr2 ρ' s' H' hP hN e r'
  exact hJ Pr2 ρ' s' H' (hlk ρ' s' H' e) r' (e.car r hN)
end
end Mo
/-! Mo15: the rules for what is walked. -/
namespace Mo
open PySem PySem.Spec PyProof.Rows L2
/-- a dict that is read while nobody changes it: data (locked from now on), or one of the store that is locked -/
def dctF (u : U) (s : S) : Option (Bool × List (Ky × U)) := match u with
  | .dct t kvs => some (t, kvs)
  | .ref i => (match s[i]? with
    | some (.ld t kvs) => some (t, kvs)
    | _ => none)
  | _ => none
/-- the dict at a is locked in H2, whatever comes -/
structure Lkd (K : PySem.W.Frag) (mg : Str → Option Value) (Pr : Addr → Prop) (ρ : List Addr) (s : S) (H : Hp) (t : Bool) (kvs : List (Ky × U)) (a : Addr) (ho : HO) (od : Obj) (H2 : Hp) : Prop where
  ext : Ext Pr ρ s H ρ s H2
  rel : Rel K mg Pr ρ s H2
  at_ : H2 a = some (.frz od ho)
  keep : ∀ ρ' s' H', Ext Pr ρ s H2 ρ' s' H' → H' a = some (.frz od ho)
  data : (t = false ∧ ∃ ks, ho = .dK ks ∧ URk (Lv Pr ρ s) ρ K mg H2 kvs ks) ∨ (t = true ∧ ∃ ks, ho = .dT ks ∧ URt (Lv Pr ρ s) ρ K mg H2 kvs ks)
section
variable {K : PySem.W.Frag} {mg : Str → Option Value} {Pr : Addr → Prop} {ρ : List Addr} {s : S} {H : Hp}
theorem dctF.lock {u : U} {x : V} {t : Bool} {kvs : List (Ky × U)} (r : Rel K mg Pr ρ s H) (hu : UR (Lv Pr ρ s) ρ K mg H u x) (h : dctF u s = some (t, kvs)) :
    ∃ a ho, x = .ref a ∧ ((∃ od, H a = some (.frz od ho) ∧ Lkd K mg Pr ρ s H t kvs a ho od H) ∨ (H a = some ho ∧ isD ho ∧ ∀ od, Lkd K mg Pr ρ s H t kvs a ho od (upd H a (.frz od ho)))) := by
  have keep : ∀ {a od ho H2}, H2 a = some (.frz od ho) → ¬ Lv Pr ρ s a → ∀ ρ' s' H', Ext Pr ρ s H2 ρ' s' H' → H' a = some (.frz od ho) := fun ha n ρ' s' H' e => by
    rcases e.keep _ _ ha n with q | ⟨q, _⟩
    · exact q
    · exact q.elim
  cases u with
  | dct t' ws =>
    cases h
    obtain ⟨a, h1, n, h3, h4⟩ := hu
    rcases h4 with ⟨ht, ks, rd, hk⟩ | ⟨ht, ks, rd, hk⟩
    · refine ⟨a, .dK ks, h1, ?_⟩
      rcases rd with rd | ⟨od, rd⟩
      · exact .inr ⟨rd, trivial, fun od => let ⟨e, r2⟩ := r.lock od rd trivial n; ⟨e, r2, upd_same, keep upd_same n, .inl ⟨ht, ks, rfl, URk.ext r e kvs ks hk⟩⟩⟩
      · exact .inl ⟨od, rd, Ext.refl _ _ _ _, r, rd, keep rd n, .inl ⟨ht, ks, rfl, hk⟩⟩
    · refine ⟨a, .dT ks, h1, ?_⟩
      rcases rd with rd | ⟨od, rd⟩
      · exact .inr ⟨rd, trivial, fun od => let ⟨e, r2⟩ := r.lock od rd trivial n; ⟨e, r2, upd_same, keep upd_same n, .inr ⟨ht, ks, rfl, URt.ext r e kvs ks hk⟩⟩⟩
      · exact .inl ⟨od, rd, Ext.refl _ _ _ _, r, rd, keep rd n, .inr ⟨ht, ks, rfl, hk⟩⟩
  | ref i =>
    obtain ⟨a, h1, h2⟩ := hu
    unfold dctF at h
    cases e : s[i]? with
    | none => simp only [e] at h; cases h
    | some o =>
      cases o with
      | ld t' ws =>
        simp only [e] at h
        cases h
        obtain ⟨g1, g2⟩ := r.ob i _ a e h1
        rcases g2 with ⟨ht, od, ks, g2, g3⟩ | ⟨ht, od, ks, g2, g3⟩
        · exact ⟨a, _, h2, .inl ⟨od, g2, Ext.refl _ _ _ _, r, g2, fun ρ' s' H' e' => (e'.lk i _ a e rfl h1).2.trans g2, .inl ⟨ht, ks, rfl, g3⟩⟩⟩
        · exact ⟨a, _, h2, .inl ⟨od, g2, Ext.refl _ _ _ _, r, g2, fun ρ' s' H' e' => (e'.lk i _ a e rfl h1).2.trans g2, .inr ⟨ht, ks, rfl, g3⟩⟩⟩
      | _ => simp only [e] at h; cases h
  | _ => cases h
end
section
variable {X : Cx} {W : WX} {tg e : Expr} {m : EM}
/-- a dict is locked as soon as it is had -/
def tLk (td : TE) : TE := fun σ H Q => td σ H fun x H1 => ∃ d ho, x = .ref d ∧ ((∃ od, H1 d = some (.frz od ho) ∧ Q x H1) ∨ (H1 d = some ho ∧ isD ho ∧ ∀ od, Q x (upd H1 d (.frz od ho))))
theorem pe_lk {td : TE} (h : PE X e td) : PE X e (tLk td) := by
  refine ⟨fun pins s σ H Q I q => ?_⟩
  refine thn (h.run pins s σ H _ I q) fun v s1 ⟨x, H1, I1, r1, d, ho, ex, q2⟩ => ?_
  rcases q2 with ⟨od, _, q2⟩ | ⟨hd, hi, q2⟩
  · exact ⟨x, H1, I1, r1, q2⟩
  · obtain ⟨od, I2⟩ := I1.lock hd (by cases ho <;> first | exact trivial | exact hi.elim)
    exact ⟨x, _, I2, r1, q2 od⟩
/-- the walk's source, a dict, read -/
theorem tLk.src {f : U → S → Option (List U)} {σ : L2.St} {H : Hp} {Rr : It → Hp → Prop} {P : V → Hp → Prop} (h : TI X.K X.mg W (iFn f m) σ H Rr)
    (k : ∀ Pr ρ s u us x H1, Rel X.K X.mg Pr ρ s H1 → UR (Lv Pr ρ s) ρ X.K X.mg H1 u x → f u s = some us → (∀ ρ2 H2 J, Ext Pr ρ s H1 ρ2 s H2 → Rel X.K X.mg Pr ρ2 s H2 → Wk X.K X.mg Pr ρ2 s H2 J us → Rr J H2) → ∃ t kvs, dctF u s = some (t, kvs) ∧ ∀ a ho od H2, x = .ref a → Lkd X.K X.mg Pr ρ s H1 t kvs a ho od H2 → P x H2) :
    tLk (TM X.K X.mg W m) σ H P := by
  obtain ⟨Pr, ρ, l, s, r, lr, q⟩ := TI.src h
  refine ⟨Pr, ρ, l, s, r, lr, OkA.mono q ?_⟩
  rintro x H1 ⟨Pr1, ρ1, s1, u, us, r1, hu, hf, hR⟩
  obtain ⟨t, kvs, hd, hP⟩ := k Pr1 ρ1 s1 u us x H1 r1 hu hf hR
  obtain ⟨a, ho, hx, hl⟩ := dctF.lock r1 hu hd
  refine ⟨a, ho, hx, ?_⟩
  rcases hl with ⟨od, h1, h2⟩ | ⟨h1, h2, h3⟩
  · exact .inl ⟨od, h1, hP a ho od H1 hx h2⟩
  · exact .inr ⟨h1, h2, fun od => hP a ho od _ hx (h3 od)⟩
/-! ### keys, values, pairs of a dict -/
def keysF (u : U) (s : S) : Option (List U) := match dctF u s with
  | some (_, kvs) => keysOf kvs
  | none => none
def valsF (u : U) (s : S) : Option (List U) := match dctF u s with
  | some (false, kvs) => some (kvs.map (·.2))
  | _ => none
def pairsF (u : U) (s : S) : Option (List U) := match dctF u s with
  | some (false, kvs) => if kvs.all (fun p => kyOk p.1) = true then some (kvs.map fun p => .tup [kyU p.1, p.2]) else none
  | _ => none
theorem keysOf_at {kvs : List (Ky × U)} {us : List U} (h : keysOf kvs = some us) {i : Nat} {w : U} (hi : us[i]? = some w) : us.length = kvs.length ∧ ∃ p, kvs[i]? = some p ∧ w = kyU p.1 ∧ kyOk p.1 = true := by
  unfold keysOf at h
  by_cases e : kvs.all (fun p => kyOk p.1) = true
  · rw [if_pos e] at h
    cases h
    rw [List.getElem?_map] at hi
    cases e1 : kvs[i]? with
    | none => rw [e1] at hi; cases hi
    | some p =>
      rw [e1] at hi
      exact ⟨by simp, p, rfl, (Option.some.inj hi).symm, List.all_eq_true.mp e p (List.mem_of_getElem? e1)⟩
  · rw [if_neg e] at h; cases h
theorem keysOf_len {kvs : List (Ky × U)} {us : List U} (h : keysOf kvs = some us) : us.length = kvs.length := by
  unfold keysOf at h
  by_cases e : kvs.all (fun p => kyOk p.1) = true
  · rw [if_pos e] at h; cases h; simp
  · rw [if_neg e] at h; cases h
theorem Wk.keys {K : PySem.W.Frag} {mg : Str → Option Value} {Pr : Addr → Prop} {ρ : List Addr} {s : S} {H H2 : Hp} {t : Bool} {kvs : List (Ky × U)} {us : List U} {a : Addr} {ho : HO} {od : Obj} (L : Lkd K mg Pr ρ s H t kvs a ho od H2) (h : keysOf kvs = some us) :
    (∃ ks, ho = .dK ks ∧ Wk K mg Pr ρ s H2 (Itk a od ks) us) ∨ ∃ ks, ho = .dT ks ∧ Wk K mg Pr ρ s H2 (Itkt a od ks) us := by
  have hl := keysOf_len h
  rcases L.data with ⟨_, ks, rfl, hk⟩ | ⟨_, ks, rfl, hk⟩
  · refine .inl ⟨ks, rfl, Wk.frz L.rel L.at_ L.keep fun Pr2 ρ' s' H' ha r' c => ⟨fun i w hi => ?_, ha, by rw [hl, URk.length hk]; exact Nat.le_refl _⟩⟩
    obtain ⟨_, p, hp, rfl, hok⟩ := keysOf_at h hi
    obtain ⟨kk, v, g1, g2, g3⟩ := URk.at hk hp
    refine ⟨⟨ha, (List.getElem?_eq_some_iff.mp g1).1⟩, fun x H'' ⟨e1, k', v', e2, e3⟩ => ?_⟩
    subst e1
    rw [g1] at e2
    cases e2
    exact ⟨Ext.refl _ _ _ _, r', by rw [e3]; exact kyU.k g2 hok⟩
  · refine .inr ⟨ks, rfl, Wk.frz L.rel L.at_ L.keep fun Pr2 ρ' s' H' ha r' c => ⟨fun i w hi => ?_, ha, by rw [hl, URt.length hk]; exact Nat.le_refl _⟩⟩
    obtain ⟨_, p, hp, rfl, hok⟩ := keysOf_at h hi
    obtain ⟨kk, v, g1, g2, g3⟩ := URt.at hk hp
    refine ⟨⟨ha, (List.getElem?_eq_some_iff.mp g1).1⟩, fun x H'' ⟨e1, k', v', q, e2, e3, e4⟩ => ?_⟩
    subst e1
    rw [g1] at e2
    cases e2
    exact ⟨Ext.refl _ _ _ _, r', by rw [e3]; exact kyU.t g2 hok e4⟩
theorem mi_keys (he : PE X e (TM X.K X.mg W m)) : PI X tg e (TI X.K X.mg W (iFn keysF m)) := by
  refine ⟨fun pins s σ H R I h => (pi_keys (pe_lk he)).run pins s σ H R I ?_⟩
  refine tLk.src h fun Pr ρ s u us x H1 r hu hf hR => ?_
  unfold keysF at hf
  cases e0 : dctF u s with
  | none => simp only [e0] at hf; cases hf
  | some p =>
    obtain ⟨t, kvs⟩ := p
    simp only [e0] at hf
    refine ⟨t, kvs, rfl, fun a ho od H2 hx L => ⟨a, od, hx, ?_⟩⟩
    rcases Wk.keys L hf with ⟨ks, rfl, w⟩ | ⟨ks, rfl, w⟩
    · exact .inl ⟨ks, L.at_, hR ρ H2 _ L.ext L.rel w⟩
    · exact .inr ⟨ks, L.at_, hR ρ H2 _ L.ext L.rel w⟩
variable {apos cpos : Pos}
theorem mi_vals (he : PE X e (TM X.K X.mg W m)) (hbase : attributeBase e "values" X.env (eval e X.env) = eval e X.env := by rfl) (hline : (apos.endLine == cpos.line) = true := by rfl) : PI X tg (.Call (.Attribute e "values" apos) [] [] cpos) (TI X.K X.mg W (iFn valsF m)) := by
  refine ⟨fun pins s σ H R I h => (pi_values (pe_lk he) hbase hline).run pins s σ H R I ?_⟩
  refine tLk.src h fun Pr ρ s u us x H1 r hu hf hR => ?_
  unfold valsF at hf
  split at hf
  · rename_i kvs e0
    cases hf
    refine ⟨false, kvs, e0, fun a ho od H2 hx L => ?_⟩
    rcases L.data with ⟨_, ks, rfl, hk⟩ | ⟨h0, _⟩
    · refine ⟨a, od, ks, hx, L.at_, hR ρ H2 _ L.ext L.rel (Wk.frz L.rel L.at_ L.keep fun Pr2 ρ' s' H' ha r' c => ⟨fun i w hi => ?_, ha, by rw [List.length_map, URk.length hk]; exact Nat.le_refl _⟩)⟩
      rw [List.getElem?_map] at hi
      cases e1 : kvs[i]? with
      | none => rw [e1] at hi; cases hi
      | some p =>
        rw [e1] at hi
        have hw : p.2 = w := Option.some.inj hi
        subst hw
        obtain ⟨kk, v, g1, g2, g3⟩ := URk.at hk e1
        refine ⟨⟨ha, (List.getElem?_eq_some_iff.mp g1).1⟩, fun x H'' ⟨e1, k', e2⟩ => ?_⟩
        subst e1
        rw [g1] at e2
        cases e2
        exact ⟨Ext.refl _ _ _ _, r', UR.carry c _ _ g3⟩
    · cases h0
  · cases hf
theorem mi_items {elts : List Expr} {kk : Nat} {tpos : Pos} (he : PE X e (TM X.K X.mg W m)) (hbase : attributeBase e "items" X.env (eval e X.env) = eval e X.env := by rfl) (hline : (apos.endLine == cpos.line) = true := by rfl) :
    PI X (.Tuple elts kk tpos) (.Call (.Attribute e "items" apos) [] [] cpos) (TI X.K X.mg W (iFn pairsF m)) := by
  refine ⟨fun pins s σ H R I h => (pi_items (pe_lk he) hbase hline).run pins s σ H R I ?_⟩
  refine tLk.src h fun Pr ρ s u us x H1 r hu hf hR => ?_
  unfold pairsF at hf
  split at hf
  · rename_i kvs e0
    by_cases hok : kvs.all (fun p => kyOk p.1) = true
    · rw [if_pos hok] at hf
      cases hf
      refine ⟨false, kvs, e0, fun a ho od H2 hx L => ?_⟩
      rcases L.data with ⟨_, ks, rfl, hk⟩ | ⟨h0, _⟩
      · refine ⟨a, od, ks, hx, L.at_, hR ρ H2 _ L.ext L.rel (Wk.frz L.rel L.at_ L.keep fun Pr2 ρ' s' H' ha r' c => ⟨fun i w hi => ?_, ha, by rw [List.length_map, URk.length hk]; exact Nat.le_refl _⟩)⟩
        rw [List.getElem?_map] at hi
        cases e1 : kvs[i]? with
        | none => rw [e1] at hi; cases hi
        | some p =>
          rw [e1] at hi
          have hw : U.tup [kyU p.1, p.2] = w := Option.some.inj hi
          subst hw
          obtain ⟨kk, v, g1, g2, g3⟩ := URk.at hk e1
          refine ⟨⟨ha, (List.getElem?_eq_some_iff.mp g1).1⟩, fun x H'' ⟨T, k', v', e2, e3, hT, e4⟩ => ?_⟩
          rw [g1] at e2
          cases e2
          subst e3 e4
          obtain ⟨e5, r5, _⟩ := r'.fresh (.tup [kV kk, v]) hT
          refine ⟨e5, r5, T, [kV kk, v], rfl, upd_same, by show 2 ≤ sizeLine; decide, kV kk, [v], rfl, kyU.k g2 (List.all_eq_true.mp hok p (List.mem_of_getElem? e1)), v, [], rfl, ?_, rfl⟩
          exact UR.ext r' e5 _ _ (UR.carry c _ _ g3)
      · cases h0
    · rw [if_neg hok] at hf; cases hf
  · cases hf
end
end Mo
/-! Mo16: the rules for what is walked, by whatever it is; ranges, enumerate, zip, reversed. -/
namespace Mo
open PySem PySem.Spec PyProof.Rows L2
/-- a list, a tuple, a text, a dict -/
def anyF (u : U) (s : S) : Option (List U) := match u with
  | .str x => some (x.map fun c => .str [c])
  | _ => match tupOf u with
    | some us => some us
    | none => match lstF u with
      | some us => some us
      | none => keysF u s
section
variable {X : Cx} {W : WX} {tg e : Expr} {m : EM} {pins : List (Addr × Obj)} {σ : L2.St} {H : Hp} {sh : Shared} {Pr : Addr → Prop} {ρ : List Addr} {s : S} {E : Value → Shared → Prop} {R : It → Hp → Prop}
/-- iter(x) of a list that nobody changes, of a tuple, of a text -/
theorem iter_lst {u : U} {x : V} {v : Value} {us : List U} (I : Inv X pins σ H sh) (r : Rel X.K X.mg Pr ρ s H) (hu : UR (Lv Pr ρ s) ρ X.K X.mg H u x) (rx : RelV x v) (h : lstF u = some us) (hR : ∀ J, Wk X.K X.mg Pr ρ s H J us → R J H) : wpAny (model X.prog X.w) X.A (pyIter v) (PIE X pins σ tg R) E sh := by
  obtain ⟨a, xs, rfl, h2, h3, h4, h5⟩ := lstF.at r hu h
  cases rx
  obtain ⟨its, rv, p, hz⟩ := I.list h2
  exact wpAny_pyIter_list p.isList (pi_one (tk := sh.toks) I _ (turn_list a _) ⟨_, Heap.get?_push_size _ rfl, rfl, rfl⟩ (hR _ (Wk.seqL r h4 h5)))
theorem iter_tup {u : U} {x : V} {v : Value} {us : List U} (I : Inv X pins σ H sh) (r : Rel X.K X.mg Pr ρ s H) (hu : UR (Lv Pr ρ s) ρ X.K X.mg H u x) (rx : RelV x v) (h : tupOf u = some us) (hR : ∀ J, Wk X.K X.mg Pr ρ s H J us → R J H) : wpAny (model X.prog X.w) X.A (pyIter v) (PIE X pins σ tg R) E sh := by
  obtain ⟨a, xs, rfl, h2, h3, h4⟩ := tupOf.at hu h
  cases rx
  obtain ⟨its, rv, p, hz⟩ := I.tuple h2
  exact wpAny_pyIter_tuple (show sh.heap.IsTuple a its.toArray from p) (pi_one (tk := sh.toks) I _ (turn_tuple a _) ⟨_, Heap.get?_push_size _ rfl, rfl, rfl⟩ (hR _ (Wk.seqT r h4 h2)))
theorem iter_str {x : V} {v : Value} {z : List Nat} (I : Inv X pins σ H sh) (r : Rel X.K X.mg Pr ρ s H) (hu : x = .str (st z)) (rx : RelV x v) (hR : ∀ J, Wk X.K X.mg Pr ρ s H J (z.map fun c => .str [c]) → R J H) : wpAny (model X.prog X.w) X.A (pyIter v) (PIE X pins σ tg R) E sh := by
  subst hu
  obtain ⟨t, rfl⟩ := rx
  cases ha : (st z).cps.all (· < 128)
  · exact wpAny_pyIter_wide ha (pi_one (tk := sh.toks) I _ (turn_str _ (st z) t "str_iterator" (.inr rfl)) ⟨_, Heap.get?_push_size _ rfl, rfl, rfl⟩ (hR _ (Wk.str r z)))
  · exact wpAny_pyIter_ascii ha (pi_one (tk := sh.toks) I _ (turn_str _ (st z) t "str_ascii_iterator" (.inl rfl)) ⟨_, Heap.get?_push_size _ rfl, rfl, rfl⟩ (hR _ (Wk.str r z)))
theorem iter_dct {u : U} {x : V} {v : Value} {us : List U} (I : Inv X pins σ H sh) (r : Rel X.K X.mg Pr ρ s H) (hu : UR (Lv Pr ρ s) ρ X.K X.mg H u x) (rx : RelV x v) (h : keysF u s = some us) (hR : ∀ H2 J, Ext Pr ρ s H ρ s H2 → Rel X.K X.mg Pr ρ s H2 → Wk X.K X.mg Pr ρ s H2 J us → R J H2) : wpAny (model X.prog X.w) X.A (pyIter v) (PIE X pins σ tg R) E sh := by
  unfold keysF at h
  cases e0 : dctF u s with
  | none => simp only [e0] at h; cases h
  | some p =>
    obtain ⟨t, kvs⟩ := p
    simp only [e0] at h
    obtain ⟨a, ho, rfl, hl⟩ := dctF.lock r hu e0
    cases rx
    obtain ⟨od, H2, I2, L⟩ : ∃ od H2, Inv X pins σ H2 sh ∧ Lkd X.K X.mg Pr ρ s H t kvs a ho od H2 := by
      rcases hl with ⟨od, h1, h2⟩ | ⟨h1, h2, h3⟩
      · exact ⟨od, H, I, h2⟩
      · obtain ⟨od, I2⟩ := I.lock h1 (by cases ho <;> first | exact trivial | exact h2.elim)
        exact ⟨od, _, I2, h3 od⟩
    rcases Wk.keys L h with ⟨ks, rfl, w⟩ | ⟨ks, rfl, w⟩
    · obtain ⟨hs, hgd, hx, es, ep, vs, hdt, hsz, kv, hm⟩ := I2.frzK L.at_
      refine iter_keys hs hgd hx hdt (pi_one (tk := sh.toks) I2 _ (turn_keys _ hdt) ⟨_, Heap.get?_push_size _ rfl, rfl, ?_⟩ (hR H2 _ L.ext L.rel w))
      rw [hsz] <;> rfl
    · obtain ⟨hs, hgd, hx, es, ep, hdt, hsz, ent⟩ := I2.frzT L.at_
      refine iter_keys hs hgd hx hdt (pi_one (tk := sh.toks) I2 _ (turn_keysT _ hdt) ⟨_, Heap.get?_push_size _ rfl, rfl, ?_⟩ (hR H2 _ L.ext L.rel w))
      rw [hsz] <;> rfl
theorem mi_any (he : PE X e (TM X.K X.mg W m)) : PI X tg e (TI X.K X.mg W (iFn anyF m)) := by
  refine ⟨fun pins sh σ H R I h => ?_⟩
  refine thn (he.run pins sh σ H _ I (TI.src h)) fun v s1 ⟨x, H1, I1, rx, Pr, ρ, s, u, us, r, hu, hf, hR⟩ => ?_
  unfold anyF at hf
  split at hf
  · rename_i z
    cases hf
    exact iter_str I1 r hu.1 rx fun J w => hR ρ H1 J (Ext.refl _ _ _ _) r w
  · cases e1 : tupOf u with
    | some ws =>
      simp only [e1] at hf
      cases hf
      exact iter_tup I1 r hu rx e1 fun J w => hR ρ H1 J (Ext.refl _ _ _ _) r w
    | none =>
      simp only [e1] at hf
      cases e2 : lstF u with
      | some ws =>
        simp only [e2] at hf
        cases hf
        exact iter_lst I1 r hu rx e2 fun J w => hR ρ H1 J (Ext.refl _ _ _ _) r w
      | none =>
        simp only [e2] at hf
        exact iter_dct I1 r hu rx hf fun H2 J e r2 w => hR ρ H2 J e r2 w
/-! ### ranges -/
def rngU (i : Int) (c : Int) (n : Nat) : List U := (List.range n).map fun (j : Nat) => U.int (i + (j : Int) * c)
def iRg1 (a : EM) : IM := iFn (fun u _ => match u with
  | .int j => if -(2 ^ 62) ≤ j ∧ j < 2 ^ 62 then some (rngU 0 1 j.toNat) else none
  | _ => none) a
/-- a list of values, as what is walked -/
def iFnA (f : List U → Option (List U)) (a : AM) : IM := fun l s => match a l s with
  | .ok us s1 => (match f us with
    | some ws => .ok ws s1
    | none => .no)
  | .ex x s1 => .ex x s1
  | .no => .no
theorem TI.srcA {a : AM} {f : List U → Option (List U)} {σ : L2.St} {H : Hp} {Rr : It → Hp → Prop} (h : TI X.K X.mg W (iFnA f a) σ H Rr) : TL X.K X.mg W a σ H (fun xs H1 => ∃ Pr ρ1 s1 us ws, Rel X.K X.mg Pr ρ1 s1 H1 ∧ URs (Lv Pr ρ1 s1) ρ1 X.K X.mg H1 us xs ∧ f us = some ws ∧ ∀ ρ2 H2 J, Ext Pr ρ1 s1 H1 ρ2 s1 H2 → Rel X.K X.mg Pr ρ2 s1 H2 → Wk X.K X.mg Pr ρ2 s1 H2 J ws → Rr J H2) := by
  obtain ⟨Pr, ρ, l, s, r, lr, q⟩ := h
  refine ⟨Pr, ρ, l, s, r, lr, ?_⟩
  cases e1 : a l s with
  | no => simp only [iFnA, e1] at q
  | ex x s1 => simp only [iFnA, e1] at q; exact fun ρ1 H1 e r1 c d hx => q ρ1 H1 c d e r1 hx
  | ok u s1 =>
    simp only [iFnA, e1] at q
    cases e2 : f u with
    | none => simp only [e2] at q
    | some us =>
      simp only [e2] at q
      exact fun ρ1 H1 x e r1 hx => ⟨Pr, ρ1, s1, u, us, r1, hx, e2, fun ρ2 H2 J e' r2 wk => q ρ2 H2 J (e.trans e') r2 wk⟩
/-- what a range yields -/
theorem Wk.ints {K : PySem.W.Frag} {mg : Str → Option Value} {J : It} {i c : Int} {n : Nat} (hJ : ∀ (H' : Hp) (j : Nat), j < n → J.go j H' ∧ ∀ y H'', J.yld j H' y H'' → H'' = H' ∧ y = .int (i + (j : Int) * c)) (hs : ∀ H', J.stop n H') : Wk K mg Pr ρ s H J (rngU i c n) := by
  intro Pr2 ρ' s' H' hP hN e r'
  have hl : (rngU i c n).length = n := by simp [rngU]
  refine ⟨fun j w hj => ?_, by rw [hl]; exact hs H'⟩
  have hlt : j < n := by rw [← hl]; exact (List.getElem?_eq_some_iff.mp hj).1
  unfold rngU at hj
  rw [List.getElem?_map, List.getElem?_range hlt] at hj
  have hj : U.int (i + (j : Int) * c) = w := Option.some.inj hj
  subst hj
  obtain ⟨g1, g2⟩ := hJ H' j hlt
  refine ⟨g1, fun y H'' hy => ?_⟩
  obtain ⟨rfl, rfl⟩ := g2 y H'' hy
  exact ⟨Ext.refl _ _ _ _, r', rfl⟩
def rg1 (us : List U) : Option (List U) := match us with
  | [.int j] => if -(2 ^ 62) ≤ j ∧ j < 2 ^ 62 then some (rngU 0 1 j.toNat) else none
  | _ => none
def rg2 (us : List U) : Option (List U) := match us with
  | [.int i, .int j] => if -(2 ^ 62) ≤ i ∧ i < 2 ^ 62 ∧ -(2 ^ 62) ≤ j ∧ j < 2 ^ 62 then some (rngU i 1 (j - i).toNat) else none
  | _ => none
/-- down -/
def rg3 (us : List U) : Option (List U) := match us with
  | [.int i, .int j, .int (-1)] => if -(2 ^ 62) ≤ i ∧ i < 2 ^ 62 ∧ -(2 ^ 62) ≤ j ∧ j < 2 ^ 62 then some (rngU i (-1) (i - j).toNat) else none
  | _ => none
variable {a : AM} {x y z : Expr} {p pos : Pos}
theorem mi_range1 (hg : Gl X "range") (hm : X.mg "range" = none) (ha : PA X [x] (TL X.K X.mg W a)) (hs : starEach [x] X.env = [(false, eval x X.env)] := by rfl) : PI X tg (.Call (.Name "range" p) [x] [] pos) (TI X.K X.mg W (iFnA rg1 a)) := by
  refine ⟨fun pins sh σ H R I h => (pi_range1 hg hm ha hs).run pins sh σ H R I ?_⟩
  obtain ⟨Pr, ρ, l, s, r, lr, q⟩ := TI.srcA h
  refine ⟨Pr, ρ, l, s, r, lr, OkA.mono q ?_⟩
  rintro xs H1 ⟨Pr1, ρ1, s1, us, ws, r1, hu, hf, hR⟩
  unfold rg1 at hf
  split at hf
  · rename_i j
    by_cases c : -(2 ^ 62) ≤ j ∧ j < 2 ^ 62
    · rw [if_pos c] at hf
      cases hf
      obtain ⟨v, t, rfl, h1, h2⟩ := hu
      have h1 : v = .int j := h1
      have h2 : t = [] := h2
      subst h1 h2
      refine ⟨j, rfl, c.1, c.2, hR ρ1 H1 _ (Ext.refl _ _ _ _) r1 (Wk.ints (fun H' k hk => ⟨hk, fun y H'' ⟨e1, e2⟩ => ⟨e1, by rw [e2, Int.mul_one]⟩⟩) fun H' => Nat.le_refl _)⟩
    · rw [if_neg c] at hf; cases hf
  · cases hf
theorem mi_range2 (hg : Gl X "range") (hm : X.mg "range" = none) (ha : PA X [x, y] (TL X.K X.mg W a)) (hs : starEach [x, y] X.env = [(false, eval x X.env), (false, eval y X.env)] := by rfl) (hs2 : starEach [y] X.env = [(false, eval y X.env)] := by rfl) : PI X tg (.Call (.Name "range" p) [x, y] [] pos) (TI X.K X.mg W (iFnA rg2 a)) := by
  refine ⟨fun pins sh σ H R I h => (pi_range2 hg hm ha hs hs2).run pins sh σ H R I ?_⟩
  obtain ⟨Pr, ρ, l, s, r, lr, q⟩ := TI.srcA h
  refine ⟨Pr, ρ, l, s, r, lr, OkA.mono q ?_⟩
  rintro xs H1 ⟨Pr1, ρ1, s1, us, ws, r1, hu, hf, hR⟩
  unfold rg2 at hf
  split at hf
  · rename_i i j
    by_cases c : -(2 ^ 62) ≤ i ∧ i < 2 ^ 62 ∧ -(2 ^ 62) ≤ j ∧ j < 2 ^ 62
    · rw [if_pos c] at hf
      cases hf
      obtain ⟨v, t, rfl, h1, v2, t2, rfl, h2, h3⟩ := hu
      have h1 : v = .int i := h1
      have h2 : v2 = .int j := h2
      have h3 : t2 = [] := h3
      subst h1 h2 h3
      refine ⟨i, j, rfl, c, hR ρ1 H1 _ (Ext.refl _ _ _ _) r1 (Wk.ints (fun H' k hk => ⟨hk, fun y H'' ⟨e1, e2⟩ => ⟨e1, by rw [e2, Int.mul_one]⟩⟩) fun H' => Nat.le_refl _)⟩
    · rw [if_neg c] at hf; cases hf
  · cases hf
/-! ### enumerate, zip, reversed -/
def pairU : Nat → List U → List U
  | _, [] => []
  | i, u :: us => .tup [.int i, u] :: pairU (i + 1) us
theorem pairU_get : ∀ {us : List U} {i j : Nat} {w : U}, (pairU i us)[j]? = some w → ∃ u, us[j]? = some u ∧ w = .tup [.int ((i + j : Nat) : Int), u]
  | [], i, j, w, h => by cases j <;> cases h
  | u :: us, i, 0, w, h => by cases h; exact ⟨u, rfl, rfl⟩
  | u :: us, i, j + 1, w, h => by
    obtain ⟨v, h1, h2⟩ := pairU_get (i := i + 1) (j := j) h
    exact ⟨v, h1, by rw [h2, show i + 1 + j = i + (j + 1) by omega]⟩
theorem pairU_len : ∀ (us : List U) (i : Nat), (pairU i us).length = us.length
  | [], _ => rfl
  | u :: us, i => by show (pairU (i + 1) us).length + 1 = us.length + 1; rw [pairU_len us]
/-- enumerate(text): each sign in a new pair -/
def Itse (x : Str) : It :=
  ⟨fun i _ => i < x.cps.size, fun i H v H' => ∃ T c, v = .ref T ∧ H T = none ∧ H' = upd H T (.tup [.int (i : Nat), .str ⟨#[c]⟩]) ∧ x.cps[i]? = some c, fun i _ => i = x.cps.size⟩
theorem turn_enumS {P : Program} {w : World} {K : PySem.W.Frag} {elts : List Expr} {kk : Nat} {tpos : Pos} (x : Str) (t : Tok) (en it : Addr) :
    Turn P w K (.Tuple elts kk tpos) (Itse x) [en, it] en (fun i h => (∃ old, IsEnum h en it ((i : Nat) : Int) old) ∧ h.IsStrIter it (strIterType x) x t i ∧ en ≠ it) where
  mem := by simp
  obj := fun i h st b hb => by
    obtain ⟨⟨old, k1⟩, ⟨o, k2, k3, k4⟩, _⟩ := st
    have e' : b = en ∨ b = it := by simpa using hb
    rcases e' with z | z
    · rw [z]; exact ⟨_, k1, fun v q => nomatch q⟩
    · rw [z]; exact ⟨o, k2, fun v q => by rw [k4] at q; cases q⟩
  keep := fun i h h' st k => let ⟨⟨old, k1⟩, ⟨o, k2, k3⟩, k5⟩ := st; ⟨⟨old, k en (by simp) _ k1⟩, ⟨o, k it (by simp) o k2, k3⟩, k5⟩
  item := by
    intro X hP hw hK hc i pins s σ H E I hf st hg
    subst hP hw hK
    obtain ⟨⟨old, k1⟩, k2, k3⟩ := st
    have l1 : en < s.heap.objs.size := Heap.lt_size k1
    have l2 : it < s.heap.objs.size := by obtain ⟨_, q, _⟩ := k2; exact Heap.lt_size q
    have D : Draws X.prog X.w X.A.in1 it [it] x.cps.size (fun i v => ∃ c u, x.cps[i]? = some c ∧ v = .str ⟨#[c]⟩ u) (fun i h => h.IsStrIter it (strIterType x) x t i) := by
      unfold strIterType
      split
      · exact Draws.strAscii (A := X.A.in1) (I.ok.hd hc) it x t
      · exact Draws.strWide (A := X.A.in1) (I.ok.hd hc) it x t
    refine wpAny_pyNext_enum_itemD D k1 k2 hg k3 (by simpa using k3) fun v h' tk hv ho hit' hT hsz hk => ?_
    obtain ⟨c, u, hcx, rfl⟩ := hv
    refine ⟨_, rfl, wpAny_letOwnedTupleGo_enum (s := { s with heap := h', toks := tk + 1 }) ho fun h'' he' sb => ?_⟩
    have hT2 := (sb.2 _ (Nat.ne_of_gt l1)).trans hT
    have new : ObjOk X.prog X.w (upd H s.heap.objs.size (.tup [.int (i : Nat), .str ⟨#[c]⟩])) h'' s.heap.objs.size (.tup [.int (i : Nat), .str ⟨#[c]⟩]) :=
      ⟨by show 2 ≤ sizeLine; decide, [.int i tk, .str ⟨#[c]⟩ u], .cons ⟨_, rfl⟩ (.cons ⟨_, rfl⟩ .nil), ⟨_, hT2, rfl, _, rfl⟩⟩
    have I1 : Inv X pins σ (upd H s.heap.objs.size (.tup [.int (i : Nat), .str ⟨#[c]⟩])) { s with heap := h'', toks := tk + 1 } :=
      I.turnedNew (ch := [en, it]) (fun b ob hb q => (sb.2 b (fun z => hb (by simp [z]))).trans (hk b ob (fun z => hb (by simp [z])) (fun z => hb (by simp [z])) q)) hf (Nat.le_refl _) new
    refine ⟨.ref s.heap.objs.size, _, I1, rfl, ⟨_, c, rfl, I.hok.fresh (Nat.le_refl _), rfl, hcx⟩, ⟨⟨.str ⟨#[c]⟩ u, ?_⟩, ?_, k3⟩, fun b hb => ?_⟩
    · have e1 : ((i + 1 : Nat) : Int) = (i : Int) + 1 := by omega
      rw [e1]; exact he'
    · obtain ⟨o, q1, q2⟩ := hit'
      exact ⟨o, (sb.2 it (Ne.symm k3)).trans q1, q2⟩
    · have hb' : b < s.heap.objs.size := by
        have e' : b = en ∨ b = it := by simpa using hb
        rcases e' with z | z
        · rw [z]; exact l1
        · rw [z]; exact l2
      rw [upd_ne (Nat.ne_of_lt hb')]
      exact (hf b hb).1
  done := by
    intro X hP hw hK hc i pins s σ H E I hf st hg
    subst hP hw hK
    obtain ⟨⟨old, k1⟩, k2, k3⟩ := st
    obtain ⟨f0, f1, f2, f3, f4, f5⟩ := hf it (by simp)
    have hi : i = x.cps.size := hg
    subst hi
    have D : Draws X.prog X.w X.A.in1 it [it] x.cps.size (fun i v => ∃ c u, x.cps[i]? = some c ∧ v = .str ⟨#[c]⟩ u) (fun i h => h.IsStrIter it (strIterType x) x t i) := by
      unfold strIterType
      split
      · exact Draws.strAscii (A := X.A.in1) (I.ok.hd hc) it x t
      · exact Draws.strWide (A := X.A.in1) (I.ok.hd hc) it x t
    exact wpAny_pyNext_enum_endD D k1 k2 fun h' eb => ⟨rfl, I.turned (t' := s.toks) (fun b o hb q => eb b o hb q) f0 f1 f3 f4 f5⟩
  self := fun A i s Q E st h => let ⟨⟨_, k1⟩, _⟩ := st; wpAny_pyIter_enum k1 h
def enF (us : List U) : Option (List U) := match us with
  | [.str z] => some (pairU 0 (z.map fun c => .str [c]))
  | [u] => match lstF u with
    | some ws => some (pairU 0 ws)
    | none => none
  | _ => none
/-- rows of new pairs -/
theorem Wk.pairs {K : PySem.W.Frag} {mg : Str → Option Value} {Pr : Addr → Prop} {ρ : List Addr} {s : S} {H : Hp} {ws : List U} {J : It} (r : Rel K mg Pr ρ s H)
    (hget : ∀ i w, ws[i]? = some w → ∃ a b, w = .tup [a, b] ∧ ∀ (Pr2 : Addr → Prop) ρ' s' H', Kp Pr ρ s H H' → Car (Lv Pr ρ s) (Lv Pr2 ρ' s') ρ ρ' H H' → J.go i H' ∧ ∀ v H'', J.yld i H' v H'' → ∃ T x y, v = .ref T ∧ H' T = none ∧ H'' = upd H' T (.tup [x, y]) ∧ UR (Lv Pr2 ρ' s') ρ' K mg H' a x ∧ UR (Lv Pr2 ρ' s') ρ' K mg H' b y)
    (hstop : ∀ H', Kp Pr ρ s H H' → J.stop ws.length H') : Wk K mg Pr ρ s H J ws := by
  intro Pr2 ρ' s' H' hP hN e r'
  have c := e.car (Pr2 := Pr2) r hN
  have kp : Kp Pr ρ s H H' := ⟨fun b o h hm => e.fix r h hm, e.keep⟩
  refine ⟨fun i w hi => ?_, hstop H' kp⟩
  obtain ⟨a, b, rfl, k⟩ := hget i w hi
  obtain ⟨g1, g2⟩ := k Pr2 ρ' s' H' kp c
  refine ⟨g1, fun v H'' hy => ?_⟩
  obtain ⟨T, x, y, rfl, hT, rfl, h1, h2⟩ := g2 v H'' hy
  obtain ⟨e5, r5, _⟩ := r'.fresh (.tup [x, y]) hT
  exact ⟨e5, r5, T, [x, y], rfl, upd_same, by show 2 ≤ sizeLine; decide, x, [y], rfl, UR.ext r' e5 _ _ h1, y, [], rfl, UR.ext r' e5 _ _ h2, rfl⟩
variable {elts : List Expr} {kk : Nat} {tpos : Pos}
theorem mi_enum (hg : Gl X "enumerate") (hm : X.mg "enumerate" = none) (ha : PA X [x] (TL X.K X.mg W a)) (hs : starEach [x] X.env = [(false, eval x X.env)] := by rfl) : PI X (.Tuple elts kk tpos) (.Call (.Name "enumerate" p) [x] [] pos) (TI X.K X.mg W (iFnA enF a)) := by
  refine ⟨fun pins s0 σ H R I h => ?_⟩
  refine Call_ (ld_blt I hg hm boot_enumerate (PyProof.Rows.callWith_type1 (thn (ha.run pos pins s0 σ H _ I (TI.srcA h)) fun vs s1 ⟨xs, H1, I1, rv, Pr, ρ, s, us, ws, r, hu, hf, hR⟩ => ?_) hs rfl))
  unfold enF at hf
  split at hf
  · rename_i z
    cases hf
    obtain ⟨v, t, rfl, h1, h2⟩ := hu
    have h2 : t = [] := h2
    obtain ⟨h1, _⟩ := h1
    subst h1 h2
    obtain ⟨u, rfl, tk, rfl⟩ := vals1 rv
    refine call_enumerate_str fun h' he hit hsz hk => wpAny_pyIter_enum he ?_
    have I2 : Inv X pins σ H1 { s1 with heap := h' } := I1.kept (t' := s1.toks) hk
    refine ⟨s1.heap.objs.size + 1, [s1.heap.objs.size + 1, s1.heap.objs.size], _, _, H1, rfl, I2, turn_enumS (st z) tk (s1.heap.objs.size + 1) s1.heap.objs.size, ⟨⟨.none, he⟩, hit, Nat.succ_ne_self _⟩, fun b hb => ?_, hR ρ H1 _ (Ext.refl _ _ _ _) r ?_⟩
    · have e' : b = s1.heap.objs.size + 1 ∨ b = s1.heap.objs.size := by simpa using hb
      have hle : s1.heap.objs.size ≤ b := by
        rcases e' with z | z
        · rw [z]; exact Nat.le_add_right _ _
        · rw [z]; exact Nat.le_refl _
      exact I1.fpOk hle (I1.hok.fresh hle)
    · have hz : (st z).cps.size = z.length := by simp [st]
      refine Wk.pairs r (fun i w hi => ?_) fun H' _ => by show _ = (st z).cps.size; rw [pairU_len, hz, List.length_map]
      obtain ⟨b, h1, h2⟩ := pairU_get hi
      rw [List.getElem?_map] at h1
      cases e1 : z[i]? with
      | none => rw [e1] at h1; cases h1
      | some c =>
        rw [e1] at h1
        have h1 : U.str [c] = b := Option.some.inj h1
        subst h1
        refine ⟨_, _, h2, fun Pr2 ρ' s' H' kp cc => ⟨?_, fun v H'' ⟨T, c', g1, g2, g3, g4⟩ => ⟨T, _, _, g1, g2, g3, ?_, ?_⟩⟩⟩
        · show i < (st z).cps.size
          rw [hz]; exact (List.getElem?_eq_some_iff.mp e1).1
        · rw [Nat.zero_add]; exact rfl
        · have : (st z).cps[i]? = some c := by simp [st, e1]
          rw [this] at g4
          cases g4
          exact ⟨rfl, by show 1 ≤ sizeLine; decide⟩
  · rename_i u0 _
    cases e0 : lstF u0 with
    | none => simp only [e0] at hf; cases hf
    | some us0 =>
      simp only [e0] at hf
      cases hf
      obtain ⟨v, t, rfl, h1, h2⟩ := hu
      have h2 : t = [] := h2
      subst h2
      obtain ⟨ad, ys, rfl, q2, q3, q4, q5⟩ := lstF.at r h1 e0
      obtain rfl := Vals.ref1 rv
      obtain ⟨its, rv', p', hz⟩ := I1.list q2
      refine call_enumerate_list p'.isList fun h' he hit hsz hk => wpAny_pyIter_enum he ?_
      have I2 : Inv X pins σ H1 { s1 with heap := h' } := I1.kept (t' := s1.toks) hk
      refine ⟨s1.heap.objs.size + 1, [s1.heap.objs.size + 1, s1.heap.objs.size], _, _, H1, rfl, I2, turn_enum ad (s1.heap.objs.size + 1) s1.heap.objs.size, ⟨⟨.none, he⟩, hit, Nat.succ_ne_self _⟩, fun b hb => ?_, hR ρ H1 _ (Ext.refl _ _ _ _) r ?_⟩
      · have e' : b = s1.heap.objs.size + 1 ∨ b = s1.heap.objs.size := by simpa using hb
        have hle : s1.heap.objs.size ≤ b := by
          rcases e' with z | z
          · rw [z]; exact Nat.le_add_right _ _
          · rw [z]; exact Nat.le_refl _
        exact I1.fpOk hle (I1.hok.fresh hle)
      · refine Wk.pairs r (fun i w hi => ?_) fun H' kp => ⟨ys, q5 H' kp, by rw [pairU_len, URs.length q4]; exact Nat.le_refl _⟩
        obtain ⟨b, g1, g2⟩ := pairU_get hi
        obtain ⟨y, f1, f2⟩ := URs.get q4 g1
        refine ⟨_, _, g2, fun Pr2 ρ' s' H' kp cc => ⟨⟨ys, y, q5 H' kp, f1⟩, fun v H'' ⟨T, x', k1, k2, k3, k4⟩ => ⟨T, _, _, k1, k2, k3, ?_, ?_⟩⟩⟩
        · rw [Nat.zero_add]; exact rfl
        · have := k4 ys (q5 H' kp)
          rw [f1] at this
          cases this
          exact UR.carry cc _ _ f2
  · cases hf
/-- zip of two lists, of two tuples -/
def zipU : List U → List U → List U
  | a :: as, b :: bs => .tup [a, b] :: zipU as bs
  | _, _ => []
theorem zipU_get : ∀ {us ws : List U} {j : Nat} {w : U}, (zipU us ws)[j]? = some w → ∃ a b, us[j]? = some a ∧ ws[j]? = some b ∧ w = .tup [a, b]
  | [], _, j, w, h => by cases j <;> cases h
  | _ :: _, [], j, w, h => by cases j <;> cases h
  | u :: us, v :: ws, 0, w, h => by cases h; exact ⟨u, v, rfl, rfl, rfl⟩
  | u :: us, v :: ws, j + 1, w, h => zipU_get (us := us) (ws := ws) (j := j) h
theorem zipU_len : ∀ (us ws : List U), (zipU us ws).length = min us.length ws.length
  | [], _ => by simp [zipU]
  | _ :: _, [] => by simp [zipU]
  | u :: us, v :: ws => by show (zipU us ws).length + 1 = _; rw [zipU_len us ws]; simp only [List.length_cons]; omega
def zpF (us : List U) : Option (List U) := match us with
  | [u, v] => (match lstF u, lstF v with
    | some a, some b => some (zipU a b)
    | _, _ => match tupOf u, tupOf v with
      | some a, some b => some (zipU a b)
      | _, _ => none)
  | _ => none
theorem mi_zip (hg : Gl X "zip") (hm : X.mg "zip" = none) (ha : PA X [x, y] (TL X.K X.mg W a)) (hs : starEach [x, y] X.env = (false, eval x X.env) :: starEach [y] X.env := by rfl) (hpl : (backTo pos (starEach [y] X.env)).any (·.1) = false := by rfl) :
    PI X (.Tuple elts kk tpos) (.Call (.Name "zip" p) [x, y] [] pos) (TI X.K X.mg W (iFnA zpF a)) := by
  refine ⟨fun pins s0 σ H R I h => (RZ.pi_zipA hg hm ha hs hpl).run pins s0 σ H R I ?_⟩
  obtain ⟨Pr, ρ, l, s, r, lr, q⟩ := TI.srcA h
  refine ⟨Pr, ρ, l, s, r, lr, OkA.mono q ?_⟩
  rintro xs H1 ⟨Pr1, ρ1, s1, us, ws, r1, hu, hf, hR⟩
  unfold zpF at hf
  split at hf
  · rename_i u v
    obtain ⟨vx, t, rfl, h1, vy, t2, rfl, h2, h3⟩ := hu
    have h3 : t2 = [] := h3
    subst h3
    split at hf
    · rename_i as bs e1 e2
      cases hf
      obtain ⟨a1, xs, rfl, p2, p3, p4, p5⟩ := lstF.at r1 h1 e1
      obtain ⟨a2, ys, rfl, q2, q3, q4, q5⟩ := lstF.at r1 h2 e2
      refine ⟨a1, a2, xs, ys, rfl, .inl ⟨p2, q2, hR ρ1 H1 _ (Ext.refl _ _ _ _) r1 ?_⟩⟩
      refine Wk.pairs r1 (fun i w hi => ?_) fun H' kp => ⟨xs, ys, p5 H' kp, q5 H' kp, by rw [zipU_len, URs.length p4, URs.length q4]; omega⟩
      obtain ⟨c, d, g1, g2, g3⟩ := zipU_get hi
      obtain ⟨cx, f1, f2⟩ := URs.get p4 g1
      obtain ⟨dy, f3, f4⟩ := URs.get q4 g2
      refine ⟨c, d, g3, fun Pr2 ρ' s' H' kp cc => ⟨⟨xs, ys, cx, dy, p5 H' kp, q5 H' kp, f1, f3⟩, fun v H'' ⟨T, x', y', k1, k2, k3, k4, k5⟩ => ⟨T, x', y', k1, k2, k3, ?_, ?_⟩⟩⟩
      · have := k4 xs (p5 H' kp)
        rw [f1] at this
        cases this
        exact UR.carry cc _ _ f2
      · have := k5 ys (q5 H' kp)
        rw [f3] at this
        cases this
        exact UR.carry cc _ _ f4
    · split at hf
      · rename_i as bs e1 e2
        cases hf
        obtain ⟨a1, xs, rfl, p2, p3, p4⟩ := tupOf.at h1 e1
        obtain ⟨a2, ys, rfl, q2, q3, q4⟩ := tupOf.at h2 e2
        refine ⟨a1, a2, xs, ys, rfl, .inr ⟨p2, q2, hR ρ1 H1 _ (Ext.refl _ _ _ _) r1 ?_⟩⟩
        refine Wk.pairs r1 (fun i w hi => ?_) fun H' kp => ⟨xs, ys, kp.sqt p2, kp.sqt q2, by rw [zipU_len, URs.length p4, URs.length q4]; omega⟩
        obtain ⟨c, d, g1, g2, g3⟩ := zipU_get hi
        obtain ⟨cx, f1, f2⟩ := URs.get p4 g1
        obtain ⟨dy, f3, f4⟩ := URs.get q4 g2
        refine ⟨c, d, g3, fun Pr2 ρ' s' H' kp cc => ⟨⟨xs, ys, cx, dy, kp.sqt p2, kp.sqt q2, f1, f3⟩, fun v H'' ⟨T, x', y', k1, k2, k3, k4, k5⟩ => ⟨T, x', y', k1, k2, k3, ?_, ?_⟩⟩⟩
        · have := k4 xs (kp.sqt p2)
          rw [f1] at this
          cases this
          exact UR.carry cc _ _ f2
        · have := k5 ys (kp.sqt q2)
          rw [f3] at this
          cases this
          exact UR.carry cc _ _ f4
      · cases hf
  · cases hf
/-- reversed of a list, of a tuple -/
def rvF (u : U) (_ : S) : Option (List U) := match lstF u with
  | some a => some a.reverse
  | none => match tupOf u with
    | some a => some a.reverse
    | none => none
theorem mi_rev (hg : Gl X "reversed") (hm : X.mg "reversed" = none) (he : PE X e (TM X.K X.mg W m)) (hs : starEach [e] X.env = (false, eval e X.env) :: starEach [] X.env := by rfl) : PI X tg (.Call (.Name "reversed" p) [e] [] pos) (TI X.K X.mg W (iFn rvF m)) := by
  refine ⟨fun pins s0 σ H R I h => (RT.pi_revA hg hm he hs).run pins s0 σ H R I ?_⟩
  obtain ⟨Pr, ρ, l, s, r, lr, q⟩ := TI.src h
  refine ⟨Pr, ρ, l, s, r, lr, OkA.mono q ?_⟩
  rintro x H1 ⟨Pr1, ρ1, s1, u, ws, r1, hu, hf, hR⟩
  have row : ∀ {us : List U} {xs : List V}, URs (Lv Pr1 ρ1 s1) ρ1 X.K X.mg H1 us xs → URs (Lv Pr1 ρ1 s1) ρ1 X.K X.mg H1 us.reverse xs.reverse := fun h => URs.rev h
  have ix : ∀ {xs : List V} {i : Nat} {y : V}, xs.reverse[i]? = some y → i < xs.length ∧ xs[xs.length - 1 - i]? = some y := fun {xs i y} h => by
    have hi : i < xs.length := by simpa using (List.getElem?_eq_some_iff.mp h).1
    rw [List.getElem?_reverse hi] at h
    exact ⟨hi, h⟩
  unfold rvF at hf
  cases e1 : lstF u with
  | some us =>
    simp only [e1] at hf
    cases hf
    obtain ⟨a, xs, rfl, p2, p3, p4, p5⟩ := lstF.at r1 hu e1
    refine ⟨a, xs, rfl, .inl ⟨p2, hR ρ1 H1 _ (Ext.refl _ _ _ _) r1 (Wk.row r1 (row p4) fun H' f o => ⟨fun i y hy => ?_, by show xs.length ≤ _; rw [List.length_reverse]; exact Nat.le_refl _⟩)⟩⟩
    obtain ⟨i1, i2⟩ := ix hy
    exact ⟨⟨i1, xs, y, p5 H' ⟨f, o⟩, i2⟩, fun z H'' ⟨g1, g2⟩ => ⟨g1, by have := g2 xs (p5 H' ⟨f, o⟩); rw [i2] at this; exact (Option.some.inj this).symm⟩⟩
  | none =>
    simp only [e1] at hf
    cases e2 : tupOf u with
    | none => simp only [e2] at hf; cases hf
    | some us =>
      simp only [e2] at hf
      cases hf
      obtain ⟨a, xs, rfl, p2, p3, p4⟩ := tupOf.at hu e2
      refine ⟨a, xs, rfl, .inr ⟨p2, hR ρ1 H1 _ (Ext.refl _ _ _ _) r1 (Wk.row r1 (row p4) fun H' f o => ⟨fun i y hy => ?_, by show xs.length ≤ _; rw [List.length_reverse]; exact Nat.le_refl _⟩)⟩⟩
      obtain ⟨i1, i2⟩ := ix hy
      exact ⟨⟨i1, xs, y, Kp.sqt ⟨f, o⟩ p2, i2⟩, fun z H'' ⟨g1, g2⟩ => ⟨g1, by have := g2 xs (Kp.sqt ⟨f, o⟩ p2); rw [i2] at this; exact (Option.some.inj this).symm⟩⟩
end
end Mo
/-! Mo17: list(reversed(x)), list(d.items()), list(d.values()), *d. -/
namespace MoR
open PySem PySem.Spec PyProof.Rows
section
variable {prog : Program} {w : World} {A : Around} {E : Value → Shared → Prop} {s : Shared}
/-- a new list is filled from a backward walk -/
theorem extRev {q l : Addr} {vs : Array Value} {R : Result → Shared → Prop} {S : Addr} {c0 : Nat} (hh : A.handled = none) (k1 : s.heap.IsRevIter q l ((vs.size : Int) - 1)) (k2 : s.heap.IsList l vs) (ne : l ≠ q) (hn : vs.size ≤ sizeLine) (hS : s.heap.get? S = some { cls := .type "list", data := .seq #[] c0 }) (ne1 : S ≠ q) (ne2 : S ≠ l)
    (hR : ∀ (h' : Heap) (tk : Nat) (acc : Array Value) (c' : Nat), (∀ b o, b ≠ q → b ≠ S → s.heap.get? b = some o → h'.get? b = some o) → h'.get? S = some { cls := .type "list", dict := none, data := .seq acc c', slots := #[] } → ItemsOf (fun i v => vs[vs.size - 1 - i]? = some v) acc vs.size → R (.ok (.ret .none)) { s with heap := h', toks := tk }) :
    wpAny (model prog w) A.in1 (Builtin.List.listExtendWith (.ref S) (.ref q) .none)
      (fun fin s' => match fin with | .done f => R (.ok f) s' | .again c' => c'.quiet = true ∧ codeAny (model prog w) A c' R s') (fun e s' => R (.error e) s') s := by
  have Wk := (Walks.listRev (prog := prog) (w := w) (A := A.in1) hh q l ne vs).toS
  have nf : S ∉ [q, l] := by simp only [List.mem_cons, List.not_mem_nil, or_false, not_or]; exact ⟨ne1, ne2⟩
  have ty : s.TypeIs (.ref q) "list_reverseiterator" := k1.typeIs
  have sm : Builtin.List.listSameRef (.ref S) (.ref q) = false := by simp [Builtin.List.listSameRef, ne1]
  unfold Builtin.List.listExtendWith
  refine wpAny_bind (wpAny_typeOf ty ?_)
  rw [if_neg (by rw [sm]; decide)]
  refine wpAny_bind (wpAny_pyIter_revIter k1 ?_)
  refine wpAny_bind (wpAny_holding ?_)
  unfold Builtin.List.listLengthHint
  refine wpAny_bind (wpAny_specialOf ty RT.nolen_lri ?_)
  show wpAny _ A.in1 (specialOf (Value.ref q) (Str.ofString "__length_hint__") >>= _) _ _ _
  refine wpAny_bind (wpAny_specialOf ty RT.hint_lri ?_)
  generalize hid : ("list_reverseiterator.__length_hint__" : String) = idr
  wp_delta
  rw [show splitId idr = some ("list_reverseiterator", "__length_hint__") from by subst hid; decide +kernel]
  subst hid
  refine wpAny_bind (wpAny_isInstance (b := true) ty (by rw [isSubtype_type]; kernel_rfl) ?_)
  refine wpAny_pure ?_
  rw [if_neg (by decide)]
  have e0 : ((vs.size : Nat) : Int) - 1 - ((0 : Nat) : Int) = (vs.size : Int) - 1 := by omega
  refine wpAny_pure ⟨plainId_quiet F.plain_extend_loop _, codeAny_extend_loopS Wk hn _ nf _ vs.size 0 _ _ _ rfl (Nat.zero_le _) ⟨Nat.zero_le _, by rw [e0]; exact k1, k2⟩ hS (ItemsOf.nil _) fun s' acc' c' hm hS' hacc => ?_⟩
  rw [Moved.eq_with hm]
  refine hR s'.heap s'.toks acc' c' (fun b o h1 h2 e => hm.heap b o (fun hmem => ?_) e) hS' hacc
  rcases List.mem_cons.mp hmem with e' | hmem
  · exact h2 e'
  · exact h1 (List.mem_singleton.mp hmem)
/-- list(a backward walk) -/
theorem callListRev {q l : Addr} {vs : Array Value} {Q : Value → Shared → Prop} (hh : A.handled = none) (k1 : s.heap.IsRevIter q l ((vs.size : Int) - 1)) (k2 : s.heap.IsList l vs) (ne : l ≠ q) (hn : vs.size ≤ sizeLine)
    (hQ : ∀ (h' : Heap) (tk : Nat) (acc : Array Value) (c' : Nat), (∀ b o, b ≠ q → s.heap.get? b = some o → h'.get? b = some o) → h'.get? s.heap.objs.size = some { cls := .type "list", dict := none, data := .seq acc c', slots := #[] } → ItemsOf (fun i v => vs[vs.size - 1 - i]? = some v) acc vs.size → Q (.ref s.heap.objs.size) { s with heap := h', toks := tk }) :
    wpAny (model prog w) A (call (.type "list") [.ref q]) Q E s := by
  obtain ⟨oi, hoi, _⟩ := id k1
  obtain ⟨ol, hol, _⟩ := id k2
  have ne1 : s.heap.objs.size ≠ q := Nat.ne_of_gt (Heap.lt_size hoi)
  have ne2 : s.heap.objs.size ≠ l := Nat.ne_of_gt (Heap.lt_size hol)
  refine callType_codes (Q₁ := fun ob s1 => ob = .ref s.heap.objs.size ∧ s1 = { s with heap := s.heap.push { cls := .type "list", data := .seq #[] } }) F.called_list (F.typeCall_list_1 _) F.entry_list_init (code_list_new _ ⟨rfl, rfl⟩) fun ob s1 h1 => ?_
  obtain ⟨rfl, rfl⟩ := h1
  have hS0 : (s.heap.push { cls := .type "list", data := .seq #[] }).get? s.heap.objs.size = some { cls := .type "list", data := .seq #[] } := Heap.get?_push_size _ rfl
  refine ⟨⟨_, hS0, rfl⟩, F.args_list_init_2 _ _, ?_⟩
  show wpAny _ A.in1.in1 (do let old ← Builtin.List.listItems (.ref s.heap.objs.size); Builtin.List.listUpdate (.ref s.heap.objs.size) (fun _ => #[]); letGo old.toList.reverse; Builtin.List.listExtendWith (.ref s.heap.objs.size) (.ref q) .none) _ _ _
  refine wpAny_bind ?_
  unfold Builtin.List.listItems
  refine wpAny_bind (wpAny_seqItems hS0 rfl (wpAny_pure ?_))
  show wpAny _ _ (updateSeq s.heap.objs.size (fun _ => #[]) >>= fun _ => letGo (#[] : Array Value).toList.reverse >>= fun _ => Builtin.List.listExtendWith (.ref s.heap.objs.size) (.ref q) .none) _ _ _
  refine wpAny_bind (wpAny_updateSeq hS0 rfl ?_)
  have hS2 := Heap.get?_update_self (Obj.mapSeq (fun _ => (#[] : Array Value))) hS0 rfl
  have oth : ∀ b o, b ≠ s.heap.objs.size → s.heap.get? b = some o → ((s.heap.push { cls := .type "list", data := .seq #[] }).update s.heap.objs.size (Obj.mapSeq (fun _ => (#[] : Array Value)))).get? b = some o :=
    fun b o hb e => (Heap.get?_update_other _ _ (Ne.symm hb)).trans (Heap.get?_push_of_some _ e)
  refine wpAny_bind (wpAny_letGo ?_)
  refine extRev (A := A.in1) hh (k1.at fun o e => oth q o (Ne.symm ne1) e) (k2.at fun o e => oth l o (Ne.symm ne2) e) ne hn hS2 ne1 ne2 fun h' tk acc c' hk hS' hacc => ?_
  exact ⟨rfl, hQ h' tk acc c' (fun b o hb e => hk b o hb (Nat.ne_of_lt (Heap.lt_size e)) (oth b o (Nat.ne_of_lt (Heap.lt_size e)) e)) hS' hacc⟩
end
end MoR
/-! Mo18: the rules for list(reversed(x)), list(d.items()), list(d.values()), starred items. -/
namespace Mo
open PySem PySem.Spec PyProof.Rows L2
section
variable {K : PySem.W.Frag} {mg : Str → Option Value} {Pr : Addr → Prop} {ρ : List Addr} {s : S} {H H' : Hp}
/-- the heap has grown, no more -/
theorem Rel.grow (r : Rel K mg Pr ρ s H) (g : ∀ b o, H b = some o → H' b = some o) : Ext Pr ρ s H ρ s H' ∧ Rel K mg Pr ρ s H' := by
  have g2 : ∀ b, H b ≠ none → H' b = H b := fun b h => by
    cases e : H b with
    | none => exact absurd e h
    | some o => exact g b o e
  have dm : ∀ b, H b ≠ none → H' b ≠ none := fun b h => by rw [g2 b h]; exact h
  have e : Ext Pr ρ s H ρ s H' := ⟨fun _ _ h => h, fun b o h _ => .inl (g b o h), fun b l => .inl l, dm, fun b h => g2 b (r.pr b h).1, fun i o a h1 _ h3 => ⟨h1, g2 a (r.dom a (List.mem_of_getElem? h3))⟩⟩
  exact ⟨e, ⟨r.len, r.nd, fun i o a h1 h2 => OR.ext r e (g2 a (r.dom a (List.mem_of_getElem? h2))) (r.ob i o a h1 h2), fun a h => dm a (r.dom a h), fun a h => ⟨dm a (r.pr a h).1, (r.pr a h).2⟩⟩⟩
/-- .. a new thing is in it -/
theorem Rel.grow1 (r : Rel K mg Pr ρ s H) {p : Addr} {o : HO} (g : ∀ b o, H b = some o → H' b = some o) (hp : H p = none) (hv : H' p = some o) : Rel K mg (and1 Pr p) ρ s H' ∧ Car (Lv Pr ρ s) (Lv (and1 Pr p) ρ s) ρ ρ H H' := by
  obtain ⟨e, r'⟩ := r.grow g
  have c : Car (Lv Pr ρ s) (Lv (and1 Pr p) ρ s) ρ ρ H H' := e.car r fun a h => h.elim .inl fun h => .inr (h ▸ hp)
  refine ⟨⟨r.len, r.nd, fun i ob a h1 h2 => ?_, r'.dom, fun a h => ?_⟩, c⟩
  · have : H' a = H a := by
      cases e0 : H a with
      | none => exact absurd e0 (r.dom a (List.mem_of_getElem? h2))
      | some o => exact g a o e0
    exact OR.carry c this (r.ob i ob a h1 h2)
  · rcases h with h | h
    · exact r'.pr a h
    · subst h
      exact ⟨(by rw [hv]; exact fun z => nomatch z), r.nofree hp⟩
end
section
variable {X : Cx} {W : WX} {e : Expr} {m : EM} {live : Bool} {p p2 apos cpos pos pos2 : Pos}
/-! ### list(reversed(x)) -/
def gRevL (live : Bool) (u : U) (s : S) : G0 := match lstOf u s with
  | some us => mkL live us.reverse s
  | none => none
theorem me_listRev (hc : X.calm = true) (hg : Gl X "list") (hm : X.mg "list" = none) (hg2 : Gl X "reversed") (hm2 : X.mg "reversed" = none) (he : PE X e (TM X.K X.mg W m))
    (hs : starEach [e] X.env = (false, eval e X.env) :: starEach [] X.env := by rfl)
    (hs2 : starEach [.Call (.Name "reversed" p2) [e] [] pos2] X.env = (false, eval (.Call (.Name "reversed" p2) [e] [] pos2) X.env) :: starEach [] X.env := by rfl) :
    PE X (.Call (.Name "list" p) [.Call (.Name "reversed" p2) [e] [] pos2] [] pos) (TM X.K X.mg W (eUn (gRevL live) m)) := by
  refine ⟨fun pins s0 σ H Q I h => ?_⟩
  refine Call_ (ld_blt I hg hm boot_list (PyProof.Rows.callWith_type1 (args_cons (Call_ (ld_blt I hg2 hm2 PyProof.Rows.boot_reversed (PyProof.Rows.callWith_type1 (args_cons (thn (he.run pins s0 σ H _ I (TM.then (k := fun u l s => liftG (gRevL live u s)) h)) fun v s1 ⟨x, H1, I1, r1, Pr, ρ, l, st0, u, r, lr, hu, hk⟩ => args_nil ?_) hs) hs rfl))) hs2) hs2 rfl))
  have hk := OkG.of hk
  unfold gRevL at hk
  cases e1 : lstOf u st0 with
  | none => simp only [e1] at hk; exact hk.elim
  | some us =>
    simp only [e1] at hk
    obtain ⟨a, xs, rfl, hq, hz, hx⟩ := lstOf.at r hu e1
    cases r1
    obtain ⟨its, rv, p', _⟩ := I1.list hq
    refine call_reversed_list p'.isList (args_nil ?_)
    have k0 : ∀ b o, s1.heap.get? b = some o → (s1.heap.push (revObj a ((its.toArray.size : Int) - 1))).get? b = some o := fun b o e => Heap.get?_push_of_some _ e
    have I2 : Inv X pins σ H1 { s1 with heap := s1.heap.push (revObj a ((its.toArray.size : Int) - 1)) } := I1.kept (t' := s1.toks) k0
    obtain ⟨f0, f1, f2, f3, f4, f5⟩ := I1.fpOk (H' := H1) (b := s1.heap.objs.size) (Nat.le_refl _) (I1.hok.fresh (Nat.le_refl _))
    have hl := p'.isList
    obtain ⟨ol, hol, _⟩ := id hl
    have ne : a ≠ s1.heap.objs.size := Nat.ne_of_lt (Heap.lt_size hol)
    have hn : its.toArray.size ≤ sizeLine := by rw [List.size_toArray, ← rv.length]; exact hz
    refine MoR.callListRev (s := { s1 with heap := s1.heap.push (revObj a ((its.toArray.size : Int) - 1)) }) (I1.ok.hd hc) ⟨_, Heap.get?_push_size _ rfl, rfl, rfl⟩ (hl.push _) ne hn fun h' tk acc c' hk' hS hi => ?_
    have hsz : (s1.heap.push (revObj a ((its.toArray.size : Int) - 1))).objs.size = s1.heap.objs.size + 1 := Heap.size_push ..
    have I3 : Inv X pins σ H1 { s1 with heap := h', toks := tk } := I2.turned (t' := tk) (fun b o hb e => hk' b o hb e) f0 f1 f3 f4 f5
    have hp : H1 (s1.heap.push (revObj a ((its.toArray.size : Int) - 1))).objs.size = none := I2.hok.fresh (Nat.le_refl _)
    have I4 : Inv X pins σ (upd H1 (s1.heap.push (revObj a ((its.toArray.size : Int) - 1))).objs.size (.lst xs.reverse)) { s1 with heap := h', toks := tk } := by
      have := I2.turnedNew (t' := tk) (ch := [s1.heap.objs.size]) (h' := h') (T := (s1.heap.push (revObj a ((its.toArray.size : Int) - 1))).objs.size) (ob := .lst xs.reverse) (fun b o hb e => hk' b o (by simpa using hb) e) (fun b hb => by
        have e : b = s1.heap.objs.size := by simpa using hb
        subst e
        exact ⟨f0, f1, f2, f3, f4, f5⟩) (Nat.le_refl _) (show ObjOk X.prog X.w _ _ _ (.lst xs.reverse) from ⟨by rw [List.length_reverse]; exact hz, acc.toList, c', RT.vals_rev rv hi, by rw [Array.toArray_toList]; exact hS⟩)
      exact this
    exact ⟨.ref _, _, I4, rfl, hk.mkL r (URs.rev hx) hp⟩
/-! ### list(d.items()), list(d.values()) -/
/-- the pairs -/
def prsOf (kvs : List (Ky × U)) : List U := kvs.map fun p => .tup [kyU p.1, p.2]
def gItemsL (live : Bool) (u : U) (s : S) : G0 := match dctOf u s with
  | some (false, kvs) => if kvs.all (fun p => kyOk p.1) = true then mkL live (prsOf kvs) s else none
  | _ => none
def gValsL (live : Bool) (u : U) (s : S) : G0 := match dctOf u s with
  | some (false, kvs) => mkL live (kvs.map (·.2)) s
  | _ => none
theorem prs_rel {K : PySem.W.Frag} {mg : Str → Option Value} {Lp Lp' : Addr → Prop} {ρ : List Addr} {H H' : Hp} (c : Car Lp Lp' ρ ρ H H') : ∀ {kvs : List (Ky × U)} {ks : List (Key × V)} {ts : List Addr}, URk Lp ρ K mg H kvs ks → kvs.all (fun p => kyOk p.1) = true → Paired (fun (t : Addr) (q : Key × V) => H' t = some (.tup [kV q.1, q.2])) ts ks → URs Lp' ρ K mg H' (prsOf kvs) (ts.map V.ref)
  | [], ks, ts, h, _, hp => by
    have h : ks = [] := h
    subst h
    cases hp
    exact rfl
  | (k, u) :: kvs, ks, ts, h, ha, hp => by
    obtain ⟨kk, x, t, rfl, h0, h1, h2⟩ := h
    rw [List.all_cons, Bool.and_eq_true] at ha
    cases hp with
    | @cons tt _ ts' _ q1 q2 =>
      refine ⟨.ref tt, ts'.map V.ref, rfl, ⟨tt, [kV kk, x], rfl, q1, by show 2 ≤ sizeLine; decide, kV kk, [x], rfl, kyU.k h0 ha.1, x, [], rfl, UR.carry c u x h1, rfl⟩, prs_rel c h2 ha.2 q2⟩
theorem me_listItems (hc : X.calm = true) (he : PE X e (TM X.K X.mg W m)) (hg : Gl X "list") (hm : X.mg "list" = none) (hbase : attributeBase e "items" X.env (eval e X.env) = eval e X.env := by rfl) (hline : (apos.endLine == cpos.line) = true := by rfl)
    (hs : starEach [.Call (.Attribute e "items" apos) [] [] cpos] X.env = (false, eval (.Call (.Attribute e "items" apos) [] [] cpos) X.env) :: starEach [] X.env := by rfl) :
    PE X (.Call (.Name "list" p) [.Call (.Attribute e "items" apos) [] [] cpos] [] pos) (TM X.K X.mg W (eUn (gItemsL live) m)) := by
  refine ⟨fun pins s0 σ H Q I h => ?_⟩
  refine wpAny_Call_Name_kw (ld_blt I hg hm boot_list ?_)
  refine PyProof.Rows.callWith_type1 ?_ hs rfl
  rw [hs]
  show wpAny _ _ (spliced ((false, eval (.Call (.Attribute e "items" apos) [] [] cpos) X.env) :: backTo pos (starEach [] X.env))) _ _ s0
  refine Calls.spliced_cons ?_
  refine wpAny_Call_method (T := "dict") (id := "dict.items") hbase rfl hline F.plainAttrs_dict F.slot_dict_items F.type_dict_items (thn (he.run pins s0 σ H _ I (TM.then (k := fun u l s => liftG (gItemsL live u s)) h)) fun v s1 ⟨x, H1, I1, r1, Pr, ρ, l, st0, u, r, lr, hu, hk⟩ => ?_)
  have hk := OkG.of hk
  unfold gItemsL at hk
  split at hk
  · rename_i kvs e1
    by_cases hok : kvs.all (fun p => kyOk p.1) = true
    · rw [if_pos hok] at hk
      obtain ⟨d, rfl, hlen, hd⟩ := dctOf.at r hu e1
      rcases hd with ⟨_, ks, hd, hx⟩ | ⟨h0, _⟩
      · cases r1
        obtain ⟨hz, hs0, vs, kv, hdo⟩ := dk_rd I1.hok hd
        obtain ⟨ep, hat⟩ := hdo.dictAt
        have lk : ks.length = vs.length := Paired.length kv
        have I2 : Inv X pins σ H1 { s1 with heap := s1.heap.push { cls := .type "dict_items", data := .fields #[.ref d] } } := I1.kept (t' := s1.toks) fun b ob q => Heap.get?_push_of_some _ q
        refine ⟨hdo.typeIs, hdo.mapOf.noDict, ?_⟩
        show wpAny _ _ (callWith cpos (.builtin "dict.items") [.ref d] [] []) _ X.xe s1
        refine method_meetsIn F.slot_dict_items F.entry_dict_items rfl (PySem.evalArgs_none ⟨rfl, hdo.typeIs, F.args_dict_items_1 _, _, meets_dict_items (mixKind X.prog X.w) d hs0, ⟨vs, hdo⟩, ?_⟩)
        refine Calls.spliced_nil ?_
        refine PySem.W.kdx_call (knd := mixKind X.prog X.w) (kvs := vs) (ep := ep) (I1.ok.hd hc) ⟨_, Heap.get?_push_size _ rfl, rfl, rfl⟩ (hat.push _) (by omega) fun h' tk acc c as hk' hS hl hG hacc => ?_
        obtain ⟨H', k1, k2, k3, k4, k5, k6, J⟩ := LiI.items_laid (tk := tk) I2 hz kv hk' hS hl hG hacc
        refine ⟨.ref _, H', J, rfl, ?_⟩
        obtain ⟨r2, c2⟩ := r.grow1 k1 k2 k5
        exact stoodL hk (r.grow k1).1 r2 k2 (r.npr k2) k5 (prs_rel c2 hx hok k6)
      · cases h0
    · rw [if_neg hok] at hk; exact hk.elim
  · exact hk.elim
theorem vals_rel {K : PySem.W.Frag} {mg : Str → Option Value} {Lp : Addr → Prop} {ρ : List Addr} {H : Hp} : ∀ {kvs : List (Ky × U)} {ks : List (Key × V)}, URk Lp ρ K mg H kvs ks → URs Lp ρ K mg H (kvs.map (·.2)) (ks.map (·.2))
  | [], ks, h => by
    have h : ks = [] := h
    subst h
    exact rfl
  | (k, u) :: kvs, ks, h => by
    obtain ⟨kk, x, t, rfl, h0, h1, h2⟩ := h
    exact ⟨x, t.map (·.2), rfl, h1, vals_rel h2⟩
theorem me_listVals (hc : X.calm = true) (he : PE X e (TM X.K X.mg W m)) (hg : Gl X "list") (hm : X.mg "list" = none) (hbase : attributeBase e "values" X.env (eval e X.env) = eval e X.env := by rfl) (hline : (apos.endLine == cpos.line) = true := by rfl)
    (hs : starEach [.Call (.Attribute e "values" apos) [] [] cpos] X.env = (false, eval (.Call (.Attribute e "values" apos) [] [] cpos) X.env) :: starEach [] X.env := by rfl) :
    PE X (.Call (.Name "list" p) [.Call (.Attribute e "values" apos) [] [] cpos] [] pos) (TM X.K X.mg W (eUn (gValsL live) m)) := by
  refine ⟨fun pins s0 σ H Q I h => ?_⟩
  refine wpAny_Call_Name_kw (ld_blt I hg hm boot_list ?_)
  refine PyProof.Rows.callWith_type1 ?_ hs rfl
  rw [hs]
  show wpAny _ _ (spliced ((false, eval (.Call (.Attribute e "values" apos) [] [] cpos) X.env) :: backTo pos (starEach [] X.env))) _ _ s0
  refine Calls.spliced_cons ?_
  refine wpAny_Call_method (T := "dict") (id := "dict.values") hbase rfl hline F.plainAttrs_dict F.slot_dict_values F.type_dict_values (thn (he.run pins s0 σ H _ I (TM.then (k := fun u l s => liftG (gValsL live u s)) h)) fun v s1 ⟨x, H1, I1, r1, Pr, ρ, l, st0, u, r, lr, hu, hk⟩ => ?_)
  have hk := OkG.of hk
  unfold gValsL at hk
  split at hk
  · rename_i kvs e1
    obtain ⟨d, rfl, hlen, hd⟩ := dctOf.at r hu e1
    rcases hd with ⟨_, ks, hd, hx⟩ | ⟨h0, _⟩
    · cases r1
      obtain ⟨hz, hs0, vs, kv, hdo⟩ := dk_rd I1.hok hd
      obtain ⟨ep, hat⟩ := hdo.dictAt
      have lk : ks.length = vs.length := Paired.length kv
      have I2 : Inv X pins σ H1 { s1 with heap := s1.heap.push { cls := .type "dict_values", data := .fields #[.ref d] } } := I1.kept (t' := s1.toks) fun b ob q => Heap.get?_push_of_some _ q
      refine ⟨hdo.typeIs, hdo.mapOf.noDict, ?_⟩
      show wpAny _ _ (callWith cpos (.builtin "dict.values") [.ref d] [] []) _ X.xe s1
      refine method_meetsIn F.slot_dict_values F.entry_dict_values rfl (PySem.evalArgs_none ⟨rfl, hdo.typeIs, F.args_dict_values_1 _, _, meets_dict_values (mixKind X.prog X.w) d hs0, ⟨vs, hdo⟩, ?_⟩)
      refine Calls.spliced_nil ?_
      refine PySem.W.kdl_call (PySem.W.kdl_values (knd := mixKind X.prog X.w) (kvs := vs) (ep := ep) (d := d)) (I1.ok.hd hc) ⟨⟨_, Heap.get?_push_size _ rfl, rfl, rfl⟩, hat.push _⟩ (by omega) fun h' tk acc c hk' hS hacc => ?_
      have hp := I2.hok.fresh (Nat.le_refl _)
      refine ⟨.ref _, _, I2.laid (o := .lst (ks.map (·.2))) hk' (Nat.le_refl _) (show ObjOk X.prog X.w _ _ _ (.lst (ks.map (·.2))) from ⟨by rw [List.length_map]; exact hz, acc.toList, c, ?_, by rw [Array.toArray_toList]; exact hS⟩), rfl, hk.mkL r (vals_rel hx) hp⟩
      have el : acc.toList.length = acc.size := by simp
      refine vals_of_at (by rw [List.length_map, el, hacc.1, lk]) fun j y w h1 h2 => ?_
      obtain ⟨k, hky⟩ := hacc.2 j w (by rw [← Array.getElem?_toList]; exact h2)
      rw [List.getElem?_map] at h1
      cases e5 : ks[j]? with
      | none => rw [e5] at h1; cases h1
      | some q =>
        rw [e5] at h1
        have h1 : q.2 = y := Option.some.inj h1
        subst h1
        obtain ⟨q1, q2⟩ := q
        obtain ⟨w', g1, g2⟩ := kv_get kv e5
        rw [hky] at g1
        cases g1
        exact g2
    · cases h0
  · exact hk.elim
end
end Mo
/-! Mo19: starred items. -/
namespace MoR
open PySem PySem.Spec PyProof.Rows
section
variable {prog : Program} {w : World} {A : Around} {E : Value → Shared → Prop} {s : Shared} {T : String} {r d : Addr} {n : Nat} {P : Nat → Value → Prop} {OK : Heap → Prop}
theorem collectKdl {Q : List Value → Shared → Prop} (K : PySem.W.KdlSrc prog w T r d n P OK) (hh : A.handled = none) (ok : OK s.heap) (hn : n ≤ sizeLine)
    (hQ : ∀ (h' : Heap) (tk : Nat) (acc : Array Value), (∀ b o, s.heap.get? b = some o → h'.get? b = some o) → ItemsOf P acc n → Q acc.toList { s with heap := h', toks := tk }) : wpAny (model prog w) A (collect (.ref r)) Q E s := by
  obtain ⟨lt1, lt2⟩ := K.there _ ok
  unfold collect
  refine wpAny_bind (wpAny_runValue (codeAny_builtin F.entry_proto_collect ?_))
  rw [Around.under_plainId F.plain_proto_collect _]
  show wpAny _ A.in1 (newList [] >>= fun lst => again (.builtin "list.__iadd__" ⟨[lst, .ref r], []⟩)) _ _ s
  refine wpAny_bind (wpAny_newObj_type ?_)
  refine wpAny_pure ⟨plainId_quiet F.plain_list_iadd _, codeAny_builtin F.entry_list_iadd ?_⟩
  rw [Around.under_plainId F.plain_list_iadd _]
  have hS0 : (s.heap.push { cls := .type "list", data := .seq ([] : List Value).toArray }).get? s.heap.objs.size = some { cls := .type "list", data := .seq ([] : List Value).toArray } := Heap.get?_push_size _ rfl
  show wpAny _ A.in1 (Builtin.List.listExtendWith (.ref s.heap.objs.size) (.ref r) (.ref s.heap.objs.size)) _ _ _
  have key := PySem.W.kdl_extend (A := A) (s := { s with heap := s.heap.push { cls := .type "list", data := .seq ([] : List Value).toArray } }) (R := fun r s' => r = .ok (.ret (.ref s.heap.objs.size)) ∧ ∃ h' tk acc c', s' = { s with heap := h', toks := tk } ∧ (∀ b o, s.heap.get? b = some o → h'.get? b = some o) ∧ h'.get? s.heap.objs.size = some { cls := .type "list", dict := none, data := .seq acc c', slots := #[] } ∧ ItemsOf P acc n) K hh
    (K.keep _ _ ok fun b _ o e => Heap.get?_push_of_some _ e) _ (Nat.ne_of_gt lt1) (Nat.ne_of_gt lt2) (.ref s.heap.objs.size) _ hS0 (fun h' tk acc' c' hk hS' hacc => ⟨rfl, h', tk, acc', c', rfl, fun b o e => hk b o (Nat.ne_of_lt (Heap.lt_size e)) (Heap.get?_push_of_some _ e), hS', hacc⟩) hn
  refine wpAny_mono key (fun fin s' hf => ?_) (fun er s' hf => ?_)
  · cases fin with
    | done f =>
      obtain ⟨e1, h', tk, acc, c', rfl, k1, k2, k3⟩ := hf
      cases e1
      show wpAny _ A (load s.heap.objs.size >>= _) _ _ _
      refine wpAny_bind (wpAny_load k2 ?_)
      exact wpAny_pure (hQ h' tk acc k1 k3)
    | again c =>
      refine ⟨hf.1, codeAny_mono hf.2 fun r s' hr => ?_⟩
      obtain ⟨rfl, h', tk, acc, c', rfl, k1, k2, k3⟩ := hr
      show wpAny _ A (load s.heap.objs.size >>= _) _ _ _
      refine wpAny_bind (wpAny_load k2 ?_)
      exact wpAny_pure (hQ h' tk acc k1 k3)
  · obtain ⟨e1, _⟩ := hf
    cases e1
end
end MoR
namespace Mo
open PySem PySem.Spec PyProof.Rows L2
/-- the items of *u -/
def starOf (u : U) (s : S) : Option (List U) := match seqOf u s with
  | some us => some us
  | none => match dctOf u s with
    | some (false, kvs) => keysOf kvs
    | _ => none
def aStar (m : EM) (a : AM) : AM := fun l s => (m l s).bind fun u s1 => match starOf u s1 with
  | some us => (a l s1).bind fun ws s2 => .ok (us ++ ws) s2
  | none => .no
section
variable {X : Cx} {W : WX} {e : Expr} {es : List Expr} {m : EM} {a : AM} {p : Pos}
theorem keys_rel {K : PySem.W.Frag} {mg : Str → Option Value} {Lp : Addr → Prop} {ρ : List Addr} {H : Hp} {us : List U} : ∀ {kvs : List (Ky × U)} {ks : List (Key × V)}, URk Lp ρ K mg H kvs ks → keysOf kvs = some us → URs Lp ρ K mg H us (ks.map fun q => kV q.1) := by
  intro kvs ks h hk
  unfold keysOf at hk
  by_cases ha : kvs.all (fun p => kyOk p.1) = true
  · rw [if_pos ha] at hk
    cases hk
    induction kvs generalizing ks with
    | nil => have h : ks = [] := h; subst h; exact rfl
    | cons q r ih =>
      obtain ⟨k, u⟩ := q
      obtain ⟨kk, x, t, rfl, h0, h1, h2⟩ := h
      rw [List.all_cons, Bool.and_eq_true] at ha
      exact ⟨kV kk, _, rfl, kyU.k h0 ha.1, ih h2 ha.2⟩
  · rw [if_neg ha] at hk; cases hk
/-- the keys that are collected -/
theorem vals_keys {P : Program} {w : World} {ks : List (Key × V)} {vs : List (Key × Value)} {acc : Array Value} (kv : KV ks vs) (h : ItemsOf (fun i v => ∃ k x, vs[i]? = some (k, x) ∧ (mixKind P w).is k v = true) acc vs.length) : Vals (ks.map fun q => kV q.1) acc.toList := by
  have lk : ks.length = vs.length := Paired.length kv
  have el : acc.toList.length = acc.size := by simp
  refine vals_of_at (by rw [List.length_map, el, h.1, lk]) fun j y w' h1 h2 => ?_
  obtain ⟨k, x, hky, hi⟩ := h.2 j w' (by rw [← Array.getElem?_toList]; exact h2)
  rw [List.getElem?_map] at h1
  cases e5 : ks[j]? with
  | none => rw [e5] at h1; cases h1
  | some q =>
    rw [e5] at h1
    have h1 : kV q.1 = y := Option.some.inj h1
    subst h1
    obtain ⟨q1, q2⟩ := q
    obtain ⟨w2, g1, g2⟩ := kv_get kv e5
    rw [hky] at g1
    cases g1
    exact keyIs_rel hi
theorem ma_star (hc : X.calm = true) (he : PE X e (TM X.K X.mg W m)) (hr : PA X es (TL X.K X.mg W a)) (hs : starEach (.Starred e p :: es) X.env = (true, eval e X.env) :: starEach es X.env := by rfl) : PA X (.Starred e p :: es) (TL X.K X.mg W (aStar m a)) := by
  refine ⟨fun pos pins s0 σ H Q I h => ?_⟩
  obtain ⟨Pr, ρ, l, s, r, lr, q⟩ := h
  have h1 : TM X.K X.mg W m σ H (fun x H1 => ∃ Pr ρ1 l s1 u, Rel X.K X.mg Pr ρ1 s1 H1 ∧ LR (Lv Pr ρ1 s1) ρ1 X.K X.mg H1 l σ ∧ UR (Lv Pr ρ1 s1) ρ1 X.K X.mg H1 u x ∧ OkA (rUs X.K X.mg) X.K X.mg Pr ρ1 s1 H1 Q (wX X.K X.mg Pr fun c d H' => W c d σ H') (match starOf u s1 with
      | some us => (a l s1).bind fun ws s2 => .ok (us ++ ws) s2
      | none => .no)) :=
    ⟨Pr, ρ, l, s, r, lr, OkA.mono (OkA.bind (rl := rU X.K X.mg) q) fun x H1 ⟨ρ1, s1, u, r1, e1, hu, hk⟩ => ⟨Pr, ρ1, l, s1, u, r1, LR.ext r e1 lr, hu, hk⟩⟩
  refine PySem.W.items_star (thn (he.run pins s0 σ H _ I h1) fun v s1 ⟨x, H1, I1, rx, Pr, ρ, l, st0, u, r, lr, hu, hk⟩ => ?_) hs
  cases e1 : starOf u st0 with
  | none => rw [e1] at hk; exact hk.elim
  | some us =>
    rw [e1] at hk
    -- behind the items
    have rest : ∀ (xs : List V) (vs : List Value) (s2 : Shared), Inv X pins σ H1 s2 → URs (Lv Pr ρ st0) ρ X.K X.mg H1 us xs → Vals xs vs → wpAny (model X.prog X.w) X.A (spliced (backTo pos (starEach es X.env))) (fun ws s3 => AP X pins σ Q (vs ++ ws) s3) X.xe s2 := by
      intro xs vs s2 I2 hx rv
      refine thn (hr.run pos pins s2 σ H1 (fun ys H3 => Q (xs ++ ys) H3) I2 ⟨Pr, ρ, l, st0, r, lr, OkA.mono (OkA.bind (rl := rUs X.K X.mg) hk) ?_⟩) fun ws s3 ⟨ys, H3, I3, r3, q3⟩ => ⟨xs ++ ys, H3, I3, rv.append r3, q3⟩
      rintro ys H3 ⟨ρ3, s3, ws, r3, e3, hys, hk3⟩
      exact hk3 ρ3 H3 (xs ++ ys) (Ext.refl _ _ _ _) r3 (URs.append (URs.ext r e3 us xs hx) hys)
    unfold starOf at e1
    cases e2 : seqOf u st0 with
    | some us' =>
      simp only [e2] at e1
      cases e1
      obtain ⟨ad, xs, rfl, h2, h3, h4⟩ := seqOf.at r hu e2
      cases rx
      exact StX.star_any I1 (h2.symm) fun vs s2 I2 rv => rest xs vs s2 I2 h4 rv
    | none =>
      simp only [e2] at e1
      split at e1
      · rename_i kvs e3
        obtain ⟨d, rfl, h2, h3⟩ := dctOf.at r hu e3
        rcases h3 with ⟨_, ks, hd, hx⟩ | ⟨h0, _⟩
        · cases rx
          obtain ⟨hz, lo, vs, kv, hdo⟩ := dk_rd I1.hok hd
          obtain ⟨ep, hat⟩ := hdo.dictAt
          have lk : ks.length = vs.length := Paired.length kv
          have z : wpAny (model X.prog X.w) X.A (collect (.ref d)) (fun here s2 => wpAny (model X.prog X.w) X.A (spliced (backTo pos (starEach es X.env))) (fun ws s3 => AP X pins σ Q (here ++ ws) s3) X.xe s2) X.xe s1 := by
            refine MoR.collectKdl (PySem.W.kdl_dict (knd := mixKind X.prog X.w) (kvs := vs) (ep := ep) lo) (I1.ok.hd hc) hat (by rw [← lk]; exact hz) fun h' tk acc hk' hacc => ?_
            exact rest _ _ _ (I1.kept (t' := tk) hk') (keys_rel hx e1) (vals_keys kv hacc)
          unfold PySem.W.StarOf notIterableAtAll
          exact wpAny_bind (wpAny_specialOf hdo.typeIs PySem.F.slot_dict_iter.lookup (wpAny_pure ⟨rfl, z⟩))
        · cases h0
      · cases e1
end
end Mo
/-! Mo20: built-ins by name. -/
namespace Mo
open PySem PySem.Spec PyProof.Rows L2
def eN (g : List U → S → G0) (a : AM) : EM := fun l s => (a l s).bind fun us s1 => liftG (g us s1)
section
variable {X : Cx} {W : WX} {x : Str} {e : Expr} {es : List Expr} {a : AM} {g : List U → S → G0} {p pos : Pos} {id T : String}
/-- the reading of an operation on values -/
def rN (X : Cx) (g : List U → S → G0) : List V → Hp → VK → Prop := fun xs H Q => ∃ Pr ρ s us, Rel X.K X.mg Pr ρ s H ∧ URs (Lv Pr ρ s) ρ X.K X.mg H us xs ∧ OkG X.K X.mg Pr ρ s H Q (g us s)
theorem OpN.callR {f : Value} (h : OpN X f g) : CallR X f (rN X g) := fun pins sh σ H xs vs Q I rv ⟨Pr, ρ, s, us, r, hu, q⟩ => h pins sh σ H Pr ρ s xs vs us Q I r hu rv q
theorem TL.eN {σ : L2.St} {H : Hp} {Q : VK} (h : TM X.K X.mg W (eN g a) σ H Q) : TL X.K X.mg W a σ H fun xs H1 => rN X g xs H1 Q := by
  obtain ⟨Pr, ρ, l, s, r, lr, q⟩ := TL.then (k := fun us s1 => liftG (g us s1)) h
  refine ⟨Pr, ρ, l, s, r, lr, OkA.mono q ?_⟩
  rintro xs H1 ⟨Pr1, ρ1, s1, us, r1, hu, hk⟩
  exact ⟨Pr1, ρ1, s1, us, r1, hu, OkG.of hk⟩
theorem me_blt (h : OpN X (.builtin id) g) (hg : Gl X x) (hm : X.mg x = none) (hv : bootBuiltins x = some (.builtin id)) (ha : PA X (e :: es) (TL X.K X.mg W a)) (hn : x ≠ "__name__" := by decide) (hdb : (x == ("__debug__" : Str)) = false := by decide)
    (he : starEach (e :: es) X.env = (false, eval e X.env) :: starEach es X.env := by rfl) (hpl : (backTo pos (starEach es X.env)).any (·.1) = false := by rfl) : PE X (.Call (.Name x p) (e :: es) [] pos) (TM X.K X.mg W (eN g a)) :=
  PE.imp (pe_callB h.callR hg hm hv ha hn hdb he hpl) fun σ H Q q => TL.eN q
theorem me_typ (h : OpN X (.type T) g) (hg : Gl X x) (hm : X.mg x = none) (hv : bootBuiltins x = some (.type T)) (ha : PA X (e :: es) (TL X.K X.mg W a)) (hn : x ≠ "__name__" := by decide) (hdb : (x == ("__debug__" : Str)) = false := by decide)
    (he : starEach (e :: es) X.env = (false, eval e X.env) :: starEach es X.env := by rfl) (hpl : (backTo pos (starEach es X.env)).any (·.1) = false := by rfl) : PE X (.Call (.Name x p) (e :: es) [] pos) (TM X.K X.mg W (eN g a)) :=
  PE.imp (pe_callTy h.callR hg hm hv ha hn hdb he hpl) fun σ H Q q => TL.eN q
end
/-! ### conversions -/
def gInt : List U → S → G0 := fun us s => match us with
  | [.int i] => some (.int i, s)
  | [.bl k] => some (.int (if k then 1 else 0), s)
  | _ => none
def gBool : List U → S → G0 := fun us s => match us with
  | [.int i] => some (.bl (i != 0), s)
  | [.bl k] => some (.bl k, s)
  | _ => none
def gAbs : List U → S → G0 := fun us s => match us with
  | [.int i] => some (.int (if i < 0 then -i else i), s)
  | _ => none
/-- list(x) -/
def gListOf (live : Bool) : List U → S → G0 := fun us s => match us with
  | [.str x] => if x.length ≤ sizeLine then mkL live (x.map fun c => .str [c]) s else none
  | [u] => match seqOf u s with
    | some ws => mkL live ws s
    | none => match dctOf u s with
      | some (false, kvs) => (match keysOf kvs with
        | some ws => mkL live ws s
        | none => none)
      | _ => none
  | _ => none
/-- tuple(x) -/
def gTupOf : List U → S → G0 := fun us s => match us with
  | [u] => match tupOf u with
    | some _ => some (u, s)
    | none => match lstOf u s with
      | some ws => mkT ws s
      | none => none
  | _ => none
/-- the pairs of a list, as keys and values -/
def prsK : List U → Option (List (Ky × U))
  | [] => some []
  | u :: us => match tupOf u with
    | some [k, v] => (match kyOf k, prsK us with
      | some kk, some r => if fits false kk = true then some ((kk, v) :: r) else none
      | _, _ => none)
    | _ => none
def mrgK (kvs : List (Ky × U)) : List (Ky × U) → List (Ky × U)
  | [] => kvs
  | (k, u) :: r => mrgK (dPut kvs k u) r
/-- dict(x) -/
def gDictOf (live : Bool) : List U → S → G0 := fun us s => match us with
  | [u] => match dctOf u s with
    | some (false, kvs) => mkD live false kvs s
    | some _ => none
    | none => match lstOf u s with
      | some ws => (match prsK ws with
        | some kvs => mkD live false (mrgK [] kvs) s
        | none => none)
      | none => none
  | _ => none
section
variable {K : PySem.W.Frag} {mg : Str → Option Value} {Lp : Addr → Prop} {ρ : List Addr} {H : Hp}
theorem URs.one {u : U} {xs : List V} (h : URs Lp ρ K mg H [u] xs) : ∃ x, xs = [x] ∧ UR Lp ρ K mg H u x := by
  obtain ⟨x, t, rfl, h1, h2⟩ := h
  have h2 : t = [] := h2
  subst h2
  exact ⟨x, rfl, h1⟩
theorem URs.two {u w : U} {xs : List V} (h : URs Lp ρ K mg H [u, w] xs) : ∃ x y, xs = [x, y] ∧ UR Lp ρ K mg H u x ∧ UR Lp ρ K mg H w y := by
  obtain ⟨x, t, rfl, h1, h2⟩ := h
  obtain ⟨y, rfl, h3⟩ := URs.one h2
  exact ⟨x, y, rfl, h1, h3⟩
theorem URk.merge {more : List (Ky × U)} {ms : List (Key × V)} {kvs : List (Ky × U)} {ks : List (Key × V)} (h : URk Lp ρ K mg H more ms) (h' : URk Lp ρ K mg H kvs ks) : URk Lp ρ K mg H (mrgK kvs more) (mergeK ks ms) := by
  induction more generalizing ms kvs ks with
  | nil =>
    have h : ms = [] := h
    subst h
    exact h'
  | cons p more ih =>
    obtain ⟨k, u⟩ := p
    obtain ⟨kk, x, t, rfl, h0, h1, h2⟩ := h
    show URk Lp ρ K mg H (mrgK (dPut kvs k u) more) (mergeK (putK ks kk x) t)
    exact ih h2 (URk.put h' h0 h1)
theorem prsK.at : ∀ {us : List U} {xs : List V} {kvs : List (Ky × U)}, URs Lp ρ K mg H us xs → prsK us = some kvs → ∃ (ps : List Addr) (ks : List (Key × V)), xs = ps.map V.ref ∧ Paired (fun p kv => SqT K H p [kV kv.1, kv.2]) ps ks ∧ URk Lp ρ K mg H kvs ks
  | [], xs, kvs, h, e => by
    have h : xs = [] := h
    subst h
    cases e
    exact ⟨[], [], rfl, .nil, rfl⟩
  | u :: us, xs, kvs, h, e => by
    obtain ⟨x, t, rfl, h1, h2⟩ := h
    unfold prsK at e
    split at e
    · rename_i k v e1
      split at e
      · rename_i kk r e2 e3
        by_cases hf : fits false kk = true
        · rw [if_pos hf] at e
          cases e
          obtain ⟨ps, ks, rfl, p2, p3⟩ := prsK.at h2 e3
          obtain ⟨a, ys, rfl, q2, q3, q4⟩ := tupOf.at h1 e1
          obtain ⟨y, z, rfl, hy, hz⟩ := URs.two q4
          obtain ⟨k1', g1, g2⟩ := kyOf.k hy e2 hf
          subst g2
          exact ⟨a :: ps, (k1', z) :: ks, rfl, .cons q2 p2, k1', z, ks, rfl, g1, hz, p3⟩
        · rw [if_neg hf] at e; cases e
      · cases e
    · cases e
end
section
variable {X : Cx}
theorem c_int : OpN X (.type "int") gInt := OpN.of call_int1 fun Pr ρ s H xs us Q r hu q => by
  unfold gInt at q
  split at q
  · obtain ⟨x, rfl, hx⟩ := URs.one hu
    exact .inl ⟨_, by rw [show x = _ from hx], q.here r rfl⟩
  · obtain ⟨x, rfl, hx⟩ := URs.one hu
    exact .inr ⟨_, by rw [show x = _ from hx], q.here r rfl⟩
  · exact q.elim
theorem c_bool : OpN X (.type "bool") gBool := OpN.of call_bool1 fun Pr ρ s H xs us Q r hu q => by
  unfold gBool at q
  split at q
  · obtain ⟨x, rfl, hx⟩ := URs.one hu
    exact .inl ⟨_, by rw [show x = _ from hx], q.here r rfl⟩
  · obtain ⟨x, rfl, hx⟩ := URs.one hu
    exact .inr ⟨_, by rw [show x = _ from hx], q.here r rfl⟩
  · exact q.elim
theorem c_abs : OpN X (.builtin "abs") gAbs := OpN.of call_abs fun Pr ρ s H xs us Q r hu q => by
  unfold gAbs at q
  split at q
  · obtain ⟨x, rfl, hx⟩ := URs.one hu
    exact ⟨_, by rw [show x = _ from hx], q.here r rfl⟩
  · exact q.elim
theorem c_list {live : Bool} (hc : X.calm = true) : OpN X (.type "list") (gListOf live) := by
  intro pins sh σ H Pr ρ s xs vs us Q I r hus rv q
  unfold gListOf at q
  split at q
  · rename_i z
    obtain ⟨x, rfl, hx⟩ := URs.one hus
    obtain ⟨rfl, hz⟩ := hx
    rw [if_pos hz] at q
    obtain ⟨u, rfl, t, rfl⟩ := vals1 rv
    have hsz : (st z).cps.size = z.length := by simp [st]
    refine call_list_str (I.ok.hd hc) (st z) t (fun h' tk acc c' hk hS hacc => ?_) (by rw [hsz]; exact hz)
    have hp := I.hok.fresh (Nat.le_refl sh.heap.objs.size)
    have vv : Vals (z.map fun c => V.str ⟨#[c]⟩) acc.toList := by
      have el : acc.toList.length = acc.size := by simp
      refine vals_of_at (by rw [List.length_map, el, hacc.1, hsz]) fun j y w h1 h2 => ?_
      obtain ⟨c, tt, hc1, rfl⟩ := hacc.2 j w (by rw [← Array.getElem?_toList]; exact h2)
      rw [List.getElem?_map] at h1
      have : (st z).cps[j]? = z[j]? := by simp [st]
      rw [this] at hc1
      rw [hc1] at h1
      cases h1
      exact ⟨tt, rfl⟩
    exact ⟨.ref _, _, I.laid (o := .lst (z.map fun c => V.str ⟨#[c]⟩)) hk (Nat.le_refl _) (show ObjOk X.prog X.w _ _ _ (.lst (z.map fun c => V.str ⟨#[c]⟩)) from ⟨by rw [List.length_map]; exact hz, acc.toList, c', vv, by rw [Array.toArray_toList]; exact hS⟩), rfl, q.mkL r (URs.signs z) hp⟩
  · rename_i u _
    obtain ⟨x, rfl, hx⟩ := URs.one hus
    cases e : seqOf u s with
    | some ws =>
      simp only [e] at q
      obtain ⟨a, ys, h1, h2, h3, h4⟩ := seqOf.at r hx e
      exact call_list_of pins sh σ H _ vs Q I rv ⟨a, ys, by rw [h1], h2, fun p hp => q.mkL r h4 hp⟩
    | none =>
      simp only [e] at q
      split at q
      · rename_i kvs e2
        split at q
        · rename_i ws e3
          obtain ⟨a, h1, h2, h3⟩ := dctOf.at r hx e2
          rcases h3 with ⟨_, ks, h3, h4⟩ | ⟨h0, _⟩
          · exact call_listD hc pins sh σ H _ vs Q I rv ⟨a, ks, by rw [h1], h3, fun p hp => q.mkL r (keys_rel h4 e3) hp⟩
          · cases h0
        · exact q.elim
      · exact q.elim
  · exact q.elim
theorem c_tuple : OpN X (.type "tuple") gTupOf := OpN.of call_tuple_of fun Pr ρ s H xs us Q r hu q => by
  unfold gTupOf at q
  split at q
  · rename_i u
    obtain ⟨x, rfl, hx⟩ := URs.one hu
    cases e : tupOf u with
    | some ws =>
      simp only [e] at q
      obtain ⟨a, ys, rfl, h2, h3, h4⟩ := tupOf.at hx e
      exact ⟨a, ys, rfl, .inr ⟨h2, q.here r hx⟩⟩
    | none =>
      simp only [e] at q
      cases e2 : lstOf u s with
      | none => simp only [e2] at q; exact q.elim
      | some ws =>
        simp only [e2] at q
        obtain ⟨a, ys, rfl, h2, h3, h4⟩ := lstOf.at r hx e2
        exact ⟨a, ys, rfl, .inl ⟨h2, fun p hp => q.mkT r h4 hp⟩⟩
  · exact q.elim
theorem c_dict {live : Bool} (hc : X.calm = true) : OpN X (.type "dict") (gDictOf live) := by
  intro pins sh σ H Pr ρ s xs vs us Q I r hus rv q
  unfold gDictOf at q
  split at q
  · rename_i u
    obtain ⟨x, rfl, hx⟩ := URs.one hus
    split at q
    · rename_i kvs e2
      obtain ⟨a, rfl, h2, h3⟩ := dctOf.at r hx e2
      rcases h3 with ⟨_, ks, h3, h4⟩ | ⟨h0, _⟩
      · exact call_dictD pins sh σ H _ vs Q I rv ⟨a, ks, rfl, h3, fun p hp => q.mkD r h4 hp⟩
      · cases h0
    · exact q.elim
    · cases e2 : lstOf u s with
      | none => simp only [e2] at q; exact q.elim
      | some ws =>
        simp only [e2] at q
        cases e3 : prsK ws with
        | none => simp only [e3] at q; exact q.elim
        | some kvs =>
          simp only [e3] at q
          obtain ⟨a, ys, rfl, h2, h3, h4⟩ := lstOf.at r hx e2
          obtain ⟨ps, ks, rfl, p2, p3⟩ := prsK.at h4 e3
          exact call_dictP hc pins sh σ H _ vs Q I rv ⟨a, ps, ks, rfl, h2, p2, fun p hp => q.mkD r (URk.merge p3 rfl) hp⟩
  · exact q.elim
/-! ### all, any, sum -/
def blsOf : List U → Option (List Bool)
  | [] => some []
  | .bl b :: r => (match blsOf r with
    | some bs => some (b :: bs)
    | none => none)
  | _ => none
def intsOf : List U → Option (List Int)
  | [] => some []
  | .int i :: r => (match intsOf r with
    | some is => some (i :: is)
    | none => none)
  | _ => none
theorem blsOf.at {K : PySem.W.Frag} {mg : Str → Option Value} {Lp : Addr → Prop} {ρ : List Addr} {H : Hp} : ∀ {us : List U} {xs : List V} {bs : List Bool}, URs Lp ρ K mg H us xs → blsOf us = some bs → xs = bs.map V.bl
  | [], xs, bs, h, e => by cases e; exact h
  | u :: us, xs, bs, h, e => by
    obtain ⟨x, t, rfl, h1, h2⟩ := h
    cases u with
    | bl b =>
      simp only [blsOf] at e
      split at e
      · rename_i bs' e2
        cases e
        rw [show x = .bl b from h1, blsOf.at h2 e2]; rfl
      · cases e
    | _ => cases e
theorem intsOf.at {K : PySem.W.Frag} {mg : Str → Option Value} {Lp : Addr → Prop} {ρ : List Addr} {H : Hp} : ∀ {us : List U} {xs : List V} {bs : List Int}, URs Lp ρ K mg H us xs → intsOf us = some bs → xs = bs.map V.int
  | [], xs, bs, h, e => by cases e; exact h
  | u :: us, xs, bs, h, e => by
    obtain ⟨x, t, rfl, h1, h2⟩ := h
    cases u with
    | int b =>
      simp only [intsOf] at e
      split at e
      · rename_i bs' e2
        cases e
        rw [show x = .int b from h1, intsOf.at h2 e2]; rfl
      · cases e
    | _ => cases e
def gBls (f : List Bool → Bool) : List U → S → G0 := fun us s => match us with
  | [u] => (match lstOf u s with
    | some ws => (match blsOf ws with
      | some bs => some (.bl (f bs), s)
      | none => none)
    | none => none)
  | _ => none
def gAll := gBls fun bs => bs.all id
def gAny := gBls fun bs => bs.any id
def gSum : List U → S → G0 := fun us s => match us with
  | [u] => (match lstOf u s with
    | some ws => (match intsOf ws with
      | some is => some (.int is.sum, s)
      | none => none)
    | none => none)
  | _ => none
theorem gBls.at {f : List Bool → Bool} {Pr : Addr → Prop} {ρ : List Addr} {s : S} {H : Hp} {xs : List V} {us : List U} {Q : VK} (r : Rel X.K X.mg Pr ρ s H) (hu : URs (Lv Pr ρ s) ρ X.K X.mg H us xs) (q : OkG X.K X.mg Pr ρ s H Q (gBls f us s)) : ∃ (a : Addr) (bs : List Bool), xs = [V.ref a] ∧ SqL X.K H a (bs.map V.bl) ∧ Q (.bl (f bs)) H := by
  unfold gBls at q
  split at q
  · rename_i u
    obtain ⟨x, rfl, hx⟩ := URs.one hu
    split at q
    · rename_i ws e1
      split at q
      · rename_i bs e2
        obtain ⟨a, ys, rfl, h2, h3, h4⟩ := lstOf.at r hx e1
        rw [blsOf.at h4 e2] at h2
        exact ⟨a, bs, rfl, h2, q.here r rfl⟩
      · exact q.elim
    · exact q.elim
  · exact q.elim
theorem c_all (hc : X.calm = true) : OpN X (.builtin "all") gAll := OpN.of (cr_all hc) fun Pr ρ s H xs us Q r hu q => gBls.at r hu q
theorem c_any (hc : X.calm = true) : OpN X (.builtin "any") gAny := OpN.of (cr_any hc) fun Pr ρ s H xs us Q r hu q => gBls.at r hu q
theorem c_sum (hc : X.calm = true) : OpN X (.builtin "sum") gSum := OpN.of (cr_sum hc) fun Pr ρ s H xs us Q r hu q => by
  unfold gSum at q
  split at q
  · rename_i u
    obtain ⟨x, rfl, hx⟩ := URs.one hu
    split at q
    · rename_i ws e1
      split at q
      · rename_i bs e2
        obtain ⟨a, ys, rfl, h2, h3, h4⟩ := lstOf.at r hx e1
        rw [intsOf.at h4 e2] at h2
        exact ⟨a, bs, rfl, h2, q.here r rfl⟩
      · exact q.elim
    · exact q.elim
  · exact q.elim
end
end Mo
/-! Mo21: sorted. -/
namespace Mo
open PySem PySem.Spec PyProof.Rows L2
open SrtO (Swo Srtd Stb eqv)
/-! ### insertion -/
section
variable {α β : Type} {lt : α → α → Bool}
def ins (lt : α → α → Bool) (x : α) : List α → List α
  | [] => [x]
  | y :: l => if lt y x = true then y :: ins lt x l else x :: y :: l
def isort (lt : α → α → Bool) : List α → List α
  | [] => []
  | x :: l => ins lt x (isort lt l)
theorem ins_perm (x : α) : ∀ l : List α, (ins lt x l).Perm (x :: l)
  | [] => List.Perm.refl _
  | y :: l => by
    unfold ins
    split
    · exact ((ins_perm x l).cons y).trans (List.Perm.swap x y l)
    · exact List.Perm.refl _
theorem isort_perm : ∀ l : List α, (isort lt l).Perm l
  | [] => List.Perm.refl _
  | x :: l => (ins_perm x _).trans ((isort_perm l).cons x)
theorem ins_srtd (O : Swo lt) (x : α) : ∀ {l : List α}, Srtd lt l → Srtd lt (ins lt x l)
  | [], _ => List.pairwise_singleton _ _
  | y :: l, h => by
    unfold ins
    obtain ⟨h1, h2⟩ := List.pairwise_cons.mp h
    split
    · rename_i c
      refine List.pairwise_cons.mpr ⟨fun z hz => ?_, ins_srtd O x h2⟩
      rcases List.mem_cons.mp ((ins_perm x l).mem_iff.mp hz) with e | hz
      · subst e; exact O.asym _ _ c
      · exact h1 z hz
    · rename_i c
      have c : lt y x = false := by simpa using c
      refine List.pairwise_cons.mpr ⟨fun z hz => ?_, h⟩
      rcases List.mem_cons.mp hz with e | hz
      · subst e; exact c
      · exact O.tr x y z c (h1 z hz)
theorem isort_srtd (O : Swo lt) : ∀ l : List α, Srtd lt (isort lt l)
  | [] => List.Pairwise.nil
  | x :: l => ins_srtd O x (isort_srtd O l)
theorem ins_cls (O : Swo lt) (x z : α) : ∀ l : List α, (ins lt x l).filter (eqv lt z) = (x :: l).filter (eqv lt z)
  | [] => rfl
  | y :: l => by
    unfold ins
    split
    · rename_i c
      have ih := ins_cls O x z l
      rw [List.filter_cons, ih]
      by_cases ey : eqv lt z y = true
      · have nx : eqv lt z x = false := by
          cases ex : eqv lt z x with
          | false => rfl
          | true =>
            obtain ⟨_, p2⟩ := SrtO.eqv_iff.mp ey
            obtain ⟨q1, _⟩ := SrtO.eqv_iff.mp ex
            have := O.tr x z y q1 p2
            rw [c] at this; cases this
        simp [List.filter_cons, ey, nx]
      · simp [List.filter_cons, ey]
    · rfl
theorem isort_stb (O : Swo lt) : ∀ l : List α, Stb lt (isort lt l) l
  | [] => ⟨List.Perm.refl _, fun _ => rfl⟩
  | x :: l => ⟨isort_perm _, fun z => by
    show (ins lt x (isort lt l)).filter _ = _
    rw [ins_cls O, List.filter_cons, List.filter_cons, (isort_stb O l).cls z]⟩
theorem Stb.symm' {l m : List α} (h : Stb lt l m) : Stb lt m l := ⟨h.perm.symm, fun x => (h.cls x).symm⟩
theorem ins_map {lt' : β → β → Bool} {f : α → β} (h : ∀ x y, lt x y = lt' (f x) (f y)) (x : α) : ∀ l : List α, (ins lt x l).map f = ins lt' (f x) (l.map f)
  | [] => rfl
  | y :: l => by
    show (if lt y x = true then y :: ins lt x l else x :: y :: l).map f = (if lt' (f y) (f x) = true then f y :: ins lt' (f x) (l.map f) else f x :: f y :: l.map f)
    rw [h y x]
    split
    · rw [List.map_cons, ins_map h x l]
    · rfl
theorem isort_map {lt' : β → β → Bool} {f : α → β} (h : ∀ x y, lt x y = lt' (f x) (f y)) : ∀ l : List α, (isort lt l).map f = isort lt' (l.map f)
  | [] => rfl
  | x :: l => by
    show (ins lt x (isort lt l)).map f = ins lt' (f x) (isort lt' (l.map f))
    rw [ins_map h, isort_map h l]
theorem ins_congr {lt1 lt2 : α → α → Bool} (x : α) : ∀ {l : List α}, (∀ y ∈ l, lt1 y x = lt2 y x) → ins lt1 x l = ins lt2 x l
  | [], _ => rfl
  | y :: l, h => by
    unfold ins
    rw [h y List.mem_cons_self, ins_congr x fun z hz => h z (List.mem_cons_of_mem _ hz)]
theorem isort_congr {lt1 lt2 : α → α → Bool} : ∀ {l : List α}, (∀ x ∈ l, ∀ y ∈ l, lt1 x y = lt2 x y) → isort lt1 l = isort lt2 l
  | [], _ => rfl
  | x :: l, h => by
    show ins lt1 x (isort lt1 l) = ins lt2 x (isort lt2 l)
    rw [isort_congr fun a ha b hb => h a (List.mem_cons_of_mem _ ha) b (List.mem_cons_of_mem _ hb)]
    exact ins_congr x fun y hy => h y (List.mem_cons_of_mem _ ((isort_perm l).mem_iff.mp hy)) x List.mem_cons_self
end
theorem swo_key {α κ : Type} {lt : κ → κ → Bool} (O : Swo lt) (k : α → κ) : Swo fun x y => lt (k x) (k y) := ⟨fun x y h => O.asym _ _ h, fun x y z h1 h2 => O.tr _ _ _ h1 h2⟩
/-- the one list that comes out -/
theorem srt_core {κ : Type} {lt : κ → κ → Bool} (O : Swo lt) {ku : U → κ} {kv : Value → κ} {P : List (U × Value)} (h : ∀ p ∈ P, ku p.1 = kv p.2) {out : List Value} (hs : Srtd (fun v u => lt (kv v) (kv u)) out) (hb : Stb (fun v u => lt (kv v) (kv u)) out (P.map (·.2))) :
    ∃ P' : List (U × Value), P'.Perm P ∧ P'.map (·.2) = out ∧ P'.map (·.1) = isort (fun u w => lt (ku u) (ku w)) (P.map (·.1)) := by
  refine ⟨isort (fun p q => lt (kv p.2) (kv q.2)) P, isort_perm P, ?_, ?_⟩
  · rw [isort_map (lt' := fun v u => lt (kv v) (kv u)) (f := fun p : U × Value => p.2) fun _ _ => rfl]
    exact SrtO.stb_uniq (swo_key O kv) (isort_srtd (swo_key O kv) _) hs ((isort_stb (swo_key O kv) _).trans (Stb.symm' hb))
  · rw [isort_congr (lt2 := fun p q => lt (ku p.1) (ku q.1)) fun p hp q hq => by rw [h p hp, h q hq]]
    exact isort_map (lt' := fun u w => lt (ku u) (ku w)) (f := fun p : U × Value => p.1) (fun _ _ => rfl) P
/-! ### texts -/
theorem swo_sLt : Swo sLt := by
  refine ⟨fun x y h => ?_, fun x y z h1 h2 => ?_⟩
  · rw [sLt_iff, decide_eq_true_eq] at h
    rw [sLt_iff, decide_eq_false_iff_not]
    exact List.lt_asymm h
  · rw [sLt_iff, decide_eq_false_iff_not] at h1 h2 ⊢
    have g1 : x ≤ y := List.not_lt.mp h1
    have g2 : y ≤ z := List.not_lt.mp h2
    exact List.not_lt.mpr (List.le_trans g1 g2)
theorem swo_intLt : Swo fun (i j : Int) => decide (i < j) := by
  refine ⟨fun x y h => ?_, fun x y z h1 h2 => ?_⟩
  · have := of_decide_eq_true h
    exact decide_eq_false (by omega)
  · have a := of_decide_eq_false h1
    have b := of_decide_eq_false h2
    exact decide_eq_false (by omega)
def svK : Value → List Nat
  | .str z _ => z.cps.toList
  | _ => []
section
variable {prog : Program} {w : World} {A : Around} {E : Value → Shared → Prop} {s : Shared}
theorem strs_sortable {a : Addr} {vs : List Value} {ss : List Str} (hI : StrsAre vs ss) (h2 : 2 ≤ vs.length) : SrtO.SortableO prog w A s a vs fun v u => sLt (svK v) (svK u) := by
  have mem : ∀ {vs : List Value} {ss : List Str}, StrsAre vs ss → ∀ v ∈ vs, ∃ z t, v = Value.str z t := by
    intro vs ss h
    induction h with
    | nil => intro v hv; cases hv
    | cons x t r ih =>
      intro v hv
      rcases List.mem_cons.mp hv with e | hv
      · exact ⟨x, t, e⟩
      · exact ih v hv
  intro h' _
  refine ⟨oneType', fun Q E hq => ?_, fun p q hm hm' => ?_⟩
  · match vs, hI, h2 with
    | v1 :: v2 :: rest, hI, _ =>
      rw [keyKind_strs hI]
      exact wpAny_pure hq
    | [], _, h => exact absurd h (by decide)
    | [v], _, h => exact absurd h (by simp)
  · obtain ⟨a, t, e⟩ := mem hI _ hm
    obtain ⟨b, u, e'⟩ := mem hI _ hm'
    show wpAny (model prog w) A (keyLt' oneType' p.1 q.1) (fun r s' => s' = { s with heap := h' } ∧ r = sLt (svK p.1) (svK q.1)) (fun _ _ => False) { s with heap := h' }
    rw [e, e', keyLt'_oneType]
    exact oneLt_str ⟨rfl, (sLt_iff _ _).symm⟩
/-- a tuple whose first item is that text -/
def TupS (h : Heap) (v : Value) (x : List Nat) : Prop := ∃ (a : Addr) (o : Obj) (xs : Array Value) (n : Nat) (z : Str) (t : Tok) (r : List Value), v = .ref a ∧ h.get? a = some o ∧ o.cls = .type "tuple" ∧ o.data = .seq xs n ∧ xs.toList = .str z t :: r ∧ z.cps.toList = x
theorem TupS.keeps {h h' : Heap} {v : Value} {x : List Nat} (t : TupS h v x) (k : ∀ b o, h.get? b = some o → o.cls = .type "tuple" → h'.get? b = some o) : TupS h' v x := by
  obtain ⟨a, o, xs, n, z, tk, r, e1, e2, e3, e4⟩ := t
  exact ⟨a, o, xs, n, z, tk, r, e1, k a o e2 e3, e3, e4⟩
theorem same_lex {b fin : Bool} {Q : Bool → Shared → Prop} (hf : fin = false) : ∀ (l : List Value) (i : Nat), Q false s → PySem.W.KatLex prog w A b fin Q (l.zip l) i s
  | [], i, q => by subst hf; exact q
  | v :: l, i, q => PySem.W.kat_cons (SeqAt.EqAt.same v prog w _ _ (PySem.W.kat_yes (same_lex hf l (i + 1) q)))
theorem tups_cmp {vs : List Value} {k : Value → List Nat} (hp : ∀ v ∈ vs, TupS s.heap v (k v)) (inj : ∀ v ∈ vs, ∀ u ∈ vs, k v = k u → v = u) : SrtO.Cmp prog w A s (tuples' true) (fun p => p.1 ∈ vs) (SrtO.lt2 fun v u => sLt (k v) (k u)) := by
  intro p q hm hm'
  obtain ⟨a, o, xs, n, z, t, r, e1, e2, e3, e4, e5, e6⟩ := hp _ hm
  obtain ⟨a', o', xs', n', z', t', r', f1, f2, f3, f4, f5, f6⟩ := hp _ hm'
  show wpAny (model prog w) A (keyLt' (tuples' true) p.1 q.1) (fun r s' => s' = s ∧ r = sLt (k p.1) (k q.1)) (fun _ _ => False) s
  by_cases hk : k p.1 = k q.1
  · have hpq := inj _ hm _ hm' hk
    rw [← hpq, e1]
    refine PySem.W.kat_lt e2 e4 e2 e4 ?_
    have irr : sLt (k (Value.ref a)) (k (Value.ref a)) = false := swo_sLt.refl _
    exact same_lex (by simp) _ 0 ⟨rfl, irr.symm⟩
  · rw [e1, f1] at hk ⊢
    refine PySem.W.kat_lt e2 e4 f2 f4 ?_
    rw [e5, f5]
    rw [e1] at e6
    rw [f1] at f6
    refine PySem.W.kat_cons (SeqAt.EqAt.str_str z t z' t' prog w _ _ ?_)
    have hz : (z == z') = false := by
      rw [beq_eq_false_iff_ne]
      intro c
      subst c
      exact hk (e6.symm.trans f6)
    rw [hz]
    refine PySem.W.kat_no (oneLt_str ⟨rfl, ?_⟩)
    rw [e6, f6, sLt_iff]
theorem tups_sortable {a : Addr} {vs : List Value} {k : Value → List Nat} (h0 : 0 < vs.length) (hp : ∀ v ∈ vs, TupS s.heap v (k v)) (inj : ∀ v ∈ vs, ∀ u ∈ vs, k v = k u → v = u) (ha : ∀ o, s.heap.get? a = some o → o.cls ≠ .type "tuple") : SrtO.SortableO prog w A s a vs fun v u => sLt (k v) (k u) := by
  intro h' keep
  have hp' : ∀ v ∈ vs, TupS h' v (k v) := fun v hm => (hp v hm).keeps fun b o e c => keep b o (fun z => by subst z; exact ha o e c) e
  have firsts : ∀ (vs : List Value), (∀ v ∈ vs, TupS h' v (k v)) → ∃ fs, PySem.W.KatTups h' vs fs ∧ fs.length = vs.length ∧ ∀ f ∈ fs, ∃ z t, f = Value.str z t := by
    intro vs
    induction vs with
    | nil => intro _; exact ⟨[], trivial, rfl, fun f hf => by cases hf⟩
    | cons v r ih =>
      intro h
      obtain ⟨fs, g1, g2, g3⟩ := ih fun u hu => h u (List.mem_cons_of_mem _ hu)
      obtain ⟨a, o, xs, n, z, t, rr, e1, e2, e3, e4, e5, e6⟩ := h v List.mem_cons_self
      refine ⟨.str z t :: fs, ⟨⟨a, o, xs, n, e1, e2, e3, e4, ?_⟩, g1⟩, by simp [g2], fun f hf => ?_⟩
      · rw [← Array.getElem?_toList, e5]; rfl
      · rcases List.mem_cons.mp hf with e | hf
        · exact ⟨z, t, e⟩
        · exact g3 f hf
  obtain ⟨fs, h1, h2, h3⟩ := firsts vs hp'
  refine ⟨tuples' true, fun Q E hq => ?_, tups_cmp hp' inj⟩
  refine PySem.W.kat_kind (T := .type "str") h1 (by omega) (fun f hm => ?_) (by rfl) ?_
  · obtain ⟨x, t, rfl⟩ := h3 f hm
    exact PySem.W.Looks.now
  · have e : (Value.type "str" != Value.type "tuple") = true := by first | decide +kernel | rfl | decide
    rw [e]
    exact hq
/-- sorted(u), whatever u's items come from -/
theorem srt_any {u : Value} {vs : List Value} {ltv : Value → Value → Bool} {Q : Value → Shared → Prop} (O : Swo ltv) (hz : vs.length ≤ sizeLine)
    (coll : ∀ (Q' : List Value → Shared → Prop), (∀ h' tk, (∀ b o, s.heap.get? b = some o → h'.get? b = some o) → Q' vs { s with heap := h', toks := tk }) → wpAny (model prog w) A.in1 (collect u) Q' E s)
    (hS : 2 ≤ vs.length → ∀ (h₁ : Heap) (tk : Nat) (a : Addr), h₁.get? a = some (seqObj "list" vs.toArray 0) → (∀ b o, s.heap.get? b = some o → b ≠ a ∧ h₁.get? b = some o) → SrtO.SortableO prog w A.in1.in1 { s with heap := h₁, toks := tk } a vs ltv)
    (h : ∀ (out : List Value) (h1 h' : Heap) (tk : Nat), Srtd ltv out → Stb ltv out vs → (∀ b o, s.heap.get? b = some o → h1.get? b = some o) → (∀ b o, h1.get? b = some o → h'.get? b = some o) → (∃ n, h'.get? h1.objs.size = some (seqObj "list" out.toArray n)) → Q (.ref h1.objs.size) { s with heap := h', toks := tk }) :
    wpAny (model prog w) A (call (.builtin "sorted") [u]) Q E s := by
  refine Calls.call_function_entry kind_sorted plain_sorted entry_sorted (args_sorted1 _) ?_
  unfold Builtin.«sorted»
  refine wpAny_bind (m := checkCount "sorted" 1 1 _) (wpAny_pure ?_)
  refine wpAny_bind (coll _ fun h1 tk hk => ?_)
  refine wpAny_bind (wpAny_newList ?_ hz)
  have hoL : (h1.push (seqObj "list" vs.toArray 0)).get? h1.objs.size = some (seqObj "list" vs.toArray 0) := Heap.get?_push_size _ rfl
  have keep : ∀ b o, s.heap.get? b = some o → b ≠ h1.objs.size ∧ (h1.push (seqObj "list" vs.toArray 0)).get? b = some o := fun b o e => ⟨Nat.ne_of_lt (Heap.lt_size (hk b o e)), Heap.get?_push_of_some _ (hk b o e)⟩
  show wpAny _ _ _ _ _ { s with heap := h1.push (seqObj "list" vs.toArray 0), toks := tk }
  refine wpAny_bind (wpAny_holding (wpAny_call_entry slot_list_sort ⟨_, hoL, rfl⟩ entry_list_sort (SrtO.list_sort_ord (s := { s with heap := h1.push (seqObj "list" vs.toArray 0), toks := tk }) O hoL hz (fun h2 => hS h2 _ _ _ hoL keep) fun out hs hb => ⟨_, rfl, ?_⟩) (args_list_sort _)))
  refine wpAny_pure ⟨_, rfl, h out h1 _ _ hs hb hk (fun b o e => ?_) (sortedHeap_at hoL)⟩
  have k1 : b ≠ h1.objs.size := Nat.ne_of_lt (Heap.lt_size e)
  have k2 : (h1.push (seqObj "list" vs.toArray 0)).get? b = some o := Heap.get?_push_of_some _ e
  rw [sortedHeap_old k1 (Heap.lt_size k2)]
  exact k2
end
/-! ### sorted(x) -/
def strsOf : List U → Option (List (List Nat))
  | [] => some []
  | .str i :: r => (match strsOf r with
    | some is => some (i :: is)
    | none => none)
  | _ => none
/-- the first items, texts -/
def fstS (u : U) : Option (List Nat) := match tupOf u with
  | some (.str z :: _) => some z
  | _ => none
def fstsOf : List U → Option (List (List Nat))
  | [] => some []
  | u :: r => match fstS u, fstsOf r with
    | some z, some zs => some (z :: zs)
    | _, _ => none
def keyI : U → Int
  | .int i => i
  | _ => 0
def keyS : U → List Nat
  | .str z => z
  | _ => []
def keyT (u : U) : List Nat := match fstS u with
  | some z => z
  | none => []
def nodupL : List (List Nat) → Bool
  | [] => true
  | z :: r => !(r.any fun y => y == z) && nodupL r
/-- sorted: ints, texts, tuples by their first items, which are texts and differ -/
def srtU (us : List U) : Option (List U) := match intsOf us with
  | some _ => some (isort (fun u w => decide (keyI u < keyI w)) us)
  | none => match strsOf us with
    | some _ => some (isort (fun u w => sLt (keyS u) (keyS w)) us)
    | none => match fstsOf us with
      | some zs => if nodupL zs = true then some (isort (fun u w => sLt (keyT u) (keyT w)) us) else none
      | none => none
def gSorted (live : Bool) : List U → S → G0 := fun us s => match us with
  | [u] => (match starOf u s with
    | some ws => (match srtU ws with
      | some zs => mkL live zs s
      | none => none)
    | none => none)
  | _ => none
section
variable {X : Cx} {pins : List (Addr × Obj)} {sh : Shared} {σ : L2.St} {H : Hp} {Pr : Addr → Prop} {ρ : List Addr} {s : S} {Q : VK} {live : Bool}
/-- values and their data, in pairs -/
theorem pairs_of {K : PySem.W.Frag} {mg : Str → Option Value} {Lp : Addr → Prop} : ∀ {us : List U} {xs : List V} {vs : List Value}, URs Lp ρ K mg H us xs → Vals xs vs → ∃ P : List (U × Value), P.map (·.1) = us ∧ P.map (·.2) = vs ∧ ∀ p ∈ P, ∃ x, UR Lp ρ K mg H p.1 x ∧ RelV x p.2
  | [], xs, vs, h, r => by
    have h : xs = [] := h
    subst h
    cases r
    exact ⟨[], rfl, rfl, fun p hp => by cases hp⟩
  | u :: us, xs, vs, h, r => by
    obtain ⟨x, t, rfl, h1, h2⟩ := h
    cases r with
    | @cons _ v _ vs' r1 r2 =>
      obtain ⟨P, p1, p2, p3⟩ := pairs_of h2 r2
      refine ⟨(u, v) :: P, by simp [p1], by simp [p2], fun p hp => ?_⟩
      rcases List.mem_cons.mp hp with e | hp
      · subst e; exact ⟨x, h1, r1⟩
      · exact p3 p hp
theorem of_pairs {K : PySem.W.Frag} {mg : Str → Option Value} {Lp : Addr → Prop} : ∀ {P : List (U × Value)}, (∀ p ∈ P, ∃ x, UR Lp ρ K mg H p.1 x ∧ RelV x p.2) → ∃ xs, URs Lp ρ K mg H (P.map (·.1)) xs ∧ Vals xs (P.map (·.2))
  | [], _ => ⟨[], rfl, .nil⟩
  | p :: P, h => by
    obtain ⟨x, h1, h2⟩ := h p List.mem_cons_self
    obtain ⟨xs, h3, h4⟩ := of_pairs fun q hq => h q (List.mem_cons_of_mem _ hq)
    exact ⟨x :: xs, ⟨x, xs, rfl, h1, h3⟩, .cons h2 h4⟩
/-- the end: the sorted list is laid -/
theorem srt_fin {κ : Type} {lt : κ → κ → Bool} (O : Swo lt) {ku : U → κ} {kv : Value → κ} {P : List (U × Value)} {us : List U} {vs : List Value} {u : Value} (hc : X.calm = true) (I : Inv X pins σ H sh) (r : Rel X.K X.mg Pr ρ s H) (e1 : P.map (·.1) = us) (e2 : P.map (·.2) = vs)
    (hP : ∀ p ∈ P, ∃ x, UR (Lv Pr ρ s) ρ X.K X.mg H p.1 x ∧ RelV x p.2) (hk : ∀ p ∈ P, ku p.1 = kv p.2) (hz : vs.length ≤ sizeLine)
    (coll : ∀ (Q' : List Value → Shared → Prop), (∀ h' tk, (∀ b o, sh.heap.get? b = some o → h'.get? b = some o) → Q' vs { sh with heap := h', toks := tk }) → wpAny (model X.prog X.w) X.A.in1 (collect u) Q' X.xe sh)
    (hS : 2 ≤ vs.length → ∀ (h₁ : Heap) (tk : Nat) (a : Addr), h₁.get? a = some (seqObj "list" vs.toArray 0) → (∀ b o, sh.heap.get? b = some o → b ≠ a ∧ h₁.get? b = some o) → SrtO.SortableO X.prog X.w X.A.in1.in1 { sh with heap := h₁, toks := tk } a vs fun v w => lt (kv v) (kv w))
    (q : OkG X.K X.mg Pr ρ s H Q (mkL live (isort (fun u w => lt (ku u) (ku w)) us) s)) : wpAny (model X.prog X.w) X.A (call (.builtin "sorted") [u]) (EP X pins σ Q) X.xe sh := by
  refine srt_any (swo_key O kv) hz coll hS fun out h1 h' tk hs hb k1 k2 hn => ?_
  rw [← e2] at hb
  obtain ⟨P', p1, p2, p3⟩ := srt_core O hk hs hb
  rw [e1] at p3
  obtain ⟨xs, x1, x2⟩ := of_pairs fun p hp => hP p (p1.mem_iff.mp hp)
  rw [p2] at x2
  rw [p3] at x1
  obtain ⟨n, hn⟩ := hn
  have I1 : Inv X pins σ H { sh with heap := h1, toks := tk } := I.kept (t' := tk) k1
  have hp : H h1.objs.size = none := I1.hok.fresh (Nat.le_refl _)
  have hl : xs.length ≤ sizeLine := by rw [URs.length x1]; exact mkL.len q
  exact ⟨.ref h1.objs.size, _, I1.laid (t' := tk) (o := .lst xs) k2 (Nat.le_refl _) (show ObjOk X.prog X.w _ _ _ (.lst xs) from ⟨hl, out, n, x2, hn⟩), rfl, q.mkL r x1 hp⟩
/-- what is collected: its values, one by one -/
theorem coll_of {u : U} {x : V} {v : Value} {ws : List U} (hc : X.calm = true) (I : Inv X pins σ H sh) (r : Rel X.K X.mg Pr ρ s H) (hu : UR (Lv Pr ρ s) ρ X.K X.mg H u x) (rx : RelV x v) (h : starOf u s = some ws) :
    ∃ xs vs, URs (Lv Pr ρ s) ρ X.K X.mg H ws xs ∧ Vals xs vs ∧ vs.length ≤ sizeLine ∧ ∀ (Q' : List Value → Shared → Prop), (∀ h' tk, (∀ b o, sh.heap.get? b = some o → h'.get? b = some o) → Q' vs { sh with heap := h', toks := tk }) → wpAny (model X.prog X.w) X.A.in1 (collect v) Q' X.xe sh := by
  unfold starOf at h
  cases e2 : seqOf u s with
  | some us' =>
    simp only [e2] at h
    cases h
    obtain ⟨ad, xs, rfl, h2, h3, h4⟩ := seqOf.at r hu e2
    cases rx
    rcases h2 with h2 | h2
    · obtain ⟨its, rv, p, hz⟩ := I.list h2
      obtain ⟨o, ho, hcl, n, hd⟩ := p.isList
      have hl : its.length ≤ sizeLine := by rw [← rv.length]; exact hz
      refine ⟨xs, its, h4, rv, hl, fun Q' k => wpAny_collect_seq ad (.inl rfl) ho hcl hd (fun h' hk => ?_) (by rw [List.size_toArray]; exact hl)⟩
      have := k h' sh.toks hk
      simpa using this
    · obtain ⟨its, rv, p, hz⟩ := I.tuple h2
      obtain ⟨o, ho, hcl, n, hd⟩ := p
      have hl : its.length ≤ sizeLine := by rw [← rv.length]; exact hz
      refine ⟨xs, its, h4, rv, hl, fun Q' k => wpAny_collect_seq ad (.inr rfl) ho hcl hd (fun h' hk => ?_) (by rw [List.size_toArray]; exact hl)⟩
      have := k h' sh.toks hk
      simpa using this
  | none =>
    simp only [e2] at h
    split at h
    · rename_i kvs e3
      obtain ⟨d, rfl, h2, h3⟩ := dctOf.at r hu e3
      rcases h3 with ⟨_, ks, hd, hx⟩ | ⟨h0, _⟩
      · cases rx
        obtain ⟨hz, lo, vs, kv, o, es, ep, ho, hex, hdat, hkeys, hpairs, hnd⟩ := dk_rd I.hok hd
        have lk : ks.length = vs.length := Paired.length kv
        have le : es.toList.length = vs.length := hpairs.length
        have hl : (es.toList.map (·.key)).length ≤ sizeLine := by rw [List.length_map, le, ← lk]; exact hz
        refine ⟨ks.map fun q => kV q.1, es.toList.map (·.key), keys_rel hx h, ?_, hl, fun Q' k => ?_⟩
        · refine vals_of_at (by rw [List.length_map, List.length_map, le, lk]) fun j y w' h1 h2 => ?_
          rw [List.getElem?_map] at h1 h2
          cases e5 : ks[j]? with
          | none => rw [e5] at h1; cases h1
          | some q =>
            rw [e5] at h1
            have h1 : kV q.1 = y := Option.some.inj h1
            subst h1
            cases e6 : es.toList[j]? with
            | none => rw [e6] at h2; cases h2
            | some en =>
              rw [e6] at h2
              have h2 : en.key = w' := Option.some.inj h2
              subst h2
              obtain ⟨q1, q2⟩ := q
              obtain ⟨w2, g1, g2⟩ := kv_get kv e5
              obtain ⟨hk1, _⟩ := hpairs.get? (i := j) (e := en) (k := q1) (v := w2) e6 g1
              exact relV_key hk1
        · refine MoR.collectKdl (kdl_raw lo hex hdat) (I.ok.hd hc) ho (by rw [List.length_map, Array.length_toList] at hl; exact hl) fun h' tk acc hk' hacc => ?_
          have e7 : acc.toList = es.toList.map (·.key) := by
            apply List.ext_getElem?
            intro j
            rw [List.getElem?_map]
            cases e8 : acc.toList[j]? with
            | none =>
              have : es.toList[j]? = none := by
                rw [List.getElem?_eq_none_iff] at e8 ⊢
                have := hacc.1
                rw [Array.length_toList] at e8 ⊢
                omega
              rw [this]; rfl
            | some w' =>
              obtain ⟨en, g1, g2⟩ := hacc.2 j w' (by rw [← Array.getElem?_toList]; exact e8)
              rw [Array.getElem?_toList, g1, g2]; rfl
          have := k h' tk hk'
          rw [← e7] at this
          exact this
      · cases h0
    · cases h
theorem intsOf.all : ∀ {us : List U} {is : List Int}, intsOf us = some is → ∀ u ∈ us, ∃ i, u = .int i
  | [], _, _, u, h => by cases h
  | w :: us, is, e, u, h => by
    cases w with
    | int b =>
      simp only [intsOf] at e
      split at e
      · rename_i bs' e2
        rcases List.mem_cons.mp h with e3 | h
        · exact ⟨b, e3⟩
        · exact intsOf.all e2 u h
      · cases e
    | _ => cases e
theorem strsOf.all : ∀ {us : List U} {is : List (List Nat)}, strsOf us = some is → ∀ u ∈ us, ∃ i, u = .str i
  | [], _, _, u, h => by cases h
  | w :: us, is, e, u, h => by
    cases w with
    | str b =>
      simp only [strsOf] at e
      split at e
      · rename_i bs' e2
        rcases List.mem_cons.mp h with e3 | h
        · exact ⟨b, e3⟩
        · exact strsOf.all e2 u h
      · cases e
    | _ => cases e
theorem fstsOf.map : ∀ {us : List U} {zs : List (List Nat)}, fstsOf us = some zs → zs = us.map keyT ∧ ∀ u ∈ us, ∃ z, fstS u = some z
  | [], _, e => by cases e; exact ⟨rfl, fun u h => by cases h⟩
  | w :: us, zs, e => by
    unfold fstsOf at e
    split at e
    · rename_i z zs' e1 e2
      cases e
      obtain ⟨i1, i2⟩ := fstsOf.map e2
      refine ⟨by rw [List.map_cons, ← i1]; unfold keyT; rw [e1], fun u h => ?_⟩
      rcases List.mem_cons.mp h with e3 | h
      · subst e3; exact ⟨z, e1⟩
      · exact i2 u h
    · cases e
theorem nodupL.nd : ∀ {l : List (List Nat)}, nodupL l = true → l.Nodup
  | [], _ => List.nodup_nil
  | z :: r, h => by
    unfold nodupL at h
    rw [Bool.and_eq_true] at h
    refine List.nodup_cons.mpr ⟨fun hm => ?_, nodupL.nd h.2⟩
    have : (r.any fun y => y == z) = true := List.any_eq_true.mpr ⟨z, hm, by simp⟩
    rw [this] at h
    exact absurd h.1 (by decide)
theorem c_sorted (hc : X.calm = true) : OpN X (.builtin "sorted") (gSorted live) := by
  intro pins sh σ H Pr ρ s xs0 vs0 us0 Q I r hus rv0 q
  unfold gSorted at q
  split at q
  · rename_i u
    obtain ⟨x, rfl, hx⟩ := URs.one hus
    obtain ⟨v, rfl, rx⟩ := vals1 rv0
    split at q
    · rename_i ws e1
      obtain ⟨xs, vs, h4, rv, hz, coll⟩ := coll_of hc I r hx rx e1
      obtain ⟨P, p1, p2, p3⟩ := pairs_of h4 rv
      split at q
      · rename_i zs e2
        unfold srtU at e2
        cases ei : intsOf ws with
        | some is =>
          simp only [ei] at e2
          cases e2
          have hI : IntsAre vs is := by
            have := intsOf.at h4 ei
            subst this
            exact rv.ints
          refine srt_fin swo_intLt (ku := keyI) (kv := SrtO.iv) hc I r p1 p2 p3 (fun p hp => ?_) hz coll (fun h2 h1 tk a _ _ => SrtO.ints_sortable hI h2) q
          obtain ⟨i, e5⟩ := intsOf.all ei p.1 (by rw [← p1]; exact List.mem_map_of_mem hp)
          obtain ⟨y, y1, y2⟩ := p3 p hp
          rw [e5] at y1 ⊢
          have y1 : y = .int i := y1
          subst y1
          obtain ⟨t, e6⟩ := y2
          rw [e6]; rfl
        | none =>
          simp only [ei] at e2
          cases es : strsOf ws with
          | some is =>
            simp only [es] at e2
            cases e2
            have hk : ∀ p ∈ P, ∃ z t, p.1 = .str z ∧ p.2 = Value.str (st z) t := fun p hp => by
              obtain ⟨i, e5⟩ := strsOf.all es p.1 (by rw [← p1]; exact List.mem_map_of_mem hp)
              obtain ⟨y, y1, y2⟩ := p3 p hp
              rw [e5] at y1
              obtain ⟨y1, _⟩ := y1
              subst y1
              obtain ⟨t, e6⟩ := y2
              exact ⟨i, t, e5, e6⟩
            have hS : ∃ ss, StrsAre vs ss := by
              rw [← p2]
              clear p1 p2 p3 coll hz rv h4 q
              induction P with
              | nil => exact ⟨[], .nil⟩
              | cons p P ih =>
                obtain ⟨z, t, _, e6⟩ := hk p List.mem_cons_self
                obtain ⟨ss, h⟩ := ih fun q hq => hk q (List.mem_cons_of_mem _ hq)
                rw [List.map_cons, e6]
                exact ⟨_, .cons _ t h⟩
            obtain ⟨ss, hS⟩ := hS
            refine srt_fin swo_sLt (ku := keyS) (kv := svK) hc I r p1 p2 p3 (fun p hp => ?_) hz coll (fun h2 h1 tk a _ _ => strs_sortable hS h2) q
            obtain ⟨z, t, e5, e6⟩ := hk p hp
            rw [e5, e6]
            exact (st_cps z).symm
          | none =>
            simp only [es] at e2
            cases ef : fstsOf ws with
            | none => simp only [ef] at e2; cases e2
            | some fz =>
              simp only [ef] at e2
              by_cases nd : nodupL fz = true
              · rw [if_pos nd] at e2
                cases e2
                obtain ⟨m1, m2⟩ := fstsOf.map ef
                have nd1 : (P.map fun p => keyT p.1).Nodup := by
                  have := nodupL.nd nd
                  rw [m1, ← p1, List.map_map] at this
                  exact this
                -- the key of a value
                have tup : ∀ p ∈ P, ∃ z, keyT p.1 = z ∧ TupS sh.heap p.2 z := fun p hp => by
                  obtain ⟨z, e5⟩ := m2 p.1 (by rw [← p1]; exact List.mem_map_of_mem hp)
                  obtain ⟨y, y1, y2⟩ := p3 p hp
                  have kz : keyT p.1 = z := by unfold keyT; rw [e5]
                  refine ⟨z, kz, ?_⟩
                  unfold fstS at e5
                  split at e5
                  · rename_i z' rest e6
                    cases e5
                    obtain ⟨a, ys, rfl, t2, t3, t4⟩ := tupOf.at y1 e6
                    obtain ⟨y0, yr, rfl, f1, f2⟩ := t4
                    obtain ⟨f1, _⟩ := f1
                    subst f1
                    have y2 : p.2 = Value.ref a := y2
                    obtain ⟨its, rt, ⟨o, ho, hcl, n, hd⟩, _⟩ := I.tuple t2
                    cases rt with
                    | @cons _ v0 _ vr r1 r2 =>
                      obtain ⟨t, rfl⟩ := r1
                      exact ⟨a, o, _, n, st z, t, vr, y2, ho, hcl, hd, rfl, st_cps z⟩
                  · cases e5
                classical
                let kf : Value → List Nat := fun v => match P.find? (fun p => p.2 == v) with
                  | some p => keyT p.1
                  | none => []
                have inj0 : ∀ p ∈ P, ∀ p' ∈ P, keyT p.1 = keyT p'.1 → p = p' := fun p hp p' hp' e => by
                  obtain ⟨i, hi, e1⟩ := List.getElem_of_mem hp
                  obtain ⟨j, hj, e2⟩ := List.getElem_of_mem hp'
                  have := (List.getElem_inj (h₀ := by rw [List.length_map]; exact hi) (h₁ := by rw [List.length_map]; exact hj) nd1).mp (by rw [List.getElem_map, List.getElem_map, e1, e2]; exact e)
                  subst this
                  rw [← e1, ← e2]
                have kfe : ∀ p ∈ P, keyT p.1 = kf p.2 := fun p hp => by
                  show keyT p.1 = match P.find? (fun q => q.2 == p.2) with
                    | some p => keyT p.1
                    | none => []
                  cases e5 : P.find? (fun q => q.2 == p.2) with
                  | none =>
                    have := List.find?_eq_none.mp e5 p hp
                    exact absurd (beq_self_eq_true p.2) this
                  | some p' =>
                    have h1 := List.find?_some e5
                    have h2 := List.mem_of_find?_eq_some e5
                    have h3 : p'.2 = p.2 := eq_of_beq h1
                    obtain ⟨z, kz, tz⟩ := tup p hp
                    obtain ⟨z', kz', tz'⟩ := tup p' h2
                    rw [h3] at tz'
                    obtain ⟨a, o, ys, n, w1, t, rr, q1, q2, q3, q4, q5, q6⟩ := tz
                    obtain ⟨a', o', ys', n', w1', t', rr', q1', q2', q3', q4', q5', q6'⟩ := tz'
                    rw [q1] at q1'
                    cases q1'
                    rw [q2] at q2'
                    cases q2'
                    rw [q4] at q4'
                    cases q4'
                    rw [q5] at q5'
                    injection q5' with q7 _
                    cases q7
                    show keyT p.1 = keyT p'.1
                    rw [kz, kz', ← q6, ← q6']
                have hp' : ∀ v ∈ vs, TupS sh.heap v (kf v) := fun v hv => by
                  rw [← p2] at hv
                  obtain ⟨p, hp, rfl⟩ := List.mem_map.mp hv
                  obtain ⟨z, kz, tz⟩ := tup p hp
                  rw [← kfe p hp, kz]
                  exact tz
                have inj : ∀ v ∈ vs, ∀ w ∈ vs, kf v = kf w → v = w := fun v hv w hw e => by
                  rw [← p2] at hv hw
                  obtain ⟨p, hp, rfl⟩ := List.mem_map.mp hv
                  obtain ⟨p', hp', rfl⟩ := List.mem_map.mp hw
                  rw [← kfe p hp, ← kfe p' hp'] at e
                  rw [inj0 p hp p' hp' e]
                refine srt_fin swo_sLt (ku := keyT) (kv := kf) hc I r p1 p2 p3 kfe hz coll (fun h2 h1 tk a ha kk => ?_) q
                refine tups_sortable (s := { sh with heap := h1, toks := tk }) (by omega) (fun v hv => (hp' v hv).keeps fun b o e _ => (kk b o e).2) inj fun o e => ?_
                have e' : some o = some (seqObj "list" vs.toArray 0) := e.symm.trans ha
                cases e'
                intro c
                exact absurd (Value.type.inj c) (by decide)
              · rw [if_neg nd] at e2; cases e2
      · exact q.elim
    · exact q.elim
  · exact q.elim
end
end Mo
/-! Mo22: methods of lists and dicts; stores; parallel assignment; what never comes. -/
namespace Mo
open PySem PySem.Spec PyProof.Rows L2
/-! ### methods of lists -/
def isLs (u : U) (s : S) : Bool := (lstOf u s).isSome
/-- a method of a list: the receiver, then the arguments -/
def eMl (g : U → List U → S → G0) (mo : EM) (a : AM) : EM := fun l s => (mo l s).bind fun u s1 => if isLs u s1 = true then (a l s1).bind fun us s2 => liftG (g u us s2) else .no
def gAppend : U → List U → S → G0 := fun u us s => match u, us with
  | .ref i, [w] => (match s[i]? with
    | some (.lst ws) => if ws.length < sizeLine then some (.non, s.set i (.lst (ws ++ [w]))) else none
    | _ => none)
  | _, _ => none
def gExtend : U → List U → S → G0 := fun u us s => match u, us with
  | .ref i, [w] => (match s[i]?, lstW w s with
    | some (.lst ws), some zs => if ws.length + zs.length ≤ sizeLine then some (.non, s.set i (.lst (ws ++ zs))) else none
    | _, _ => none)
  | _, _ => none
def gPop : U → List U → S → G0 := fun u us s => match u, us with
  | .ref i, [] => (match s[i]? with
    | some (.lst ws) => (match ws[ws.length - 1]? with
      | some w => some (w, s.set i (.lst ws.dropLast))
      | none => none)
    | _ => none)
  | _, _ => none
section
variable {X : Cx} {W : WX} {o e : Expr} {es : List Expr} {mo : EM} {a : AM} {name : Str} {apos cpos : Pos} {id : String} {g : U → List U → S → G0}
def OpM (X : Cx) (id : String) (g : U → List U → S → G0) : Prop := ∀ (Pr : Addr → Prop) (ρ : List Addr) (s : S), MtR X id fun x xs H Q => ∃ u us, Rel X.K X.mg Pr ρ s H ∧ UR (Lv Pr ρ s) ρ X.K X.mg H u x ∧ URs (Lv Pr ρ s) ρ X.K X.mg H us xs ∧ OkG X.K X.mg Pr ρ s H Q (g u us s)
theorem OpM.of {r : V → List V → Hp → VK → Prop} (h : MtR X id r) (k : ∀ (Pr : Addr → Prop) (ρ : List Addr) (s : S) (H : Hp) (x : V) (xs : List V) (u : U) (us : List U) (Q : VK), Rel X.K X.mg Pr ρ s H → UR (Lv Pr ρ s) ρ X.K X.mg H u x → URs (Lv Pr ρ s) ρ X.K X.mg H us xs → OkG X.K X.mg Pr ρ s H Q (g u us s) → r x xs H Q) : OpM X id g :=
  fun Pr ρ s pins sh σ H x xs v vs Q I rx rv ⟨u, us, r1, hu, hus, q⟩ => h pins sh σ H x xs v vs Q I rx rv (k Pr ρ s H x xs u us Q r1 hu hus q)
/-- all stores at once -/
theorem OpM.all (h : OpM X id g) : MtR X id fun x xs H Q => ∃ Pr ρ s u us, Rel X.K X.mg Pr ρ s H ∧ UR (Lv Pr ρ s) ρ X.K X.mg H u x ∧ URs (Lv Pr ρ s) ρ X.K X.mg H us xs ∧ OkG X.K X.mg Pr ρ s H Q (g u us s) :=
  fun pins sh σ H x xs v vs Q I rx rv ⟨Pr, ρ, s, u, us, q⟩ => h Pr ρ s pins sh σ H x xs v vs Q I rx rv ⟨u, us, q⟩
theorem isLs.ty {K : PySem.W.Frag} {mg : Str → Option Value} {Pr : Addr → Prop} {ρ : List Addr} {s : S} {H : Hp} {u : U} {x : V} (r : Rel K mg Pr ρ s H) (hu : UR (Lv Pr ρ s) ρ K mg H u x) (h : isLs u s = true) : tyV K "list" x H := by
  unfold isLs at h
  cases e : lstOf u s with
  | none => rw [e] at h; cases h
  | some us =>
    obtain ⟨a, xs, rfl, h2, _⟩ := lstOf.at r hu e
    exact .inl ⟨rfl, xs, h2⟩
theorem me_ml (h : OpM X id g) (slot : Slot "list" name id) (hty : typeOf (.builtin id) = pure (.type "method_descriptor")) (ho : PE X o (TM X.K X.mg W mo)) (ha : PA X (e :: es) (TL X.K X.mg W a))
    (hbase : attributeBase o name X.env (eval o X.env) = eval o X.env := by rfl)
    (hfew : ((backTo cpos (starEach (e :: es) X.env)).all (fun x => !x.1) && (backToKw cpos (keywordEach [] X.env)).all (fun x => x.1.isSome)
      && decide ((e :: es).length + ([] : List Keyword).length + (if ([] : List Keyword).isEmpty then 0 else 1) < 30)) = true := by rfl)
    (hline : (apos.endLine == cpos.line) = true := by rfl) (hs : starEach (e :: es) X.env = (false, eval e X.env) :: starEach es X.env := by rfl) (hplain : (backTo cpos (starEach es X.env)).any (·.1) = false := by rfl) :
    PE X (.Call (.Attribute o name apos) (e :: es) [] cpos) (TM X.K X.mg W (eMl g mo a)) := by
  refine PE.imp (pe_bm F.plainAttrs_list slot hty h.all ho ha hbase hfew hline hs hplain) fun σ H Q q => ?_
  obtain ⟨Pr, ρ, l, s, r, lr, q⟩ := TM.then (k := fun u l s1 => if isLs u s1 = true then (a l s1).bind fun us s2 => liftG (g u us s2) else .no) q
  refine ⟨Pr, ρ, l, s, r, lr, OkA.mono q ?_⟩
  rintro x H1 ⟨Pr1, ρ1, l1, s1, u, r1, lr1, hu, hk⟩
  by_cases hl : isLs u s1 = true
  · rw [if_pos hl] at hk
    refine ⟨isLs.ty r1 hu hl, Pr1, ρ1, l1, s1, r1, lr1, OkA.mono (OkA.bind (rl := rUs X.K X.mg) hk) ?_⟩
    rintro xs H2 ⟨ρ2, s2, us, r2, e2, hus, hk2⟩
    exact ⟨Pr1, ρ2, s2, u, us, r2, UR.ext r1 e2 u x hu, hus, OkG.of hk2⟩
  · rw [if_neg hl] at hk; exact hk.elim
theorem me_ml0 (h : OpM X id g) (slot : Slot "list" name id) (hty : typeOf (.builtin id) = pure (.type "method_descriptor")) (ho : PE X o (TM X.K X.mg W mo))
    (hbase : attributeBase o name X.env (eval o X.env) = eval o X.env := by rfl) (hline : (apos.endLine == cpos.line) = true := by rfl) :
    PE X (.Call (.Attribute o name apos) [] [] cpos) (TM X.K X.mg W (eMl g mo aNil)) := by
  refine PE.imp (pe_bm0 F.plainAttrs_list slot hty h.all ho hbase hline) fun σ H Q q => ?_
  obtain ⟨Pr, ρ, l, s, r, lr, q⟩ := TM.then (k := fun u l s1 => if isLs u s1 = true then (aNil l s1).bind fun us s2 => liftG (g u us s2) else .no) q
  refine ⟨Pr, ρ, l, s, r, lr, OkA.mono q ?_⟩
  rintro x H1 ⟨Pr1, ρ1, l1, s1, u, r1, lr1, hu, hk⟩
  by_cases hl : isLs u s1 = true
  · rw [if_pos hl] at hk
    exact ⟨isLs.ty r1 hu hl, Pr1, ρ1, s1, u, [], r1, hu, rfl, OkG.of hk⟩
  · rw [if_neg hl] at hk; exact hk.elim
/-- a list of the store is changed -/
theorem OkG.setL {K : PySem.W.Frag} {mg : Str → Option Value} {Pr : Addr → Prop} {ρ : List Addr} {s : S} {H : Hp} {Q : VK} {u : U} {v : V} {i : Nat} {ad : Addr} {ws us : List U} {xs : List V} (h : OkG K mg Pr ρ s H Q (some (u, s.set i (.lst us)))) (r : Rel K mg Pr ρ s H) (hi : s[i]? = some (.lst ws)) (ha : ρ[i]? = some ad) (hl : xs.length ≤ sizeLine) (hx : URs (Lv Pr ρ s) ρ K mg H us xs)
    (hu : ∀ {Lp H'}, Car (Lv Pr ρ s) Lp ρ ρ H H' → UR Lp ρ K mg H' u v) : Q v (upd H ad (.lst xs)) := by
  obtain ⟨e5, r5⟩ := r.put (o' := .lst us) (ho := .lst xs) hi rfl rfl ha fun e5 => ⟨xs, upd_same, hl, URs.ext r e5 us xs hx⟩
  exact h ρ _ v e5 r5 (hu (e5.car r fun a h => .inl h))
theorem m_append : OpM X "list.append" gAppend := OpM.of mt_append fun Pr ρ s H x xs u us Q r hu hus q => by
  unfold gAppend at q
  split at q
  · rename_i i w
    split at q
    · rename_i ws e1
      obtain ⟨ad, h1, h2⟩ := hu
      obtain ⟨ys, g1, g2, g3⟩ := r.ob i _ ad e1 h1
      obtain ⟨y, rfl, hy⟩ := URs.one hus
      by_cases hl : ws.length < sizeLine
      · rw [if_pos hl] at q
        have hlen := URs.length g3
        refine ⟨ad, ys, y, h2, rfl, g1, by omega, ?_⟩
        exact OkG.setL q r e1 h1 (by rw [List.length_append, List.length_singleton]; omega) (URs.append g3 ⟨y, [], rfl, hy, rfl⟩) fun _ => rfl
      · rw [if_neg hl] at q; exact q.elim
    · exact q.elim
  · exact q.elim
theorem m_extend : OpM X "list.extend" gExtend := OpM.of mt_extend fun Pr ρ s H x xs u us Q r hu hus q => by
  unfold gExtend at q
  split at q
  · rename_i i w
    split at q
    · rename_i ws zs e1 e2
      obtain ⟨ad, h1, h2⟩ := hu
      obtain ⟨ys, g1, g2, g3⟩ := r.ob i _ ad e1 h1
      obtain ⟨y, rfl, hy⟩ := URs.one hus
      obtain ⟨b, ms, rfl, k2, k3, k4⟩ := lstW.at r hy e2
      by_cases hl : ws.length + zs.length ≤ sizeLine
      · rw [if_pos hl] at q
        have hlen := URs.length g3
        have hlen2 := URs.length k4
        refine ⟨ad, b, ys, ms, h2, rfl, g1, k2, by omega, ?_⟩
        exact OkG.setL q r e1 h1 (by rw [List.length_append]; omega) (URs.append g3 k4) fun _ => rfl
      · rw [if_neg hl] at q; exact q.elim
    · exact q.elim
  · exact q.elim
theorem URs.dropLast {K : PySem.W.Frag} {mg : Str → Option Value} {Lp : Addr → Prop} {ρ : List Addr} {H : Hp} {us : List U} {xs : List V} (h : URs Lp ρ K mg H us xs) : URs Lp ρ K mg H us.dropLast xs.dropLast := by
  rw [List.dropLast_eq_take, List.dropLast_eq_take, URs.length h]
  exact URs.take _ h
theorem m_pop : OpM X "list.pop" gPop := OpM.of mt_pop fun Pr ρ s H x xs u us Q r hu hus q => by
  unfold gPop at q
  split at q
  · rename_i i
    split at q
    · rename_i ws e1
      split at q
      · rename_i w e2
        obtain ⟨ad, h1, h2⟩ := hu
        obtain ⟨ys, g1, g2, g3⟩ := r.ob i _ ad e1 h1
        have hus : xs = [] := hus
        obtain ⟨y, k1, k2⟩ := URs.get g3 e2
        rw [← URs.length g3] at k1
        refine ⟨ad, ys, y, h2, hus, g1, k1, ?_⟩
        exact OkG.setL q r e1 h1 (by rw [List.length_dropLast]; omega) (URs.dropLast g3) fun c => UR.carry c w y k2
      · exact q.elim
    · exact q.elim
  · exact q.elim
variable {pos pos' pos2 : Pos}
theorem me_append (ho : PE X o (TM X.K X.mg W mo)) (ha : PA X [e] (TL X.K X.mg W a)) (hbase : attributeBase o "append" X.env (eval o X.env) = eval o X.env := by rfl)
    (hfew : ((backTo cpos (starEach [e] X.env)).all (fun x => !x.1) && (backToKw cpos (keywordEach [] X.env)).all (fun x => x.1.isSome)
      && decide (([e] : List Expr).length + ([] : List Keyword).length + (if ([] : List Keyword).isEmpty then 0 else 1) < 30)) = true := by rfl)
    (hline : (apos.endLine == cpos.line) = true := by rfl) (hs : starEach [e] X.env = (false, eval e X.env) :: starEach [] X.env := by rfl) (hplain : (backTo cpos (starEach [] X.env)).any (·.1) = false := by rfl) :
    PE X (.Call (.Attribute o "append" apos) [e] [] cpos) (TM X.K X.mg W (eMl gAppend mo a)) := me_ml m_append F.slot_list_append F.type_list_append ho ha hbase hfew hline hs hplain
theorem me_extend (ho : PE X o (TM X.K X.mg W mo)) (ha : PA X [e] (TL X.K X.mg W a)) (hbase : attributeBase o "extend" X.env (eval o X.env) = eval o X.env := by rfl)
    (hfew : ((backTo cpos (starEach [e] X.env)).all (fun x => !x.1) && (backToKw cpos (keywordEach [] X.env)).all (fun x => x.1.isSome)
      && decide (([e] : List Expr).length + ([] : List Keyword).length + (if ([] : List Keyword).isEmpty then 0 else 1) < 30)) = true := by rfl)
    (hline : (apos.endLine == cpos.line) = true := by rfl) (hs : starEach [e] X.env = (false, eval e X.env) :: starEach [] X.env := by rfl) (hplain : (backTo cpos (starEach [] X.env)).any (·.1) = false := by rfl) :
    PE X (.Call (.Attribute o "extend" apos) [e] [] cpos) (TM X.K X.mg W (eMl gExtend mo a)) := me_ml m_extend F.slot_list_extend F.type_list_extend ho ha hbase hfew hline hs hplain
theorem me_pop (ho : PE X o (TM X.K X.mg W mo)) (hbase : attributeBase o "pop" X.env (eval o X.env) = eval o X.env := by rfl) (hline : (apos.endLine == cpos.line) = true := by rfl) :
    PE X (.Call (.Attribute o "pop" apos) [] [] cpos) (TM X.K X.mg W (eMl gPop mo aNil)) := me_ml0 m_pop F.slot_list_pop F.type_list_pop ho hbase hline
end
end Mo
/-! Mo23: stores into dicts, parallel assignment, d.get, isinstance, what never comes, freezing. -/
namespace Mo
open PySem PySem.Spec PyProof.Rows L2
section
variable {X : Cx} {W : WX} {o i e : Expr} {mo mi mv' : EM} {pos pos' : Pos}
/-! ### d[k] = v -/
def gPutD (u k v : U) (s : S) : Option S := match u with
  | .ref i => (match s[i]?, kyOf k with
    | some (.dct t kvs), some kk => if fits t kk = true ∧ kvs.length < sizeLine then some (s.set i (.dct t (dPut kvs kk v))) else none
    | _, _ => none)
  | _ => none
def FS : Option S → (S → F) → F
  | some s, k => k s
  | none, _ => .no
def sPutD (mo mi mv : EM) : SM := fun l s => FR (mv l s) l fun v s1 => FR (mo l s1) l fun u s2 => FR (mi l s2) l fun k s3 => FS (gPutD u k v s3) fun s4 => .nx l s4
theorem dPut_len (kvs : List (Ky × U)) (k : Ky) (u : U) : (dPut kvs k u).length ≤ kvs.length + 1 := by
  unfold dPut
  split
  · simp
  · simp
theorem gPutD.at {Pr : Addr → Prop} {ρ : List Addr} {s s' : S} {H : Hp} {u k v : U} {x y z : V} (r : Rel X.K X.mg Pr ρ s H) (hu : UR (Lv Pr ρ s) ρ X.K X.mg H u x) (hk : UR (Lv Pr ρ s) ρ X.K X.mg H k y) (hv : UR (Lv Pr ρ s) ρ X.K X.mg H v z) (h : gPutD u k v s = some s') :
    ∃ a H4, x = .ref a ∧ DPut H a y z H4 ∧ Ext Pr ρ s H ρ s' H4 ∧ Rel X.K X.mg Pr ρ s' H4 := by
  unfold gPutD at h
  split at h
  · rename_i i
    split at h
    · rename_i t kvs kk e1 e2
      by_cases c : fits t kk = true ∧ kvs.length < sizeLine
      · rw [if_pos c] at h
        cases h
        obtain ⟨a, h1, h2⟩ := hu
        obtain ⟨g0, g1⟩ := r.ob i _ a e1 h1
        have hlen := dPut_len kvs kk v
        rcases g1 with ⟨rfl, ks, g1, g2⟩ | ⟨rfl, ks, g1, g2⟩
        · obtain ⟨kk1, k1, k2⟩ := kyOf.k hk e2 c.1
          have hl := URk.length g2
          obtain ⟨e5, r5⟩ := r.put (o' := .dct false (dPut kvs kk v)) (ho := .dK (putK ks kk1 z)) e1 rfl rfl h1 fun e5 => ⟨by omega, .inl ⟨rfl, _, upd_same, URk.put (URk.ext r e5 kvs ks g2) k1 (UR.ext r e5 v z hv)⟩⟩
          exact ⟨a, _, h2, .inl ⟨ks, kk1, g1, k2, by omega, rfl⟩, e5, r5⟩
        · obtain ⟨b, kk1, k1, k2, k3⟩ := kyOf.t hk e2 c.1
          have hl := URt.length g2
          obtain ⟨e5, r5⟩ := r.put (o' := .dct true (dPut kvs kk v)) (ho := .dT (putK ks kk1 z)) e1 rfl rfl h1 fun e5 => ⟨by omega, .inr ⟨rfl, _, upd_same, URt.put (URt.ext r e5 kvs ks g2) k1 (UR.ext r e5 v z hv)⟩⟩
          exact ⟨a, _, h2, .inr ⟨ks, kk1, b, g1, k2, k3, by omega, rfl⟩, e5, r5⟩
      · rw [if_neg c] at h; cases h
    · cases h
  · cases h
/-- one more value, what stood before carried along -/
theorem OkF.more {Pr : Addr → Prop} {ρ : List Addr} {s : S} {H : Hp} {l : L} {σ : L2.St} {D : Ends} {m : EM} {k : U → S → F} {T : List Addr → Addr → Prop} (r : Rel X.K X.mg Pr ρ s H) (lr : LR (Lv Pr ρ s) ρ X.K X.mg H l σ) (h : OkF X.K X.mg Pr ρ s H D W (FR (m l s) l k)) :
    OkA (rU X.K X.mg) X.K X.mg Pr ρ s H (fun x H1 => ∃ ρ1 s1 a, Ext Pr ρ s H ρ1 s1 H1 ∧ Rel X.K X.mg Pr ρ1 s1 H1 ∧ LR (Lv Pr ρ1 s1) ρ1 X.K X.mg H1 l σ ∧ UR (Lv Pr ρ1 s1) ρ1 X.K X.mg H1 a x ∧ OkF X.K X.mg Pr ρ1 s1 H1 D W (k a s1)) (wX X.K X.mg Pr fun c d H' => W c d σ H') (m l s) := by
  cases e1 : m l s with
  | no => rw [e1] at h; exact h.elim
  | ex x s2 => rw [e1] at h; exact fun ρ' H' e' r' c d hx => h ρ' H' σ c d e' r' (LR.ext r e' lr) hx
  | ok a s2 => rw [e1] at h; exact fun ρ' H' x e' r' hx => ⟨ρ', s2, a, e', r', LR.ext r e' lr, hx, OkF.ext e' h⟩
theorem ms_putD (hr : X.A.units + 64 < cLine) (ho : PE X o (TM X.K X.mg W mo)) (hi : PE X i (TM X.K X.mg W mi)) (hv : PE X e (TM X.K X.mg W mv')) (hs : swapsWith e (some (.Subscript o i pos')) pos.line X.env = pure false := by rfl) :
    PS X (.Assign [.Subscript o i pos'] e pos) (TF X.K X.mg W (sPutD mo mi mv')) := by
  refine PS.imp (ps_dput (by omega) ho hi hv hs) fun D σ H h => ?_
  obtain ⟨Pr, ρ, l, s, r, lr, q⟩ := TF.ofE (k := fun v l s1 => FR (mo l s1) l fun u s2 => FR (mi l s2) l fun k s3 => FS (gPutD u k v s3) fun s4 => .nx l s4) h
  refine ⟨Pr, ρ, l, s, r, lr, OkA.mono q ?_⟩
  rintro z H1 ⟨Pr, ρ1, l1, s1, v, r1, lr1, hz, hk⟩
  refine ⟨Pr, ρ1, l1, s1, r1, lr1, OkA.mono (OkF.more (T := fun _ _ => True) r1 lr1 hk) ?_⟩
  rintro x H2 ⟨ρ2, s2, u, e2, r2, lr2, hu, hk2⟩
  refine ⟨Pr, ρ2, l1, s2, r2, lr2, OkA.mono (OkF.more (T := fun _ _ => True) r2 lr2 hk2) ?_⟩
  rintro y H3 ⟨ρ3, s3, k, e3, r3, lr3, hk', hk3⟩
  have hz3 := UR.ext r2 e3 v z (UR.ext r1 e2 v z hz)
  have hu3 := UR.ext r2 e3 u x hu
  cases e4 : gPutD u k v s3 with
  | none => rw [e4] at hk3; exact hk3.elim
  | some s4 =>
    rw [e4] at hk3
    obtain ⟨a, H4, h1, h2, h3, h4⟩ := gPutD.at r3 hu3 hk' hz3 e4
    exact ⟨a, H4, h1, h2, hk3 ρ3 H4 σ h3 h4 (LR.ext r3 h3 lr3)⟩
/-! ### a, b = x, y -/
def sPar (i j : Nat) (ma mb : EM) : SM := fun l s => FR (ma l s) l fun u s1 => FR (mb l s1) l fun v s2 => .nx ((l.set i (some u)).set j (some v)) s2
theorem ms_par {i j : Nat} {x y : Str} {a b : Expr} {ma mb : EM} {px py pt pt2 : Pos} {kt k2 : Nat} (hc : X.calm = true) (hN : X.N.Nodup) (hij : i ≠ j)
    (hw : swappedStores [.Tuple [.Name x px, .Name y py] kt pt] (.Tuple [a, b] k2 pt2) X.env = pure (some [x, y])) (ha : PE X a (TM X.K X.mg W ma)) (hb : PE X b (TM X.K X.mg W mb)) (hi : X.N[i]? = some x := by rfl) (hj : X.N[j]? = some y := by rfl)
    (hx : X.env.scope.names.lookup x = some .local := by rfl) (hy : X.env.scope.names.lookup y = some .local := by rfl) (hs1 : starEach [a, b] X.env = (false, eval a X.env) :: starEach [b] X.env := by rfl) (hs2 : starEach [b] X.env = (false, eval b X.env) :: starEach [] X.env := by rfl)
    (hs : swapsWithSole [.Tuple [.Name x px, .Name y py] kt pt] (.Tuple [a, b] k2 pt2) pos.line X.env = pure false := by rfl) :
    PS X (.Assign [.Tuple [.Name x px, .Name y py] kt pt] (.Tuple [a, b] k2 pt2) pos) (TF X.K X.mg W (sPar i j ma mb)) := by
  refine PS.imp (ps_par hc hN hi hj hij hx hy (pa_cons ha (pa_cons hb pa_nil hs2) hs1) hw hs) fun D σ H h => ?_
  obtain ⟨Pr, ρ, l, s, r, lr, q⟩ := TF.ofE (k := fun u l s1 => FR (mb l s1) l fun v s2 => .nx ((l.set i (some u)).set j (some v)) s2) h
  refine ⟨Pr, ρ, l, s, r, lr, OkA.mono q ?_⟩
  rintro x1 H1 ⟨Pr, ρ1, l1, s1, u, r1, lr1, hu, hk⟩
  refine ⟨Pr, ρ1, l1, s1, r1, lr1, OkA.mono (OkF.more (T := fun _ _ => True) r1 lr1 hk) ?_⟩
  rintro x2 H2 ⟨ρ2, s2, v, e2, r2, lr2, hv, hk2⟩
  exact ⟨x1, x2, rfl, hk2 ρ2 H2 _ (Ext.refl _ _ _ _) r2 ((lr2.set i (UR.ext r1 e2 u x1 hu)).set j hv)⟩
/-! ### what never comes; exceptions -/
def sNo : SM := fun _ _ => .no
theorem ms_never {st' : Stmt} : PS X st' (TF X.K X.mg W sNo) := PS.imp ps_never fun D σ H ⟨_, _, _, _, _, _, q⟩ => q.elim
/-! ### a local name's thing is frozen ahead of a statement -/
def frzO : O → Option U
  | .lst us => some (.lst us)
  | .dct t kvs => some (.dct t kvs)
  | .ins cn fs => some (.obj cn fs)
  | _ => none
def fzS (i : Nat) (l : L) (s : S) : Option (L × S) := match l[i]? with
  | some (some (.ref k)) => (match s[k]? with
    | some o => (match frzO o with
      | some u => some (l.set i (some u), s.set k .gone)
      | none => none)
    | none => none)
  | _ => none
def sFz (i : Nat) (m : SM) : SM := fun l s => match fzS i l s with
  | some (l', s') => m l' s'
  | none => .no
/-- what is frozen is data -/
theorem frz_at {K : PySem.W.Frag} {mg : Str → Option Value} {Pr : Addr → Prop} {ρ : List Addr} {s : S} {H : Hp} {k : Nat} {o : O} {u : U} {a : Addr} (r : Rel K mg Pr ρ s H) (hk : s[k]? = some o) (ha : ρ[k]? = some a) (h : frzO o = some u) : Ext Pr ρ s H ρ (s.set k .gone) H ∧ Rel K mg Pr ρ (s.set k .gone) H ∧ UR (Lv Pr ρ (s.set k .gone)) ρ K mg H u (.ref a) := by
  have hg : isG o = false ∧ isL o = false := by cases o <;> first | exact ⟨rfl, rfl⟩ | cases h
  obtain ⟨e, r', n⟩ := r.freeze hk hg.1 hg.2 ha
  have hob := OR.ext r e rfl (r.ob k o a hk ha)
  refine ⟨e, r', ?_⟩
  cases o with
  | lst us => cases h; obtain ⟨xs, h1, h2, h3⟩ := hob; exact ⟨a, xs, rfl, h1, n, h2, h3⟩
  | dct t kvs =>
    cases h
    obtain ⟨h1, h2⟩ := hob
    refine ⟨a, rfl, n, h1, ?_⟩
    rcases h2 with ⟨h0, ks, h2, h3⟩ | ⟨h0, ks, h2, h3⟩
    · exact .inl ⟨h0, ks, .inl h2, h3⟩
    · exact .inr ⟨h0, ks, .inl h2, h3⟩
  | ins cn fs => cases h; obtain ⟨C, dx, fV, h1, h2, _, h4, h5⟩ := hob; exact ⟨a, C, dx, fV, rfl, h1, n, h2, h5, h4⟩
  | _ => cases h
theorem LR.fz {K : PySem.W.Frag} {mg : Str → Option Value} {Pr : Addr → Prop} {ρ : List Addr} {s s' : S} {H : Hp} {l l' : L} {σ : L2.St} {i : Nat} (r : Rel K mg Pr ρ s H) (lr : LR (Lv Pr ρ s) ρ K mg H l σ) (h : fzS i l s = some (l', s')) : Ext Pr ρ s H ρ s' H ∧ Rel K mg Pr ρ s' H ∧ LR (Lv Pr ρ s') ρ K mg H l' σ := by
  unfold fzS at h
  split at h
  · rename_i k e1
    split at h
    · rename_i ob e2
      split at h
      · rename_i u e3
        cases h
        obtain ⟨v, h1, h2⟩ := lr.2 i _ e1
        obtain ⟨a, g1, g2⟩ := h2
        obtain ⟨e, r', hu⟩ := frz_at r e2 g1 e3
        have lr' := LR.ext r e lr
        refine ⟨e, r', ⟨by simp [lr'.1], fun j w hj => ?_⟩⟩
        by_cases q : i = j
        · subst q
          have hi : i < l.length := (List.getElem?_eq_some_iff.mp e1).1
          rw [List.getElem?_set_self hi] at hj
          cases hj
          exact ⟨v, h1, by rw [g2]; exact hu⟩
        · rw [List.getElem?_set_ne q] at hj
          exact lr'.2 j w hj
      · cases h
    · cases h
  · cases h
theorem ms_fz {st' : Stmt} {m : SM} (i : Nat) (h : PS X st' (TF X.K X.mg W m)) : PS X st' (TF X.K X.mg W (sFz i m)) := PS.imp h fun D σ H ⟨Pr, ρ, l, s, r, lr, q⟩ => by
  unfold sFz at q
  cases e : fzS i l s with
  | none => rw [e] at q; exact q.elim
  | some p =>
    obtain ⟨l', s'⟩ := p
    rw [e] at q
    obtain ⟨e1, r1, lr1⟩ := LR.fz r lr e
    exact ⟨Pr, ρ, l', s', r1, lr1, OkF.ext e1 q⟩
/-- an expression's own thing is frozen -/
def eFrz (m : EM) : EM := fun l s => match m l s with
  | .ok (.ref k) s1 => (match s1[k]? with
    | some o => (match frzO o with
      | some u => .ok u (s1.set k .gone)
      | none => .no)
    | none => .no)
  | .ok _ _ => .no
  | .ex x s1 => .ex x s1
  | .no => .no
theorem me_frz {m : EM} (h : PE X e (TM X.K X.mg W m)) : PE X e (TM X.K X.mg W (eFrz m)) := PE.imp h fun σ H Q ⟨Pr, ρ, l, s, r, lr, q⟩ => by
  refine ⟨Pr, ρ, l, s, r, lr, ?_⟩
  unfold eFrz at q
  cases e1 : m l s with
  | no => simp only [e1] at q; exact q
  | ex x s1 => simp only [e1] at q; exact q
  | ok u s1 =>
    cases u with
    | ref k =>
      simp only [e1] at q
      cases e2 : s1[k]? with
      | none => simp only [e2] at q; exact q.elim
      | some ob =>
        simp only [e2] at q
        cases e3 : frzO ob with
        | none => simp only [e3] at q; exact q.elim
        | some w =>
          simp only [e3] at q
          intro ρ' H' x e' r' hx
          obtain ⟨a, g1, g2⟩ := hx
          obtain ⟨e4, r4, hw⟩ := frz_at r' e2 g1 e3
          subst g2
          exact q ρ' H' _ (e'.trans e4) r4 hw
    | _ => simp only [e1] at q; exact q.elim
/-! ### d.get(k, x) -/
def isDs (u : U) (s : S) : Bool := (dctOf u s).isSome
def eGet2 (mo mk mx : EM) : EM := fun l s => (mo l s).bind fun u s1 => if isDs u s1 = true then (mk l s1).bind fun k s2 => (mx l s2).bind fun x s3 => match dctOf u s3, kyOf k with
  | some (t, kvs), some kk => if fits t kk = true then (match dGet kvs kk with
    | some w => .ok w s3
    | none => .ok x s3) else .no
  | _, _ => .no else .no
theorem me_get2 {f : Expr} {mk mx : EM} {apos cpos : Pos} (hr : X.A.units + 64 < cLine) (ho : PE X o (TM X.K X.mg W mo)) (hk : PE X e (TM X.K X.mg W mk)) (hx : PE X f (TM X.K X.mg W mx)) (m2 : M2 X o "get" apos e f cpos) : PE X (.Call (.Attribute o "get" apos) [e, f] [] cpos) (TM X.K X.mg W (eGet2 mo mk mx)) := by
  refine PE.imp (pe_dget2 (by omega) ho hk hx m2) fun σ H Q q => ?_
  obtain ⟨Pr, ρ, l, s, r, lr, q⟩ := TM.then (k := fun u l s1 => if isDs u s1 = true then (mk l s1).bind fun k s2 => (mx l s2).bind fun x s3 => match dctOf u s3, kyOf k with
    | some (t, kvs), some kk => if fits t kk = true then (match dGet kvs kk with
      | some w => .ok w s3
      | none => .ok x s3) else .no
    | _, _ => .no else .no) q
  refine ⟨Pr, ρ, l, s, r, lr, OkA.mono q ?_⟩
  rintro x1 H1 ⟨Pr1, ρ1, l1, s1, u, r1, lr1, hu, hk⟩
  by_cases hd : isDs u s1 = true
  · rw [if_pos hd] at hk
    unfold isDs at hd
    cases e0 : dctOf u s1 with
    | none => rw [e0] at hd; cases hd
    | some p =>
      obtain ⟨t0, kvs0⟩ := p
      obtain ⟨a, rfl, _, hd0⟩ := dctOf.at r1 hu e0
      have isd : IsD H1 a := by
        rcases hd0 with ⟨_, ks, h, _⟩ | ⟨_, ks, h, _⟩
        · exact .inl ⟨ks, h⟩
        · exact .inr ⟨ks, h⟩
      refine ⟨a, rfl, isd, Pr1, ρ1, l1, s1, r1, lr1, OkA.mono (OkA.bind (rl := rU X.K X.mg) hk) ?_⟩
      rintro y H2 ⟨ρ2, s2, k, r2, e2, hk2, hk3⟩
      have hu2 := UR.ext r1 e2 _ _ hu
      refine ⟨Pr1, ρ2, l1, s2, r2, LR.ext r1 e2 lr1, OkA.mono (OkA.bind (rl := rU X.K X.mg) hk3) ?_⟩
      rintro z H3 ⟨ρ3, s3, x, r3, e3, hx3, hk4⟩
      have hu3 := UR.ext r2 e3 _ _ hu2
      have hkk := UR.ext r2 e3 _ _ hk2
      split at hk4
      · rename_i t kvs kk e5 e6
        by_cases hf : fits t kk = true
        · rw [if_pos hf] at hk4
          obtain ⟨a', ov, h1, h2, h3⟩ := dctOf.get r3 hu3 e5 hkk e6 hf
          cases h1
          refine ⟨ov, h2, ?_⟩
          cases e7 : dGet kvs kk with
          | none =>
            simp only [e7] at h3 hk4
            subst h3
            exact hk4 ρ3 H3 z (Ext.refl _ _ _ _) r3 hx3
          | some w =>
            simp only [e7] at h3 hk4
            obtain ⟨w', rfl, hw⟩ := h3
            exact hk4 ρ3 H3 w' (Ext.refl _ _ _ _) r3 hw
        · rw [if_neg hf] at hk4; exact hk4.elim
      · exact hk4.elim
  · rw [if_neg hd] at hk; exact hk.elim
end
end Mo
/-! Mo24: own operators. -/
namespace PySem.W
open Lean Elab Tactic Meta PySem PySem.Calls PyProof.Rows PyProof.V PySem.Spec
section
variable {prog : Program} {w : World} {A : Around} {E : Value → Shared → Prop} {s : Shared} {K : Frag} {x C L f : Addr} {h₀ : Heap} {m : Str → Option Value} {ox : Obj} {od : Option Obj} {b tb : Value}
/-- a slot of object, found in an own class -/
theorem ifBoundB {M : Model} {name : Str} {id : String} {args : List Value} {Q : Option Value → Shared → Prop} (X : K.In s.heap) (I : InstAt s.heap x ox C od) (S : Slot "object" name id) (hs : findIn K (.ref C) name = some (some (.builtin id)))
    (h : wpAny M A (call (.builtin id) (.ref x :: args)) (fun v => Q (some v)) E s) : wpAny M A (callSpecialIfBound? (.ref x) name args) Q E s := by
  simp only [callSpecialIfBound?, bindSpecialIfBound?]
  refine wpAny_holding (wpAny_bind (wpAny_bind (wpAny_bind (I.type.here ((looks_findIn X hs).here ?_)))))
  simp only [S.bind]
  refine wpAny_bind (wpAny_askSetting (wpAny_ite ?_))
  have fin : wpAny M A (call (.builtin id) ([.ref x] ++ args) >>= fun v => pure (some v)) Q E s := wpAny_bind (wpAny_mono h (fun v s' h' => wpAny_pure h') fun _ _ h' => h')
  split
  · exact wpAny_bind (wpAny_pure (wpAny_pure fin))
  · exact wpAny_tryCatch (wpAny_bind (wpAny_pure (wpAny_pure fin)))
/-- the check of object's slot -/
theorem checkObj {M : Model} {id n : String} {rest : List Value} {Q : Unit → Shared → Prop} (X : K.In s.heap) (I : InstAt s.heap x ox C od) (hk : builtinKind id = some .slot) (hs : splitId id = some ("object", n)) (ha : argsOk id ⟨.ref x :: rest, []⟩) (hsub : subIn K (.ref C) (.type "object") = some true) (hq : Q () s) :
    wpAny M A (checkBuiltinCall id ⟨.ref x :: rest, []⟩) Q E s := by
  simp only [checkBuiltinCall, hk, hs]
  refine wpAny_bind ?_
  unfold isInstance
  refine wpAny_bind (I.type.here ((looks_subIn X hsub).here ?_))
  simp only [Bool.not_true, Bool.false_eq_true, if_false]
  first
    | refine wpAny_pure ?_
    | skip
  cases hsig : Manifest.signature? id with
  | none => exact wpAny_pure hq
  | some sig =>
    simp only [argsOk, hsig] at ha
    have h2 : Bind.checkArgs id sig ⟨.ref x :: rest, []⟩ = pure () := ha
    show wpAny M A (Bind.checkArgs id sig ⟨.ref x :: rest, []⟩) Q E _
    rw [h2]; exact wpAny_pure hq
theorem objNe {Q : PySem.Fin → Shared → Prop} (hu : A.units < cLine) (X : K.In s.heap) (I : InstAt s.heap x ox C od) (heq : findIn K (.ref C) "__eq__" = some (some (.ref f))) (hf : isFn K (.ref f) = true)
    (h : wpAny (model prog w) A (call (.ref f) [.ref x, b]) (fun v s' => ∃ k, v = .bool k ∧ Q (.done (.ret (.bool (!k)))) s') E s) : wpAny (model prog w) A (Builtin.«object.__ne__» ⟨[.ref x, b], []⟩) Q E s := by
  unfold Builtin.«object.__ne__»
  repeat (first
    | with_reducible refine wpAny_cRoomFor hu ?_
    | (refine wpAny_bind (m := callSpecialIfBound? (.ref x) (Str.ofString "__eq__") [b]) (ifBound_K X I heq hf (wpAny_mono h (fun r s' hr => by
          obtain ⟨k, rfl, hq⟩ := hr
          repeat (first | exact hq | exact wpAny_pure hq | exact wpAny_truthy_bool hq | (refine wpAny_bind (m := truthy (.bool _)) (wpAny_truthy_bool ?_)) | wp_step)) fun _ _ e => e)))
    | wp_step)
theorem neOwn {Q : Value → Shared → Prop} (hu : A.units + 1 < cLine) (F : Fr h₀ L s.heap m) (X₀ : K.In h₀) (I : InstAt s.heap x ox C od) (hb : Looks (model prog w) s.heap (typeOf b) tb) (hn : notFirst K C tb = true)
    (hne : findIn K (.ref C) "__ne__" = some (some (.builtin "object.__ne__"))) (heq : findIn K (.ref C) "__eq__" = some (some (.ref f))) (hf : isFn K (.ref f) = true) (hsub : subIn K (.ref C) (.type "object") = some true)
    (h : wpAny (model prog w) A.in1 (call (.ref f) [.ref x, b]) (fun v s' => ∃ k, v = .bool k ∧ Q (.bool (!k)) s') E s) : wpAny (model prog w) A (richCompare .NotEq (.ref x) b) Q E s := by
  have X := X₀.keeps F.keep
  have one : wpAny (model prog w) A (tryCompare (.ref x) (cmpInfo .NotEq).2.1 b) (fun r s' => ∃ v, r = some v ∧ Q v s') E s := by
    unfold tryCompare
    refine wpAny_bind (ifBoundB X I PySem.F.cmp_object.ne hne (wpAny_call (codeAny_call_builtin PySem.F.cmp_object.ne.plain PySem.F.cmpEntry_ne ?_)))
    refine checkObj X I PySem.F.cmpKind_ne PySem.F.cmpSplit_ne (PySem.F.cmpArgs_ne _ _) hsub (objNe (A := A.in1) hu X I heq hf (wpAny_mono h (fun v s' hv => ?_) fun _ _ e => e))
    obtain ⟨k, rfl, hq⟩ := hv
    exact ⟨k, rfl, wpAny_pure ⟨_, rfl, hq⟩⟩
  unfold richCompare
  simp only [oneThing_ref]
  refine wpAny_holding (wpAny_bind (wpAny_cRoomFor (Nat.lt_of_succ_lt hu) ?_))
  refine wpAny_bind (I.type.here (wpAny_bind (hb.here ?_)))
  split
  · rename_i q
    have e : subIn K tb (.ref C) = some false := by
      rcases Bool.or_eq_true_iff.mp hn with e | e
      · rw [beq_iff_eq.mp e] at q; simp at q
      · exact beq_iff_eq.mp e
    refine wpAny_bind ((looks_subIn X e).here ?_)
    simp only [Bool.false_eq_true, if_false]
    refine wpAny_bind (wpAny_mono one (fun r s' z => ?_) fun _ _ e => e)
    obtain ⟨v, rfl, hq⟩ := z
    exact wpAny_pure hq
  · refine wpAny_bind (wpAny_pure ?_)
    simp only [Bool.false_eq_true, if_false]
    refine wpAny_bind (wpAny_mono one (fun r s' z => ?_) fun _ _ e => e)
    obtain ⟨v, rfl, hq⟩ := z
    exact wpAny_pure hq
end
end PySem.W
/-! Mo25: isinstance; own methods and operators. -/
namespace Mo
open PySem PySem.Spec PyProof.Rows L2
/-- the built-in type of data -/
def tyU (u : U) (s : S) : Option String := match u with
  | .non => some "NoneType"
  | .bl _ => some "bool"
  | .int _ => some "int"
  | .str _ => some "str"
  | .tup _ => some "tuple"
  | .wt _ => some "tuple"
  | .lst _ => some "list"
  | .scr _ => some "list"
  | .dct false _ => some "dict"
  | .ref i => (match s[i]? with
    | some (.lst _) => some "list"
    | some (.dct _ _) => some "dict"
    | some (.ld false _) => some "dict"
    | _ => none)
  | _ => none
def tyNames : List String := ["NoneType", "bool", "int", "str", "tuple", "list", "dict"]
/-- what must be known of an own class -/
structure OC (K : PySem.W.Frag) (C : Addr) : Prop where
  cl : Cls K C
  ha : PySem.W.findIn K (.ref C) "__class__" = some (some (.builtin "object.__class__"))
  hn : PySem.W.specialIn K (.builtin "object.__class__") "__get__" = some (some (.builtin "getset_descriptor.__get__"))
  htk : PySem.W.takesIn K (.builtin "object.__class__") = some true
  hm : PySem.W.mroIn K C (.type "object") = some true
  kO : ∀ T ∈ tyNames, PySem.W.kitOne K (.type T) (.ref C) = some false
  kS : PySem.W.kitOne K (.ref C) (.ref C) = some true
  kB : ∀ T ∈ tyNames, PySem.W.kitOne K (.ref C) (.type T) = some false
section
variable {K : PySem.W.Frag} {mg : Str → Option Value} {Pr : Addr → Prop} {ρ : List Addr} {s : S} {H : Hp} {u : U} {x : V} {T : String}
theorem tyU.mem (h : tyU u s = some T) : T ∈ tyNames := by
  unfold tyU at h
  split at h <;> first | (cases h; decide) | (cases h; done) | skip
  split at h <;> first | (cases h; decide) | (cases h; done)
theorem tyU.at (r : Rel K mg Pr ρ s H) (hu : UR (Lv Pr ρ s) ρ K mg H u x) (h : tyU u s = some T) : TyX K H x (.type T) := by
  unfold tyU at h
  split at h
  · cases h; cases hu; exact .base .non
  · cases h; cases hu; exact .base (.bl _)
  · cases h; cases hu; exact .base (.int _)
  · cases h; obtain ⟨hu, _⟩ := hu; subst hu; exact .base (.str _)
  · cases h; obtain ⟨a, xs, rfl, h2, _⟩ := hu; exact .base (.tup h2)
  · cases h
    obtain ⟨a, xs, rfl, h2, _⟩ := hu
    rcases h2 with (h2 | ⟨o, h2⟩) | ⟨o, its, n, k1, k2, _⟩
    · exact .base (.tup h2)
    · exact .fTuple h2
    · exact .kTuple k1 k2
  · cases h; obtain ⟨a, xs, rfl, h2, _⟩ := hu; exact .base (.lst h2)
  · cases h; obtain ⟨a, xs, rfl, h2, _⟩ := hu; exact h2.elim (fun ⟨o, h⟩ => .base (.frz h)) fun ⟨o, its, n, k1, k2, _⟩ => .kList k1 k2
  · cases h
    obtain ⟨a, rfl, _, _, h2⟩ := hu
    rcases h2 with ⟨_, ks, h2 | ⟨o, h2⟩, _⟩ | ⟨h0, _⟩
    · exact .base (.dK h2)
    · exact .fDict h2
    · cases h0
  · rename_i i
    obtain ⟨a, h1, rfl⟩ := hu
    split at h
    · rename_i ws e; cases h; obtain ⟨xs, h2, _⟩ := r.ob i _ a e h1; exact .base (.lst h2)
    · rename_i t ws e
      cases h
      obtain ⟨_, h2⟩ := r.ob i _ a e h1
      rcases h2 with ⟨_, ks, h2, _⟩ | ⟨_, ks, h2, _⟩
      · exact .base (.dK h2)
      · exact .base (.dT h2)
    · rename_i ws e
      cases h
      obtain ⟨_, h2⟩ := r.ob i _ a e h1
      rcases h2 with ⟨_, od, ks, h2, _⟩ | ⟨h0, _⟩
      · exact .fDict h2
      · cases h0
    · cases h
  · cases h
theorem OC.ty {cn : Nat} {fs : List (Nat × U)} {C : Addr} (oc : OC K C) (hC : ∀ C', CI K mg cn C' → C' = C) (r : Rel K mg Pr ρ s H) (hu : UR (Lv Pr ρ s) ρ K mg H u x) (h : insOf u s = some (cn, fs)) : TyX K H x (.ref C) := by
  obtain ⟨a, C', dx, fV, rfl, h2, h3, _⟩ := insOf.at r hu h
  have := hC C' h3
  subst this
  exact .base (.ins h2 h3.cl oc.ha oc.hn oc.htk oc.hm)
end
theorem CI.uniq {K : PySem.W.Frag} {mg : Str → Option Value} {cn : Nat} {C C' : Addr} (h : CI K mg cn C) (h' : CI K mg cn C') : C' = C := by
  have := h'.mg.symm.trans h.mg
  cases this; rfl
/-- one built-in type's answer -/
def isT (t T : String) : Bool := t == T || (t == "bool" && T == "int")
theorem isT_kit {K : PySem.W.Frag} {t T : String} (h1 : t ∈ tyNames) (h2 : T ∈ tyNames) : PySem.W.kitOne K (.type t) (.type T) = some (isT t T) := by
  refine kit_ty ?_
  have : ∀ t ∈ tyNames, ∀ T ∈ tyNames, kitB t T = some (isT t T) := by decide +kernel
  exact this t h1 T h2
/-- isinstance(u, T), T a built-in type -/
def gIsB (cs : List Nat) (T : String) (u : U) (s : S) : G0 := match tyU u s with
  | some t => some (.bl (isT t T), s)
  | none => match insOf u s with
    | some (cn, _) => if cs.contains cn = true then some (.bl false, s) else none
    | none => none
/-- .. T an own class -/
def gIsC (cn : Nat) (u : U) (s : S) : G0 := match tyU u s with
  | some _ => some (.bl false, s)
  | none => match insOf u s with
    | some (cn', _) => if (cn' == cn) = true then some (.bl true, s) else none
    | none => none
section
variable {X : Cx} {W : WX} {e : Expr} {m : EM} {p p2 pos : Pos} {x : Str} {T : String} {cs : List Nat}
theorem gIsB.at {Pr : Addr → Prop} {ρ : List Addr} {s : S} {H : Hp} {u : U} {v : V} {Q : VK} (r : Rel X.K X.mg Pr ρ s H) (hu : UR (Lv Pr ρ s) ρ X.K X.mg H u v) (hT : T ∈ tyNames) (hoc : ∀ cn ∈ cs, ∀ C, CI X.K X.mg cn C → OC X.K C) (q : OkG X.K X.mg Pr ρ s H Q (gIsB cs T u s)) : rIsi X.K [v, .ty T] H Q := by
  unfold gIsB at q
  cases e : tyU u s with
  | some t =>
    simp only [e] at q
    exact ⟨v, _, _, _, _, rfl, .ty T, tyU.at r hu e, isT_kit (tyU.mem e) hT, q.here r rfl⟩
  | none =>
    simp only [e] at q
    cases e2 : insOf u s with
    | none => simp only [e2] at q; exact q.elim
    | some pr =>
      obtain ⟨cn, fs⟩ := pr
      simp only [e2] at q
      by_cases hc : cs.contains cn = true
      · rw [if_pos hc] at q
        obtain ⟨a, C, dx, fV, h1, h2, h3, _⟩ := insOf.at r hu e2
        have oc := hoc cn (by simpa using hc) C h3
        exact ⟨v, _, _, _, _, rfl, .ty T, oc.ty (fun C' h => h3.uniq h) r hu e2, oc.kB T hT, q.here r rfl⟩
      · rw [if_neg hc] at q; exact q.elim
theorem gIsC.at {Pr : Addr → Prop} {ρ : List Addr} {s : S} {H : Hp} {u : U} {v : V} {Q : VK} {cn : Nat} {C : Addr} (r : Rel X.K X.mg Pr ρ s H) (hu : UR (Lv Pr ρ s) ρ X.K X.mg H u v) (hc : CI X.K X.mg cn C) (oc : OC X.K C) (q : OkG X.K X.mg Pr ρ s H Q (gIsC cn u s)) : rIsi X.K [v, .ref C] H Q := by
  unfold gIsC at q
  cases e : tyU u s with
  | some t =>
    simp only [e] at q
    exact ⟨v, _, _, _, _, rfl, .own C, tyU.at r hu e, oc.kO t (tyU.mem e), q.here r rfl⟩
  | none =>
    simp only [e] at q
    cases e2 : insOf u s with
    | none => simp only [e2] at q; exact q.elim
    | some pr =>
      obtain ⟨cn', fs⟩ := pr
      simp only [e2] at q
      by_cases h : (cn' == cn) = true
      · rw [if_pos h] at q
        have h : cn' = cn := by simpa using h
        subst h
        exact ⟨v, _, _, _, _, rfl, .own C, oc.ty (fun C' h => hc.uniq h) r hu e2, oc.kS, q.here r rfl⟩
      · rw [if_neg h] at q; exact q.elim
theorem me_isB {tn : Str} (hg : Gl X "isinstance") (hm : X.mg "isinstance" = none) (hv : bootBuiltins "isinstance" = some (.builtin "isinstance")) (hg2 : Gl X tn) (hm2 : X.mg tn = none) (hv2 : bootBuiltins tn = some (.type T)) (hoc : ∀ cn ∈ cs, ∀ C, CI X.K X.mg cn C → OC X.K C) (he : PE X e (TM X.K X.mg W m)) (hT : T ∈ tyNames := by decide)
    (hn2 : tn ≠ "__name__" := by decide) (hd2 : (tn == ("__debug__" : Str)) = false := by decide) (hs1 : starEach [e, .Name tn p2] X.env = (false, eval e X.env) :: starEach [.Name tn p2] X.env := by rfl) (hs2 : starEach [.Name tn p2] X.env = (false, eval (.Name tn p2) X.env) :: starEach [] X.env := by rfl)
    (hpl : (backTo pos (starEach [.Name tn p2] X.env)).any (·.1) = false := by rfl) :
    PE X (.Call (.Name "isinstance" p) [e, .Name tn p2] [] pos) (TM X.K X.mg W (eUn (gIsB cs T) m)) := by
  refine PE.imp (pe_callB call_isi hg hm hv (pa_cons he (pa_cons (pe_bltn (v := .ty T) hg2 hm2 hv2 rfl hn2 hd2) pa_nil hs2) hs1) (he := hs1) (hpl := hpl)) fun σ H Q q => ?_
  obtain ⟨Pr, ρ, l, s, r, lr, q⟩ := TM.then (k := fun u l s => liftG (gIsB cs T u s)) q
  refine ⟨Pr, ρ, l, s, r, lr, OkA.mono q ?_⟩
  rintro v H1 ⟨Pr1, ρ1, l1, s1, u, r1, lr1, hu, hk⟩
  exact gIsB.at r1 hu hT hoc (OkG.of hk)
theorem me_isC {tn : Str} {cn : Nat} {C : Addr} (hg : Gl X "isinstance") (hm : X.mg "isinstance" = none) (hv : bootBuiltins "isinstance" = some (.builtin "isinstance")) (hg2 : Gl X tn) (hc : CI X.K X.mg cn C) (oc : OC X.K C) (htn : tn = nm cn) (he : PE X e (TM X.K X.mg W m))
    (hd2 : (tn == ("__debug__" : Str)) = false := by decide) (hs1 : starEach [e, .Name tn p2] X.env = (false, eval e X.env) :: starEach [.Name tn p2] X.env := by rfl) (hs2 : starEach [.Name tn p2] X.env = (false, eval (.Name tn p2) X.env) :: starEach [] X.env := by rfl)
    (hpl : (backTo pos (starEach [.Name tn p2] X.env)).any (·.1) = false := by rfl) :
    PE X (.Call (.Name "isinstance" p) [e, .Name tn p2] [] pos) (TM X.K X.mg W (eUn (gIsC cn) m)) := by
  refine PE.imp (pe_callB call_isi hg hm hv (pa_cons he (pa_cons (pe_glob (v := .ref C) hg2 (by rw [htn]; exact hc.mg) rfl hd2) pa_nil hs2) hs1) (he := hs1) (hpl := hpl)) fun σ H Q q => ?_
  obtain ⟨Pr, ρ, l, s, r, lr, q⟩ := TM.then (k := fun u l s => liftG (gIsC cn u s)) q
  refine ⟨Pr, ρ, l, s, r, lr, OkA.mono q ?_⟩
  rintro v H1 ⟨Pr1, ρ1, l1, s1, u, r1, lr1, hu, hk⟩
  exact gIsC.at r1 hu hc oc (OkG.of hk)
/-- isinstance(u, (T1, T2)), built-in types -/
def gIsBs (cs : List Nat) (Ts : List String) (u : U) (s : S) : G0 := match tyU u s with
  | some t => some (.bl (Ts.any fun T => isT t T), s)
  | none => match insOf u s with
    | some (cn, _) => if cs.contains cn = true then some (.bl false, s) else none
    | none => none
theorem kitAny_ty {K : PySem.W.Frag} {t : Value} {f : String → Bool} : ∀ {Ts : List String}, (∀ T ∈ Ts, PySem.W.kitOne K t (.type T) = some (f T)) → PySem.W.kitAny K t (Ts.map Value.type) = some (Ts.any f)
  | [], _ => kitAny_nil
  | T :: Ts, h => by
    have h1 := h T List.mem_cons_self
    have ih := kitAny_ty fun T' hT => h T' (List.mem_cons_of_mem _ hT)
    rw [List.map_cons, List.any_cons]
    refine kitAny_cons h1 (fun hf => ?_) fun hf => ?_
    · rw [hf, Bool.false_or]; exact ih
    · rw [hf, Bool.true_or]
theorem me_isBs {tn1 tn2 : Str} {T1 T2 : String} {k : Nat} {p3 p4 : Pos} (hg : Gl X "isinstance") (hm : X.mg "isinstance" = none) (hv : bootBuiltins "isinstance" = some (.builtin "isinstance")) (hg1 : Gl X tn1) (hm1 : X.mg tn1 = none) (hv1 : bootBuiltins tn1 = some (.type T1)) (hg2 : Gl X tn2) (hm2 : X.mg tn2 = none) (hv2 : bootBuiltins tn2 = some (.type T2)) (hoc : ∀ cn ∈ cs, ∀ C, CI X.K X.mg cn C → OC X.K C) (he : PE X e (TM X.K X.mg W m)) (hT1 : T1 ∈ tyNames := by decide) (hT2 : T2 ∈ tyNames := by decide)
    (hn1 : tn1 ≠ "__name__" := by decide) (hd1 : (tn1 == ("__debug__" : Str)) = false := by decide) (hn2 : tn2 ≠ "__name__" := by decide) (hd2 : (tn2 == ("__debug__" : Str)) = false := by decide) (hs1 : starEach [e, .Tuple [.Name tn1 p2, .Name tn2 p3] k p4] X.env = (false, eval e X.env) :: starEach [.Tuple [.Name tn1 p2, .Name tn2 p3] k p4] X.env := by rfl)
    (hs2 : starEach [.Tuple [.Name tn1 p2, .Name tn2 p3] k p4] X.env = (false, eval (.Tuple [.Name tn1 p2, .Name tn2 p3] k p4) X.env) :: starEach [] X.env := by rfl) (hs3 : starEach [.Name tn1 p2, .Name tn2 p3] X.env = (false, eval (.Name tn1 p2) X.env) :: starEach [.Name tn2 p3] X.env := by rfl) (hs4 : starEach [.Name tn2 p3] X.env = (false, eval (.Name tn2 p3) X.env) :: starEach [] X.env := by rfl)
    (hpl : (backTo pos (starEach [.Tuple [.Name tn1 p2, .Name tn2 p3] k p4] X.env)).any (·.1) = false := by rfl) :
    PE X (.Call (.Name "isinstance" p) [e, .Tuple [.Name tn1 p2, .Name tn2 p3] k p4] [] pos) (TM X.K X.mg W (eUn (gIsBs cs [T1, T2]) m)) := by
  refine PE.imp (pe_callB call_isiT hg hm hv (pa_cons he (pa_cons (pe_tup (pa_cons (pe_bltn (v := .ty T1) hg1 hm1 hv1 rfl hn1 hd1) (pa_cons (pe_bltn (v := .ty T2) hg2 hm2 hv2 rfl hn2 hd2) pa_nil hs4) hs3)) pa_nil hs2) hs1) (he := hs1) (hpl := hpl)) fun σ H Q q => ?_
  obtain ⟨Pr, ρ, l, s, r, lr, q⟩ := TM.then (k := fun u l s => liftG (gIsBs cs [T1, T2] u s)) q
  refine ⟨Pr, ρ, l, s, r, lr, OkA.mono q ?_⟩
  rintro v H1 ⟨Pr1, ρ1, l1, s1, u, r1, lr1, hu, hk⟩
  refine ⟨by show 2 ≤ sizeLine; decide, fun tp htp => ?_⟩
  obtain ⟨e2, r2, _⟩ := r1.fresh (.tup [.ty T1, .ty T2]) htp
  have hu2 := UR.ext r1 e2 u v hu
  have q := OkG.of (OkA.ext e2 hk)
  have mem : ∀ T ∈ [T1, T2], T ∈ tyNames := fun T hT => by
    rcases List.mem_cons.mp hT with e | hT
    · rw [e]; exact hT1
    · rw [List.mem_singleton.mp hT]; exact hT2
  show rIsiT X.K [v, .ref tp] (upd H1 tp (.tup [.ty T1, .ty T2])) Q
  unfold gIsBs at q
  cases e : tyU u s1 with
  | some t =>
    simp only [e] at q
    exact ⟨v, tp, _, _, [T1, T2].map Value.type, _, rfl, upd_same, .cons (.ty T1) (.cons (.ty T2) .nil), tyU.at r2 hu2 e, kitAny_ty fun T hT => isT_kit (tyU.mem e) (mem T hT), q.here r2 rfl⟩
  | none =>
    simp only [e] at q
    cases e2 : insOf u s1 with
    | none => simp only [e2] at q; exact q.elim
    | some pr =>
      obtain ⟨cn, fs⟩ := pr
      simp only [e2] at q
      by_cases hc : cs.contains cn = true
      · rw [if_pos hc] at q
        obtain ⟨a, C, dx, fV, h1, h2, h3, _⟩ := insOf.at r2 hu2 e2
        have oc := hoc cn (by simpa using hc) C h3
        exact ⟨v, tp, _, _, [T1, T2].map Value.type, _, rfl, upd_same, .cons (.ty T1) (.cons (.ty T2) .nil), oc.ty (fun C' h => h3.uniq h) r2 hu2 e2, kitAny_ty (f := fun _ => false) fun T hT => oc.kB T (mem T hT), by simpa using q.here r2 rfl⟩
      · rw [if_neg hc] at q; exact q.elim
end
end Mo
/-! Mo26: own methods; ==, !=, in, not in, len by own defs. -/
namespace Mo
open PySem PySem.Spec PyProof.Rows L2
/-- a method by the classes that have it -/
abbrev Tbl := List (Nat × Fn)
def lkT (cn : Nat) : Tbl → Option Fn
  | [] => none
  | (c, f) :: r => if (c == cn) = true then some f else lkT cn r
structure MDef (P : Program) (w : World) (K : PySem.W.Frag) (mg : Str → Option Value) (base : Heap) (k : Nat) (m : Str) (n : Nat) (t : Tbl) : Prop where
  ex : ∀ cn fm, lkT cn t = some fm → ∀ C, CI K mg cn C → ∃ f, DefAt P w K mg base k f n fm ∧ Meth K C m f
section
variable {P : Program} {w : World} {K : PySem.W.Frag} {mg : Str → Option Value} {base : Heap} {k n cn : Nat} {m : Str} {fm : Fn} {t : Tbl}
theorem MDef.nil : MDef P w K mg base k m n [] := ⟨fun cn fm h => by cases h⟩
theorem MDef.cons (h1 : ∀ C, CI K mg cn C → ∃ f, DefAt P w K mg base k f n fm ∧ Meth K C m f) (h : MDef P w K mg base k m n t) : MDef P w K mg base k m n ((cn, fm) :: t) := ⟨fun cn' fm' e => by
  unfold lkT at e
  by_cases hc : (cn == cn') = true
  · rw [if_pos hc] at e
    cases e
    have hc : cn = cn' := by simpa using hc
    subst hc
    exact h1
  · rw [if_neg hc] at e
    exact h.ex cn' fm' e⟩
end
/-- an own method called with its values -/
def ownC (t : Tbl) : Fn := fun us s => match us with
  | u :: r => (match insOf u s with
    | some (cn, _) => (match lkT cn t with
      | some fm => fm (u :: r) s
      | none => .no)
    | none => .no)
  | [] => .no
def eMeth (mc : Nat) (t : Tbl) (mo : EM) (a : AM) : EM := fun l s => (mo l s).bind fun u s1 => match insOf u s1 with
  | some (cn, fs) => if (fldGet mc fs).isNone = true then (match lkT cn t with
    | some fm => (a l s1).bind fun us s2 => fm (u :: us) s2
    | none => .no) else .no
  | none => .no
section
variable {X : Cx} {W : WX} {e o b : Expr} {es : List Expr} {m m1 m2 mo : EM} {a : AM} {pos apos : Pos} {k n : Nat} {x mt : Str} {fm : Fn} {f : Addr} {t : Tbl}
theorem me_meth {pl : Sem Bool} (mc : Nat) (M : MDef X.prog X.w X.K X.mg X.base k mt (n + 1) t) (hr : Room k X.A) (tk : Takes X W) (he : PE X o (TM X.K X.mg W mo)) (ha : PA X (e :: es) (TL X.K X.mg W a)) (hal : ∀ l s us s1, a l s = .ok us s1 → us.length = n) (hz : mt = nm mc := by decide +kernel)
    (hst : starEach (e :: es) X.env = (false, eval e X.env) :: starEach es X.env := by rfl) (hpl : (backTo pos (starEach es X.env)).any (·.1) = false := by rfl)
    (ht : eval (.Call (.Attribute o mt apos) (e :: es) [] pos) X.env = (do
      let ov ← eval o X.env
      standAt apos.atName
      let (f, first) ← holding [ov] (getMethod ov mt pl)
      callWith pos f first (backTo pos (starEach (e :: es) X.env)) (backToKw pos (keywordEach [] X.env))) := by rfl) :
    PE X (.Call (.Attribute o mt apos) (e :: es) [] pos) (TM X.K X.mg W (eMeth mc t mo a)) := by
  refine ⟨fun pins s σ H Q I h => ?_⟩
  have h1 := TM.then (m := mo) (k := fun u l s1 => match insOf u s1 with
    | some (cn, fs) => if (fldGet mc fs).isNone = true then (match lkT cn t with
      | some fm => (a l s1).bind fun us s2 => fm (u :: us) s2
      | none => .no) else .no
    | none => .no) h
  refine PySem.W.methodCall_KW (pl := pl) (thn (he.run pins s σ H _ I h1) fun v s1 ⟨y, H1, I1, rx, Pr, ρ, l, st, u, r, lr, hu, q⟩ => ?_) ht
  cases e1 : insOf u st with
  | none => simp only [e1] at q; exact q.elim
  | some p =>
    obtain ⟨cn, fs⟩ := p
    simp only [e1] at q
    by_cases hf : (fldGet mc fs).isNone = true
    · rw [if_pos hf] at q
      cases e2 : lkT cn t with
      | none => simp only [e2] at q; exact q.elim
      | some fm =>
        simp only [e2] at q
        obtain ⟨ad, C, dx, fV, g1, g2, g3, g4, g5⟩ := insOf.at r hu e1
        subst g1
        obtain rfl : v = Value.ref ad := rx
        obtain ⟨f, D, hm⟩ := M.ex cn fm e2 C g3
        refine getmeth_ok I1 g2 g3.cl hm (by rw [hz]; exact URf.none g4 (by simpa using hf)) ?_
        have hq : TL X.K X.mg W a σ H1 (fun vs H2 => SpM X.K X.mg (n + 1) fm (.ref ad :: vs) H2 Q (fun c d H' => W c d σ H')) := by
          refine ⟨Pr, ρ, l, st, r, lr, ?_⟩
          cases e0 : a l st with
          | no => rw [e0] at q; exact q
          | ex x s1 => rw [e0] at q; exact q
          | ok us s1 =>
            rw [e0] at q
            exact fun ρ1 H2 xs e1 r1 hx => ⟨by rw [List.length_cons, URs.length hx, hal l st us s1 e0], Pr, ρ1, s1, u :: us, r1, ⟨_, _, rfl, UR.ext r e1 u _ hu, hx⟩, OkA.ext e1 q⟩
        refine PySem.W.callWith_K (first := [.ref ad]) (h₀ := X.base) I.ok.mod.kin hm.kp (thn (ha.run pos pins s1 σ H1 _ I1 hq) fun us s2 ⟨vs, H2, I2, rv, q2⟩ => ⟨I2.kIn, ?_⟩) hst hpl
        exact D.run (us := .ref ad :: us) (vs := .ref ad :: vs) hr rfl tk I2 (.cons rfl rv) q2
    · rw [if_neg hf] at q; exact q.elim
def eMeth0 (mc : Nat) (t : Tbl) (mo : EM) : EM := fun l s => (mo l s).bind fun u s1 => match insOf u s1 with
  | some (cn, fs) => if (fldGet mc fs).isNone = true then (match lkT cn t with
    | some fm => fm [u] s1
    | none => .no) else .no
  | none => .no
theorem me_meth0 {pl : Sem Bool} (mc : Nat) (M : MDef X.prog X.w X.K X.mg X.base k mt 1 t) (hr : Room k X.A) (tk : Takes X W) (he : PE X o (TM X.K X.mg W mo)) (hz : mt = nm mc := by decide +kernel)
    (ht : eval (.Call (.Attribute o mt apos) [] [] pos) X.env = (do
      let ov ← eval o X.env
      standAt apos.atName
      let (f, first) ← holding [ov] (getMethod ov mt pl)
      callWith pos f first (backTo pos (starEach [] X.env)) (backToKw pos (keywordEach [] X.env))) := by rfl) :
    PE X (.Call (.Attribute o mt apos) [] [] pos) (TM X.K X.mg W (eMeth0 mc t mo)) := by
  refine ⟨fun pins s σ H Q I h => ?_⟩
  have h1 := TM.then (m := mo) (k := fun u l s1 => match insOf u s1 with
    | some (cn, fs) => if (fldGet mc fs).isNone = true then (match lkT cn t with
      | some fm => fm [u] s1
      | none => .no) else .no
    | none => .no) h
  refine PySem.W.methodCall_KW (pl := pl) (thn (he.run pins s σ H _ I h1) fun v s1 ⟨y, H1, I1, rx, Pr, ρ, l, st, u, r, lr, hu, q⟩ => ?_) ht
  cases e1 : insOf u st with
  | none => simp only [e1] at q; exact q.elim
  | some p =>
    obtain ⟨cn, fs⟩ := p
    simp only [e1] at q
    by_cases hf : (fldGet mc fs).isNone = true
    · rw [if_pos hf] at q
      cases e2 : lkT cn t with
      | none => simp only [e2] at q; exact q.elim
      | some fm =>
        simp only [e2] at q
        obtain ⟨ad, C, dx, fV, g1, g2, g3, g4, g5⟩ := insOf.at r hu e1
        subst g1
        obtain rfl : v = Value.ref ad := rx
        obtain ⟨f, D, hm⟩ := M.ex cn fm e2 C g3
        refine getmeth_ok I1 g2 g3.cl hm (by rw [hz]; exact URf.none g4 (by simpa using hf)) ?_
        refine PySem.W.callWith_K0 (first := [.ref ad]) I1.kIn hm.kp (D.run (us := [.ref ad]) (vs := [.ref ad]) hr rfl tk I1 (.cons rfl .nil) ?_)
        exact ⟨rfl, Pr, ρ, st, [u], r, ⟨_, _, rfl, hu, rfl⟩, q⟩
    · rw [if_neg hf] at q; exact q.elim
end
/-! ### operators -/
/-- operations that may let exceptions out -/
def eOpR (g : U → U → S → R U) (m1 m2 : EM) : EM := fun l s => (m1 l s).bind fun u s1 => (m2 l s1).bind fun v s2 => g u v s2
/-- classes that stand on the right -/
def rtOk (cs : List Nat) (u : U) (s : S) : Bool := match tyU u s with
  | some _ => true
  | none => match insOf u s with
    | some (cn, _) => cs.contains cn
    | none => false
def ownEq (t : Tbl) (cs : List Nat) (u v : U) (s : S) : R U := if rtOk cs v s = true then ownC t [u, v] s else .no
def ownNe (t : Tbl) (cs : List Nat) (u v : U) (s : S) : R U := if rtOk cs v s = true then (ownC t [u, v] s).bind fun x s1 => match x with
  | .bl b => .ok (.bl (!b)) s1
  | _ => .no else .no
/-- the container is the second one -/
def ownIn (t : Tbl) (u v : U) (s : S) : R U := (ownC t [v, u] s).bind fun x s1 => match x with
  | .bl b => .ok (.bl b) s1
  | _ => .no
def ownNotIn (t : Tbl) (u v : U) (s : S) : R U := (ownC t [v, u] s).bind fun x s1 => match x with
  | .bl b => .ok (.bl (!b)) s1
  | _ => .no
structure CmpOk (K : PySem.W.Frag) (mg : Str → Option Value) (t : Tbl) (cs : List Nat) : Prop where
  ty : ∀ cn fm, lkT cn t = some fm → ∀ C, CI K mg cn C → ∀ T ∈ tyNames, PySem.W.notFirst K C (.type T) = true
  own : ∀ cn fm, lkT cn t = some fm → ∀ C, CI K mg cn C → ∀ cn' ∈ cs, ∀ C', CI K mg cn' C' → PySem.W.notFirst K C (.ref C') = true
structure NeOk (K : PySem.W.Frag) (mg : Str → Option Value) (t : Tbl) : Prop where
  ne : ∀ cn fm, lkT cn t = some fm → ∀ C, CI K mg cn C → PySem.W.findIn K (.ref C) "__ne__" = some (some (.builtin "object.__ne__")) ∧ PySem.W.subIn K (.ref C) (.type "object") = some true
section
variable {X : Cx} {W : WX} {e o b : Expr} {m1 m2 : EM} {pos : Pos} {k : Nat} {t : Tbl} {cs : List Nat}
theorem rtOk.looks {pins : List (Addr × Obj)} {σ : L2.St} {H : Hp} {sh : Shared} {Pr : Addr → Prop} {ρ : List Addr} {s : S} {u : U} {x : V} {v : Value} {C : Addr} {M : Model} {cn : Nat} {fm : Fn} (I : L2.Inv X pins σ H sh) (r : Rel X.K X.mg Pr ρ s H) (hu : UR (Lv Pr ρ s) ρ X.K X.mg H u x) (rx : RelV x v)
    (c : CmpOk X.K X.mg t cs) (hc : CI X.K X.mg cn C) (hl : lkT cn t = some fm) (h : rtOk cs u s = true) : ∃ tb, PySem.W.Looks M sh.heap (typeOf v) tb ∧ PySem.W.notFirst X.K C tb = true := by
  unfold rtOk at h
  cases e : tyU u s with
  | some T =>
    obtain ⟨P, kx, hp, _⟩ := kit_of I rx (tyU.at r hu e)
    exact ⟨_, kx.ty M _ I.kIn hp, c.ty cn fm hl C hc T (tyU.mem e)⟩
  | none =>
    simp only [e] at h
    cases e2 : insOf u s with
    | none => simp only [e2] at h; cases h
    | some p =>
      obtain ⟨cn', fs⟩ := p
      simp only [e2] at h
      obtain ⟨ad, C', dx, fV, g1, g2, g3, g4, g5⟩ := insOf.at r hu e2
      subst g1
      obtain rfl : v = Value.ref ad := rx
      obtain ⟨mA, J, _⟩ := ins_get I.hok g2
      obtain ⟨od, J, _⟩ := J.look
      exact ⟨_, J.type, c.own cn fm hl C hc cn' (by simpa using h) C' g3⟩

def Op2R (X : Cx) (W : WX) (f : Value → Value → Sem Value) (g : U → U → S → R U) : Prop :=
  ∀ (pins : List (Addr × Obj)) (sh : Shared) (σ : L2.St) (H : Hp) (Pr : Addr → Prop) (ρ : List Addr) (s : S) (x y : V) (v w : Value) (u u' : U) (Q : VK), Inv X pins σ H sh → Rel X.K X.mg Pr ρ s H → UR (Lv Pr ρ s) ρ X.K X.mg H u x → UR (Lv Pr ρ s) ρ X.K X.mg H u' y → RelV x v → RelV y w →
    OkA (rU X.K X.mg) X.K X.mg Pr ρ s H Q (wX X.K X.mg Pr fun c d H' => W c d σ H') (g u u' s) → wpAny (model X.prog X.w) X.A (f v w) (EP X pins σ Q) X.xe sh
theorem me_cmpR {op : CmpOp} {g : U → U → S → R U} (ho : Op2R X W (compareOp op) g) (ha : PE X e (TM X.K X.mg W m1)) (hb : PE X b (TM X.K X.mg W m2)) (hm : behindInMarks op b = false) : PE X (.Compare e [op] [b] pos) (TM X.K X.mg W (eOpR g m1 m2)) := by
  refine ⟨fun pins s σ H Q I h => ?_⟩
  exact wpAny_Compare1 (binT ha hb I (TM.two h) fun v w s2 x y H2 I2 rx ry ⟨Pr, ρ, st, u, u', r, hu, hu', q⟩ => ho pins s2 σ H2 Pr ρ st x y v w u u' Q I2 r hu hu' rx ry q) hm
theorem mt_cmpR {op : CmpOp} {g : U → U → S → R U} (ho : Op2R X W (compareOp op) g) (ha : PE X e (TM X.K X.mg W m1)) (hb : PE X b (TM X.K X.mg W m2)) (hm : behindInMarks op b = false) : PT X (.Compare e [op] [b] pos) (TB X.K X.mg W (mB (eOpR g m1 m2))) := by
  refine ⟨fun pins s σ H Q I h => ?_⟩
  have h := TM.two (TB.of h)
  refine wpAny_isTrue_Compare1 (thn (ha.run pins s σ H _ I h) fun v s1 ⟨x, H1, I1, r1, q1⟩ => thn (hb.run pins s1 σ H1 _ I1 q1) fun w s2 ⟨y, H2, I2, r2, Pr, ρ, st, u, u', r, hu, hu', q2⟩ =>
    thn (ho pins s2 σ H2 Pr ρ st x y v w u u' _ I2 r hu hu' r1 r2 q2) fun c s3 ⟨z, H3, I3, r3, k, e, q3⟩ => ?_) hm
  subst e
  cases r3
  exact wpAny_truthy_bool ⟨H3, I3, q3⟩
theorem notNI {P : Value → Shared → Prop} {z : V} {v : Value} {s' : Shared} (r : RelV z v) (h : P v s') : PySem.W.CmpBack P v s' := by
  cases v with
  | notImplemented => exact absurd r (by cases z <;> exact fun q => by first | exact (nomatch q) | (obtain ⟨t, q⟩ := q; exact (nomatch q)))
  | _ => exact h
/-- an own method runs at an instance -/
theorem ownC.at {mt : Str} {n : Nat} {A : Around} {pins : List (Addr × Obj)} {sh : Shared} {σ : L2.St} {H : Hp} {Pr : Addr → Prop} {ρ : List Addr} {s : S} {u : U} {x : V} {v : Value} {us : List U} {xs : List V} {vs : List Value} {Q : VK} (M : MDef X.prog X.w X.K X.mg X.base k mt n t) (hr : Room k A) (hf : A.frames = X.A.frames) (tk : Takes X W) (hn : us.length + 1 = n)
    (I : L2.Inv X pins σ H sh) (r : Rel X.K X.mg Pr ρ s H) (hu : UR (Lv Pr ρ s) ρ X.K X.mg H u x) (hus : URs (Lv Pr ρ s) ρ X.K X.mg H us xs) (rx : RelV x v) (rxs : Vals xs vs)
    (q : OkA (rU X.K X.mg) X.K X.mg Pr ρ s H Q (wX X.K X.mg Pr fun c d H' => W c d σ H') (ownC t (u :: us) s)) :
    ∃ ad C dx fV f m ox od cn fm, v = .ref ad ∧ H ad = some (.ins C dx fV) ∧ CI X.K X.mg cn C ∧ lkT cn t = some fm ∧ Meth X.K C mt f ∧ PySem.W.InstAt sh.heap ad ox C od ∧ Fr X.base X.env.locals sh.heap m ∧
      wpAny (model X.prog X.w) A (call (.ref f) (.ref ad :: vs)) (EP X pins σ Q) X.xe sh := by
  unfold ownC at q
  dsimp only at q
  cases e1 : insOf u s with
  | none => simp only [e1] at q; exact q.elim
  | some p =>
    obtain ⟨cn, fs⟩ := p
    simp only [e1] at q
    cases e2 : lkT cn t with
    | none => simp only [e2] at q; exact q.elim
    | some fm =>
      simp only [e2] at q
      obtain ⟨ad, C, dx, fV, g1, g2, g3, g4, g5⟩ := insOf.at r hu e1
      subst g1
      obtain rfl : v = Value.ref ad := rx
      obtain ⟨f, D, hm⟩ := M.ex cn fm e2 C g3
      obtain ⟨mA, J, _⟩ := ins_get I.hok g2
      obtain ⟨od, J, _⟩ := J.look
      obtain ⟨m, hF⟩ := I.fr
      refine ⟨ad, C, dx, fV, f, m, _, _, cn, fm, rfl, g2, g3, e2, hm, J, hF, ?_⟩
      exact D.run (us := .ref ad :: vs) (vs := .ref ad :: xs) hr hf tk I (.cons rfl rxs) ⟨by rw [List.length_cons, URs.length hus]; exact hn, Pr, ρ, s, u :: us, r, ⟨_, _, rfl, hu, hus⟩, q⟩
theorem o_eqR (M : MDef X.prog X.w X.K X.mg X.base k "__eq__" 2 t) (c : CmpOk X.K X.mg t cs) (hr : Room k X.A) (tk : Takes X W) : Op2R X W (compareOp .Eq) (ownEq t cs) := by
  intro pins sh σ H Pr ρ s x y v w u u' Q I r hu hu' rx ry q
  unfold ownEq at q
  by_cases h : rtOk cs u' s = true
  · rw [if_pos h] at q
    obtain ⟨ad, C, dx, fV, f, m, ox, od, cn, fm, rfl, g1, g2, g3, g4, J, hF, q⟩ := ownC.at M hr rfl tk rfl I r hu (us := [u']) (xs := [y]) ⟨_, _, rfl, hu', rfl⟩ rx (.cons ry .nil) q
    obtain ⟨tb, lo, nf⟩ := rtOk.looks (M := model X.prog X.w) I r hu' ry c g2 g3 h
    exact PySem.W.cmp_ofEq (PySem.W.cmp_K hr.units0 hF I.ok.mod.kin J lo nf g4.at_ g4.fn (wpAny_mono q (fun v s' z => by
      obtain ⟨z, H', I', rz, hz⟩ := z
      exact notNI rz ⟨z, H', I', rz, hz⟩) fun _ _ e => e))
  · rw [if_neg h] at q; exact q.elim
/-- a truth value of an own def, turned -/
theorem OkA.flip {K : PySem.W.Frag} {mg : Str → Option Value} {Pr : Addr → Prop} {ρ : List Addr} {s : S} {H : Hp} {Q : VK} {W : XV → List Addr → S → Hp → Prop} {r : R U} {f : Bool → Bool} (h : OkA (rU K mg) K mg Pr ρ s H Q W (r.bind fun x s1 => match x with
    | .bl b => .ok (.bl (f b)) s1
    | _ => .no)) : OkA (rU K mg) K mg Pr ρ s H (fun x H1 => ∃ b, x = .bl b ∧ Q (.bl (f b)) H1) W r := by
  cases r with
  | ok u s' =>
    cases u with
    | bl b => exact fun ρ' H' x e r hx => ⟨b, hx, h ρ' H' _ e r rfl⟩
    | _ => exact h.elim
  | ex x s' => exact h
  | no => exact h
theorem o_neR (M : MDef X.prog X.w X.K X.mg X.base k "__eq__" 2 t) (c : CmpOk X.K X.mg t cs) (ne : NeOk X.K X.mg t) (hr : Room (k + 1) X.A) (tk : Takes X W) : Op2R X W (compareOp .NotEq) (ownNe t cs) := by
  intro pins sh σ H Pr ρ s x y v w u u' Q I r hu hu' rx ry q
  unfold ownNe at q
  by_cases h : rtOk cs u' s = true
  · rw [if_pos h] at q
    obtain ⟨ad, C, dx, fV, f, m, ox, od, cn, fm, rfl, g1, g2, g3, g4, J, hF, q⟩ := ownC.at (A := X.A.in1) M hr.in1 rfl tk rfl I r hu (us := [u']) (xs := [y]) ⟨_, _, rfl, hu', rfl⟩ rx (.cons ry .nil) (OkA.flip (f := fun b => !b) q)
    obtain ⟨tb, lo, nf⟩ := rtOk.looks (M := model X.prog X.w) I r hu' ry c g2 g3 h
    obtain ⟨n1, n2⟩ := ne.ne cn fm g3 C g2
    refine PySem.W.cmp_ofNotEq (PySem.W.neOwn (by have := hr.un; omega) hF I.ok.mod.kin J lo nf n1 g4.at_ g4.fn n2 (wpAny_mono q (fun v s' z => ?_) fun _ _ e => e))
    obtain ⟨z, H', I', rz, b, hb, hz⟩ := z
    subst hb
    cases rz
    exact ⟨b, rfl, .bl (!b), H', I', rfl, hz⟩
  · rw [if_neg h] at q; exact q.elim
theorem o_inR (M : MDef X.prog X.w X.K X.mg X.base k "__contains__" 2 t) (hr : Room k X.A) (tk : Takes X W) : Op2R X W (compareOp .In) (ownIn t) := by
  intro pins sh σ H Pr ρ s x y v w u u' Q I r hu hu' rx ry q
  obtain ⟨ad, C, dx, fV, f, m, ox, od, cn, fm, rfl, g1, g2, g3, g4, J, hF, q⟩ := ownC.at M hr rfl tk rfl I r hu' (us := [u]) (xs := [x]) ⟨_, _, rfl, hu, rfl⟩ ry (.cons rx .nil) (OkA.flip (f := fun b => b) q)
  refine PySem.W.in_K hF I.ok.mod.kin J g4.at_ g4.fn (wpAny_mono q (fun v s' z => ?_) fun _ _ e => e)
  obtain ⟨z, H', I', rz, b, hb, hz⟩ := z
  subst hb
  cases rz
  exact wpAny_truthy_bool ⟨.bl b, H', I', rfl, hz⟩
theorem o_notInR (M : MDef X.prog X.w X.K X.mg X.base k "__contains__" 2 t) (hr : Room k X.A) (tk : Takes X W) : Op2R X W (compareOp .NotIn) (ownNotIn t) := by
  intro pins sh σ H Pr ρ s x y v w u u' Q I r hu hu' rx ry q
  obtain ⟨ad, C, dx, fV, f, m, ox, od, cn, fm, rfl, g1, g2, g3, g4, J, hF, q⟩ := ownC.at M hr rfl tk rfl I r hu' (us := [u]) (xs := [x]) ⟨_, _, rfl, hu, rfl⟩ ry (.cons rx .nil) (OkA.flip (f := fun b => !b) q)
  refine PySem.W.notIn_K hF I.ok.mod.kin J g4.at_ g4.fn (wpAny_mono q (fun v s' z => ?_) fun _ _ e => e)
  obtain ⟨z, H', I', rz, b, hb, hz⟩ := z
  subst hb
  cases rz
  exact wpAny_truthy_bool ⟨.bl (!b), H', I', rfl, hz⟩
/-- len(o) -/
def ownLen (t : Tbl) (u : U) (s : S) : R U := (ownC t [u] s).bind fun x s1 => match x with
  | .int n => if (0 ≤ n ∧ n < 2 ^ 63) then .ok (.int n) s1 else .no
  | _ => .no
def eUnR (g : U → S → R U) (m : EM) : EM := fun l s => (m l s).bind fun u s1 => g u s1
theorem OkA.len {K : PySem.W.Frag} {mg : Str → Option Value} {Pr : Addr → Prop} {ρ : List Addr} {s : S} {H : Hp} {Q : VK} {W : XV → List Addr → S → Hp → Prop} {r : R U} (h : OkA (rU K mg) K mg Pr ρ s H Q W (r.bind fun x s1 => match x with
    | .int n => if (0 ≤ n ∧ n < 2 ^ 63) then .ok (.int n) s1 else .no
    | _ => .no)) : OkA (rU K mg) K mg Pr ρ s H (fun x H1 => ∃ n : Int, x = .int n ∧ (0 ≤ n ∧ n < 2 ^ 63) ∧ Q (.int n) H1) W r := by
  cases r with
  | ok u s' =>
    cases u with
    | int n =>
      by_cases hn : (0 ≤ n ∧ n < 2 ^ 63)
      · have h : OkA (rU K mg) K mg Pr ρ s H Q W (if (0 ≤ n ∧ n < 2 ^ 63) then .ok (.int n) s' else .no) := h
        rw [if_pos hn] at h
        exact fun ρ' H' x e r hx => ⟨n, hx, hn, h ρ' H' _ e r rfl⟩
      · have h : OkA (rU K mg) K mg Pr ρ s H Q W (if (0 ≤ n ∧ n < 2 ^ 63) then .ok (.int n) s' else .no) := h
        rw [if_neg hn] at h
        exact h.elim
    | _ => exact h.elim
  | ex x s' => exact h
  | no => exact h
theorem me_lenR {x : Str} {p : Pos} {m : EM} (M : MDef X.prog X.w X.K X.mg X.base k "__len__" 1 t) (hr : Room (k + 1) X.A) (tk : Takes X W) (hg : Gl X x) (hm : X.mg x = none) (hv : bootBuiltins x = some (.builtin "len")) (he1 : PE X e (TM X.K X.mg W m)) (hn : x ≠ "__name__" := by decide) (hdb : (x == ("__debug__" : Str)) = false := by decide)
    (he : starEach [e] X.env = (false, eval e X.env) :: starEach [] X.env := by rfl) (hpl : (backTo pos (starEach [] X.env)).any (·.1) = false := by rfl) : PE X (.Call (.Name x p) [e] [] pos) (TM X.K X.mg W (eUnR (ownLen t) m)) := by
  refine ⟨fun pins sh σ H Q I h => ?_⟩
  have h1 := TM.then (m := m) (k := fun u l s1 => ownLen t u s1) h
  refine wpAny_Call_Name_kw (ld_blt I hg hm hv ?_ hn hdb)
  have hq : tCons (fun σ' H' R => TM X.K X.mg W m σ' H' R) tNil σ H (fun xs H1 => ∃ Pr ρ s u x, xs = [x] ∧ Rel X.K X.mg Pr ρ s H1 ∧ UR (Lv Pr ρ s) ρ X.K X.mg H1 u x ∧ OkA (rU X.K X.mg) X.K X.mg Pr ρ s H1 Q (wX X.K X.mg Pr fun c d H' => W c d σ H') (ownLen t u s)) := by
    obtain ⟨Pr, ρ, l, s, r, lr, q⟩ := h1
    refine ⟨Pr, ρ, l, s, r, lr, OkA.mono q ?_⟩
    rintro y H1 ⟨Pr1, ρ1, l1, s1, u, r1, lr1, hu, hk⟩
    exact ⟨Pr1, ρ1, s1, u, y, rfl, r1, hu, hk⟩
  refine PyProof.Rows.callWith_builtin1 (thn ((pa_cons he1 pa_nil he).run pos pins sh σ H _ I hq) fun us s1 ⟨vs, H1, I1, rv, Pr, ρ, st, u, y, ev, r, hu, q⟩ => ?_) he hpl
  subst ev
  obtain ⟨v, us', e1, rx, e2⟩ : ∃ v us', us = v :: us' ∧ RelV y v ∧ us' = [] := by
    cases rv with
    | cons h t => cases t; exact ⟨_, _, rfl, h, rfl⟩
  subst e1 e2
  obtain ⟨ad, C, dx, fV, f, m', ox, od, cn, fm, rfl, g1, g2, g3, g4, J, hF, q⟩ := ownC.at (A := X.A.in1) M hr.in1 rfl tk rfl I1 r hu (us := []) (xs := []) rfl rx .nil (OkA.len q)
  refine PySem.W.len_K hF I1.ok.mod.kin J g4.at_ g4.fn (wpAny_mono q (fun v s' z => ?_) fun _ _ e => e)
  obtain ⟨z, H', I', rz, n, hb, hn, hz⟩ := z
  subst hb
  obtain ⟨t, rfl⟩ : ∃ t, v = Value.int n t := rz
  exact ⟨hn, .int n, H', I'.tok _, ⟨_, rfl⟩, hz⟩
end
end Mo
/-! Mo27: a live dict walked: it is locked while the statement, the expression runs. -/
namespace Mo
open PySem PySem.Spec PyProof.Rows L2
/-- what a value's standing needs of a change -/
structure Ex2 (Lp : Addr → Prop) (ρ : List Addr) (H : Hp) (Lp' : Addr → Prop) (ρ' : List Addr) (H' : Hp) : Prop where
  pre : ∀ (i : Nat) (a : Addr), ρ[i]? = some a → ρ'[i]? = some a
  fix : ∀ b o, H b = some o → ¬ isM o → H' b = some o
  keep : ∀ b o, H b = some o → ¬ Lp b → H' b = some o
  nl : ∀ b o, Rd H b o → ¬ Lp b → ¬ Lp' b
section
variable {K : PySem.W.Frag} {mg : Str → Option Value} {Lp Lp' : Addr → Prop} {ρ ρ' : List Addr} {H H' : Hp}
theorem Ex2.rd (e : Ex2 Lp ρ H Lp' ρ' H') {a : Addr} {u : HO} (h : Rd H a u) (n : ¬ Lp a) : Rd H' a u := by
  rcases h with h | ⟨o, h⟩
  · exact .inl (e.keep a _ h n)
  · exact .inr ⟨o, e.keep a _ h n⟩
theorem Ex2.sqt (e : Ex2 Lp ρ H Lp' ρ' H') {a : Addr} {xs : List V} (h : SqT K H a xs) : SqT K H' a xs := by
  rcases h with h | h
  · rcases h with h | ⟨o, h⟩
    · exact .inl (.inl (e.fix _ _ h (fun z => z)))
    · exact .inl (.inr ⟨o, e.fix _ _ h (fun z => z)⟩)
  · exact .inr h
mutual
theorem UR.ex2 (e : Ex2 Lp ρ H Lp' ρ' H') : ∀ (u : U) (v : V), UR Lp ρ K mg H u v → UR Lp' ρ' K mg H' u v
  | .non, v, h => h
  | .bl _, v, h => h
  | .int _, v, h => h
  | .str _, v, h => h
  | .tup us, v, h => by
    obtain ⟨a, xs, h1, h2, h3, h4⟩ := h
    exact ⟨a, xs, h1, e.fix _ _ h2 (fun z => z), h3, URs.ex2 e us xs h4⟩
  | .lst us, v, h => by
    obtain ⟨a, xs, h1, h2, n, h3, h4⟩ := h
    exact ⟨a, xs, h1, e.keep a _ h2 n, e.nl _ _ (.inl h2) n, h3, URs.ex2 e us xs h4⟩
  | .scr us, v, h => by
    obtain ⟨a, xs, h1, h2, h3, h4⟩ := h
    exact ⟨a, xs, h1, h2.fix (fun o q => e.fix _ _ q (fun z => z)), h3, URs.ex2 e us xs h4⟩
  | .wt us, v, h => by
    obtain ⟨a, xs, h1, h2, h3, h4⟩ := h
    exact ⟨a, xs, h1, e.sqt h2, h3, URs.ex2 e us xs h4⟩
  | .dct t kvs, v, h => by
    obtain ⟨a, h1, n, h3, h4⟩ := h
    rcases h4 with ⟨h0, ks, h4, h5⟩ | ⟨h0, ks, h4, h5⟩
    · exact ⟨a, h1, e.nl _ _ h4 n, h3, .inl ⟨h0, ks, e.rd h4 n, URk.ex2 e kvs ks h5⟩⟩
    · exact ⟨a, h1, e.nl _ _ h4 n, h3, .inr ⟨h0, ks, e.rd h4 n, URt.ex2 e kvs ks h5⟩⟩
  | .ref i, v, h => by
    obtain ⟨a, h1, h2⟩ := h
    exact ⟨a, e.pre i a h1, h2⟩
  | .obj cn fs, v, h => by
    obtain ⟨a, C, dx, fV, h1, h2, n, h3, h4, h5⟩ := h
    exact ⟨a, C, dx, fV, h1, e.keep a _ h2 n, e.nl _ _ (.inl h2) n, h3, h4, URf.ex2 e fs fV h5⟩
theorem URs.ex2 (e : Ex2 Lp ρ H Lp' ρ' H') : ∀ (us : List U) (xs : List V), URs Lp ρ K mg H us xs → URs Lp' ρ' K mg H' us xs
  | [], xs, h => h
  | u :: us, xs, h => by
    obtain ⟨x, t, h1, h2, h3⟩ := h
    exact ⟨x, t, h1, UR.ex2 e u x h2, URs.ex2 e us t h3⟩
theorem URk.ex2 (e : Ex2 Lp ρ H Lp' ρ' H') : ∀ (us : List (Ky × U)) (xs : List (Key × V)), URk Lp ρ K mg H us xs → URk Lp' ρ' K mg H' us xs
  | [], xs, h => h
  | (k, u) :: us, xs, h => by
    obtain ⟨kk, x, t, h1, h0, h2, h3⟩ := h
    exact ⟨kk, x, t, h1, h0, UR.ex2 e u x h2, URk.ex2 e us t h3⟩
theorem URt.ex2 (e : Ex2 Lp ρ H Lp' ρ' H') : ∀ (us : List (Ky × U)) (xs : List (List Key × V)), URt Lp ρ K mg H us xs → URt Lp' ρ' K mg H' us xs
  | [], xs, h => h
  | (k, u) :: us, xs, h => by
    obtain ⟨kk, x, t, h1, h0, h2, h3⟩ := h
    exact ⟨kk, x, t, h1, h0, UR.ex2 e u x h2, URt.ex2 e us t h3⟩
theorem URf.ex2 (e : Ex2 Lp ρ H Lp' ρ' H') : ∀ (us : List (Nat × U)) (xs : List (Str × V)), URf Lp ρ K mg H us xs → URf Lp' ρ' K mg H' us xs
  | [], xs, h => h
  | (k, u) :: us, xs, h => by
    obtain ⟨x, t, h1, h2, h3⟩ := h
    exact ⟨x, t, h1, UR.ex2 e u x h2, URf.ex2 e us t h3⟩
end
theorem OR.ex2 (e : Ex2 Lp ρ H Lp' ρ' H') {a : Addr} (ha : H' a = H a) : ∀ {o : O}, OR Lp ρ K mg H a o → OR Lp' ρ' K mg H' a o
  | .lst us, h => by
    obtain ⟨xs, h1, h2, h3⟩ := h
    exact ⟨xs, by rw [ha]; exact h1, h2, URs.ex2 e us xs h3⟩
  | .dct t kvs, h => by
    obtain ⟨h0, h1 | h1⟩ := h
    · obtain ⟨ht, ks, h2, h3⟩ := h1
      exact ⟨h0, .inl ⟨ht, ks, by rw [ha]; exact h2, URk.ex2 e kvs ks h3⟩⟩
    · obtain ⟨ht, ks, h2, h3⟩ := h1
      exact ⟨h0, .inr ⟨ht, ks, by rw [ha]; exact h2, URt.ex2 e kvs ks h3⟩⟩
  | .ins cn fs, h => by
    obtain ⟨C, dx, fV, h1, h2, h3, h4, h5⟩ := h
    exact ⟨C, dx, fV, by rw [ha]; exact h1, h2, h3, URf.ex2 e fs fV h4, h5⟩
  | .gone, _ => trivial
  | .ld t kvs, h => by
    obtain ⟨h0, h1 | h1⟩ := h
    · obtain ⟨ht, od, ks, h2, h3⟩ := h1
      exact ⟨h0, .inl ⟨ht, od, ks, by rw [ha]; exact h2, URk.ex2 e kvs ks h3⟩⟩
    · obtain ⟨ht, od, ks, h2, h3⟩ := h1
      exact ⟨h0, .inr ⟨ht, od, ks, by rw [ha]; exact h2, URt.ex2 e kvs ks h3⟩⟩
end
section
variable {K : PySem.W.Frag} {mg : Str → Option Value} {Pr : Addr → Prop} {ρ ρ' : List Addr} {s s' : S} {H H' : Hp} {j : Nat} {d : Addr} {t : Bool} {kvs : List (Ky × U)} {u : HO} {od : Obj}
theorem lw_set {o o' : O} (h : s[j]? = some o) (h1 : isG o = false) (h2 : isG o' = false) (b : Addr) : Lw ρ (s.set j o') b ↔ Lw ρ s b := by
  have hlt : j < s.length := (List.getElem?_eq_some_iff.mp h).1
  constructor
  · rintro ⟨i, x, g1, g2, g3⟩
    by_cases q : j = i
    · subst q; exact ⟨j, o, h, h1, g3⟩
    · rw [List.getElem?_set_ne q] at g1; exact ⟨i, x, g1, g2, g3⟩
  · rintro ⟨i, x, g1, g2, g3⟩
    by_cases q : j = i
    · subst q; exact ⟨j, o', List.getElem?_set_self hlt, h2, g3⟩
    · exact ⟨i, x, by rw [List.getElem?_set_ne q]; exact g1, g2, g3⟩
/-- a dict's record by its data -/
structure DOf (K : PySem.W.Frag) (mg : Str → Option Value) (Lp : Addr → Prop) (ρ : List Addr) (H : Hp) (t : Bool) (kvs : List (Ky × U)) (u : HO) : Prop where
  ln : kvs.length ≤ sizeLine
  ex : (t = false ∧ ∃ ks, u = .dK ks ∧ URk Lp ρ K mg H kvs ks) ∨ (t = true ∧ ∃ ks, u = .dT ks ∧ URt Lp ρ K mg H kvs ks)
theorem DOf.ofDct {Lp : Addr → Prop} {a : Addr} (h : OR Lp ρ K mg H a (.dct t kvs)) : ∃ u, H a = some u ∧ isD u ∧ DOf K mg Lp ρ H t kvs u := by
  obtain ⟨h0, ⟨ht, ks, h2, h3⟩ | ⟨ht, ks, h2, h3⟩⟩ := h
  · exact ⟨_, h2, trivial, h0, .inl ⟨ht, ks, rfl, h3⟩⟩
  · exact ⟨_, h2, trivial, h0, .inr ⟨ht, ks, rfl, h3⟩⟩
theorem DOf.isD {Lp : Addr → Prop} (h : DOf K mg Lp ρ H t kvs u) : isD u := by
  rcases h.ex with ⟨_, ks, rfl, _⟩ | ⟨_, ks, rfl, _⟩ <;> trivial
theorem DOf.dct {Lp : Addr → Prop} {a : Addr} (h : DOf K mg Lp ρ H t kvs u) (ha : H a = some u) : OR Lp ρ K mg H a (.dct t kvs) := by
  rcases h.ex with ⟨ht, ks, rfl, h3⟩ | ⟨ht, ks, rfl, h3⟩
  · exact ⟨h.ln, .inl ⟨ht, ks, ha, h3⟩⟩
  · exact ⟨h.ln, .inr ⟨ht, ks, ha, h3⟩⟩
theorem DOf.ld {Lp : Addr → Prop} {a : Addr} (h : DOf K mg Lp ρ H t kvs u) (ha : H a = some (.frz od u)) : OR Lp ρ K mg H a (.ld t kvs) := by
  rcases h.ex with ⟨ht, ks, rfl, h3⟩ | ⟨ht, ks, rfl, h3⟩
  · exact ⟨h.ln, .inl ⟨ht, od, ks, ha, h3⟩⟩
  · exact ⟨h.ln, .inr ⟨ht, od, ks, ha, h3⟩⟩
theorem DOf.ofLd {Lp : Addr → Prop} {a : Addr} (h : OR Lp ρ K mg H a (.ld t kvs)) (ha : H a = some (.frz od u)) : DOf K mg Lp ρ H t kvs u := by
  obtain ⟨h0, ⟨ht, o', ks, h2, h3⟩ | ⟨ht, o', ks, h2, h3⟩⟩ := h
  · rw [ha] at h2; cases h2; exact ⟨h0, .inl ⟨ht, ks, rfl, h3⟩⟩
  · rw [ha] at h2; cases h2; exact ⟨h0, .inr ⟨ht, ks, rfl, h3⟩⟩
theorem DOf.ext {u : HO} (r : Rel K mg Pr ρ s H) (e : Ext Pr ρ s H ρ' s' H') (h : DOf K mg (Lv Pr ρ s) ρ H t kvs u) : DOf K mg (Lv Pr ρ' s') ρ' H' t kvs u := by
  rcases h.ex with ⟨ht, ks, rfl, h3⟩ | ⟨ht, ks, rfl, h3⟩
  · exact ⟨h.ln, .inl ⟨ht, ks, rfl, URk.ext r e kvs ks h3⟩⟩
  · exact ⟨h.ln, .inr ⟨ht, ks, rfl, URt.ext r e kvs ks h3⟩⟩
theorem DOf.ex2 {Lp Lp' : Addr → Prop} (e : Ex2 Lp ρ H Lp' ρ' H') (h : DOf K mg Lp ρ H t kvs u) : DOf K mg Lp' ρ' H' t kvs u := by
  rcases h.ex with ⟨ht, ks, rfl, h3⟩ | ⟨ht, ks, rfl, h3⟩
  · exact ⟨h.ln, .inl ⟨ht, ks, rfl, URk.ex2 e kvs ks h3⟩⟩
  · exact ⟨h.ln, .inr ⟨ht, ks, rfl, URt.ex2 e kvs ks h3⟩⟩
/-- a live dict is locked -/
theorem Rel.toLd (r : Rel K mg Pr ρ s H) (hi : s[j]? = some (.dct t kvs)) (ha : ρ[j]? = some d) (od : Obj) : ∃ u, H d = some u ∧ Mo.isD u ∧ Ext Pr ρ s H ρ (s.set j (.ld t kvs)) (upd H d (.frz od u)) ∧ Rel K mg Pr ρ (s.set j (.ld t kvs)) (upd H d (.frz od u)) := by
  obtain ⟨u, h1, h2, h3⟩ := DOf.ofDct (r.ob j _ d hi ha)
  obtain ⟨e, r'⟩ := r.put (o' := .ld t kvs) (ho := .frz od u) hi rfl rfl ha fun e => (h3.ext r e).ld upd_same
  exact ⟨u, h1, h2, e, r'⟩
/-- .. and let go -/
theorem Rel.unld (r : Rel K mg Pr ρ' s' H') (hi : s'[j]? = some (.ld t kvs)) (ha : ρ'[j]? = some d) (hd : H' d = some (.frz od u)) (hu : isD u) :
    Ex2 (Lv Pr ρ' s') ρ' H' (Lv Pr ρ' (s'.set j (.dct t kvs))) ρ' (upd H' d u) ∧ Rel K mg Pr ρ' (s'.set j (.dct t kvs)) (upd H' d u) := by
  have hlv : Lw ρ' s' d := ⟨j, _, hi, rfl, ha⟩
  have hlt : j < s'.length := (List.getElem?_eq_some_iff.mp hi).1
  have lw := lw_set (ρ := ρ') (o' := .dct t kvs) hi rfl rfl
  have ex : Ex2 (Lv Pr ρ' s') ρ' H' (Lv Pr ρ' (s'.set j (.dct t kvs))) ρ' (upd H' d u) := by
    refine ⟨fun _ _ h => h, fun b o h n => ?_, fun b o h n => ?_, fun b o _ n l => n (l.elim .inl fun l => .inr ((lw b).mp l))⟩
    · rw [upd_ne fun q => ?_]; exact h
      subst q; rw [hd] at h; cases h
      exact n (by cases u <;> first | exact trivial | exact hu.elim)
    · rw [upd_ne fun q => ?_]; exact h
      subst q; exact n (.inr hlv)
  refine ⟨ex, ⟨by simp [r.len], r.nd, fun i o a h1 h2 => ?_, fun a h => ?_, fun a h => ⟨?_, (r.pr a h).2⟩⟩⟩
  · by_cases q : j = i
    · subst q
      rw [ha] at h2; cases h2
      rw [List.getElem?_set_self hlt] at h1
      cases h1
      exact ((DOf.ofLd (r.ob j _ d hi ha) hd).ex2 ex).dct upd_same
    · rw [List.getElem?_set_ne q] at h1
      exact OR.ex2 ex (upd_ne fun z => q (r.nd j i d ha (z ▸ h2))) (r.ob i o a h1 h2)
  · by_cases q : a = d
    · subst q; rw [upd_same]; exact fun z => by cases z
    · rw [upd_ne q]; exact r.dom a h
  · by_cases q : a = d
    · subst q; rw [upd_same]; exact fun z => by cases z
    · rw [upd_ne q]; exact (r.pr a h).1
theorem Ext.unld {o0 : O} (r : Rel K mg Pr ρ s H) (e : Ext Pr ρ s H ρ' s' H') (r' : Rel K mg Pr ρ' s' H') (h0 : s[j]? = some o0) (hG : isG o0 = false) (hL : isL o0 = false) (ha0 : ρ[j]? = some d) (hi : s'[j]? = some (.ld t kvs)) : Ext Pr ρ s H ρ' (s'.set j (.dct t kvs)) (upd H' d u) := by
  have hlv : Lw ρ s d := ⟨j, _, h0, hG, ha0⟩
  have ha : ρ'[j]? = some d := e.pre j d ha0
  have lw := lw_set (ρ := ρ') (o' := .dct t kvs) hi rfl rfl
  refine ⟨e.pre, fun b o h n => ?_, fun b l => e.new b ((lw b).mp l), fun b h => ?_, fun b h => ?_, fun i o a h1 h2 h3 => ?_⟩
  · have nb : b ≠ d := fun q => by subst q; exact n (.inr hlv)
    rw [upd_ne nb]; exact e.keep b o h n
  · by_cases q : b = d
    · subst q; rw [upd_same]; exact fun z => by cases z
    · rw [upd_ne q]; exact e.dom b h
  · rw [upd_ne fun q => ?_]; exact e.prot b h
    subst q
    exact (r.pr b h).2 (List.mem_of_getElem? ha0)
  · have q : j ≠ i := fun q => by subst q; rw [h0] at h1; cases h1; rw [hL] at h2; cases h2
    obtain ⟨g1, g2⟩ := e.lk i o a h1 h2 h3
    have nb : a ≠ d := fun z => by subst z; exact q (r.nd j i a ha0 h3)
    exact ⟨by rw [List.getElem?_set_ne q]; exact g1, by rw [upd_ne nb]; exact g2⟩
end
/-- the dict of the i-th slot, if it stands in the store, is locked meanwhile -/
def sLk (i : Nat) (b : SM) : SM := fun l s => match l[i]? with
  | some (some (.ref j)) => (match s[j]? with
    | some (.dct t kvs) => (match b l (s.set j (.ld t kvs)) with
      | .nx l' s' => .nx l' (s'.set j (.dct t kvs))
      | .rt u s' => .rt u (s'.set j (.dct t kvs))
      | .bk l' s' => .bk l' (s'.set j (.dct t kvs))
      | .ct l' s' => .ct l' (s'.set j (.dct t kvs))
      | .ex x l' s' => .ex x l' s'
      | .no => .no)
    | _ => b l s)
  | _ => b l s
def eLk (i : Nat) (m : EM) : EM := fun l s => match l[i]? with
  | some (some (.ref j)) => (match s[j]? with
    | some (.dct t kvs) => (match m l (s.set j (.ld t kvs)) with
      | .ok u s' => .ok u (s'.set j (.dct t kvs))
      | .ex x s' => .ex x s'
      | .no => .no)
    | _ => m l s)
  | _ => m l s
section
variable {X : Cx} {W : WX} {st : Stmt} {e : Expr} {m : EM} {b : SM} {i : Nat}
theorem LR.ex2 {K : PySem.W.Frag} {mg : Str → Option Value} {Lp Lp' : Addr → Prop} {ρ ρ' : List Addr} {H H' : Hp} {l : L} {σ : L2.St} (e : Ex2 Lp ρ H Lp' ρ' H') (h : LR Lp ρ K mg H l σ) : LR Lp' ρ' K mg H' l σ :=
  ⟨h.1, fun i u hi => let ⟨v, h1, h2⟩ := h.2 i u hi; ⟨v, h1, UR.ex2 e u v h2⟩⟩
theorem ms_lk (i : Nat) (h : PS X st (TF X.K X.mg W b)) : PS X st (TF X.K X.mg W (sLk i b)) := by
  refine ⟨fun pins sh σ H D I hw => ?_⟩
  obtain ⟨Pr, ρ, l, s, r, lr, q⟩ := hw
  have plain : OkF X.K X.mg Pr ρ s H D W (b l s) → wpAny _ _ _ _ _ _ := fun q => h.run pins sh σ H D I ⟨Pr, ρ, l, s, r, lr, q⟩
  unfold sLk at q
  split at q
  · rename_i j e1
    split at q
    · rename_i t kvs e2
      have hj : j < ρ.length := by rw [r.len]; exact (List.getElem?_eq_some_iff.mp e2).1
      obtain ⟨d, hd⟩ : ∃ d, ρ[j]? = some d := ⟨_, List.getElem?_eq_getElem hj⟩
      refine (ps_lock h).run pins sh σ H D I ?_
      obtain ⟨u, hu, du, _⟩ := DOf.ofDct (r.ob j _ d e2 hd)
      refine ⟨d, u, hu, ?_, fun od => ?_⟩
      · cases u <;> first | exact trivial | exact du.elim
      obtain ⟨u', hu', _, e3, r3⟩ := r.toLd e2 hd od
      rw [hu] at hu'; cases hu'
      have hj2 : j < s.length := (List.getElem?_eq_some_iff.mp e2).1
      refine ⟨Pr, ρ, l, _, r3, LR.ext r e3 lr, ?_⟩
      have key : ∀ ρ' s' H', Ext Pr ρ (s.set j (.ld t kvs)) (upd H d (.frz od u)) ρ' s' H' → Rel X.K X.mg Pr ρ' s' H' → H' d = some (.frz od u) ∧ Ex2 (Lv Pr ρ' s') ρ' H' (Lv Pr ρ' (s'.set j (.dct t kvs))) ρ' (upd H' d u) ∧ Rel X.K X.mg Pr ρ' (s'.set j (.dct t kvs)) (upd H' d u) ∧ Ext Pr ρ s H ρ' (s'.set j (.dct t kvs)) (upd H' d u) := fun ρ' s' H' e4 r4 => by
        obtain ⟨g1, g2⟩ := e4.lk j _ d (List.getElem?_set_self hj2) rfl hd
        have g3 : H' d = some (.frz od u) := by rw [g2, upd_same]
        obtain ⟨x1, x2⟩ := r4.unld g1 (e4.pre j d hd) g3 du
        exact ⟨g3, x1, x2, (e3.trans e4).unld r r4 e2 rfl rfl hd g1⟩
      cases e4 : b l (s.set j (.ld t kvs)) with
      | nx l' s' => rw [e4] at q; exact fun ρ' H' σ' e5 r5 lr5 => let ⟨k1, k2, k3, k4⟩ := key ρ' s' H' e5 r5; ⟨k1, q ρ' _ σ' k4 k3 (lr5.ex2 k2)⟩
      | rt w s' => rw [e4] at q; exact fun ρ' H' σ' e5 r5 lr5 => let ⟨k1, k2, k3, k4⟩ := key ρ' s' H' e5 r5; ⟨k1, q ρ' _ σ' k4 k3 (UR.ex2 k2 _ _ lr5)⟩
      | bk l' s' => rw [e4] at q; exact fun ρ' H' σ' e5 r5 lr5 => let ⟨k1, k2, k3, k4⟩ := key ρ' s' H' e5 r5; ⟨k1, q ρ' _ σ' k4 k3 (lr5.ex2 k2)⟩
      | ct l' s' => rw [e4] at q; exact fun ρ' H' σ' e5 r5 lr5 => let ⟨k1, k2, k3, k4⟩ := key ρ' s' H' e5 r5; ⟨k1, q ρ' _ σ' k4 k3 (lr5.ex2 k2)⟩
      | ex x l' s' => rw [e4] at q; exact OkF.ext (f := .ex x l' s') e3 q
      | no => rw [e4] at q; exact q
    · exact plain q
  · exact plain q
theorem me_lk (i : Nat) (h : PE X e (TM X.K X.mg W m)) : PE X e (TM X.K X.mg W (eLk i m)) := by
  refine ⟨fun pins sh σ H Q I hw => ?_⟩
  obtain ⟨Pr, ρ, l, s, r, lr, q⟩ := hw
  have plain : OkA (rU X.K X.mg) X.K X.mg Pr ρ s H Q (wX X.K X.mg Pr fun c d H' => W c d σ H') (m l s) → wpAny _ _ _ _ _ _ := fun q => h.run pins sh σ H Q I ⟨Pr, ρ, l, s, r, lr, q⟩
  unfold eLk at q
  split at q
  · rename_i j e1
    split at q
    · rename_i t kvs e2
      have hj : j < ρ.length := by rw [r.len]; exact (List.getElem?_eq_some_iff.mp e2).1
      obtain ⟨d, hd⟩ : ∃ d, ρ[j]? = some d := ⟨_, List.getElem?_eq_getElem hj⟩
      refine (pe_lock h).run pins sh σ H Q I ?_
      obtain ⟨u, hu, du, _⟩ := DOf.ofDct (r.ob j _ d e2 hd)
      refine ⟨d, u, hu, ?_, fun od => ?_⟩
      · cases u <;> first | exact trivial | exact du.elim
      obtain ⟨u', hu', _, e3, r3⟩ := r.toLd e2 hd od
      rw [hu] at hu'; cases hu'
      have hj2 : j < s.length := (List.getElem?_eq_some_iff.mp e2).1
      refine ⟨Pr, ρ, l, _, r3, LR.ext r e3 lr, ?_⟩
      cases e4 : m l (s.set j (.ld t kvs)) with
      | ok w s' =>
        rw [e4] at q
        intro ρ' H' v e5 r5 hv
        obtain ⟨g1, g2⟩ := e5.lk j _ d (List.getElem?_set_self hj2) rfl hd
        have g3 : H' d = some (.frz od u) := by rw [g2, upd_same]
        obtain ⟨x1, x2⟩ := r5.unld g1 (e5.pre j d hd) g3 du
        exact ⟨g3, q ρ' _ v ((e3.trans e5).unld r r5 e2 rfl rfl hd g1) x2 (UR.ex2 x1 w v hv)⟩
      | ex x s' => rw [e4] at q; exact OkA.ext (r := R.ex x s') e3 q
      | no => rw [e4] at q; exact q
    · exact plain q
  · exact plain q
end
end Mo
/-! Mo28: dict displays. -/
namespace Mo
open PySem PySem.Spec PyProof.Rows L2
abbrev DM := L → S → R (List (Ky × U))
def pNil : DM := fun _ s => .ok [] s
def pCons (mk mv : EM) (d : DM) : DM := fun l s => (mk l s).bind fun ku s1 => (mv l s1).bind fun v s2 => (d l s2).bind fun r s3 => match kyOf ku with
  | some k => if fits false k = true then .ok ((k, v) :: r) s3 else .no
  | none => .no
def eDisp (live : Bool) (d : DM) : EM := fun l s => match d l s with
  | .ok kvs s1 => if kvs.length ≤ 15 then liftG (mkD live false (mrgK [] kvs) s1) else .no
  | _ => .no
abbrev kvV (ks : List (Key × V)) : List (V × V) := ks.map fun kv => (kV kv.1, kv.2)
abbrev rPs (K : PySem.W.Frag) (mg : Str → Option Value) : RT (List (Ky × U)) (List (V × V)) := fun Lp ρ H us ps => ∃ ks, ps = kvV ks ∧ URk Lp ρ K mg H us ks
structure PD (X : Cx) (pos : Pos) (keys : List (Option Expr)) (values : List Expr) (d : DM) : Prop where
  ex : ∃ trs, PPs X pos keys values trs ∧ ∀ Pr ρ s l σ H Q, Rel X.K X.mg Pr ρ s H → LR (Lv Pr ρ s) ρ X.K X.mg H l σ → OkA (rPs X.K X.mg) X.K X.mg Pr ρ s H Q (wX X.K X.mg Pr fun c d H' => W0 c d σ H') (d l s) → tPairs trs σ H Q
theorem ky_val {Lp : Addr → Prop} {ρ : List Addr} {K : PySem.W.Frag} {mg : Str → Option Value} {H : Hp} {ku : U} {x : V} {k : Ky} (h : UR Lp ρ K mg H ku x) (e : kyOf ku = some k) (hf : fits false k = true) : ∃ kk, k1 k = some kk ∧ x = kV kk := by
  cases ku with
  | int i => cases e; exact ⟨_, rfl, h⟩
  | str z => cases e; exact ⟨_, rfl, h.1⟩
  | tup us =>
    have e : kyOf.kysOf us = some k := e
    unfold kyOf.kysOf at e
    cases e2 : kyOf.ksOf us with
    | none => simp only [e2] at e; cases e
    | some z => simp only [e2] at e; cases e; cases hf
  | _ => cases e
section
variable {X : Cx} {W : WX} {pos : Pos} {k v : Expr} {ks : List (Option Expr)} {vs : List Expr} {mk mv : EM} {d : DM} {live : Bool}
theorem pd_nil : PD X pos [] [] pNil := ⟨[], pps_nil, fun Pr ρ s l σ H Q r lr h => h ρ H [] (Ext.refl _ _ _ _) r ⟨[], rfl, rfl⟩⟩
theorem pd_cons (hk : PE X k (TM X.K X.mg W0 mk)) (hv : PE X v (TM X.K X.mg W0 mv)) (hr : PD X pos ks vs d) : PD X pos (some k :: ks) (v :: vs) (pCons mk mv d) := by
  obtain ⟨trs, h1, h2⟩ := hr.ex
  refine ⟨_, pps_cons hk hv h1, fun Pr ρ s l σ H Q r lr q => ?_⟩
  show TM X.K X.mg W0 mk σ H _
  refine ⟨Pr, ρ, l, s, r, lr, OkA.mono (OkA.bind (rl := rU X.K X.mg) q) ?_⟩
  rintro x H1 ⟨ρ1, s1, ku, r1, e1, hx, q1⟩
  refine ⟨Pr, ρ1, l, s1, r1, LR.ext r e1 lr, OkA.mono (OkA.bind (rl := rU X.K X.mg) q1) ?_⟩
  rintro y H2 ⟨ρ2, s2, u, r2, e2, hy, q2⟩
  refine h2 Pr ρ2 s2 l σ H2 _ r2 (LR.ext r1 e2 (LR.ext r e1 lr)) (OkA.mono (OkA.bind (rl := rPs X.K X.mg) q2) ?_)
  rintro ps H3 ⟨ρ3, s3, kvs, r3, e3, ⟨kk, rfl, hp⟩, q3⟩
  cases e4 : kyOf ku with
  | none => simp only [e4] at q3; exact q3.elim
  | some ky =>
    simp only [e4] at q3
    by_cases hf : fits false ky = true
    · rw [if_pos hf] at q3
      obtain ⟨k0, g1, rfl⟩ := ky_val hx e4 hf
      exact q3 ρ3 H3 _ (Ext.refl _ _ _ _) r3 ⟨(k0, y) :: kk, rfl, k0, y, kk, rfl, g1, UR.ext r2 e3 u y hy, hp⟩
    · rw [if_neg hf] at q3; exact q3.elim
theorem me_disp (h : PD X pos ks vs d) (hall : ks.all (·.isSome) = true := by rfl) (hl : ks.length = vs.length := by rfl) (h0 : ks ≠ [] := by exact fun z => nomatch z) (h15 : ks.length ≤ 15 := by decide) : PE X (.Dict ks vs pos) (TM X.K X.mg W (eDisp live d)) := by
  obtain ⟨trs, h1, h2⟩ := h.ex
  refine PE.imp (pe_disp h1 hall hl h0 h15) fun σ H Q q => ?_
  obtain ⟨Pr, ρ, l, s, r, lr, q⟩ := q
  intro p hp
  have r1 := r.lay (o := .dK []) hp
  have e1 : Ext Pr ρ s H ρ s (upd H p (.dK [])) := Ext.lay r hp
  have np : ¬ Pr p := fun z => (r.pr p z).1 hp
  have c1 : Car (Lv Pr ρ s) (Lv (and1 Pr p) ρ s) ρ ρ H (upd H p (.dK [])) := e1.car r fun a ha => ha.elim .inl fun z => .inr (z ▸ hp)
  refine h2 (and1 Pr p) ρ s l σ _ _ r1 (LR.carry c1 lr) ?_
  unfold eDisp at q
  cases e : d l s with
  | no => simp only [e] at q; exact q.elim
  | ex x s1 => simp only [e] at q; exact q.elim
  | ok kvs s1 =>
    simp only [e] at q
    by_cases h15 : kvs.length ≤ 15
    · rw [if_pos h15] at q
      rintro ρ' H2 ps e2 r2 ⟨kk, rfl, hk⟩
      have hH : H2 p = some (.dK []) := by rw [e2.prot p (.inr rfl), upd_same]
      have hlen : kk.length ≤ 15 := by rw [URk.length hk]; exact h15
      refine ⟨hH, kk, rfl, hlen, ?_⟩
      have r3 := r2.chg (o' := .dK (mergeK [] kk)) (.inr rfl) hH trivial
      have c3 := car_chg (o' := .dK (mergeK [] kk)) r2 (.inr rfl) hH trivial
      have e3 : Ext Pr ρ s H ρ' s1 H2 := e1.less e2 hp
      exact stoodD (OkG.of q) (e3.chg r hp np) r3 hp np upd_same (URk.merge (URk.carry c3 kvs kk hk) rfl)
    · rw [if_neg h15] at q; exact q.elim
end
end Mo
/-! Mo29: name = a dict comprehension; three names at once. -/
namespace L2
open PySem PySem.Spec PyProof.Rows
theorem ps_setDc {X : Cx} {i : Nat} {y : Str} {py : Pos} {kx vx tg iter : Expr} {ifs : List Expr} {scope : Scope} {own : List (Str × Nat)} {pos spos : Pos} {wi : TI} {g : TG} {tt : TT} {tk tv : TE} (hc : X.calm = true) (hN : X.N.Nodup) (hy : X.N[i]? = some y) (hyl : X.env.scope.names.lookup y = some .local)
    (hsw : swapsWith (.DictComp kx vx [⟨tg, iter, ifs, 0⟩] scope pos) (some (.Name y py)) spos.line X.env = pure true) (hi : PI X tg iter wi) (ok : BlkOk X.N X.env.scope scope own)
    (hg : ∀ (s : Shared) (H : Hp) (C : Addr) (cl : List (Str × Addr)) (fp : List Addr), PG (X.blk s H scope (compEnvC scope cl C X.env) fp) tg g) (ht : ∀ (s : Shared) (H : Hp) (C : Addr) (cl : List (Str × Addr)) (fp : List Addr), PTs (X.blk s H scope (compEnvC scope cl C X.env) fp) ifs tt)
    (hk : ∀ (s : Shared) (H : Hp) (C : Addr) (cl : List (Str × Addr)) (fp : List Addr), PE (X.blk s H scope (compEnvC scope cl C X.env) fp) kx tk)
    (he : ∀ (s : Shared) (H : Hp) (C : Addr) (cl : List (Str × Addr)) (fp : List Addr), PE (X.blk s H scope (compEnvC scope cl C X.env) fp) vx tv) (hs : ∀ x, foldedSetIterable iter X.env x = pure x := by intro _; rfl) :
    PS X (.Assign [.Name y py] (.DictComp kx vx [⟨tg, iter, ifs, 0⟩] scope pos) spos) (tAsg (tDc wi g tt tk tv (own.map (·.2))) (gName i)) := by
  refine ⟨fun pins s σ H D I h => ?_⟩
  rw [exec_Assign_Name_used _ _ _ _ hsw]
  refine wpAny_bind (wpAny_standAt (wpAny_bind ?_))
  show wpAny _ X.A (do let _ ← comprehension (.DictComp kx vx [⟨tg, iter, ifs, 0⟩] scope pos) scope X.env (firstIterPos [⟨tg, iter, ifs, 0⟩] pos) newDict false (eval iter X.env) (some (assign (.Name y py) X.env))) _ _ s
  have h : tDc wi g tt tk tv (own.map (·.2)) σ H (fun x H1 => gName i x σ H1 D.nx) := h
  refine wpAny_bind (thn (dc_core (Qf := fun _ s' => SP X pins D .next s') hc hN I hi ok hg ht hk he hs h fun L C s' m H' I' q hn f => ?_) fun _ s' hq => wpAny_pure (wpAny_pure hq))
  show wpAny _ _ (assign (.Name y py) X.env (.ref L)) _ _ _
  refine wpAny_assign_Name (store_ok2 (v := V.ref L) I' hN hy (.inl hyl) rfl (fun s2 I2 ⟨a, sb, ha⟩ => ?_) (.inr hyl))
  obtain ⟨f0, f1, f2, f3, f4, f5⟩ := f
  have haC : C ≠ a := by
    rcases ha with z | z
    · rw [z]; exact f1
    · exact fun e => f4 y a z e.symm
  refine ⟨m, hn.sameBut sb haC, fun h3 sb3 => ?_⟩
  exact ⟨_, H', I2.turned (t' := s2.toks) (fun b o hb e => (sb3.2 b hb).trans e) f0 f1 f3 f4 f5, q⟩
end L2
namespace Mo
open PySem PySem.Spec PyProof.Rows L2
section
variable {X : Cx} {W : WX} {kx vx tg iter : Expr} {ifs : List Expr} {scope : Scope} {own : List (Str × Nat)} {pos : Pos} {src : IM} {g : Tg} {t : TMt} {k e : EM} {live : Bool}
theorem ms_setDc {i : Nat} {y : Str} {py : Pos} {spos : Pos} (hc : X.calm = true) (hN : X.N.Nodup) (hyl : X.env.scope.names.lookup y = some .local) (hsw : swapsWith (.DictComp kx vx [⟨tg, iter, ifs, 0⟩] scope pos) (some (.Name y py)) spos.line X.env = pure true)
    (hi : PI X tg iter (TI X.K X.mg W src)) (ok : blkC X.N X.env.scope scope own = true)
    (hg : ∀ (s : Shared) (H : Hp) (C : Addr) (cl : List (Str × Addr)) (fp : List Addr), PG (X.blk s H scope (compEnvC scope cl C X.env) fp) tg (gX X.K X.mg (own.map (·.2)) g)) (ht : ∀ (s : Shared) (H : Hp) (C : Addr) (cl : List (Str × Addr)) (fp : List Addr), PTs (X.blk s H scope (compEnvC scope cl C X.env) fp) ifs (TB X.K X.mg W0 t))
    (hk : ∀ (s : Shared) (H : Hp) (C : Addr) (cl : List (Str × Addr)) (fp : List Addr), PE (X.blk s H scope (compEnvC scope cl C X.env) fp) kx (TM X.K X.mg W0 k))
    (he : ∀ (s : Shared) (H : Hp) (C : Addr) (cl : List (Str × Addr)) (fp : List Addr), PE (X.blk s H scope (compEnvC scope cl C X.env) fp) vx (TM X.K X.mg W0 e)) (hy : X.N[i]? = some y := by rfl) (hs : ∀ x, foldedSetIterable iter X.env x = pure x := by intro _; rfl) :
    PS X (.Assign [.Name y py] (.DictComp kx vx [⟨tg, iter, ifs, 0⟩] scope pos) spos) (TF X.K X.mg W (sAsg (eDc live (own.map (·.2)) src g t k e) (gNm i))) := PS.imp (ps_setDc hc hN hy hyl hsw hi (blkOk_by ok) hg ht hk he hs) fun D σ H h => by
  have h2 := TF.ofE (k := fun u l s1 => FG (gNm i u l s1) fun l2 s2 => .nx l2 s2) h
  obtain ⟨Pr, ρ, l, s, r, lr, q⟩ := h2
  refine dc_read (live := live) ⟨Pr, ρ, l, s, r, lr, OkA.mono q ?_⟩
  rintro x H1 ⟨Pr, ρ1, l1, s1, u, r1, lr1, hu, hk⟩
  exact hk ρ1 H1 _ (Ext.refl _ _ _ _) r1 (lr1.set i hu)
end
def sPar3 (i j z : Nat) (ma mb mc : EM) : SM := fun l s => FR (ma l s) l fun u s1 => FR (mb l s1) l fun v s2 => FR (mc l s2) l fun w s3 => .nx (((l.set i (some u)).set j (some v)).set z (some w)) s3
section
variable {X : Cx} {W : WX}
theorem ms_par3 {i j k : Nat} {x y z : Str} {a b c : Expr} {ma mb mc : EM} {px py pz pt pt2 pos : Pos} {kt k2 : Nat} (hc : X.calm = true) (hN : X.N.Nodup) (hij : i ≠ j) (hik : i ≠ k) (hjk : j ≠ k)
    (hw : swappedStores [.Tuple [.Name x px, .Name y py, .Name z pz] kt pt] (.Tuple [a, b, c] k2 pt2) X.env = pure (some [x, y, z])) (ha : PE X a (TM X.K X.mg W ma)) (hb : PE X b (TM X.K X.mg W mb)) (hcc : PE X c (TM X.K X.mg W mc)) (hi : X.N[i]? = some x := by rfl) (hj : X.N[j]? = some y := by rfl) (hk : X.N[k]? = some z := by rfl)
    (hx : X.env.scope.names.lookup x = some .local := by rfl) (hy : X.env.scope.names.lookup y = some .local := by rfl) (hz : X.env.scope.names.lookup z = some .local := by rfl) (hs1 : starEach [a, b, c] X.env = (false, eval a X.env) :: starEach [b, c] X.env := by rfl) (hs2 : starEach [b, c] X.env = (false, eval b X.env) :: starEach [c] X.env := by rfl) (hs3 : starEach [c] X.env = (false, eval c X.env) :: starEach [] X.env := by rfl)
    (hs : swapsWithSole [.Tuple [.Name x px, .Name y py, .Name z pz] kt pt] (.Tuple [a, b, c] k2 pt2) pos.line X.env = pure false := by rfl) :
    PS X (.Assign [.Tuple [.Name x px, .Name y py, .Name z pz] kt pt] (.Tuple [a, b, c] k2 pt2) pos) (TF X.K X.mg W (sPar3 i j k ma mb mc)) := by
  refine PS.imp (ps_par3 hc hN hi hj hk hij hik hjk hx hy hz (pa_cons ha (pa_cons hb (pa_cons hcc pa_nil hs3) hs2) hs1) hw hs) fun D σ H h => ?_
  obtain ⟨Pr, ρ, l, s, r, lr, q⟩ := TF.ofE (k := fun u l s1 => FR (mb l s1) l fun v s2 => FR (mc l s2) l fun w s3 => .nx (((l.set i (some u)).set j (some v)).set k (some w)) s3) h
  refine ⟨Pr, ρ, l, s, r, lr, OkA.mono q ?_⟩
  rintro x1 H1 ⟨Pr, ρ1, l1, s1, u, r1, lr1, hu, hk⟩
  refine ⟨Pr, ρ1, l1, s1, r1, lr1, OkA.mono (OkF.more (T := fun _ _ => True) r1 lr1 hk) ?_⟩
  rintro x2 H2 ⟨ρ2, s2, v, e2, r2, lr2, hv, hk2⟩
  refine ⟨Pr, ρ2, l1, s2, r2, lr2, OkA.mono (OkF.more (T := fun _ _ => True) r2 lr2 hk2) ?_⟩
  rintro x3 H3 ⟨ρ3, s3, w, e3, r3, lr3, hw3, hk3⟩
  exact ⟨x1, x2, x3, rfl, hk3 ρ3 H3 _ (Ext.refl _ _ _ _) r3 (((lr3.set i (UR.ext r2 e3 u x1 (UR.ext r1 e2 u x1 hu))).set j (UR.ext r2 e3 v x2 hv)).set k hw3)⟩
end
end Mo
/-! Mo30: the law's head. -/
namespace Mo
open PySem PySem.Spec PyProof.Rows L2
def spLaw (K : PySem.W.Frag) : Sp := fun vs H Q _ => ∃ (a : Addr) (ns : List Int), vs = [.ref a] ∧ Only H ∧ SqL K H a (ns.map V.int) ∧ ns.length ≤ 63 ∧ ∀ H', Q (.bl true) H'
theorem SqL.fixed {K : PySem.W.Frag} {H : Hp} {a : Addr} {xs : List V} (h : SqL K H a xs) (o : Only H) : SqF K H a xs := by
  rcases h with h | h
  · rcases o a with n | ⟨ob, ys, n⟩
    · rcases h with h | ⟨ob, h⟩ <;> rw [n] at h <;> cases h
    · rcases h with h | ⟨ob', h⟩
      · rw [n] at h; cases h
      · exact .inl ⟨ob', h⟩
  · exact .inr h
theorem URs.ofInts {Lp : Addr → Prop} {ρ : List Addr} {K : PySem.W.Frag} {mg : Str → Option Value} {H : Hp} : ∀ ns : List Int, URs Lp ρ K mg H (ns.map U.int) (ns.map V.int)
  | [] => rfl
  | n :: ns => ⟨_, _, rfl, rfl, URs.ofInts ns⟩
theorem Rel.none {K : PySem.W.Frag} {mg : Str → Option Value} {H : Hp} : Rel K mg (fun _ => False) [] [] H := ⟨rfl, (fun i j a h => by cases i <;> cases h), (fun i o a h => by cases i <;> cases h), (fun a h => by cases h), fun a h => h.elim⟩
/-- what the mirror of law answers at every script -/
def Kept (m : Fn) : Prop := ∀ ns : List Int, ns.length ≤ 63 → ∃ s, m [.scr (ns.map U.int)] [] = .ok (.bl true) s
theorem law_spec {K : PySem.W.Frag} {mg : Str → Option Value} {m : Fn} (h : Kept m) : ∀ vs H Q E, spLaw K vs H Q E → SpM K mg 1 m vs H Q E := by
  rintro vs H Q E ⟨a, ns, rfl, ho, hs, hl, q⟩
  obtain ⟨s, e⟩ := h ns hl
  refine ⟨rfl, fun _ => False, [], [], [.scr (ns.map U.int)], Rel.none, ⟨_, _, rfl, ⟨a, ns.map V.int, rfl, SqL.fixed hs ho, ?_, URs.ofInts ns⟩, rfl⟩, ?_⟩
  · rw [List.length_map, sizeLine_eq]; omega
  · rw [e]
    intro ρ' H' x _ _ hx
    have hx : x = .bl true := hx
    subst hx
    exact q H'
theorem walk {l : PySem.W.OpenLaw} {k : Nat} {q : Program} {loose : List Str} {XP : (Str → Option Value) → Heap → Prop} {YP : World → Heap → Prop} {d : DefRec} {K : Params → PySem.W.Frag} {x : Str} (hn : l.most = some 63) (hdf : d.params.defaults = []) (hk : k ≤ 40)
    (hY : ∀ (w : World) (h : Heap), YP w h → (K w.params).In h)
    (F : ∀ (w : World) (mg : Str → Option Value) (fa : Addr) (h : Heap), (K w.params).In h → h.Ns mainGlobals mg → mg d.name = some (.ref fa) →
      ∃ fd : FuncData, (∀ (s : Shared) (u : Value), BindsTo s fd ⟨[u], []⟩ [(x, u)]) ∧ ∀ base : Heap, (K w.params).In base → base.Ns mainGlobals mg → FnOk l.prog w (K w.params) mg base (L2.CX l.prog w) k fa fd [x] (spLaw (K w.params))) :
    PySem.W.WalkO q loose XP YP l.row.toRowW d [] (fun f vs => PySem.call f vs) :=
  L2.walk_of (n := 63) (k := k) (x := x) (CX := fun w => L2.CX l.prog w) (sp := fun w => spLaw (K w.params)) hn (by decide) hdf (Room.mono ⟨rfl, by decide, by decide⟩ hk) hY F (fun _ H a ns hl ho hS => ⟨a, ns, rfl, ho, hS, hl, fun _ => rfl⟩) fun w H s e s' h => by
    obtain ⟨_, _, _, _, _, _, _, _, _, _, _, _, z⟩ := h
    exact z
theorem kit_self {K : PySem.W.Frag} {v : Value} : PySem.W.kitOne K v v = some true := by simp [PySem.W.kitOne]
theorem kit_O {K : PySem.W.Frag} {T : String} {C : Addr} (h1 : (PySem.W.clsIn K C).isSome = true) (h2 : PySem.W.typeIn K (.ref C) = some (.type "type")) (h : PySem.W.subIn K (.type T) (.ref C) = some false) : PySem.W.kitOne K (.type T) (.ref C) = some false := by
  show (if (Value.type T == Value.ref C) = true then _ else _) = _
  rw [if_neg (by simp)]
  show (if ((PySem.W.clsIn K C).isSome && PySem.W.typeIn K (.ref C) == some (.type "type")) = true then PySem.W.subIn K (.type T) (.ref C) else none) = _
  rw [if_pos (by rw [h1, h2]; simp)]
  exact h
theorem kit_B {K : PySem.W.Frag} {T : String} {C : Addr} (h1 : PySem.W.kitMeta T = true) (h : PySem.W.subIn K (.ref C) (.type T) = some false) : PySem.W.kitOne K (.ref C) (.type T) = some false := by
  show (if (Value.ref C == Value.type T) = true then _ else _) = _
  rw [if_neg (by simp)]
  show (if PySem.W.kitMeta T = true then PySem.W.subIn K (.ref C) (.type T) else none) = _
  rw [if_pos h1]
  exact h
end Mo
/-! Mo31: plain facts of mirrors: loops by invariants, comprehensions by their items, calls. -/
namespace Mo
/-- a for loop by its invariant: no turn leaves it -/
theorem loopM_inv {g : GM} {body : SM} (I : Nat → L → S → Prop) : ∀ (us : List U) (k : Nat) (l : L) (s : S), I k l s →
    (∀ i u l s, us[i]? = some u → I (k + i) l s → ∃ l1 s1 l2 s2, g u l s = some (l1, s1) ∧ (body l1 s1 = .nx l2 s2 ∨ body l1 s1 = .ct l2 s2) ∧ I (k + i + 1) l2 s2) →
    ∃ l' s', loopM g body us l s = .nx l' s' ∧ I (k + us.length) l' s'
  | [], k, l, s, h, _ => ⟨l, s, rfl, h⟩
  | u :: us, k, l, s, h, st => by
    obtain ⟨l1, s1, l2, s2, h1, h2, h3⟩ := st 0 u l s rfl h
    obtain ⟨l', s', h4, h5⟩ := loopM_inv I us (k + 1) l2 s2 h3 fun i v l s hi hI => by
      have := st (i + 1) v l s hi (by rw [← Nat.add_assoc, Nat.add_right_comm]; exact hI)
      rw [show k + 1 + i = k + (i + 1) by omega]
      exact this
    refine ⟨l', s', ?_, by rw [List.length_cons, show k + (us.length + 1) = k + 1 + us.length by omega]; exact h5⟩
    unfold loopM
    rw [h1]
    rcases h2 with h2 | h2 <;> simp only [h2] <;> exact h4
theorem callP_ok {m : Fn} {us : List U} {s s' : S} {u : U} (h1 : pus us = true) (h : m us [] = .ok u s') (h2 : pu u = true) : callP m us s = .ok u s := by
  unfold callP
  rw [if_pos h1, h]
  exact if_pos h2
theorem pus_ints : ∀ ns : List Int, pus (ns.map U.int) = true
  | [] => rfl
  | n :: ns => by show (true && pus (ns.map U.int)) = true; rw [pus_ints ns]; rfl
/-- a list comprehension without a test, each item on its own -/
theorem lcGo_map {g : Tg} {e : EM} {l : L} {f : U → U} {s : S} : ∀ us : List U, (∀ u ∈ us, ∃ l1, setT g u l = some l1 ∧ e l1 s = .ok (f u) s) → lcGo g tAll e l us s = some (us.map f, s)
  | [], _ => rfl
  | u :: us, h => by
    obtain ⟨l1, h1, h2⟩ := h u List.mem_cons_self
    have ih := lcGo_map us fun v hv => h v (List.mem_cons_of_mem _ hv)
    unfold lcGo
    simp only [h1, tAll, h2, ih, List.map_cons]
/-- .. with a test -/
theorem lcGo_filter {g : Tg} {t : TMt} {e : EM} {l : L} {p : U → Bool} {f : U → U} {s : S} : ∀ us : List U, (∀ u ∈ us, ∃ l1, setT g u l = some l1 ∧ t l1 s = .ok (p u) s ∧ (p u = true → e l1 s = .ok (f u) s)) → lcGo g t e l us s = some ((us.filter p).map f, s)
  | [], _ => rfl
  | u :: us, h => by
    obtain ⟨l1, h1, h2, h3⟩ := h u List.mem_cons_self
    have ih := lcGo_filter us fun v hv => h v (List.mem_cons_of_mem _ hv)
    unfold lcGo
    cases e1 : p u with
    | true => rw [e1] at h2; simp only [h1, h2, h3 e1, ih, List.filter, e1, List.map_cons]
    | false => rw [e1] at h2; simp only [h1, h2, ih, List.filter, e1]
/-- a while loop by a measure -/
theorem whileM_inv {t : TMt} {body : SM} (I : Nat → L → S → Prop) (st : ∀ n l s, I n l s → (∃ s1, t l s = .ok false s1 ∧ I 0 l s1) ∨ (∃ s1 l2 s2 m, t l s = .ok true s1 ∧ (body l s1 = .nx l2 s2 ∨ body l s1 = .ct l2 s2) ∧ m < n ∧ I m l2 s2)) :
    ∀ (n f : Nat) (l : L) (s : S), n < f → I n l s → ∃ l' s', whileM t body f l s = .nx l' s' ∧ I 0 l' s' := by
  intro n
  induction n using Nat.strongRecOn with
  | ind n ih =>
    intro f l s hf hI
    obtain ⟨f, rfl⟩ : ∃ k, f = k + 1 := ⟨f - 1, by omega⟩
    unfold whileM
    rcases st n l s hI with ⟨s1, h1, h2⟩ | ⟨s1, l2, s2, m, h1, h2, h3, h4⟩
    · rw [h1]; exact ⟨l, s1, rfl, h2⟩
    · rw [h1]
      obtain ⟨l', s', h5, h6⟩ := ih m h3 f l2 s2 (by omega) h4
      refine ⟨l', s', ?_, h6⟩
      rcases h2 with h2 | h2 <;> simp only [FR, h2, if_true] <;> exact h5
end Mo
/-! Mo32: plain facts of ==: values that stand for plain Lean data compare as these do. -/
namespace Mo
/-- α's values as data, from the depth n on: == tells them apart -/
structure Emb {α : Type} (n : Nat) (f : α → U) (d : α → D) : Prop where
  dat : ∀ (k : Nat) (s : S) (a : α), n ≤ k → dat k s (f a) = some (d a)
  deq : ∀ (k : Nat) (a b : α), n ≤ k → ∃ r : Bool, deqO k (d a) (d b) = some r ∧ (r = true ↔ a = b)
  nod : ∀ (k : Nat) (a : α), n ≤ k → noD k (d a) = true
theorem mapO_map {α β γ : Type} {f : β → Option γ} {g : α → β} {h : α → γ} : ∀ as : List α, (∀ a ∈ as, f (g a) = some (h a)) → mapO f (as.map g) = some (as.map h)
  | [], _ => rfl
  | a :: as, q => by
    have h1 := q a List.mem_cons_self
    have h2 := mapO_map as fun b hb => q b (List.mem_cons_of_mem _ hb)
    unfold mapO
    simp only [List.map_cons, h1, h2]
theorem Emb.str : Emb 1 U.str D.str := ⟨fun k s a h => by
  obtain ⟨k, rfl⟩ : ∃ j, k = j + 1 := ⟨k - 1, by omega⟩
  rfl, fun k a b h => by
  obtain ⟨k, rfl⟩ : ∃ j, k = j + 1 := ⟨k - 1, by omega⟩
  exact ⟨a == b, rfl, by simp⟩, fun k a h => by
  obtain ⟨k, rfl⟩ : ∃ j, k = j + 1 := ⟨k - 1, by omega⟩
  rfl⟩
theorem Emb.int : Emb 1 U.int D.int := ⟨fun k s a h => by
  obtain ⟨k, rfl⟩ : ∃ j, k = j + 1 := ⟨k - 1, by omega⟩
  rfl, fun k a b h => by
  obtain ⟨k, rfl⟩ : ∃ j, k = j + 1 := ⟨k - 1, by omega⟩
  exact ⟨a == b, rfl, by simp⟩, fun k a h => by
  obtain ⟨k, rfl⟩ : ∃ j, k = j + 1 := ⟨k - 1, by omega⟩
  rfl⟩
theorem allZ_eq {α : Type} {n k : Nat} {f : α → U} {d : α → D} (e : Emb n f d) (hk : n ≤ k) : ∀ as bs : List α, ∃ r : Bool, allZ (deqO k) (as.map d) (bs.map d) = some r ∧ (r = true → as.length = bs.length → as = bs) ∧ (as = bs → r = true)
  | [], [] => ⟨true, rfl, fun _ _ => rfl, fun _ => rfl⟩
  | [], b :: bs => ⟨true, rfl, (fun _ h => by simp at h), fun h => by simp at h⟩
  | a :: as, [] => ⟨true, rfl, (fun _ h => by simp at h), fun h => by simp at h⟩
  | a :: as, b :: bs => by
    obtain ⟨r1, h1, h2⟩ := e.deq k a b hk
    obtain ⟨r2, h3, h4, h5⟩ := allZ_eq e hk as bs
    refine ⟨r1 && r2, ?_, fun h hl => ?_, fun h => ?_⟩
    · simp only [List.map_cons, allZ, h1, h3, andO]
    · rw [Bool.and_eq_true] at h
      rw [h2.mp h.1, h4 h.2 (by simpa using hl)]
    · injection h with q1 q2
      rw [h2.mpr q1, h5 q2]; rfl
theorem Emb.tup {α : Type} {n : Nat} {f : α → U} {d : α → D} (e : Emb n f d) : Emb (n + 1) (fun as : List α => U.tup (as.map f)) (fun as => D.tup (as.map d)) := ⟨fun k s as h => by
  obtain ⟨k, rfl⟩ : ∃ j, k = j + 1 := ⟨k - 1, by omega⟩
  have := mapO_map (f := Mo.dat k s) (g := f) (h := d) as fun a _ => e.dat k s a (by omega)
  show (match mapO (Mo.dat k s) (as.map f) with
    | some ds => some (D.tup ds)
    | none => none) = _
  rw [this], fun k as bs h => by
  obtain ⟨k, rfl⟩ : ∃ j, k = j + 1 := ⟨k - 1, by omega⟩
  obtain ⟨r, h1, h2, h3⟩ := allZ_eq e (k := k) (by omega) as bs
  refine ⟨r && ((as.map d).length == (bs.map d).length), ?_, ?_⟩
  · show andO (allZ (deqO k) (as.map d) (bs.map d)) (some _) = _
    rw [h1]; rfl
  · rw [Bool.and_eq_true, beq_iff_eq, List.length_map, List.length_map]
    exact ⟨fun ⟨q1, q2⟩ => h2 q1 q2, fun q => ⟨h3 q, by rw [q]⟩⟩, fun k as h => by
  obtain ⟨k, rfl⟩ : ∃ j, k = j + 1 := ⟨k - 1, by omega⟩
  show (as.map d).all (noD k) = true
  rw [List.all_eq_true]
  intro x hx
  obtain ⟨a, _, rfl⟩ := List.mem_map.mp hx
  exact e.nod k a (by omega)⟩
theorem Emb.lst {α : Type} {n : Nat} {f : α → U} {d : α → D} (e : Emb n f d) : Emb (n + 1) (fun as : List α => U.lst (as.map f)) (fun as => D.lst (as.map d)) := ⟨fun k s as h => by
  obtain ⟨k, rfl⟩ : ∃ j, k = j + 1 := ⟨k - 1, by omega⟩
  have := mapO_map (f := Mo.dat k s) (g := f) (h := d) as fun a _ => e.dat k s a (by omega)
  show (match mapO (Mo.dat k s) (as.map f) with
    | some ds => some (D.lst ds)
    | none => none) = _
  rw [this], fun k as bs h => by
  obtain ⟨k, rfl⟩ : ∃ j, k = j + 1 := ⟨k - 1, by omega⟩
  obtain ⟨r, h1, h2, h3⟩ := allZ_eq e (k := k) (by omega) as bs
  by_cases hl : ((as.map d).length == (bs.map d).length) = true
  · refine ⟨r, ?_, ?_⟩
    · show (if ((as.map d).length == (bs.map d).length) = true then allZ (deqO k) (as.map d) (bs.map d) else some false) = _
      rw [if_pos hl, h1]
    · rw [beq_iff_eq, List.length_map, List.length_map] at hl
      exact ⟨fun q => h2 q hl, h3⟩
  · refine ⟨false, ?_, ⟨(fun q => by cases q), fun q => ?_⟩⟩
    · show (if ((as.map d).length == (bs.map d).length) = true then allZ (deqO k) (as.map d) (bs.map d) else some false) = _
      rw [if_neg hl]
    · exact absurd (by rw [q]; simp) hl, fun k as h => by
  obtain ⟨k, rfl⟩ : ∃ j, k = j + 1 := ⟨k - 1, by omega⟩
  show (as.map d).all (noD k) = true
  rw [List.all_eq_true]
  intro x hx
  obtain ⟨a, _, rfl⟩ := List.mem_map.mp hx
  exact e.nod k a (by omega)⟩
/-- == of such values -/
theorem Emb.eq {α : Type} {n : Nat} {f : α → U} {d : α → D} (e : Emb n f d) (hn : n ≤ 40) (a b : α) (s : S) : ∃ r : Bool, gEq (f a) (f b) s = some (.bl r, s) ∧ (r = true ↔ a = b) := by
  obtain ⟨r, h1, h2⟩ := e.deq 40 a b hn
  refine ⟨r, ?_, h2⟩
  unfold gEq ueq deep
  rw [e.dat 40 s a hn, e.dat 40 s b hn]
  simp only [h1]
theorem Emb.ne {α : Type} {n : Nat} {f : α → U} {d : α → D} (e : Emb n f d) (hn : n ≤ 40) (a b : α) (s : S) : ∃ r : Bool, gNe (f a) (f b) s = some (.bl r, s) ∧ (r = true ↔ a ≠ b) := by
  obtain ⟨r, h1, h2⟩ := e.deq 40 a b hn
  refine ⟨!r, ?_, ?_⟩
  · unfold gNe deep
    rw [e.dat 40 s a hn, e.dat 40 s b hn]
    have : okNe (d a) (d b) = true := by
      unfold okNe deep
      rw [e.nod 40 a hn, e.nod 40 b hn]; rfl
    simp only [this, h1, if_true]
  · cases r with
    | true => simp [h2.mp rfl]
    | false => simp only [Bool.not_false, true_iff]; exact fun q => by have := h2.mpr q; cases this
end Mo
/-! Mo33: mirrors by big steps: one rule for each combinator, so that no match stands stuck before the kernel. -/
namespace Mo
open PySem PySem.Spec PyProof.Rows L2
variable {α : Type} {l l1 l2 : L} {s s1 s2 s3 s4 : S} {u v w : U} {us vs : List U} {m m1 m2 m3 : EM} {a b c : SM} {t t1 t2 : TMt} {am : AM} {im : IM} {o : F}
theorem k_op {g : U → U → S → G0} (h1 : m1 l s = .ok u s1) (h2 : m2 l s1 = .ok v s2) (h3 : g u v s2 = some (w, s3)) : eOp g m1 m2 l s = .ok w s3 := by simp [eOp, h1, h2, h3, liftG]
theorem k_opR {g : U → U → S → R U} {r : R U} (h1 : m1 l s = .ok u s1) (h2 : m2 l s1 = .ok v s2) (h3 : g u v s2 = r) : eOpR g m1 m2 l s = r := by simp [eOpR, h1, h2, h3]
theorem k_unR {g : U → S → R U} {r : R U} (h1 : m1 l s = .ok u s1) (h3 : g u s1 = r) : eUnR g m1 l s = r := by simp [eUnR, h1, h3]
theorem k_un {g : U → S → G0} (h1 : m1 l s = .ok u s1) (h3 : g u s1 = some (w, s3)) : eUn g m1 l s = .ok w s3 := by simp [eUn, h1, h3, liftG]
theorem k_v {i : Nat} (h : l[i]? = some (some u)) : mV i l s = .ok u s := by simp [mV, h]
theorem k_n {g : List U → S → G0} (h1 : am l s = .ok us s1) (h2 : g us s1 = some (w, s2)) : eN g am l s = .ok w s2 := by simp [eN, h1, h2, liftG]
theorem k_nil : aNil l s = .ok [] s := rfl
theorem k_cons (h1 : m l s = .ok u s1) (h2 : am l s1 = .ok us s2) : aCons m am l s = .ok (u :: us) s2 := by simp [aCons, h1, h2]
theorem k_star (h1 : m l s = .ok u s1) (h2 : starOf u s1 = some vs) (h3 : am l s1 = .ok us s2) : aStar m am l s = .ok (vs ++ us) s2 := by simp [aStar, h1, h2, h3]
theorem k_b {x : Bool} (h : m l s = .ok (.bl x) s1) : mB m l s = .ok x s1 := by simp [mB, asB, h]
theorem k_notT {x : Bool} (h : t l s = .ok x s1) : tNotM t l s = .ok (!x) s1 := by simp [tNotM, h]
theorem k_orF (h : t1 l s = .ok false s1) {r : R Bool} (h2 : t2 l s1 = r) : tOrM t1 t2 l s = r := by simp [tOrM, h, h2]
theorem k_orT (h : t1 l s = .ok true s1) : tOrM t1 t2 l s = .ok true s1 := by simp [tOrM, h]
theorem k_eOrF (h : m1 l s = .ok (.bl false) s1) {r : R U} (h2 : m2 l s1 = r) : eOrM m1 m2 l s = r := by simp [eOrM, h, h2]
theorem k_eOrT (h : m1 l s = .ok (.bl true) s1) : eOrM m1 m2 l s = .ok (.bl true) s1 := by simp [eOrM, h]
theorem k_eAndT (h : m1 l s = .ok (.bl true) s1) {r : R U} (h2 : m2 l s1 = r) : eAndM m1 m2 l s = r := by simp [eAndM, h, h2]
theorem k_eAndF (h : m1 l s = .ok (.bl false) s1) : eAndM m1 m2 l s = .ok (.bl false) s1 := by simp [eAndM, h]
theorem k_ifE {x : Bool} {r : R U} (h : t l s = .ok x s1) (h2 : (if x = true then m1 l s1 else m2 l s1) = r) : eIf t m1 m2 l s = r := by simp only [eIf, h, R.bind]; exact h2
theorem k_if {x : Bool} (h : t l s = .ok x s1) (h2 : (if x = true then a l s1 else b l s1) = o) : sIf t a b l s = o := by simp only [sIf, h, FR]; exact h2
theorem k_ifF (h : t l s = .ok false s1) (h2 : b l s1 = o) : sIf t a b l s = o := k_if h h2
theorem k_ifT (h : t l s = .ok true s1) (h2 : a l s1 = o) : sIf t a b l s = o := k_if h h2
theorem k_asg {g : GM} (h : m l s = .ok u s1) (h2 : g u l s1 = some (l2, s2)) : sAsg m g l s = .nx l2 s2 := by simp [sAsg, FR, FG, h, h2]
theorem k_seq (h : a l s = .nx l1 s1) (h2 : b l1 s1 = o) : sSeq a b l s = o := by unfold sSeq; rw [h]; exact h2
theorem k_ret (h : m l s = .ok u s1) : sRet m l s = .rt u s1 := by simp [sRet, FR, h]
theorem k_expr (h : m l s = .ok u s1) : sExpr m l s = .nx l s1 := by simp [sExpr, FR, h]
theorem k_for {g : GM} (h : im l s = .ok us s1) (h2 : loopM g b us l s1 = o) : sFor im g b l s = o := by simp only [sFor, FR, h]; exact h2
theorem k_fn {f : U → S → Option (List U)} (h : m l s = .ok u s1) (h2 : f u s1 = some us) : iFn f m l s = .ok us s1 := by simp [iFn, h, h2]
theorem k_fnA {f : List U → Option (List U)} (h : am l s = .ok vs s1) (h2 : f vs = some us) : iFnA f am l s = .ok us s1 := by simp [iFnA, h, h2]
theorem k_call {f : Fn} {r : R U} (h : am l s = .ok us s1) (h2 : f us s1 = r) : eCall f am l s = r := by simp [eCall, h, h2]
theorem k_lst {lv : Bool} (h : am l s = .ok us s1) (h2 : mkL lv us s1 = some (u, s2)) : eLst lv am l s = .ok u s2 := by simp [eLst, h, h2, liftG]
theorem k_tup (h : am l s = .ok us s1) (h2 : us.length ≤ 1000) : eTup am l s = .ok (.tup us) s1 := by
  have : us.length ≤ 16777216 := by omega
  simp [eTup, h, mkT, sizeLine_eq, this, liftG]
theorem k_lc {lv : Bool} {xs : List Nat} {g : Tg} {ws : List U} (h : im l s = .ok us s1) (h2 : lcGo g t m (wipeL l xs) us s1 = some (ws, s2)) (h3 : mkL lv ws s2 = some (u, s3)) : eLc lv xs im g t m l s = .ok u s3 := by simp [eLc, h, h2, h3, liftG]
theorem k_dc {lv : Bool} {xs : List Nat} {g : Tg} {ws : List (Ky × U)} (h : im l s = .ok us s1) (h2 : dcGo g t m1 m2 (wipeL l xs) us s1 [] = some (ws, s2)) (h3 : mkD lv false ws s2 = some (u, s3)) : eDc lv xs im g t m1 m2 l s = .ok u s3 := by simp [eDc, h, h2, h3, liftG]
theorem k_ml {g : U → List U → S → G0} (h1 : m l s = .ok u s1) (h2 : isLs u s1 = true) (h3 : am l s1 = .ok us s2) (h4 : g u us s2 = some (w, s3)) : eMl g m am l s = .ok w s3 := by simp [eMl, h1, h2, h3, h4, liftG]
theorem k_par {i j : Nat} (h1 : m1 l s = .ok u s1) (h2 : m2 l s1 = .ok v s2) : sPar i j m1 m2 l s = .nx ((l.set i (some u)).set j (some v)) s2 := by simp [sPar, FR, h1, h2]
theorem k_par3 {i j z : Nat} (h1 : m1 l s = .ok u s1) (h2 : m2 l s1 = .ok v s2) (h3 : m3 l s2 = .ok w s3) : sPar3 i j z m1 m2 m3 l s = .nx (((l.set i (some u)).set j (some v)).set z (some w)) s3 := by simp [sPar3, FR, h1, h2, h3]
theorem k_putD (h1 : m3 l s = .ok v s1) (h2 : m1 l s1 = .ok u s2) (h3 : m2 l s2 = .ok w s3) (h4 : gPutD u w v s3 = some s4) : sPutD m1 m2 m3 l s = .nx l s4 := by simp [sPutD, FR, h1, h2, h3, h4, FS]
theorem k_meth {mc cn : Nat} {fs : List (Nat × U)} {T : Tbl} {fm : Fn} {r : R U} (h1 : m l s = .ok u s1) (h2 : insOf u s1 = some (cn, fs)) (h3 : fldGet mc fs = none) (h4 : lkT cn T = some fm) (h5 : am l s1 = .ok us s2) (h6 : fm (u :: us) s2 = r) : eMeth mc T m am l s = r := by simp [eMeth, h1, h2, h3, h4, h5, h6]
theorem k_meth0 {mc cn : Nat} {fs : List (Nat × U)} {T : Tbl} {fm : Fn} {r : R U} (h1 : m l s = .ok u s1) (h2 : insOf u s1 = some (cn, fs)) (h3 : fldGet mc fs = none) (h4 : lkT cn T = some fm) (h6 : fm [u] s1 = r) : eMeth0 mc T m l s = r := by simp [eMeth0, h1, h2, h3, h4, h6]
theorem k_dnil : pNil l s = .ok [] s := rfl
theorem k_dcons {d : DM} {k : Ky} {r : List (Ky × U)} (h1 : m1 l s = .ok u s1) (h2 : m2 l s1 = .ok v s2) (h3 : d l s2 = .ok r s3) (h4 : kyOf u = some k) (h5 : fits false k = true) : pCons m1 m2 d l s = .ok ((k, v) :: r) s3 := by simp [pCons, h1, h2, h3, h4, h5]
theorem k_disp {lv : Bool} {d : DM} {r : List (Ky × U)} (h1 : d l s = .ok r s1) (h2 : r.length ≤ 15) (h3 : mkD lv false (mrgK [] r) s1 = some (u, s2)) : eDisp lv d l s = .ok u s2 := by simp [eDisp, h1, h2, h3, liftG]
theorem k_rt {n : Nat} (h : b (us.map some ++ List.replicate (n - us.length) none) s = .rt u s1) : fnM n b us s = .ok u s1 := by simp only [fnM, h]
theorem k_nx {n : Nat} (h : b (us.map some ++ List.replicate (n - us.length) none) s = .nx l1 s1) : fnM n b us s = .ok .non s1 := by simp only [fnM, h]
/-! ### small data -/
theorem k_mkL (h : us.length ≤ 1000) : mkL false us s = some (.lst us, s) := by
  have : us.length ≤ 16777216 := by omega
  simp [mkL, sizeLine_eq, this]
theorem k_mkLT (h : us.length ≤ 1000) : mkL true us s = some (.ref s.length, s ++ [.lst us]) := by
  have : us.length ≤ 16777216 := by omega
  simp [mkL, sizeLine_eq, this]
theorem k_mkD {kvs : List (Ky × U)} (h : kvs.length ≤ 1000) : mkD false false kvs s = some (.dct false kvs, s) := by
  have : kvs.length ≤ 16777216 := by omega
  simp [mkD, sizeLine_eq, this]
theorem k_mkDT {kvs : List (Ky × U)} (h : kvs.length ≤ 1000) : mkD true false kvs s = some (.ref s.length, s ++ [.dct false kvs]) := by
  have : kvs.length ≤ 16777216 := by omega
  simp [mkD, sizeLine_eq, this]
theorem k_append {i : Nat} {ws : List U} (h : s[i]? = some (.lst ws)) (hl : ws.length ≤ 1000) : gAppend (.ref i) [u] s = some (.non, s.set i (.lst (ws ++ [u]))) := by
  have : ws.length < 16777216 := by omega
  simp [gAppend, h, sizeLine_eq, this]
theorem k_put {i : Nat} {kvs : List (Ky × U)} {k : Ky} (h : s[i]? = some (.dct false kvs)) (h1 : kyOf u = some k) (h2 : fits false k = true) (hl : kvs.length ≤ 1000) : gPutD (.ref i) u v s = some (s.set i (.dct false (dPut kvs k v))) := by
  have : kvs.length < 16777216 := by omega
  simp [gPutD, h, h1, h2, sizeLine_eq, this]
theorem k_rg {n : Nat} {z : Int} (hz : z = (n : Int)) (h : n ≤ 1000) : rg1 [.int z] = some (rngU 0 1 n) := by
  subst hz
  have h1 : -(2 ^ 62) ≤ (n : Int) ∧ (n : Int) < 2 ^ 62 := by omega
  unfold rg1
  simp only
  rw [if_pos h1, Int.toNat_natCast]
theorem k_addT {us vs : List U} (h : us.length + vs.length ≤ 1000) : ∃ w, gAdd false (.tup us) (.tup vs) s = some (w, s) ∧ w = .tup (us ++ vs) := by
  have : us.length + vs.length ≤ 16777216 := by omega
  cases us with
  | nil => exact ⟨_, rfl, rfl⟩
  | cons x us =>
    cases vs with
    | nil => exact ⟨_, rfl, by simp⟩
    | cons y vs => exact ⟨.tup (x :: us ++ y :: vs), by simp [gAdd, tupOf, mkT, sizeLine_eq] at this ⊢; omega, rfl⟩
theorem k_addL {us vs : List U} (h : us.length + vs.length ≤ 1000) : gAdd false (.lst us) (.lst vs) s = some (.lst (us ++ vs), s) := by
  have : us.length + vs.length ≤ 16777216 := by omega
  simp [gAdd, tupOf, lstW, mkL, sizeLine_eq, this]
end Mo
/-! Mo34: an own exception over ValueError whose __init__ says super().__init__(text), then stores what it is given. -/
namespace Mo
open PySem PySem.Spec PyProof.Rows L2 NdefX
section
variable {P : Program} {w : World} {K : PySem.W.Frag} {mg : Str → Option Value} {base : Heap}
/-- what the text says of such an __init__ -/
structure EI (P : Program) (K : PySem.W.Frag) (mg : Str → Option Value) (C : Addr) (qual : Str) (stt : Stmt) (f : Addr) (fd : FuncData) (cda cc : Addr) : Prop where
  fn : ∃ (oc : Value) (od an : Option Addr) (kV doc pm ct : Value) (osl : Array (Option Value)),
    fd = PySem.W.ksFn "__init__" qual (defArgs stt) (defBody stt) (defScope stt) .none kV doc pm an (.ref cda) ct cc ∧ K.lookup f = some ⟨oc, od, .func fd, osl⟩
  cd : PySem.W.codeIn K (.ref cda) qual = true
  co : ∃ (ccl : Value) (cdd : Option Addr) (vs : Array Value) (ccs : Array (Option Value)) (file : Str) (tf : Tok), K.lookup cda = some ⟨ccl, cdd, .fields vs, ccs⟩ ∧ vs[2]? = some (.str file tf) ∧ ((P.main.file : Str) == file) = true
  ce : ∃ (cl : Value) (cld : Option Addr) (csl : Array (Option Value)), K.lookup cc = some ⟨cl, cld, .cell (some (.ref C)), csl⟩
  T : OexC K C
  sub : PySem.W.mroIn K C (.ref C) = some true
  sup : PySem.W.ks_superIn K C C "__init__" = some (some (.builtin "ValueError.__init__"))
  subV : PySem.W.subIn K (.ref C) (.type "ValueError") = some true
  opq : PySem.W.nsIn K PySem.cStatics "thirdparty.any" = some none
  ms : mg "super" = none
  top : (P.main.scope.names.lookup ("super" : Str)).isSome = false
/-- its words, as a def with a captured cell -/
abbrev eF (qual : Str) (stt : Stmt) (cda cc : Addr) : NF := ⟨"__init__", qual, defArgs stt, defBody stt, defScope stt, [("__class__", cc)], cda⟩
abbrev eX (CX : CXT) (P : Program) (w : World) (K : PySem.W.Frag) (mg : Str → Option Value) (base : Heap) (N : List Str) (qual : Str) (stt : Stmt) (cda cc : Addr) (f : Addr) (A : Around) (outer : List Env) (s : Shared) (H : Hp) (E : XK) : Cx := ncx CX P w K mg base N (eF qual stt cda cc) f A outer s H E
theorem super_stmt {CX : CXT} {C : Addr} {qual : Str} {stt : Stmt} {f : Addr} {fd : FuncData} {cda cc : Addr} {N : List Str} {A : Around} {outer : List Env} {s0 : Shared} {H0 : Hp} {E : XK} (EI1 : EI P K mg C qual stt f fd cda cc)
    {ar : Arg} (hp : ((defArgs stt).posonlyargs ++ (defArgs stt).args).head? = some ar) (hself : N[0]? = some ar.arg) (hks : (defScope stt).names.lookup ("super" : Str) = some .globalImplicit) (hkc : (defScope stt).names.lookup ("__class__" : Str) = some .free) (hka : (defScope stt).names.lookup ar.arg = some .local)
    {pins : List (Addr × Obj)} {σ : L2.St} {H : Hp} {s : Shared} {a : Addr} (I : Inv (eX CX P w K mg base N qual stt cda cc f A outer s0 H0 E) pins σ H s) (hσ : σ[0]? = some (some (.ref a))) (ha : H a = some (exo a C none))
    {p0 p1 p2 p3 p4 p5 : Pos} {msg : Str} {j : Nat} {body : List Stmt} {Q : Flow → Shared → Prop} (hq : ∀ s', Inv (eX CX P w K mg base N qual stt cda cc f A outer s0 H0 E) pins σ H s' → Q .next s') (hz : msg.cps.size ≤ sizeLine) {pl : Sem Bool}
    (he : eval (.Call (.Attribute (.Call (.Name "super" p0) [] [] p1) "__init__" p2) [.Constant (.str msg) j p3] [] p4) (eX CX P w K mg base N qual stt cda cc f A outer s0 H0 E).env = (do
      let ov ← attributeBase (.Call (.Name "super" p0) [] [] p1) "__init__" (eX CX P w K mg base N qual stt cda cc f A outer s0 H0 E).env (eval (.Call (.Name "super" p0) [] [] p1) (eX CX P w K mg base N qual stt cda cc f A outer s0 H0 E).env)
      standAt p2.atName
      let (fv, first) ← holding [ov] (getMethod ov "__init__" pl)
      callWith p4 fv first (backTo p4 (starEach [.Constant (.str msg) j p3] (eX CX P w K mg base N qual stt cda cc f A outer s0 H0 E).env)) []))
    (hs : swapsWith (.Call (.Attribute (.Call (.Name "super" p0) [] [] p1) "__init__" p2) [.Constant (.str msg) j p3] [] p4) none p5.line (eX CX P w K mg base N qual stt cda cc f A outer s0 H0 E).env = pure false) :
    PySem.wpAt (model P w) (eX CX P w K mg base N qual stt cda cc f A outer s0 H0 E).A (.func body (eX CX P w K mg base N qual stt cda cc f A outer s0 H0 E).env) (exec (.Expr (.Call (.Attribute (.Call (.Name "super" p0) [] [] p1) "__init__" p2) [.Constant (.str msg) j p3] [] p4) p5) (eX CX P w K mg base N qual stt cda cc f A outer s0 H0 E).env) Q (eX CX P w K mg base N qual stt cda cc f A outer s0 H0 E).xe s := by
  obtain ⟨oc, od, an, kV, doc, pm, ct, osl, rfl, lk⟩ := EI1.fn
  obtain ⟨ccl, cdd, vs, ccs, file, tf, lco, hvs, hfile⟩ := EI1.co
  obtain ⟨cl, cld, csl, lce⟩ := EI1.ce
  have KX : K.In s.heap := I.kIn
  have kind : (defScope stt).kind = .function := I.ok.kind
  obtain ⟨nm, q, Nn, bs, bm, sn, sub, ab, col, dd, k0, k1, k2, k3, k5, hC, hbm⟩ := EI1.T.cls
  obtain ⟨t1, ho⟩ := exo_at I.hok ha
  refine PySem.ks_wpAt_Expr_any (PySem.ks_wpAt_MethodCall ?_ he) I.quiet hs
  refine PySem.ks_wpAt_super_base (of := ⟨oc, od, .func _, osl⟩) hks hkc rfl rfl (KX _ _ lk) rfl hp rfl (KX _ _ lco) rfl hvs hfile EI1.top ?_
  obtain ⟨mb, b1, b2⟩ := I.mod.blt
  refine PySem.W.ks_loadName_global kind hks (PySem.Calls.loadGlobal_builtin (I.mod.glob.keeps I.bk) EI1.ms (b1.keeps I.bk) ((b2 "super" (by decide)).trans rfl) ⟨rfl, ?_⟩)
  refine wpAny_loadName_free kind hkc rfl ⟨_, KX _ _ lce, rfl⟩ ?_
  obtain ⟨m, hns, hloc⟩ := I.loc
  obtain ⟨u, hu, hlk⟩ := hloc 0 ar.arg _ hself hσ (Or.inl hka)
  have hu : u = .ref a := hu
  subst hu
  have hmv : m ar.arg = some (.ref a) := by
    rcases hlk with ⟨_, h⟩ | ⟨h, _⟩
    · exact h
    · have h : (defScope stt).names.lookup ar.arg = some .cell ∨ (defScope stt).names.lookup ar.arg = some .free := h
      rw [hka] at h
      rcases h with h | h <;> cases h
  refine wpAny_loadName_local kind hka hns hmv ?_
  have hC' := KX _ _ hC
  refine PySem.ks_wpAny_isType_cls hC' rfl ⟨rfl, ?_⟩
  obtain ⟨hp0, g, d, t, os⟩ := s
  refine PySem.ks_wpAny_call_super hC' rfl ho rfl (fun c e => by cases e) (PySem.W.looks_mroIn KX EI1.sub) (fun h' e k => ?_)
  have I1 := I.kept (t' := t) k
  have K1 : K.In h' := I1.kIn
  have ho1 := k _ _ ho
  have hcl : PySem.W.clsIn K C = some { name := nm, bases := bs, mro := .ref C :: bm, ns := Nn, qualname := q, hasDict := true, slotNames := sn, subclasses := sub, abstract := ab, collection := col, hasDel := false } := by unfold PySem.W.clsIn; rw [hC] <;> rfl
  have IA : PySem.W.InstAt h' a { cls := .ref C, data := .fields #[.ref t1, .none, .none, .none, .bool false, .none] } C none := ⟨ho1, rfl, rfl, trivial⟩
  have hI : PySem.W.Looks (model P w) h' (isInstance (.ref a) (.type "ValueError")) true := IA.type.andThen (PySem.W.looks_subIn K1 EI1.subV)
  have hsup := EI1.sup
  unfold PySem.W.ks_superIn at hsup
  rw [hcl] at hsup
  have hn : H hp0.objs.size = none := I.hok.fresh (Nat.le_refl _)
  refine PySem.W.kxs_getMethod PySem.W.kxs_ValueError e (PySem.W.looks_opaque K1 EI1.opq) (l₀ := .ref C :: bm) ((PySem.W.looks_clsIn K1 hcl).andThen .now) rfl K1 hsup hI (PySem.W.ks_ne K1 IA hcl) rfl ?_
  have I2 := I1.kept (t' := t + 1) (h' := h'.push (PySem.W.kxs_mw "ValueError.__init__" a)) fun b o q => Heap.get?_push_of_some _ q
  have hu2 : (h'.push (PySem.W.kxs_mw "ValueError.__init__" a)).get? h'.objs.size = some (PySem.W.kxs_mw "ValueError.__init__" a) := Heap.get?_push_size h' rfl
  have hsz := I1.lt
  have I3 := I2.pins_of (pins' := (h'.objs.size, PySem.W.kxs_mw "ValueError.__init__" a) :: pins) fun p hp => by
    rcases List.mem_cons.mp hp with rfl | hp
    · exact ⟨hu2, I1.hok.fresh (Nat.le_refl _), Nat.ne_of_gt hsz, I1.nofs (Nat.le_refl _), fun v z => by cases z⟩
    · exact I2.pin p (List.mem_append_right _ hp)
  have hpa : PA (eX CX P w K mg base N qual stt cda cc f A outer s0 H0 E) [.Constant (.str msg) j p3] (tCons (tC (.str msg)) tNil) := pa_cons pe_str pa_nil
  refine PySem.W.kxs_callWith (i := "ValueError.__init__") (x := a) rfl (PySem.Calls.evalArgs_plain (thn (hpa.run p4 _ _ σ H (fun vs H1 => vs = [V.str msg] ∧ H = H1) I3 ⟨rfl, rfl⟩) fun us s4 hh => ?_))
  obtain ⟨vs4, H4, I4, r4, rfl, rfl⟩ := hh
  have hu4 : s4.heap.get? h'.objs.size = some (PySem.W.kxs_mw "ValueError.__init__" a) := (I4.pin _ (List.mem_append_right _ List.mem_cons_self)).1
  refine ⟨hu4, ?_⟩
  have I5 := I4.pins_of (pins' := pins) fun p hp => I4.pin p (List.mem_append_right _ (List.mem_cons_of_mem _ hp))
  obtain ⟨t5, ho5⟩ := exo_at I5.hok ha
  have K5 : K.In s4.heap := I5.kIn
  have hC5 := K5 _ _ hC
  have hlen : us.length ≤ sizeLine := by
    rw [← r4.length, sizeLine_eq]; simp
  obtain ⟨hp5, g5, d5, tk5, os5⟩ := s4
  refine wpAny_call (codeAny_of_tree ?_)
  show wpAny _ (A.deeper _).in1 (callAny (.ref h'.objs.size) ⟨us, []⟩) _ _ _
  simp only [callAny]
  refine wpAny_bind (wpAny_load hu4 ?_)
  simp only [PySem.W.kxs_mw, show (Value.type "method-wrapper" == Value.type "method" || Value.type "method-wrapper" == Value.type "builtin_function_or_method" || Value.type "method-wrapper" == Value.type "method-wrapper") = true by decide, if_true]
  refine PySem.W.KFB.if_so (by decide) ?_
  refine wpAny_bind (PySem.W.check_bound_init F.excBase_ValueError.toExcCallFacts hC5 ho5 rfl ?_)
  refine wpAny_bind (wpAny_pure (wpAny_pure ?_))
  refine ⟨plainId_quiet F.excBase_ValueError.init.plain _, codeAny_builtin F.excBase_ValueError.initEntry ?_⟩
  refine PySem.W.exc_init_tree (cls := .ref C) ho5 hlen fun h6 k6 e6 t6 => ?_
  have J := I5.write (t' := tk5) (x := a) (e := a) (o := exo a C none) (by rw [ha]; exact True.intro) (.inl rfl) k6 ⟨_, e6⟩ (exo_ok e6)
  have eu : upd H a (exo a C none) = H := by
    funext b
    by_cases hb : b = a
    · rw [hb, upd_same, ha]
    · rw [upd_ne hb]
  rw [eu] at J
  exact hq _ J
/-- what such an __init__ of one field does -/
def spE1 (C : Addr) (fn : Str) : Sp := fun vs H Q _ => ∃ (a : Addr) (y : V), vs = [.ref a, y] ∧ H a = some (exo a C none) ∧ ∀ dx, H dx = none → dx ≠ a → Q .non (upd (upd H dx (exd dx [(fn, y)])) a (exo a C (some dx)))
theorem einit1_ok {CX : CXT} {k : Nat} {C : Addr} {qual : Str} {stt : Stmt} {f : Addr} {fd : FuncData} {cda cc : Addr} {ar : Arg} {fn x1 msg : Str} {j : Nat} {p0 p1 p2 p3 p4 p5 q0 q1 q2 q3 : Pos} (EI1 : EI P K mg C qual stt f fd cda cc)
    (hb : defBody stt = [.Expr (.Call (.Attribute (.Call (.Name "super" p0) [] [] p1) "__init__" p2) [.Constant (.str msg) j p3] [] p4) p5, .Assign [.Attribute (.Name ar.arg q0) fn q1] (.Name x1 q2) q3])
    (S : NScope [ar.arg, x1, "__class__"] [ar.arg, x1] ["__class__"] (defScope stt)) (hp : ((defArgs stt).posonlyargs ++ (defArgs stt).args).head? = some ar) (hks : (defScope stt).names.lookup ("super" : Str) = some .globalImplicit)
    (hfn : PySem.W.findIn K (.ref C) fn = some none) (hz : msg.cps.size ≤ sizeLine) (hd0 : (ar.arg == ("__debug__" : Str)) = false) (hd1 : (ar.arg == ("__classdict__" : Str)) = false) (hd2 : (x1 == ("__debug__" : Str)) = false) (hd3 : (x1 == ("__classdict__" : Str)) = false)
    (he : ∀ (L : Addr) (env : Env), env = envF (eF qual stt cda cc) f L → ∃ pl : Sem Bool, eval (.Call (.Attribute (.Call (.Name "super" p0) [] [] p1) "__init__" p2) [.Constant (.str msg) j p3] [] p4) env = (do
      let ov ← attributeBase (.Call (.Name "super" p0) [] [] p1) "__init__" env (eval (.Call (.Name "super" p0) [] [] p1) env)
      standAt p2.atName
      let (fv, first) ← holding [ov] (getMethod ov "__init__" pl)
      callWith p4 fv first (backTo p4 (starEach [.Constant (.str msg) j p3] env)) []))
    (hs : ∀ (L : Addr) (env : Env), env = envF (eF qual stt cda cc) f L → swapsWith (.Call (.Attribute (.Call (.Name "super" p0) [] [] p1) "__init__" p2) [.Constant (.str msg) j p3] [] p4) none p5.line env = pure false)
    (hs2 : ∀ (L : Addr) (env : Env), env = envF (eF qual stt cda cc) f L → swapsWith (.Name x1 q2) (some (.Attribute (.Name ar.arg q0) fn q1)) q3.line env = pure false) : FnOk P w K mg base CX (k + 1) f fd [ar.arg, x1] (spE1 C fn) := by
  refine ⟨fun vs H Q E h => by obtain ⟨a, y, rfl, _⟩ := h; rfl, fun A outer s H args us vs Q E hr e0 hbn r hsp => ?_⟩
  obtain ⟨oc, od, an, kV, doc, pm, ct, osl, rfl, lk⟩ := EI1.fn
  obtain ⟨cl, cld, csl, lce⟩ := EI1.ce
  obtain ⟨a, y, rfl, ha, hq⟩ := hsp
  have KX : K.In s.heap := e0.mod.kin.keeps fun b o e => (e0.bs b o e).1
  have lim : s.heap.NoLimit := e0.mod.nolimit.keeps fun b o e => (e0.bs b o e).1
  have hla : (defScope stt).names.lookup ar.arg = some .local := S.par _ List.mem_cons_self
  refine PySem.ks_codeAny_call_defAt (body := defBody stt) (binds := [ar.arg, x1].zip us) hr.depth (KX _ _ lk) rfl lim (PySem.W.codeRec_of KX EI1.cd) rfl hbn S.nocell (fun z hz => S.par z.1 (List.of_mem_zip (show (z.1, z.2) ∈ _ from hz)).1) (fun h₁ hns kp => ?_) S.co S.gen S.kind
  have C1 : CellsAt [("__class__", cc)] ["__class__"] [none] s.heap H := by
    have one : ∀ (y : Str) (c : Addr), List.lookup y [(("__class__" : Str), cc)] = some c → c = cc ∧ y = "__class__" := fun y c h => by
      unfold List.lookup at h
      split at h
      · rename_i e
        exact ⟨(Option.some.inj h).symm, by simpa using e⟩
      · cases h
    refine ⟨rfl, fun y c h => ?_, fun x y c h1 h2 => by rw [(one x c h1).2, (one y c h2).2], fun i y h => ?_⟩
    · obtain ⟨rfl, _⟩ := one y c h
      have hbase := e0.mod.kin _ _ lce
      exact ⟨(e0.bs _ _ hbase).2, some (.ref C), _, KX _ _ lce, rfl⟩
    · match i, h with
      | 0, h =>
        have : y = "__class__" := (Option.some.inj h).symm
        subst this
        exact ⟨cc, rfl, fun v hv => by cases hv⟩
      | i + 1, h => cases h
  have I := inv_startN (CX := CX) (E := E) (f := f) (F := eF qual stt cda cc) (tk := s.toks + ([ar.arg, x1].zip us).length) S hr.hd e0 rfl r C1 hns kp
  rw [hb]
  obtain ⟨pl, he'⟩ := he s.heap.objs.size _ rfl
  refine PySem.ks_wpAt_execs_cons (super_stmt EI1 hp rfl hks (S.frk _ List.mem_cons_self) hla I rfl ha (fun s' J => ?_) hz he' (hs _ _ rfl))
  refine wpAt_of_wpAny ?_
  have hl1 : (defScope stt).names.lookup x1 = some .local := S.par _ (List.mem_cons_of_mem _ List.mem_cons_self)
  have hps : PSs (eX CX P w K mg base [ar.arg, x1, "__class__"] qual stt cda cc f A outer s H E) [.Assign [.Attribute (.Name ar.arg q0) fn q1] (.Name x1 q2) q3] (tSeq (tOst K fn (tVar 0) (tVar 1)) tNext) := pss_cons (ps_ost (pv 0 rfl (.inl hla) hd0 hd1) (pv 1 rfl (.inl hl1) hd2 hd3) (hs2 _ _ rfl)) pss_nil
  refine wpAny_mono (hps.run [] s' _ H { nx := fun _ H' => Q .non H', rt := Q } J ?_) (fun fl s2 hs => ?_) fun e s2 h => h
  · refine ⟨y, rfl, .ref a, rfl, a, C, rfl, EI1.T, hfn, .inl ⟨ha, fun dx hn hne => hq dx hn hne⟩⟩
  have fin : ∀ {σ' : L2.St} {H' : Hp} {v : V} {u : Value}, Inv (eX CX P w K mg base [ar.arg, x1, "__class__"] qual stt cda cc f A outer s H E) [] σ' H' s2 → L2.RelV v u → Q v H' → CE outer P w H s Q u s2 :=
    fun {σ' H' v u} J rv q => ⟨v, H', J.os, J.bare, J.base, J.hok, rv, q⟩
  cases fl with
  | ret u =>
    obtain ⟨v, σ', H', J, rv, q⟩ := hs
    exact fin J rv q
  | next =>
    obtain ⟨σ', H', J, q⟩ := hs
    exact fin (v := V.non) (u := Value.none) J rfl q
  | brk =>
    obtain ⟨_, _, _, q⟩ := hs
    exact False.elim q
  | cont =>
    obtain ⟨_, _, _, q⟩ := hs
    exact False.elim q
end
end Mo
/-! Mo35: raise of an own exception, try with one clause. -/
namespace Mo
open PySem PySem.Spec PyProof.Rows L2
/-- raise C(e), C's __init__ storing the field fc -/
def sRaise1 (cn fc : Nat) (m : EM) : SM := fun l s => FR (m l s) l fun u s1 => .ex ⟨cn, [(fc, u)]⟩ l s1
section
variable {X : Cx} {W : WX} {pos : Pos}
theorem ms_raise1 {m : EM} {x : Str} {C fI : Addr} {k cn fc : Nat} {fd : FuncData} {ps : List Str} {e : Expr} {p pos2 : Pos} (T : OexC X.K C) (iC : PySem.W.findIn X.K (.ref C) "__init__" = some (some (.ref fI))) (tI : PySem.W.typeIn X.K (.ref fI) = some (.type "function"))
    (F1 : FnOk X.prog X.w X.K X.mg X.base (L2.CX X.prog X.w) k fI fd ps (spE1 C (nm fc))) (hr : Room (k + 1) X.A) (hb : Binds X.K fd ps []) (tk : Takes X W) (hc : X.calm = true) (hg : Gl X x) (hm : X.mg x = some (.ref C)) (hcn : X.mg (nm cn) = some (.ref C)) (ha : PE X e (TM X.K X.mg W m))
    (hdb : (x == ("__debug__" : Str)) = false := by decide) (he : starEach [e] X.env = (false, eval e X.env) :: starEach [] X.env := by rfl) (hpl : (backTo pos (starEach [] X.env)).any (·.1) = false := by rfl) :
    PS X (.Raise (some (.Call (.Name x p) [e] [] pos)) none pos2) (TF X.K X.mg W (sRaise1 cn fc m)) := by
  refine PS.imp (ps_raise hc tk (pmk_oex T iC tI F1 hr hb (.nil) (fun _ _ _ _ _ _ _ h => by obtain ⟨_, _, _, _, _, _, _, _, _, _, _, _, z⟩ := h; exact z.elim) hg hm (pa_cons ha pa_nil he) hdb he hpl)) fun D σ H h => ?_
  obtain ⟨Pr, ρ, l, s, r, lr, q⟩ := TF.ofE (k := fun u l s1 => .ex ⟨cn, [(fc, u)]⟩ l s1) h
  refine ⟨Pr, ρ, l, s, r, lr, OkA.mono q ?_⟩
  rintro y H1 ⟨Pr, ρ1, l1, s1, u, r1, lr1, hu, hk⟩
  refine ⟨by simp, fun a hn => ⟨a, y, rfl, upd_same, fun dx hdx hne => ⟨rfl, dx, [(nm fc, y)], upd_same, ?_, ?_, ?_⟩⟩⟩
  · rw [upd_ne hne, upd_same]
  · rwa [upd_ne hne] at hdx
  · have hd1 : H1 dx = none := by rwa [upd_ne hne] at hdx
    have eq : upd (del (upd (upd (upd H1 a (exo a C none)) dx (exd dx [(nm fc, y)])) a (exo a C (some dx))) a) dx (.xd [(nm fc, y)]) = upd H1 dx (.xd [(nm fc, y)]) := by
      funext b
      by_cases hb : b = dx
      · subst hb; rw [upd_same, upd_same]
      · rw [upd_ne hb, upd_ne hb]
        by_cases hba : b = a
        · subst hba; rw [del_same, hn]
        · rw [del_ne hba, upd_ne hba, upd_ne hb, upd_ne hba]
    rw [eq]
    obtain ⟨e1, r2, nl⟩ := r1.fresh (.xd [(nm fc, y)]) hd1
    exact hk ρ1 _ σ (.ref C) (some dx) e1 r2 (LR.ext r1 e1 lr1) ⟨C, hcn, rfl, .inr ⟨dx, _, rfl, upd_same, ⟨y, [], rfl, UR.ext r1 e1 u y hu, rfl⟩⟩⟩
/-! ### try -/
def lkB (cn : Nat) : List (Nat × Bool) → Option Bool
  | [] => none
  | (c, b) :: r => if (c == cn) = true then some b else lkB cn r
def wipF (i : Nat) : F → F
  | .nx l s => .nx (l.set i none) s
  | .bk l s => .bk (l.set i none) s
  | .ct l s => .ct (l.set i none) s
  | .rt u s => .rt u s
  | .ex _ _ _ => .no
  | .no => .no
/-- try: mb / except one clause with a name at the slot i: ms; tab tells of the classes that fly whether the clause takes them -/
def sTry (i : Nat) (tab : List (Nat × Bool)) (mb : SM) (ms : XV → SM) : SM := fun l s => match mb l s with
  | .ex x l' s' => (match lkB x.cn tab with
    | some true => if i < l'.length then wipF i (ms x (l'.set i none) s') else .no
    | some false => .ex x l' s'
    | none => .no)
  | o => o
/-- a suite's reading: the exception is at a, its class cls, its dict d, its name's slot i -/
def TSX (K : PySem.W.Frag) (mg : Str → Option Value) (a : Addr) (cls : Value) (d : Option Addr) (i : Nat) (ms : XV → SM) : TS := fun D σ H => ∃ Pr ρ l s x, Rel K mg Pr ρ s H ∧ LR (Lv Pr ρ s) ρ K mg H l σ ∧ σ[i]? = some (some (.ref a)) ∧ XR Pr ρ s K mg H x cls d ∧ OkF K mg Pr ρ s H D W0 (ms x l s)
theorem LR.wipe1 {Lp : Addr → Prop} {ρ : List Addr} {K : PySem.W.Frag} {mg : Str → Option Value} {H : Hp} {l : L} {σ : L2.St} (h : LR Lp ρ K mg H l σ) (i : Nat) (w : Option V) : LR Lp ρ K mg H (l.set i none) (σ.set i w) := by
  refine ⟨by simp [h.1], fun j u hj => ?_⟩
  by_cases q : i = j
  · subst q
    by_cases hi : i < l.length
    · rw [List.getElem?_set_self hi] at hj; cases hj
    · rw [List.getElem?_eq_none (by simpa using Nat.le_of_not_lt hi)] at hj; cases hj
  · rw [List.getElem?_set_ne q] at hj
    rw [List.getElem?_set_ne q]
    exact h.2 j u hj
theorem ms_try {mb : SM} {ms : XV → SM} {xn n : Str} {c : Value} {i : Nat} {body suite : List Stmt} {b₀ : Stmt} {np pos' : Pos} {tab : List (Nat × Bool)} (hs : X.stack = X.env :: X.outer) (hf : X.env.frame = some X.env.locals) (hN : X.N.Nodup) (hi : X.N[i]? = some n) (hln : X.env.kindOf n = some .local) (hc : Names X xn c) (tk : Takes X W)
    (htab : ∀ cn b, lkB cn tab = some b → ∀ C, X.mg (nm cn) = some (.ref C) → PySem.W.exmOne X.K (.ref C) c = some b)
    (hb : ∀ (W : WX) (pn : List (Addr × Obj)) (xe : Value → Shared → Prop), Takes (X.tr pn xe) W → PassesOwn (model X.prog X.w) X.A X.env xe → PSs (X.tr pn xe) body (TF X.K X.mg W mb))
    (hsu : ∀ (a : Addr) (oe : Obj) (cls : Value) (d : Option Addr) (pn : List (Addr × Obj)), Zc cls d oe → (∃ vs, oe.data = .fields vs) → PSs (X.suite a ((a, oe) :: pn)) (b₀ :: suite) (TSX X.K X.mg a cls d i ms)) :
    PS X (.Try body [.ExceptHandler (some (.Name xn np)) (some n) (b₀ :: suite) pos'] [] [] pos) (TF X.K X.mg W (sTry i tab mb ms)) := by
  have base := ps_try_as (pos := pos) (pos' := pos') (np := np) (Wout := W) (tb := fun W => TF X.K X.mg W mb) (ts := fun a cls d => TSX X.K X.mg a cls d i ms) hs hf hN hi hln hc tk hb hsu
  refine ⟨fun pins s0 σ H D I h => base.run pins s0 σ H D I ?_⟩
  have hσ := I.len
  obtain ⟨Pr, ρ, l, s, r, lr, q⟩ := h
  refine ⟨Pr, ρ, l, s, r, lr, ?_⟩
  unfold sTry at q
  cases e : mb l s with
  | nx l1 s1 => rw [e] at q; exact q
  | rt u s1 => rw [e] at q; exact q
  | bk l1 s1 => rw [e] at q; exact q
  | ct l1 s1 => rw [e] at q; exact q
  | no => rw [e] at q; exact q
  | ex x l' s' =>
    rw [e] at q
    dsimp only at q
    intro ρ' H' σ' cls d e' r' lr' hx
    have hx' := hx
    obtain ⟨C, hC, rfl, _⟩ := hx'
    cases et : lkB x.cn tab with
    | none => rw [et] at q; exact q.elim
    | some b =>
      rw [et] at q
      refine ⟨b, htab _ _ et C hC, fun hbt a ha => ?_, fun hbf => ?_⟩
      · subst hbt
        by_cases hil : i < l'.length
        case neg => simp only [if_neg hil] at q; exact q.elim
        simp only [if_pos hil] at q
        refine ⟨Pr, ρ', l'.set i none, s', x, r', lr'.wipe1 i _, ?_, hx, ?_⟩
        · rw [List.getElem?_set_self]
          rw [← lr'.1]
          exact hil
        · have q2 : OkF X.K X.mg Pr ρ' s' H' D W (wipF i (ms x (l'.set i none) s')) := OkF.ext e' q
          generalize ms x (l'.set i none) s' = o at q2
          cases o with
          | nx l1 s1 => exact fun ρ2 H2 σ2 e2 r2 lr2 => q2 ρ2 H2 _ e2 r2 (lr2.wipe1 i none)
          | rt u s1 => exact q2
          | bk l1 s1 => exact fun ρ2 H2 σ2 e2 r2 lr2 => q2 ρ2 H2 _ e2 r2 (lr2.wipe1 i none)
          | ct l1 s1 => exact fun ρ2 H2 σ2 e2 r2 lr2 => q2 ρ2 H2 _ e2 r2 (lr2.wipe1 i none)
          | ex x1 l1 s1 => exact q2.elim
          | no => exact q2.elim
      · subst hbf
        exact q ρ' H' σ' _ d e' r' lr' hx
/-- err.f, of the exception that was caught -/
def eXf (cn fc : Nat) (x : XV) : EM := fun _ s => if (x.cn == cn) = true then (match fldGet fc x.fs with
  | some u => .ok u s
  | none => .no) else .no
/-- return err.f == e, as a clause's suite -/
theorem mss_retXf {m2 : EM} {g : U → U → S → G0} {op : CmpOp} {n : Str} {i cn fc : Nat} {C a : Addr} {oe : Obj} {cls : Value} {d : Option Addr} {pn : List (Addr × Obj)} {e2 : Expr} {p1 p2 p3 p4 : Pos} (T : XfC X.K C) (hno : PySem.W.findIn X.K (.ref C) (nm fc) = some none) (hcn : X.mg (nm cn) = some (.ref C))
    (hz : Zc cls d oe) (hf : ∃ vs, oe.data = .fields vs) (hN : X.N[i]? = some n) (hv : Vis X.env.scope n) (ho : Op2 (X.suite a ((a, oe) :: pn)) (compareOp op) g) (hb : PE (X.suite a ((a, oe) :: pn)) e2 (TM X.K X.mg W0 m2)) (hm : behindInMarks op e2 = false)
    (hd1 : (n == ("__debug__" : Str)) = false := by decide) (hd2 : (n == ("__classdict__" : Str)) = false := by decide) (hat : attributeBase (.Name n p1) (nm fc) X.env (eval (.Name n p1) X.env) = eval (.Name n p1) X.env := by rfl) :
    PSs (X.suite a ((a, oe) :: pn)) [.Return (some (.Compare (.Attribute (.Name n p1) (nm fc) p2) [op] [e2] p3)) p4] (TSX X.K X.mg a cls d i (fun x => sRet (eOp g (eXf cn fc x) m2))) := by
  have ha : PE (X.suite a ((a, oe) :: pn)) (.Attribute (.Name n p1) (nm fc) p2) (tXf a cls d C (nm fc) (tVar i)) := pe_xf T hno hz hf (pe_var (X := X.suite a ((a, oe) :: pn)) hN hv hd1 hd2) hat
  refine pss_one (PS.imp (ps_ret (te := fun σ H Q => ∃ Pr ρ l s x, Rel X.K X.mg Pr ρ s H ∧ LR (Lv Pr ρ s) ρ X.K X.mg H l σ ∧ σ[i]? = some (some (.ref a)) ∧ XR Pr ρ s X.K X.mg H x cls d ∧ OkA (rU X.K X.mg) X.K X.mg Pr ρ s H Q (wX X.K X.mg Pr fun c d H' => W0 c d σ H') (eOp g (eXf cn fc x) m2 l s)) ⟨fun pins s σ H Q I h => ?_⟩) fun D σ H h => ?_)
  · obtain ⟨Pr, ρ, l, st, x, r, lr, hσ, ⟨C', hC', rfl, hx⟩, q⟩ := h
    unfold eOp eXf at q
    by_cases hc : (x.cn == cn) = true
    · simp only [hc, if_true] at q
      have hcn' : x.cn = cn := by simpa using hc
      rw [hcn', hcn] at hC'
      obtain rfl : C = C' := by injection hC' with h; injection h
      cases hfg : fldGet fc x.fs with
      | none => simp only [hfg] at q; exact q.elim
      | some u =>
        simp only [hfg, Mo.R.bind] at q
        rcases hx with hx | ⟨dd, fV, rfl, hdd, hfs⟩
        · rw [hx] at hfg; cases hfg
        · obtain ⟨_, v, hl, hu⟩ := URf.get hfs hfg
          refine wpAny_Compare1 (binT (R := fun x y H2 => ∃ Pr ρ s u v, Rel X.K X.mg Pr ρ s H2 ∧ UR (Lv Pr ρ s) ρ X.K X.mg H2 u x ∧ UR (Lv Pr ρ s) ρ X.K X.mg H2 v y ∧ OkA (rU X.K X.mg) X.K X.mg Pr ρ s H2 Q (wX X.K X.mg Pr fun c d H' => W0 c d σ H') (liftG (g u v s))) ha hb I ⟨_, hσ, rfl, rfl, dd, fV, v, rfl, hdd, hl, Pr, ρ, l, st, r, lr, OkA.mono (OkA.bind (rl := rU X.K X.mg) q) ?_⟩ fun v w s2 x y H2 I2 rx ry ⟨Pr, ρ, st, u, u', r, hu, hu', q⟩ => ho pins s2 σ H2 Pr ρ st x y v w u u' Q I2 r hu hu' rx ry (OkG.of q)) hm
          rintro y H2 ⟨ρ2, s2, w, r2, e2, hw, hk2⟩
          exact ⟨Pr, ρ2, s2, u, w, r2, UR.ext r e2 u v hu, hw, hk2⟩
    · rw [if_neg hc] at q; exact q.elim
  · obtain ⟨Pr, ρ, l, s, x, r, lr, hσ, hx, q⟩ := h
    refine ⟨Pr, ρ, l, s, x, r, lr, hσ, hx, ?_⟩
    have q2 : OkF X.K X.mg Pr ρ s H D W0 (FR (eOp g (eXf cn fc x) m2 l s) l fun u s1 => .rt u s1) := q
    refine OkA.mono (OkF.ofA (rl := rU X.K X.mg) r lr q2) fun y H1 ⟨ρ1, s1, u, r1, lr1, hu, hk⟩ => ?_
    exact hk ρ1 H1 y (Ext.refl _ _ _ _) r1 hu
end
end Mo
/-! Mo36: text * int, str(int), raise and except by a class's facts. -/
namespace Mo
open PySem PySem.Spec PyProof.Rows L2
section
variable {X : Cx}
def gMulS : U → U → S → G0 := fun u u' s => match u, u' with
  | .str x, .int k => if 2 ≤ k ∧ k ≤ 1000 ∧ 1 ≤ x.length ∧ x.length ≤ 1000 then some (.str (List.replicate k.toNat x).flatten, s) else none
  | _, _ => none
theorem foldl_st (m : Nat) (x : List Nat) : ∀ a : List Nat, (List.replicate m x.toArray).foldl (· ++ ·) a.toArray = (a ++ (List.replicate m x).flatten).toArray := by
  induction m with
  | zero => intro a; simp
  | succ m ih =>
    intro a
    rw [List.replicate_succ, List.foldl_cons, List.append_toArray, ih]
    simp [List.replicate_succ, List.append_assoc]
theorem o_mulS : Op2 X (binaryOp .Mult) gMulS := by
  intro pins sh σ H Pr ρ s x y v w u u' Q I rl hu hu' rx ry q
  unfold gMulS at q
  split at q
  · rename_i a k
    by_cases e : 2 ≤ k ∧ k ≤ 1000 ∧ 1 ≤ a.length ∧ a.length ≤ 1000
    · rw [if_pos e] at q
      obtain ⟨h1, h2, h3, h4⟩ := e
      obtain ⟨rfl, hz⟩ := hu
      have hu' : y = .int k := hu'
      subst hu'
      obtain ⟨t, rfl⟩ := rx
      obtain ⟨t2, rfl⟩ := ry
      have hlen : (st a).length = a.length := st_len a
      have hm : a.length * k.toNat ≤ 1000 * 1000 := Nat.mul_le_mul h4 (by omega)
      have hcps : (st a).cps = a.toArray := rfl
      refine PySem.P.mul_str (by
        have e1 : ¬ k < -(2 ^ 63 : Int) := by omega
        have e2 : ¬ k ≥ 2 ^ 63 := by omega
        rw [decide_eq_false e1, decide_eq_false e2]; rfl) (fun _ _ => ?_) (fun _ _ => ?_) ?_
      · rw [hlen]
        have : (1000 : Int) ≤ (2 ^ 63 - 1) / k := by
          rw [Int.le_ediv_iff_mul_le (by omega)]
          omega
        omega
      · rw [hlen]
        unfold Builtin.Str.tooLong
        exact decide_eq_false (by rw [sizeLine_eq]; omega)
      · have c1 : ¬ k < 1 := by omega
        have c2 : ((k == 1) || (st a).length == 0) = false := by
          have e1 : (k == 1) = false := by simp; omega
          have e2 : ((st a).length == 0) = false := by rw [hlen]; exact beq_false_of_ne (by omega)
          rw [e1, e2]; rfl
        rw [if_neg c1, c2, if_neg (by simp), hcps]
        have hf : (List.replicate k.toNat a.toArray).foldl (· ++ ·) #[] = ((List.replicate k.toNat a).flatten).toArray := by
          have := foldl_st k.toNat a []
          simpa using this
        rw [hf]
        have hsz : ((List.replicate k.toNat a).flatten).length ≤ sizeLine := by
          have e : ((List.replicate k.toNat a).flatten).length = k.toNat * a.length := by simp
          rw [e, Nat.mul_comm, sizeLine_eq]; omega
        refine ⟨?_, .str (st (List.replicate k.toNat a).flatten), H, I.tok _, ⟨_, rfl⟩, q.here rl ⟨rfl, hsz⟩⟩
        show (((List.replicate k.toNat a).flatten).toArray).size ≤ sizeLine
        rw [List.size_toArray]; exact hsz
    · rw [if_neg e] at q; exact q.elim
  · exact q.elim
def gStr : List U → S → G0 := fun us s => match us with
  | [.int i] => if i.natAbs.log2 < 1920 ∧ (Str.cps (toString i)).toList.length ≤ 1000 then some (.str (Str.cps (toString i)).toList, s) else none
  | _ => none
theorem c_str : OpN X (.type "str") gStr := OpN.of call_str_int fun Pr ρ s H xs us Q r hu q => by
  unfold gStr at q
  split at q
  · rename_i i
    obtain ⟨x, rfl, hx⟩ := URs.one hu
    by_cases e : i.natAbs.log2 < 1920 ∧ (Str.cps (toString i)).toList.length ≤ 1000
    · rw [if_pos e] at q
      refine ⟨i, by rw [show x = _ from hx], e.1, ?_⟩
      have e2 : (toString i : Str) = st (Str.cps (toString i)).toList := by
        unfold st
        simp
      rw [e2]
      exact q.here r ⟨rfl, by rw [sizeLine_eq]; omega⟩
    · rw [if_neg e] at q; exact q.elim
  · exact q.elim
theorem exm_self {K : PySem.W.Frag} {C : Addr} (h1 : PySem.W.subIn K (.ref C) (.type "BaseException") = some true) (h2 : (PySem.W.clsIn K C).isSome = true) (h3 : PySem.W.typeIn K (.ref C) = some (.type "type")) (h4 : PySem.W.mroIn K C (.ref C) = some true) : PySem.W.exmOne K (.ref C) (.ref C) = some true := by
  unfold PySem.W.exmOne
  rw [h1, if_pos (by rfl)]
  show (if ((PySem.W.clsIn K C).isSome && PySem.W.typeIn K (.ref C) == some (.type "type")) = true then PySem.W.subIn K (.ref C) (.ref C) else none) = _
  rw [h2, h3, if_pos (by simp)]
  exact h4
/-! ### an exception class's facts, put together -/
structure XC (P : Program) (w : World) (K : PySem.W.Frag) (mg : Str → Option Value) (base : Heap) (k : Nat) (x : Str) (cn fc : Nat) : Prop where
  ex : ∃ (C fI : Addr) (fd : FuncData) (ps : List Str), OexC K C ∧ PySem.W.findIn K (.ref C) "__init__" = some (some (.ref fI)) ∧ PySem.W.typeIn K (.ref fI) = some (.type "function") ∧ FnOk P w K mg base (L2.CX P w) k fI fd ps (spE1 C (nm fc)) ∧ L2.Binds K fd ps [] ∧
    mg x = some (.ref C) ∧ mg (nm cn) = some (.ref C) ∧ XfC K C ∧ PySem.W.findIn K (.ref C) (nm fc) = some none ∧ PySem.W.exmOne K (.ref C) (.ref C) = some true
variable {W : WX} {pos : Pos}
theorem ms_raise {m : EM} {x : Str} {k cn fc : Nat} {e : Expr} {p pos2 : Pos} (E : XC X.prog X.w X.K X.mg X.base k x cn fc) (hr : Room (k + 1) X.A) (tk : Takes X W) (hc : X.calm = true) (hg : Gl X x) (ha : PE X e (TM X.K X.mg W m))
    (hdb : (x == ("__debug__" : Str)) = false := by decide) (he : starEach [e] X.env = (false, eval e X.env) :: starEach [] X.env := by rfl) (hpl : (backTo pos (starEach [] X.env)).any (·.1) = false := by rfl) :
    PS X (.Raise (some (.Call (.Name x p) [e] [] pos)) none pos2) (TF X.K X.mg W (sRaise1 cn fc m)) := by
  obtain ⟨C, fI, fd, ps, T, iC, tI, F1, hb, hm, hcn, _⟩ := E.ex
  exact ms_raise1 T iC tI F1 hr hb tk hc hg hm hcn ha hdb he hpl
/-- try: body / except x as n: return n.f == e -/
theorem ms_tryRet {mb : SM} {m2 : EM} {g : U → U → S → G0} {op : CmpOp} {xn n f : Str} {k cn fc i : Nat} {body : List Stmt} {e2 : Expr} {np pos' p1 p2 p3 p4 : Pos} (E : XC X.prog X.w X.K X.mg X.base k xn cn fc) (hs : X.stack = X.env :: X.outer) (hf : X.env.frame = some X.env.locals) (hN : X.N.Nodup) (hi : X.N[i]? = some n) (hln : X.env.kindOf n = some .local)
    (hg : Gl X xn) (tk : Takes X W) (ef : nm fc = f) (ho : ∀ a pn, Op2 (X.suite a pn) (compareOp op) g)
    (hb : ∀ (W : WX) (pn : List (Addr × Obj)) (xe : Value → Shared → Prop), Takes (X.tr pn xe) W → PassesOwn (model X.prog X.w) X.A X.env xe → PSs (X.tr pn xe) body (TF X.K X.mg W mb))
    (h2 : ∀ a pn, PE (X.suite a pn) e2 (TM X.K X.mg W0 m2)) (hm : behindInMarks op e2 = false) (hdb : (xn == ("__debug__" : Str)) = false := by decide)
    (hd1 : (n == ("__debug__" : Str)) = false := by decide) (hd2 : (n == ("__classdict__" : Str)) = false := by decide) (hat : attributeBase (.Name n p1) f X.env (eval (.Name n p1) X.env) = eval (.Name n p1) X.env := by rfl) :
    PS X (.Try body [.ExceptHandler (some (.Name xn np)) (some n) [.Return (some (.Compare (.Attribute (.Name n p1) f p2) [op] [e2] p3)) p4] pos'] [] [] pos) (TF X.K X.mg W (sTry i [(cn, true)] mb fun x => sRet (eOp g (eXf cn fc x) m2))) := by
  subst ef
  obtain ⟨C, fI, fd, ps, T, iC, tI, F1, hbd, hm1, hcn, Tx, hno, hex⟩ := E.ex
  refine ms_try (c := .ref C) hs hf hN hi hln ⟨hg, hdb, .inl hm1⟩ tk (fun cn' b hl C' hC' => ?_) hb fun a oe cls d pn hz hfd => mss_retXf Tx hno hcn hz hfd hi (.inl hln) (ho a _) (h2 a _) hm hd1 hd2 hat
  unfold lkB at hl
  by_cases hc : (cn == cn') = true
  · rw [if_pos hc] at hl
    have hc : cn = cn' := by simpa using hc
    subst hc
    rw [hcn] at hC'
    obtain rfl : C = C' := by injection hC' with h; injection h
    cases hl
    exact hex
  · rw [if_neg hc] at hl; cases hl
end
end Mo
/-! PA: plain facts about names, dicts told by names, sorted names. -/
namespace Mo
open PySem PySem.Spec PyProof.Rows L2
abbrev Nm := List Nat
/-- an entry by its name -/
def gt {α : Type} : List (Nm × α) → Nm → Option α
  | [], _ => none
  | (k, v) :: r, n => if k = n then some v else gt r n
def gtD {α : Type} [Inhabited α] (l : List (Nm × α)) (n : Nm) : α := (gt l n).getD default
abbrev ent {α : Type} (f : α → U) (l : List (Nm × α)) : List (Ky × U) := l.map fun p => (Ky.str p.1, f p.2)
abbrev nms (ns : List Nm) : List U := ns.map U.str
theorem dGet_ent {α : Type} (f : α → U) (n : Nm) : ∀ l : List (Nm × α), dGet (ent f l) (.str n) = (gt l n).map f
  | [] => rfl
  | (k, v) :: r => by
    have ih := dGet_ent f n r
    show (if (k == n) = true then _ else _) = _
    unfold gt
    by_cases h : k = n
    · rw [if_pos h, if_pos (by rw [h]; simp)]; rfl
    · rw [if_neg h, if_neg (by simpa using h)]; exact ih
theorem gt_mem {α : Type} {n : Nm} {v : α} : ∀ {l : List (Nm × α)}, gt l n = some v → (n, v) ∈ l
  | [], h => by cases h
  | (k, w) :: r, h => by
    unfold gt at h
    by_cases e : k = n
    · rw [if_pos e] at h; cases h; rw [e]; exact List.mem_cons_self
    · rw [if_neg e] at h; exact List.mem_cons_of_mem _ (gt_mem h)
theorem gt_some {α : Type} [Inhabited α] {n : Nm} : ∀ {l : List (Nm × α)}, n ∈ l.map (·.1) → gt l n = some (gtD l n)
  | [], h => by cases h
  | (k, w) :: r, h => by
    unfold gtD gt
    by_cases e : k = n
    · rw [if_pos e]; rfl
    · rw [if_neg e]
      rcases List.mem_cons.mp h with h | h
      · exact absurd h.symm e
      · exact gt_some h
theorem gt_none {α : Type} {n : Nm} : ∀ {l : List (Nm × α)}, n ∉ l.map (·.1) → gt l n = none
  | [], h => rfl
  | (k, w) :: r, h => by
    unfold gt
    rw [if_neg (fun e => h (by rw [← e]; exact List.mem_cons_self))]
    exact gt_none fun q => h (List.mem_cons_of_mem _ q)
/-! ### what a thing is read as -/
theorem dctOf_cases {u : U} {s : S} {t : Bool} {kvs : List (Ky × U)} (h : dctOf u s = some (t, kvs)) : u = .dct t kvs ∨ ∃ i, u = .ref i ∧ (s[i]? = some (.dct t kvs) ∨ s[i]? = some (.ld t kvs)) := by
  cases u with
  | dct t' k' => left; simpa [dctOf] using h
  | ref i =>
    right
    refine ⟨i, rfl, ?_⟩
    unfold dctOf at h
    simp only at h
    split at h
    · rename_i e; cases h; exact .inl e
    · rename_i e; cases h; exact .inr e
    · cases h
  | _ => cases h
theorem dct_seq {u : U} {s : S} {t : Bool} {kvs : List (Ky × U)} (h : dctOf u s = some (t, kvs)) : seqOf u s = none := by
  rcases dctOf_cases h with rfl | ⟨i, rfl, e | e⟩
  · rfl
  all_goals simp [seqOf, tupOf, lstOf, e]
theorem dct_ty {u : U} {s : S} {kvs : List (Ky × U)} (h : dctOf u s = some (false, kvs)) : tyU u s = some "dict" := by
  rcases dctOf_cases h with rfl | ⟨i, rfl, e | e⟩
  · rfl
  all_goals simp [tyU, e]
theorem dct_len {u : U} {s : S} {t : Bool} {kvs : List (Ky × U)} (h : dctOf u s = some (t, kvs)) : gLen [u] s = some (.int kvs.length, s) := by
  rcases dctOf_cases h with rfl | ⟨i, rfl, e | e⟩
  · rfl
  all_goals simp [gLen, seqOf, tupOf, lstOf, e, dctOf]
theorem dct_star {u : U} {s : S} {kvs : List (Ky × U)} (h : dctOf u s = some (false, kvs)) : starOf u s = keysOf kvs := by
  unfold starOf
  rw [dct_seq h, h]
theorem seq_ty {u : U} {s : S} {us : List U} (h : seqOf u s = some us) : tyU u s = some "list" ∨ tyU u s = some "tuple" := by
  cases u with
  | tup _ => right; rfl
  | wt _ => right; rfl
  | lst _ => left; rfl
  | scr _ => left; rfl
  | ref i =>
    left
    simp [seqOf, tupOf, lstOf] at h
    split at h
    · rename_i e; simp [tyU, e]
    · cases h
  | _ => simp [seqOf, tupOf, lstOf] at h
theorem seq_star {u : U} {s : S} {us : List U} (h : seqOf u s = some us) : starOf u s = some us := by
  unfold starOf
  rw [h]
theorem keysOf_ent {α : Type} {f : α → U} {l : List (Nm × α)} (h : ∀ n ∈ l.map (·.1), n.length ≤ 16) : keysOf (ent f l) = some (nms (l.map (·.1))) := by
  unfold keysOf
  rw [if_pos]
  · simp [kyU]
  · rw [List.all_eq_true]
    intro p hp
    obtain ⟨q, hq, rfl⟩ := List.mem_map.mp hp
    have := h q.1 (List.mem_map.mpr ⟨q, hq, rfl⟩)
    simp [kyOk, kyOk1, sizeLine_eq]
    omega
theorem p_ix_dct {α : Type} {f : α → U} {l : List (Nm × α)} {u : U} {s : S} {n : Nm} {v : α} (h : dctOf u s = some (false, ent f l)) (g : gt l n = some v) : gIx u (.str n) s = some (f v, s) := by
  unfold gIx gDget
  rw [h]
  simp only [kyOf, fits, if_true]
  rw [dGet_ent, g]; rfl
theorem inA_dct {α : Type} {f : α → U} {l : List (Nm × α)} {u : U} {s : S} {n : Nm} (h : dctOf u s = some (false, ent f l)) : inA (.str n) u s = some (gt l n).isSome := by
  unfold inA
  rw [h]
  simp only [kyOf, fits, if_true]
  rw [dGet_ent]; simp
/-! ### sorting -/
theorem p_ins_perm {α : Type} (lt : α → α → Bool) (x : α) : ∀ l : List α, (ins lt x l).Perm (x :: l)
  | [] => .refl _
  | y :: l => by
    unfold ins
    split
    · exact ((p_ins_perm lt x l).cons y).trans (.swap x y l)
    · exact .refl _
theorem p_isort_perm {α : Type} (lt : α → α → Bool) : ∀ l : List α, (isort lt l).Perm l
  | [] => .refl _
  | x :: l => (p_ins_perm lt x _).trans ((p_isort_perm lt l).cons x)
theorem p_ins_map {α β : Type} (lt : β → β → Bool) (f : α → β) (x : α) : ∀ l : List α, ins lt (f x) (l.map f) = (ins (fun a b => lt (f a) (f b)) x l).map f
  | [] => rfl
  | y :: l => by
    show (if lt (f y) (f x) = true then _ else _) = List.map f (if lt (f y) (f x) = true then _ else _)
    split
    · rw [p_ins_map lt f x l]; rfl
    · rfl
theorem p_isort_map {α β : Type} (lt : β → β → Bool) (f : α → β) : ∀ l : List α, isort lt (l.map f) = (isort (fun a b => lt (f a) (f b)) l).map f
  | [] => rfl
  | x :: l => by
    show ins lt (f x) (isort lt (l.map f)) = _
    rw [p_isort_map lt f l, p_ins_map]; rfl
def sortN (ns : List Nm) : List Nm := isort sLt ns
theorem sortN_perm (ns : List Nm) : (sortN ns).Perm ns := p_isort_perm _ _
theorem sortN_mem {ns : List Nm} {n : Nm} : n ∈ sortN ns ↔ n ∈ ns := (sortN_perm ns).mem_iff
theorem strsOf_nms : ∀ ns : List Nm, strsOf (nms ns) = some ns
  | [] => rfl
  | n :: ns => by show (match strsOf (nms ns) with | some is => _ | none => _) = _; rw [strsOf_nms ns]
theorem srtU_nms (ns : List Nm) : srtU (nms ns) = some (nms (sortN ns)) := by
  cases ns with
  | nil => rfl
  | cons n r =>
    unfold srtU
    have h : intsOf (nms (n :: r)) = none := rfl
    rw [h]
    simp only [strsOf_nms]
    rw [show nms (n :: r) = (n :: r).map U.str from rfl, p_isort_map]
    rfl
theorem gSorted_nms {u : U} {s : S} {ns : List Nm} (h : starOf u s = some (nms ns)) (hl : ns.length ≤ 60) : gSorted false [u] s = some (.lst (nms (sortN ns)), s) := by
  unfold gSorted
  simp only [h, srtU_nms]
  unfold mkL
  rw [if_pos]
  · rfl
  · have := (sortN_perm ns).length_eq
    simp [sizeLine_eq]; omega
def srtP {α : Type} [Inhabited α] (l : List (Nm × α)) : List (Nm × α) := (sortN (l.map (·.1))).map fun n => (n, gtD l n)
/-! ### dicts by names -/
theorem dGet_app {n : Nm} {u : U} : ∀ {a : List (Ky × U)}, dGet a (.str n) = none → ∀ m, dGet (a ++ [(.str m, u)]) (.str n) = if m = n then some u else none
  | [], _, m => by
    show (if (m == n) = true then some u else none) = _
    by_cases h : m = n
    · rw [if_pos h, if_pos (by rw [h]; simp)]
    · rw [if_neg h, if_neg (by simpa using h)]
  | (k, v) :: a, h, m => by
    unfold dGet at h
    show (if kyEq k (.str n) = true then some v else dGet (a ++ _) (.str n)) = _
    split at h
    · cases h
    · rename_i e
      rw [if_neg e]
      exact dGet_app h m
theorem dcGo_nms {j : Nat} {e : EM} {l : L} {s : S} {g : Nm → U} (hj : j < l.length) : ∀ (ns : List Nm) (acc : List (Ky × U)), ns.Nodup → (∀ n ∈ ns, dGet acc (.str n) = none) → acc.length + ns.length ≤ 60 → (∀ n ∈ ns, e (l.set j (some (.str n))) s = .ok (g n) s) →
    dcGo (.nm j) tAll (mV j) e l (nms ns) s acc = some (acc ++ ns.map (fun n => (Ky.str n, g n)), s)
  | [], acc, _, _, _, _ => by simp [dcGo]
  | n :: ns, acc, nd, h, hl, he => by
    obtain ⟨nd1, nd2⟩ := List.nodup_cons.mp nd
    have e1 := he n List.mem_cons_self
    have e2 : mV j (l.set j (some (.str n))) s = .ok (.str n) s := by
      unfold mV
      rw [List.getElem?_set_self hj]
    have e3 : dPut acc (.str n) (g n) = acc ++ [(.str n, g n)] := by
      unfold dPut
      rw [h n List.mem_cons_self]; rfl
    have hlen : acc.length < sizeLine := by rw [sizeLine_eq]; simp at hl; omega
    have ih := dcGo_nms (g := g) (e := e) (s := s) hj ns (acc ++ [(.str n, g n)]) nd2 (fun m hm => by
      rw [dGet_app (h m (List.mem_cons_of_mem _ hm)), if_neg]
      intro q; rw [q] at nd1; exact nd1 hm) (by simp at hl ⊢; omega) fun m hm => he m (List.mem_cons_of_mem _ hm)
    show dcGo _ _ _ _ _ (U.str n :: nms ns) _ _ = _
    unfold dcGo
    simp only [setT, tAll, e2, e1, kyOf, fits, hlen, e3, true_and, if_true, ih]
    simp
/-! ### loops over names that change nothing but their variable -/
theorem loop_nms {j : Nat} {body : SM} {s : S} : ∀ (us : List U) (l : L) (y : Option U), l[j]? = some y → (∀ u ∈ us, body (l.set j (some u)) s = .nx (l.set j (some u)) s) → ∃ x, loopM (gNm j) body us l s = .nx (l.set j x) s
  | [], l, y, h, _ => ⟨y, by
    have : l.set j y = l := by
      apply List.ext_getElem? ; intro i
      by_cases e : j = i
      · subst e
        rw [h, List.getElem?_set_self]
        exact (List.getElem?_eq_some_iff.mp h).1
      · rw [List.getElem?_set_ne e]
    unfold loopM
    rw [this]⟩
  | u :: us, l, y, h, hb => by
    have h1 := hb u List.mem_cons_self
    have hj : j < l.length := (List.getElem?_eq_some_iff.mp h).1
    obtain ⟨x, e⟩ := loop_nms (body := body) (s := s) us (l.set j (some u)) (some u) (List.getElem?_set_self hj) fun v hv => by
      rw [List.set_set]
      exact hb v (List.mem_cons_of_mem _ hv)
    refine ⟨x, ?_⟩
    unfold loopM
    simp only [gNm, h1]
    rw [List.set_set] at e
    exact e
theorem pus_nms : ∀ d : List Nm, pus (nms d) = true
  | [] => rfl
  | t :: d => by show (true && pus (nms d)) = true; rw [pus_nms d]; rfl
theorem puk_ent {α : Type} {f : α → U} (h : ∀ a, pu (f a) = true) : ∀ l : List (Nm × α), puk (ent f l) = true
  | [] => rfl
  | p :: l => by show (pu (f p.2) && puk (ent f l)) = true; rw [h, puk_ent h l]; rfl
end Mo
set_option maxHeartbeats 400000
namespace K07
open PySem PySem.Spec PyProof.Rows L2 Mo
/-! what of the text the derivations ask -/
def top (i : Nat) : Stmt := PySem.Challenge.pw_ballchutes_k07_refused_nets.main.body.getD i (.Pass ⟨0, 0, 0, 0⟩)
theorem me_globE {X : Cx} {W : WX} {x : Str} {i : Int} {pos : Pos} (hg : Gl X x) (hm : ∃ t : Tok, X.mg x = some (.int i t)) (hd : (x == ("__debug__" : Str)) = false := by decide) : PE X (.Name x pos) (TM X.K X.mg W (mK (.int i))) := let ⟨_, h⟩ := hm; me_globI hg h hd
structure Txt (K : PySem.W.Frag) (mg : Str → Option Value) : Prop where
  b_all : mg "all" = none
  b_dict : mg "dict" = none
  b_enumerate : mg "enumerate" = none
  b_int : mg "int" = none
  b_isinstance : mg "isinstance" = none
  b_len : mg "len" = none
  b_list : mg "list" = none
  b_range : mg "range" = none
  b_reversed : mg "reversed" = none
  b_sorted : mg "sorted" = none
  b_str : mg "str" = none
  b_tuple : mg "tuple" = none
  g_MOST_DROPS : ∃ t : Tok, mg "MOST_DROPS" = some (.int 12 t)
  g_MOST_KNOTS : ∃ t : Tok, mg "MOST_KNOTS" = some (.int 12 t)
  g_MOST_SIGNS : ∃ t : Tok, mg "MOST_SIGNS" = some (.int 16 t)
  g_MOST_TARGETS : ∃ t : Tok, mg "MOST_TARGETS" = some (.int 4 t)
  oc : ∀ cn ∈ ([7628110] : List Nat), ∀ C, CI K mg cn C → OC K C
  nA_Net_knots : ∀ C, CI K mg 7628110 C → NoAttr K C (nm 495874698859)
  nA_Net_inlets : ∀ C, CI K mg 7628110 C → NoAttr K C (nm 126943755005545)
  nA_Net_outlets : ∀ C, CI K mg 7628110 C → NoAttr K C (nm 32497601281815919)
  nA_Net_names : ∀ C, CI K mg 7628110 C → NoAttr K C (nm 495622906222)
section
variable {P : Program} {w : World} {K : PySem.W.Frag} {mg : Str → Option Value} {base : Heap}
/-! ### is_name -/
abbrev st_is_name : Stmt := (top 9)
def ce_is_name_0 : EM :=
  (eOrM (eChain gLe gLe (mK (.str [97])) (mV 1) (mK (.str [122]))) (eOrM (eChain gLe gLe (mK (.str [48])) (mV 1) (mK (.str [57]))) (eOp gEq (mV 1) (mK (.str [46])))))
def b_is_name : SM :=
  (sSeq (sIf (tOrM (tNotM (mB (eUn (gIsB [7628110] "str") (mV 0)))) (tOrM (tNotM (mB (eChain gLe gLe (mK (.int 1)) (eN gLen (aCons (mV 0) aNil)) (mK (.int 16))))) (tNotM (mB (eChain gLe gLe (mK (.str [97])) (eOp gIx (mV 0) (mK (.int 0))) (mK (.str [122])))))))
  (sRet (mK (.bl false)))
  sSkip)
  (sRet (eN gAll (aCons (eLc false [1] (iFn anyF (mV 0)) (.nm 1) tAll ce_is_name_0) aNil))))
def m_is_name : Fn := fnM 2 b_is_name
theorem sc_is_name : FnScope ["thing", "sign"] ["thing"] (defScope st_is_name) := ⟨rfl, rfl, rfl, by decide +kernel, rfl, by decide +kernel, by decide +kernel⟩
theorem d_is_name {f : Addr} {fd : FuncData} (F : Fun K "is_name" "is_name" st_is_name f fd) (T : Txt K mg)  : FnOk P w K mg base (L2.CX P w) 2 f fd ["thing"] (SpM K mg 1 m_is_name) := by
  refine Fun.okM (N := ["thing", "sign"]) (ps := ["thing"]) (b := b_is_name) F sc_is_name fun cdv A outer s H E hr => ?_
  have Sc := sc_is_name
  generalize hX : cxOf (L2.CX P w) P w K mg base ["thing", "sign"] "is_name" (defScope st_is_name) f cdv A outer s H E = X
  subst hX
  have tk := takes_of (X := cxOf (L2.CX P w) P w K mg base ["thing", "sign"] "is_name" (defScope st_is_name) f cdv A outer s H E) rfl rfl rfl rfl
  have hp := passes_of (X := cxOf (L2.CX P w) P w K mg base ["thing", "sign"] "is_name" (defScope st_is_name) f cdv A outer s H E) rfl
  have u64 : (cxOf (L2.CX P w) P w K mg base ["thing", "sign"] "is_name" (defScope st_is_name) f cdv A outer s H E).A.units + 64 < cLine := hr.units
  have u100 : (cxOf (L2.CX P w) P w K mg base ["thing", "sign"] "is_name" (defScope st_is_name) f cdv A outer s H E).A.units + 100 < cLine := by have q := hr.un; show (A.deeper _).units + 100 < cLine; omega
  exact
  (mss_cons (ms_if (PW.pt (mw_or (mt_not' (mt_val (me_isB rfl T.b_isinstance (by first | rfl | exact PySem.boot_isinstance | exact PyProof.Rows.Boot.«isinstance») rfl T.b_str (by first | rfl | exact PySem.boot_str | exact PyProof.Rows.Boot.«str») T.oc (mv 0)))) (mw_or (mt_not' (mt_chain o_le o_le me_int (me_blt c_len rfl T.b_len (by first | rfl | exact PySem.boot_len | exact PyProof.Rows.Boot.«len») (ma_cons (mv 0) ma_nil)) (me_globE rfl T.g_MOST_SIGNS))) (mw_or1 (mt_not' (mt_chain o_le o_le (me_str [97]) (me_ix u64 (mv 0) me_int) (me_str [122])))))))
  (mss_one (ms_ret me_bl))
  mss_nil)
  (mss_one (ms_ret (me_blt (c_all rfl) rfl T.b_all (by first | rfl | exact PySem.boot_all | exact PyProof.Rows.Boot.«all») (ma_cons (me_lc (own := [("sign", 1)]) rfl Sc.nd (mi_any (mv 0)) (by rfl) (fun s0 H0 C0 cl0 fp0 => (cg_name (i := 1) Sc.nd (by decide))) (fun s0 H0 C0 cl0 fp0 => mts_nil) (fun s0 H0 C0 cl0 fp0 => (me_or (me_chain o_le o_le (me_str [97]) (mv 1) (me_str [122])) (me_or (me_chain o_le o_le (me_str [48]) (mv 1) (me_str [57])) (me_one (me_cmp (o_eq u64) (mv 1) (me_str [46]) (nomark _))))))) ma_nil)))))
/-! ### is_row -/
abbrev st_is_row : Stmt := (top 10)
def ce_is_row_0 : EM :=
  (eAndM (eUn (gIsB [7628110] "str") (mV 3)) (eOp gIn (mV 3) (mV 1)))
def lb_is_row_1 : SM :=
  (sSeq (sIf (tOrM (tNotM (mB (eUn (gIsB [7628110] "tuple") (mV 2)))) (mB (eOp gGt (eN gLen (aCons (mV 2) aNil)) (mK (.int 4)))))
  (sRet (mK (.bl false)))
  sSkip)
  (sIf (tNotM (mB (eN gAll (aCons (eLc false [3] (iFn anyF (mV 2)) (.nm 3) tAll ce_is_row_0) aNil))))
  (sRet (mK (.bl false)))
  sSkip))
def b_is_row : SM :=
  (sSeq (sIf (tOrM (tNotM (mB (eUn (gIsB [7628110] "tuple") (mV 0)))) (mB (eOp gGt (eN gLen (aCons (mV 0) aNil)) (mK (.int 12)))))
  (sRet (mK (.bl false)))
  sSkip)
  (sSeq (sFor (iFn anyF (mV 0)) (gNm 2)
  lb_is_row_1)
  (sRet (mK (.bl true)))))
def m_is_row : Fn := fnM 4 b_is_row
theorem sc_is_row : FnScope ["thing", "known", "drop", "target"] ["thing", "known"] (defScope st_is_row) := ⟨rfl, rfl, rfl, by decide +kernel, rfl, by decide +kernel, by decide +kernel⟩
theorem d_is_row {f : Addr} {fd : FuncData} (F : Fun K "is_row" "is_row" st_is_row f fd) (T : Txt K mg)  : FnOk P w K mg base (L2.CX P w) 2 f fd ["thing", "known"] (SpM K mg 2 m_is_row) := by
  refine Fun.okM (N := ["thing", "known", "drop", "target"]) (ps := ["thing", "known"]) (b := b_is_row) F sc_is_row fun cdv A outer s H E hr => ?_
  have Sc := sc_is_row
  generalize hX : cxOf (L2.CX P w) P w K mg base ["thing", "known", "drop", "target"] "is_row" (defScope st_is_row) f cdv A outer s H E = X
  subst hX
  have tk := takes_of (X := cxOf (L2.CX P w) P w K mg base ["thing", "known", "drop", "target"] "is_row" (defScope st_is_row) f cdv A outer s H E) rfl rfl rfl rfl
  have hp := passes_of (X := cxOf (L2.CX P w) P w K mg base ["thing", "known", "drop", "target"] "is_row" (defScope st_is_row) f cdv A outer s H E) rfl
  have u64 : (cxOf (L2.CX P w) P w K mg base ["thing", "known", "drop", "target"] "is_row" (defScope st_is_row) f cdv A outer s H E).A.units + 64 < cLine := hr.units
  have u100 : (cxOf (L2.CX P w) P w K mg base ["thing", "known", "drop", "target"] "is_row" (defScope st_is_row) f cdv A outer s H E).A.units + 100 < cLine := by have q := hr.un; show (A.deeper _).units + 100 < cLine; omega
  exact
  (mss_cons (ms_if (PW.pt (mw_or (mt_not' (mt_val (me_isB rfl T.b_isinstance (by first | rfl | exact PySem.boot_isinstance | exact PyProof.Rows.Boot.«isinstance») rfl T.b_tuple (by first | rfl | exact PySem.boot_tuple | exact PyProof.Rows.Boot.«tuple») T.oc (mv 0)))) (mw_or1 (mt_cmp o_gt (me_blt c_len rfl T.b_len (by first | rfl | exact PySem.boot_len | exact PyProof.Rows.Boot.«len») (ma_cons (mv 0) ma_nil)) (me_globE rfl T.g_MOST_DROPS) (nomark _)))))
  (mss_one (ms_ret me_bl))
  mss_nil)
  (mss_cons (ms_for hp rfl (mi_any (mv 0)) (mg_name (i := 2) Sc.nd)
  (mss_cons (ms_if (PW.pt (mw_or (mt_not' (mt_val (me_isB rfl T.b_isinstance (by first | rfl | exact PySem.boot_isinstance | exact PyProof.Rows.Boot.«isinstance») rfl T.b_tuple (by first | rfl | exact PySem.boot_tuple | exact PyProof.Rows.Boot.«tuple») T.oc (mv 2)))) (mw_or1 (mt_cmp o_gt (me_blt c_len rfl T.b_len (by first | rfl | exact PySem.boot_len | exact PyProof.Rows.Boot.«len») (ma_cons (mv 2) ma_nil)) (me_globE rfl T.g_MOST_TARGETS) (nomark _)))))
  (mss_one (ms_ret me_bl))
  mss_nil)
  (mss_one (ms_if (mt_not' (mt_val (me_blt (c_all rfl) rfl T.b_all (by first | rfl | exact PySem.boot_all | exact PyProof.Rows.Boot.«all») (ma_cons (me_lc (own := [("target", 3)]) rfl Sc.nd (mi_any (mv 2)) (by rfl) (fun s0 H0 C0 cl0 fp0 => (cg_name (i := 3) Sc.nd (by decide))) (fun s0 H0 C0 cl0 fp0 => mts_nil) (fun s0 H0 C0 cl0 fp0 => (me_and (me_isB rfl T.b_isinstance (by first | rfl | exact PySem.boot_isinstance | exact PyProof.Rows.Boot.«isinstance») rfl T.b_str (by first | rfl | exact PySem.boot_str | exact PyProof.Rows.Boot.«str») T.oc (mv 3)) (me_one (me_cmp (o_in u100) (mv 3) (mv 1) rfl))))) ma_nil))))
  (mss_one (ms_ret me_bl))
  mss_nil))))
  (mss_one (ms_ret me_bl))))
/-! ### is_knot -/
abbrev st_is_knot : Stmt := (top 11)
def b_is_knot : SM :=
  (sSeq (sIf (tOrM (tNotM (mB (eUn (gIsB [7628110] "tuple") (mV 0)))) (tOrM (mB (eOp gNe (eN gLen (aCons (mV 0) aNil)) (mK (.int 2)))) (tNotM (mB (eCall (callP m_is_row) (aCons (eOp gIx (mV 0) (mK (.int 0))) (aCons (mV 1) aNil)))))))
  (sRet (mK (.bl false)))
  sSkip)
  (sRet (eAndM (eCall (callP m_is_row) (aCons (eOp gIx (mV 0) (mK (.int 1))) (aCons (mV 1) aNil))) (eOp gNe (eOp gIx (mV 0) (mK (.int 1))) (eTup aNil)))))
def m_is_knot : Fn := fnM 2 b_is_knot
theorem sc_is_knot : FnScope ["thing", "known"] ["thing", "known"] (defScope st_is_knot) := ⟨rfl, rfl, rfl, by decide +kernel, rfl, by decide +kernel, by decide +kernel⟩
theorem d_is_knot {f : Addr} {fd : FuncData} (F : Fun K "is_knot" "is_knot" st_is_knot f fd) (T : Txt K mg) (D_is_row : Def P w K mg base 2 "is_row" 2 (callP m_is_row)) : FnOk P w K mg base (L2.CX P w) 4 f fd ["thing", "known"] (SpM K mg 2 m_is_knot) := by
  refine Fun.okM (N := ["thing", "known"]) (ps := ["thing", "known"]) (b := b_is_knot) F sc_is_knot fun cdv A outer s H E hr => ?_
  have Sc := sc_is_knot
  generalize hX : cxOf (L2.CX P w) P w K mg base ["thing", "known"] "is_knot" (defScope st_is_knot) f cdv A outer s H E = X
  subst hX
  have tk := takes_of (X := cxOf (L2.CX P w) P w K mg base ["thing", "known"] "is_knot" (defScope st_is_knot) f cdv A outer s H E) rfl rfl rfl rfl
  have hp := passes_of (X := cxOf (L2.CX P w) P w K mg base ["thing", "known"] "is_knot" (defScope st_is_knot) f cdv A outer s H E) rfl
  have u64 : (cxOf (L2.CX P w) P w K mg base ["thing", "known"] "is_knot" (defScope st_is_knot) f cdv A outer s H E).A.units + 64 < cLine := hr.units
  have u100 : (cxOf (L2.CX P w) P w K mg base ["thing", "known"] "is_knot" (defScope st_is_knot) f cdv A outer s H E).A.units + 100 < cLine := by have q := hr.un; show (A.deeper _).units + 100 < cLine; omega
  exact
  (mss_cons (ms_if (PW.pt (mw_or (mt_not' (mt_val (me_isB rfl T.b_isinstance (by first | rfl | exact PySem.boot_isinstance | exact PyProof.Rows.Boot.«isinstance») rfl T.b_tuple (by first | rfl | exact PySem.boot_tuple | exact PyProof.Rows.Boot.«tuple») T.oc (mv 0)))) (mw_or (mt_cmp (o_ne u64) (me_blt c_len rfl T.b_len (by first | rfl | exact PySem.boot_len | exact PyProof.Rows.Boot.«len») (ma_cons (mv 0) ma_nil)) me_int (nomark _)) (mw_or1 (mt_not' (mt_val (me_call D_is_row (hr.mono (by decide)) rfl tk (ma_cons (me_ix u64 (mv 0) me_int) (ma_cons (mv 1) ma_nil)) (aCons_len (aCons_len aNil_len)))))))))
  (mss_one (ms_ret me_bl))
  mss_nil)
  (mss_one (ms_ret (me_and (me_call D_is_row (hr.mono (by decide)) rfl tk (ma_cons (me_ix u64 (mv 0) me_int) (ma_cons (mv 1) ma_nil)) (aCons_len (aCons_len aNil_len))) (me_one (me_cmp (o_ne u64) (me_ix u64 (mv 0) me_int) (me_tup ma_nil) (nomark _)))))))
/-! ### first_wrong -/
abbrev st_first_wrong : Stmt := (top 12)
def lb_first_wrong_0 : SM :=
  (sSeq (sIf (tOrM (tNotM (mB (eCall (callP m_is_name) (aCons (mV 2) aNil)))) (mB (eOp gIn (mV 2) (mV 1))))
  (sRet (eLst false (aCons (eIf (mB (eUn (gIsB [7628110] "str") (mV 2))) (mV 2) (mK .non)) aNil)))
  sSkip)
  (sPutD (mV 1) (mV 2) (mK (.bl true))))
def b_first_wrong : SM :=
  (sSeq (sAsg (eD0 true false) (gNm 1))
  (sSeq (sFor (iFn anyF (mV 0)) (gNm 2)
  lb_first_wrong_0)
  (sRet (eLst false aNil))))
def m_first_wrong : Fn := fnM 3 b_first_wrong
theorem sc_first_wrong : FnScope ["names", "seen", "name"] ["names"] (defScope st_first_wrong) := ⟨rfl, rfl, rfl, by decide +kernel, rfl, by decide +kernel, by decide +kernel⟩
theorem d_first_wrong {f : Addr} {fd : FuncData} (F : Fun K "first_wrong" "first_wrong" st_first_wrong f fd) (T : Txt K mg) (D_is_name : Def P w K mg base 2 "is_name" 1 (callP m_is_name)) : FnOk P w K mg base (L2.CX P w) 4 f fd ["names"] (SpM K mg 1 m_first_wrong) := by
  refine Fun.okM (N := ["names", "seen", "name"]) (ps := ["names"]) (b := b_first_wrong) F sc_first_wrong fun cdv A outer s H E hr => ?_
  have Sc := sc_first_wrong
  generalize hX : cxOf (L2.CX P w) P w K mg base ["names", "seen", "name"] "first_wrong" (defScope st_first_wrong) f cdv A outer s H E = X
  subst hX
  have tk := takes_of (X := cxOf (L2.CX P w) P w K mg base ["names", "seen", "name"] "first_wrong" (defScope st_first_wrong) f cdv A outer s H E) rfl rfl rfl rfl
  have hp := passes_of (X := cxOf (L2.CX P w) P w K mg base ["names", "seen", "name"] "first_wrong" (defScope st_first_wrong) f cdv A outer s H E) rfl
  have u64 : (cxOf (L2.CX P w) P w K mg base ["names", "seen", "name"] "first_wrong" (defScope st_first_wrong) f cdv A outer s H E).A.units + 64 < cLine := hr.units
  have u100 : (cxOf (L2.CX P w) P w K mg base ["names", "seen", "name"] "first_wrong" (defScope st_first_wrong) f cdv A outer s H E).A.units + 100 < cLine := by have q := hr.un; show (A.deeper _).units + 100 < cLine; omega
  exact
  (mss_cons (ms_set (i := 1) Sc.nd me_d0)
  (mss_cons (ms_for hp rfl (mi_any (mv 0)) (mg_name (i := 2) Sc.nd)
  (mss_cons (ms_if (PW.pt (mw_or (mt_not' (mt_val (me_call D_is_name (hr.mono (by decide)) rfl tk (ma_cons (mv 2) ma_nil) (aCons_len aNil_len)))) (mw_or1 (mt_cmp (o_in u100) (mv 2) (mv 1) rfl))))
  (mss_one (ms_ret (me_lst (ma_cons (me_if (mt_val (me_isB rfl T.b_isinstance (by first | rfl | exact PySem.boot_isinstance | exact PyProof.Rows.Boot.«isinstance») rfl T.b_str (by first | rfl | exact PySem.boot_str | exact PyProof.Rows.Boot.«str») T.oc (mv 2))) (mv 2) me_non) ma_nil))))
  mss_nil)
  (mss_one (ms_putD u64 (mv 1) (mv 2) me_bl))))
  (mss_one (ms_ret (me_lst ma_nil)))))
/-! ### Net.met -/
abbrev st_Net_met : Stmt := (inClass (top 13) 4)
def ce_Net_met_0 : EM :=
  (mV 5)
def ct_Net_met_1 : TMt :=
  (mB (eOp gIn (mV 5) (eUn (gFld 495874698859) (mV 0))))
def lb_Net_met_2 : SM :=
  (sExpr (eMl gExtend (mV 2) (aCons (eLc false [5] (iFn anyF (mV 4)) (.nm 5) ct_Net_met_1 ce_Net_met_0) aNil)))
def lb_Net_met_3 : SM :=
  (sSeq (sAsg (eMl gPop (mV 2) aNil) (gNm 3))
  (sIf (mB (eOp gNotIn (mV 3) (mV 1)))
  (sSeq (sPutD (mV 1) (mV 3) (mK (.bl true)))
  (sFor (iFn anyF (eOp gIx (eOp gIx (eUn (gFld 495874698859) (mV 0)) (mV 3)) (mK (.int 1)))) (gNm 4)
  lb_Net_met_2))
  sSkip))
def b_Net_met : SM :=
  (sSeq (sPar 1 2 (eD0 true false) (eUn (gValsL true) (eUn (gFld 126943755005545) (mV 0))))
  (sSeq (sWhile (mB (eOp gNe (mV 2) (eLst false aNil)))
  lb_Net_met_3)
  (sRet (mV 1))))
def m_Net_met : Fn := fnM 6 b_Net_met
theorem sc_Net_met : FnScope ["self", "found", "rest", "name", "drop", "target"] ["self"] (defScope st_Net_met) := ⟨rfl, rfl, rfl, by decide +kernel, rfl, by decide +kernel, by decide +kernel⟩
theorem d_Net_met {f : Addr} {fd : FuncData} (F : Fun K "met" "Net.met" st_Net_met f fd) (T : Txt K mg)  : FnOk P w K mg base (L2.CX P w) 2 f fd ["self"] (SpM K mg 1 m_Net_met) := by
  refine Fun.okM (N := ["self", "found", "rest", "name", "drop", "target"]) (ps := ["self"]) (b := b_Net_met) F sc_Net_met fun cdv A outer s H E hr => ?_
  have Sc := sc_Net_met
  generalize hX : cxOf (L2.CX P w) P w K mg base ["self", "found", "rest", "name", "drop", "target"] "Net.met" (defScope st_Net_met) f cdv A outer s H E = X
  subst hX
  have tk := takes_of (X := cxOf (L2.CX P w) P w K mg base ["self", "found", "rest", "name", "drop", "target"] "Net.met" (defScope st_Net_met) f cdv A outer s H E) rfl rfl rfl rfl
  have hp := passes_of (X := cxOf (L2.CX P w) P w K mg base ["self", "found", "rest", "name", "drop", "target"] "Net.met" (defScope st_Net_met) f cdv A outer s H E) rfl
  have u64 : (cxOf (L2.CX P w) P w K mg base ["self", "found", "rest", "name", "drop", "target"] "Net.met" (defScope st_Net_met) f cdv A outer s H E).A.units + 64 < cLine := hr.units
  have u100 : (cxOf (L2.CX P w) P w K mg base ["self", "found", "rest", "name", "drop", "target"] "Net.met" (defScope st_Net_met) f cdv A outer s H E).A.units + 100 < cLine := by have q := hr.un; show (A.deeper _).units + 100 < cLine; omega
  exact
  (mss_cons (ms_par (i := 1) (j := 2) rfl Sc.nd (by decide) (by rfl) me_d0 (me_listVals rfl (me_fld 126943755005545 (mv 0)) rfl T.b_list))
  (mss_cons (ms_while hp (mt_cmp (o_ne u64) (mv 2) (me_lst ma_nil) (nomark _))
  (mss_cons (ms_set (i := 3) Sc.nd (me_pop (mv 2)))
  (mss_one (ms_if (mt_cmp (o_notIn u100) (mv 3) (mv 1) rfl)
  (mss_cons (ms_putD u64 (mv 1) (mv 3) me_bl)
  (mss_one (ms_for hp rfl (mi_any (me_ix u64 (me_ix u64 (me_fld 495874698859 (mv 0)) (mv 3)) me_int)) (mg_name (i := 4) Sc.nd)
  (mss_one (ms_expr (me_extend (mv 2) (ma_cons (me_lc (own := [("target", 5)]) rfl Sc.nd (mi_any (mv 4)) (by rfl) (fun s0 H0 C0 cl0 fp0 => (cg_name (i := 5) Sc.nd (by decide))) (fun s0 H0 C0 cl0 fp0 => (mts_one (mt_cmp (o_in u100) (mv 5) (me_fld 495874698859 (mv 0)) rfl))) (fun s0 H0 C0 cl0 fp0 => (mv 5))) ma_nil)))))))
  mss_nil))))
  (mss_one (ms_ret (mv 1)))))
def t_met : Tbl := [(7628110, m_Net_met)]
/-! ### Net.__init__ -/
abbrev st_Net_init : Stmt := (inClass (top 13) 0)
def lb_Net_init_0 : SM :=
  (sIf (mB (eOp gNotIn (mV 6) (mV 7)))
  (sRaise1 127978455720258 1701667182 (mV 6))
  sSkip)
def ce_Net_init_1 : EM :=
  (eOp gIx (mV 2) (mV 6))
def ce_Net_init_2 : EM :=
  (eOp gIx (mV 1) (mV 6))
def lb_Net_init_3 : SM :=
  (sIf (tOrM (tNotM (mB (eUn (gIsB [7628110] "str") (eOp gIx (mV 2) (mV 6))))) (mB (eOp gNotIn (eOp gIx (mV 2) (mV 6)) (mV 1))))
  (sRaise1 127978455720258 1701667182 (mV 6))
  sSkip)
def lb_Net_init_4 : SM :=
  (sIf (tNotM (mB (eCall (callP m_is_knot) (aCons (eOp gIx (mV 1) (mV 6)) (aCons (mV 5) aNil)))))
  (sRaise1 127978455720258 1701667182 (mV 6))
  sSkip)
def ce_Net_init_5 : EM :=
  (mK (.bl true))
def b_Net_init : SM :=
  (sSeq (sIf (tOrM (tNotM (mB (eUn (gIsB [7628110] "dict") (mV 1)))) (tOrM (tNotM (mB (eChain gLe gLe (mK (.int 1)) (eN gLen (aCons (mV 1) aNil)) (mK (.int 12))))) (tNotM (mB (eUn (gIsB [7628110] "dict") (mV 2))))))
  (sRaise1 127978455720258 1701667182 (mK .non))
  sSkip)
  (sSeq (sIf (tOrM (tNotM (mB (eUn (gIsBs [7628110] ["list", "tuple"]) (mV 3)))) (mB (eOp gEq (mV 2) (eD0 false false))))
  (sRaise1 127978455720258 1701667182 (mK .non))
  sSkip)
  (sSeq (sAsg (eCall (callP m_first_wrong) (aCons (eLst false (aStar (mV 1) (aStar (mV 3) (aStar (mV 2) aNil)))) aNil)) (gNm 4))
  (sSeq (sIf (mB (eOp gNe (mV 4) (eLst false aNil)))
  (sRaise1 127978455720258 1701667182 (eOp gIx (mV 4) (mK (.int 0))))
  sSkip)
  (sSeq (sAsg (eDc false [6] (iFn anyF (eLst false (aStar (mV 1) (aStar (mV 3) aNil)))) (.nm 6) tAll (mV 6) ce_Net_init_5) (gNm 5))
  (sSeq (sFor (iFn anyF (eN (gSorted false) (aCons (mV 1) aNil))) (gNm 6)
  lb_Net_init_4)
  (sSeq (sLk 2 (sFor (iFn anyF (mV 2)) (gNm 6)
  lb_Net_init_3))
  (sSeq (sFld 7628110 495874698859 (mV 0) (eDc false [6] (iFn anyF (eN (gSorted false) (aCons (mV 1) aNil))) (.nm 6) tAll (mV 6) ce_Net_init_2))
  (sSeq (sFld 7628110 126943755005545 (mV 0) (eDc false [6] (iFn anyF (eN (gSorted false) (aCons (mV 2) aNil))) (.nm 6) tAll (mV 6) ce_Net_init_1))
  (sSeq (sFld 7628110 32497601281815919 (mV 0) (eN gTupOf (aCons (eN (gSorted false) (aCons (mV 3) aNil)) aNil)))
  (sSeq (sFld 7628110 495622906222 (mV 0) (eN (gListOf false) (aCons (eUn (gFld 495874698859) (mV 0)) aNil)))
  (sSeq (sAsg (eMeth0 7628141 t_met (mV 0)) (gNm 7))
  (sFor (iFn anyF (eUn (gFld 495622906222) (mV 0))) (gNm 6)
  lb_Net_init_0)))))))))))))
def m_Net_init : Fn := fnM 8 b_Net_init
theorem sc_Net_init : FnScope ["self", "knots", "inlets", "outlets", "wrong", "known", "name", "met"] ["self", "knots", "inlets", "outlets"] (defScope st_Net_init) := ⟨rfl, rfl, rfl, by decide +kernel, rfl, by decide +kernel, by decide +kernel⟩
theorem d_Net_init {f : Addr} {fd : FuncData} (F : Fun K "__init__" "Net.__init__" st_Net_init f fd) (T : Txt K mg) (X_BadNet : XC P w K mg base 1 "BadNet" 127978455720258 1701667182) (D_is_knot : Def P w K mg base 4 "is_knot" 2 (callP m_is_knot)) (D_first_wrong : Def P w K mg base 4 "first_wrong" 1 (callP m_first_wrong)) (M_met : MDef P w K mg base 2 "met" 1 t_met) : FnOk P w K mg base (L2.CX P w) 6 f fd ["self", "knots", "inlets", "outlets"] (SpM K mg 4 m_Net_init) := by
  refine Fun.okM (N := ["self", "knots", "inlets", "outlets", "wrong", "known", "name", "met"]) (ps := ["self", "knots", "inlets", "outlets"]) (b := b_Net_init) F sc_Net_init fun cdv A outer s H E hr => ?_
  have Sc := sc_Net_init
  have nA_Net_knots := T.nA_Net_knots
  have nA_Net_inlets := T.nA_Net_inlets
  have nA_Net_outlets := T.nA_Net_outlets
  have nA_Net_names := T.nA_Net_names
  generalize hX : cxOf (L2.CX P w) P w K mg base ["self", "knots", "inlets", "outlets", "wrong", "known", "name", "met"] "Net.__init__" (defScope st_Net_init) f cdv A outer s H E = X
  subst hX
  have tk := takes_of (X := cxOf (L2.CX P w) P w K mg base ["self", "knots", "inlets", "outlets", "wrong", "known", "name", "met"] "Net.__init__" (defScope st_Net_init) f cdv A outer s H E) rfl rfl rfl rfl
  have hp := passes_of (X := cxOf (L2.CX P w) P w K mg base ["self", "knots", "inlets", "outlets", "wrong", "known", "name", "met"] "Net.__init__" (defScope st_Net_init) f cdv A outer s H E) rfl
  have u64 : (cxOf (L2.CX P w) P w K mg base ["self", "knots", "inlets", "outlets", "wrong", "known", "name", "met"] "Net.__init__" (defScope st_Net_init) f cdv A outer s H E).A.units + 64 < cLine := hr.units
  have u100 : (cxOf (L2.CX P w) P w K mg base ["self", "knots", "inlets", "outlets", "wrong", "known", "name", "met"] "Net.__init__" (defScope st_Net_init) f cdv A outer s H E).A.units + 100 < cLine := by have q := hr.un; show (A.deeper _).units + 100 < cLine; omega
  exact
  (mss_cons (ms_if (PW.pt (mw_or (mt_not' (mt_val (me_isB rfl T.b_isinstance (by first | rfl | exact PySem.boot_isinstance | exact PyProof.Rows.Boot.«isinstance») rfl T.b_dict (by first | rfl | exact PySem.boot_dict | exact PyProof.Rows.Boot.«dict») T.oc (mv 1)))) (mw_or (mt_not' (mt_chain o_le o_le me_int (me_blt c_len rfl T.b_len (by first | rfl | exact PySem.boot_len | exact PyProof.Rows.Boot.«len») (ma_cons (mv 1) ma_nil)) (me_globE rfl T.g_MOST_KNOTS))) (mw_or1 (mt_not' (mt_val (me_isB rfl T.b_isinstance (by first | rfl | exact PySem.boot_isinstance | exact PyProof.Rows.Boot.«isinstance») rfl T.b_dict (by first | rfl | exact PySem.boot_dict | exact PyProof.Rows.Boot.«dict») T.oc (mv 2))))))))
  (mss_one (ms_raise X_BadNet (hr.mono (by decide)) tk rfl rfl me_non))
  mss_nil)
  (mss_cons (ms_if (PW.pt (mw_or (mt_not' (mt_val (me_isBs rfl T.b_isinstance (by first | rfl | exact PySem.boot_isinstance | exact PyProof.Rows.Boot.«isinstance») rfl T.b_list (by first | rfl | exact PySem.boot_list | exact PyProof.Rows.Boot.«list») rfl T.b_tuple (by first | rfl | exact PySem.boot_tuple | exact PyProof.Rows.Boot.«tuple») T.oc (mv 3)))) (mw_or1 (mt_cmp (o_eq u64) (mv 2) me_d0 (nomark _)))))
  (mss_one (ms_raise X_BadNet (hr.mono (by decide)) tk rfl rfl me_non))
  mss_nil)
  (mss_cons (ms_set (i := 4) Sc.nd (me_call D_first_wrong (hr.mono (by decide)) rfl tk (ma_cons (me_lst (ma_star rfl (mv 1) (ma_star rfl (mv 3) (ma_star rfl (mv 2) ma_nil)))) ma_nil) (aCons_len aNil_len)))
  (mss_cons (ms_if (mt_cmp (o_ne u64) (mv 4) (me_lst ma_nil) (nomark _))
  (mss_one (ms_raise X_BadNet (hr.mono (by decide)) tk rfl rfl (me_ix u64 (mv 4) me_int)))
  mss_nil)
  (mss_cons (ms_setDc (own := [("name", 6)]) (i := 5) rfl Sc.nd (by rfl) (by rfl) (mi_any (me_lst (ma_star rfl (mv 1) (ma_star rfl (mv 3) ma_nil)))) (by rfl) (fun s0 H0 C0 cl0 fp0 => (cg_name (i := 6) Sc.nd (by decide))) (fun s0 H0 C0 cl0 fp0 => mts_nil) (fun s0 H0 C0 cl0 fp0 => (mv 6)) (fun s0 H0 C0 cl0 fp0 => me_bl))
  (mss_cons (ms_for hp rfl (mi_any (me_blt (c_sorted rfl) rfl T.b_sorted (by first | rfl | exact PySem.boot_sorted | exact PyProof.Rows.Boot.«sorted») (ma_cons (mv 1) ma_nil))) (mg_name (i := 6) Sc.nd)
  (mss_one (ms_if (mt_not' (mt_val (me_call D_is_knot (hr.mono (by decide)) rfl tk (ma_cons (me_ix u64 (mv 1) (mv 6)) (ma_cons (mv 5) ma_nil)) (aCons_len (aCons_len aNil_len)))))
  (mss_one (ms_raise X_BadNet (hr.mono (by decide)) tk rfl rfl (mv 6)))
  mss_nil)))
  (mss_cons (ms_lk 2 (ms_for hp rfl (mi_any (mv 2)) (mg_name (i := 6) Sc.nd)
  (mss_one (ms_if (PW.pt (mw_or (mt_not' (mt_val (me_isB rfl T.b_isinstance (by first | rfl | exact PySem.boot_isinstance | exact PyProof.Rows.Boot.«isinstance») rfl T.b_str (by first | rfl | exact PySem.boot_str | exact PyProof.Rows.Boot.«str») T.oc (me_ix u64 (mv 2) (mv 6))))) (mw_or1 (mt_cmp (o_notIn u100) (me_ix u64 (mv 2) (mv 6)) (mv 1) rfl))))
  (mss_one (ms_raise X_BadNet (hr.mono (by decide)) tk rfl rfl (mv 6)))
  mss_nil))))
  (mss_cons (ms_fld 7628110 495874698859 (fun C c => nA_Net_knots C c) (mv 0) (me_dc (own := [("name", 6)]) rfl Sc.nd (mi_any (me_blt (c_sorted rfl) rfl T.b_sorted (by first | rfl | exact PySem.boot_sorted | exact PyProof.Rows.Boot.«sorted») (ma_cons (mv 1) ma_nil))) (by rfl) (fun s0 H0 C0 cl0 fp0 => (cg_name (i := 6) Sc.nd (by decide))) (fun s0 H0 C0 cl0 fp0 => mts_nil) (fun s0 H0 C0 cl0 fp0 => (mv 6)) (fun s0 H0 C0 cl0 fp0 => (me_ix u64 (mv 1) (mv 6)))))
  (mss_cons (ms_fld 7628110 126943755005545 (fun C c => nA_Net_inlets C c) (mv 0) (me_dc (own := [("name", 6)]) rfl Sc.nd (mi_any (me_blt (c_sorted rfl) rfl T.b_sorted (by first | rfl | exact PySem.boot_sorted | exact PyProof.Rows.Boot.«sorted») (ma_cons (mv 2) ma_nil))) (by rfl) (fun s0 H0 C0 cl0 fp0 => (cg_name (i := 6) Sc.nd (by decide))) (fun s0 H0 C0 cl0 fp0 => mts_nil) (fun s0 H0 C0 cl0 fp0 => (mv 6)) (fun s0 H0 C0 cl0 fp0 => (me_ix u64 (mv 2) (mv 6)))))
  (mss_cons (ms_fld 7628110 32497601281815919 (fun C c => nA_Net_outlets C c) (mv 0) (me_typ c_tuple rfl T.b_tuple (by first | rfl | exact PySem.boot_tuple | exact PyProof.Rows.Boot.«tuple») (ma_cons (me_blt (c_sorted rfl) rfl T.b_sorted (by first | rfl | exact PySem.boot_sorted | exact PyProof.Rows.Boot.«sorted») (ma_cons (mv 3) ma_nil)) ma_nil)))
  (mss_cons (ms_fld 7628110 495622906222 (fun C c => nA_Net_names C c) (mv 0) (me_typ (c_list rfl) rfl T.b_list (by first | rfl | exact PySem.boot_list | exact PyProof.Rows.Boot.«list») (ma_cons (me_fld 495874698859 (mv 0)) ma_nil)))
  (mss_cons (ms_set (i := 7) Sc.nd (me_meth0 7628141 M_met (hr.mono (by decide)) tk (mv 0)))
  (mss_one (ms_for hp rfl (mi_any (me_fld 495622906222 (mv 0))) (mg_name (i := 6) Sc.nd)
  (mss_one (ms_if (mt_cmp (o_notIn u100) (mv 6) (mv 7) rfl)
  (mss_one (ms_raise X_BadNet (hr.mono (by decide)) tk rfl rfl (mv 6)))
  mss_nil))))))))))))))))
/-! ### Net.__eq__ -/
abbrev st_Net_eq : Stmt := (inClass (top 13) 1)
def b_Net_eq : SM :=
  (sSeq (sIf (tNotM (mB (eUn (gIsC 7628110) (mV 1))))
  (sRet (mK (.bl false)))
  sSkip)
  (sRet (eOp gEq (eTup (aCons (eUn (gFld 495874698859) (mV 0)) (aCons (eUn (gFld 126943755005545) (mV 0)) (aCons (eUn (gFld 32497601281815919) (mV 0)) aNil)))) (eTup (aCons (eUn (gFld 495874698859) (mV 1)) (aCons (eUn (gFld 126943755005545) (mV 1)) (aCons (eUn (gFld 32497601281815919) (mV 1)) aNil)))))))
def m_Net_eq : Fn := fnM 2 b_Net_eq
theorem sc_Net_eq : FnScope ["self", "other"] ["self", "other"] (defScope st_Net_eq) := ⟨rfl, rfl, rfl, by decide +kernel, rfl, by decide +kernel, by decide +kernel⟩
theorem d_Net_eq {f : Addr} {fd : FuncData} (F : Fun K "__eq__" "Net.__eq__" st_Net_eq f fd) (T : Txt K mg) {C_Net : Addr} (cI_Net : CI K mg 7628110 C_Net) : FnOk P w K mg base (L2.CX P w) 2 f fd ["self", "other"] (SpM K mg 2 m_Net_eq) := by
  refine Fun.okM (N := ["self", "other"]) (ps := ["self", "other"]) (b := b_Net_eq) F sc_Net_eq fun cdv A outer s H E hr => ?_
  have Sc := sc_Net_eq
  generalize hX : cxOf (L2.CX P w) P w K mg base ["self", "other"] "Net.__eq__" (defScope st_Net_eq) f cdv A outer s H E = X
  subst hX
  have tk := takes_of (X := cxOf (L2.CX P w) P w K mg base ["self", "other"] "Net.__eq__" (defScope st_Net_eq) f cdv A outer s H E) rfl rfl rfl rfl
  have hp := passes_of (X := cxOf (L2.CX P w) P w K mg base ["self", "other"] "Net.__eq__" (defScope st_Net_eq) f cdv A outer s H E) rfl
  have u64 : (cxOf (L2.CX P w) P w K mg base ["self", "other"] "Net.__eq__" (defScope st_Net_eq) f cdv A outer s H E).A.units + 64 < cLine := hr.units
  have u100 : (cxOf (L2.CX P w) P w K mg base ["self", "other"] "Net.__eq__" (defScope st_Net_eq) f cdv A outer s H E).A.units + 100 < cLine := by have q := hr.un; show (A.deeper _).units + 100 < cLine; omega
  exact
  (mss_cons (ms_if (mt_not' (mt_val (me_isC rfl T.b_isinstance (by first | rfl | exact PySem.boot_isinstance | exact PyProof.Rows.Boot.«isinstance») rfl cI_Net (T.oc _ (by decide) _ cI_Net) (by decide +kernel) (mv 1))))
  (mss_one (ms_ret me_bl))
  mss_nil)
  (mss_one (ms_ret (me_cmp (o_eq u64) (me_tup (ma_cons (me_fld 495874698859 (mv 0)) (ma_cons (me_fld 126943755005545 (mv 0)) (ma_cons (me_fld 32497601281815919 (mv 0)) ma_nil)))) (me_tup (ma_cons (me_fld 495874698859 (mv 1)) (ma_cons (me_fld 126943755005545 (mv 1)) (ma_cons (me_fld 32497601281815919 (mv 1)) ma_nil)))) (nomark _)))))
/-! ### Net.__len__ -/
abbrev st_Net_len : Stmt := (inClass (top 13) 2)
def b_Net_len : SM :=
  (sRet (eN gLen (aCons (eUn (gFld 495874698859) (mV 0)) aNil)))
def m_Net_len : Fn := fnM 1 b_Net_len
theorem sc_Net_len : FnScope ["self"] ["self"] (defScope st_Net_len) := ⟨rfl, rfl, rfl, by decide +kernel, rfl, by decide +kernel, by decide +kernel⟩
theorem d_Net_len {f : Addr} {fd : FuncData} (F : Fun K "__len__" "Net.__len__" st_Net_len f fd) (T : Txt K mg)  : FnOk P w K mg base (L2.CX P w) 2 f fd ["self"] (SpM K mg 1 m_Net_len) := by
  refine Fun.okM (N := ["self"]) (ps := ["self"]) (b := b_Net_len) F sc_Net_len fun cdv A outer s H E hr => ?_
  have Sc := sc_Net_len
  generalize hX : cxOf (L2.CX P w) P w K mg base ["self"] "Net.__len__" (defScope st_Net_len) f cdv A outer s H E = X
  subst hX
  have tk := takes_of (X := cxOf (L2.CX P w) P w K mg base ["self"] "Net.__len__" (defScope st_Net_len) f cdv A outer s H E) rfl rfl rfl rfl
  have hp := passes_of (X := cxOf (L2.CX P w) P w K mg base ["self"] "Net.__len__" (defScope st_Net_len) f cdv A outer s H E) rfl
  have u64 : (cxOf (L2.CX P w) P w K mg base ["self"] "Net.__len__" (defScope st_Net_len) f cdv A outer s H E).A.units + 64 < cLine := hr.units
  have u100 : (cxOf (L2.CX P w) P w K mg base ["self"] "Net.__len__" (defScope st_Net_len) f cdv A outer s H E).A.units + 100 < cLine := by have q := hr.un; show (A.deeper _).units + 100 < cLine; omega
  exact
  (mss_one (ms_ret (me_blt c_len rfl T.b_len (by first | rfl | exact PySem.boot_len | exact PyProof.Rows.Boot.«len») (ma_cons (me_fld 495874698859 (mv 0)) ma_nil))))
/-! ### Net.__contains__ -/
abbrev st_Net_contains : Stmt := (inClass (top 13) 3)
def b_Net_contains : SM :=
  (sRet (eOrM (eOp gIn (mV 1) (eUn (gFld 495874698859) (mV 0))) (eOp gIn (mV 1) (eUn (gFld 32497601281815919) (mV 0)))))
def m_Net_contains : Fn := fnM 2 b_Net_contains
theorem sc_Net_contains : FnScope ["self", "name"] ["self", "name"] (defScope st_Net_contains) := ⟨rfl, rfl, rfl, by decide +kernel, rfl, by decide +kernel, by decide +kernel⟩
theorem d_Net_contains {f : Addr} {fd : FuncData} (F : Fun K "__contains__" "Net.__contains__" st_Net_contains f fd) (T : Txt K mg)  : FnOk P w K mg base (L2.CX P w) 2 f fd ["self", "name"] (SpM K mg 2 m_Net_contains) := by
  refine Fun.okM (N := ["self", "name"]) (ps := ["self", "name"]) (b := b_Net_contains) F sc_Net_contains fun cdv A outer s H E hr => ?_
  have Sc := sc_Net_contains
  generalize hX : cxOf (L2.CX P w) P w K mg base ["self", "name"] "Net.__contains__" (defScope st_Net_contains) f cdv A outer s H E = X
  subst hX
  have tk := takes_of (X := cxOf (L2.CX P w) P w K mg base ["self", "name"] "Net.__contains__" (defScope st_Net_contains) f cdv A outer s H E) rfl rfl rfl rfl
  have hp := passes_of (X := cxOf (L2.CX P w) P w K mg base ["self", "name"] "Net.__contains__" (defScope st_Net_contains) f cdv A outer s H E) rfl
  have u64 : (cxOf (L2.CX P w) P w K mg base ["self", "name"] "Net.__contains__" (defScope st_Net_contains) f cdv A outer s H E).A.units + 64 < cLine := hr.units
  have u100 : (cxOf (L2.CX P w) P w K mg base ["self", "name"] "Net.__contains__" (defScope st_Net_contains) f cdv A outer s H E).A.units + 100 < cLine := by have q := hr.un; show (A.deeper _).units + 100 < cLine; omega
  exact
  (mss_one (ms_ret (me_or (me_cmp (o_in u100) (mv 1) (me_fld 495874698859 (mv 0)) rfl) (me_one (me_cmp (o_in u100) (mv 1) (me_fld 32497601281815919 (mv 0)) rfl)))))
/-! ### Net.start -/
abbrev st_Net_start : Stmt := (inClass (top 13) 5)
def ce_Net_start_0 : EM :=
  (mK (.int 0))
def b_Net_start : SM :=
  (sRet (eDc true [1] (iFn anyF (eUn (gFld 495622906222) (mV 0))) (.nm 1) tAll (mV 1) ce_Net_start_0))
def m_Net_start : Fn := fnM 2 b_Net_start
theorem sc_Net_start : FnScope ["self", "name"] ["self"] (defScope st_Net_start) := ⟨rfl, rfl, rfl, by decide +kernel, rfl, by decide +kernel, by decide +kernel⟩
theorem d_Net_start {f : Addr} {fd : FuncData} (F : Fun K "start" "Net.start" st_Net_start f fd) (T : Txt K mg)  : FnOk P w K mg base (L2.CX P w) 2 f fd ["self"] (SpM K mg 1 m_Net_start) := by
  refine Fun.okM (N := ["self", "name"]) (ps := ["self"]) (b := b_Net_start) F sc_Net_start fun cdv A outer s H E hr => ?_
  have Sc := sc_Net_start
  generalize hX : cxOf (L2.CX P w) P w K mg base ["self", "name"] "Net.start" (defScope st_Net_start) f cdv A outer s H E = X
  subst hX
  have tk := takes_of (X := cxOf (L2.CX P w) P w K mg base ["self", "name"] "Net.start" (defScope st_Net_start) f cdv A outer s H E) rfl rfl rfl rfl
  have hp := passes_of (X := cxOf (L2.CX P w) P w K mg base ["self", "name"] "Net.start" (defScope st_Net_start) f cdv A outer s H E) rfl
  have u64 : (cxOf (L2.CX P w) P w K mg base ["self", "name"] "Net.start" (defScope st_Net_start) f cdv A outer s H E).A.units + 64 < cLine := hr.units
  have u100 : (cxOf (L2.CX P w) P w K mg base ["self", "name"] "Net.start" (defScope st_Net_start) f cdv A outer s H E).A.units + 100 < cLine := by have q := hr.un; show (A.deeper _).units + 100 < cLine; omega
  exact
  (mss_one (ms_ret (me_dc (own := [("name", 1)]) rfl Sc.nd (mi_any (me_fld 495622906222 (mv 0))) (by rfl) (fun s0 H0 C0 cl0 fp0 => (cg_name (i := 1) Sc.nd (by decide))) (fun s0 H0 C0 cl0 fp0 => mts_nil) (fun s0 H0 C0 cl0 fp0 => (mv 1)) (fun s0 H0 C0 cl0 fp0 => me_int))))
/-! ### _law_draw -/
abbrev st__law_draw : Stmt := (top 15)
def lb__law_draw_0 : SM :=
  (sAsg (eOp gFdiv (mV 5) (mK (.int 97))) (gNm 5))
def b__law_draw : SM :=
  (sSeq (sAsg (eIf (mB (eOp gNe (mV 0) (eLst false aNil))) (eSlH false (mV 0) (mK (.int 60))) (eLst false (aCons (mK (.int 7)) aNil))) (gNm 3))
  (sSeq (sPar 5 6 (eOp gIx (mV 3) (eOp gMod (mV 1) (eN gLen (aCons (mV 3) aNil)))) (eOp gFdiv (mV 1) (eN gLen (aCons (mV 3) aNil))))
  (sSeq (sIf (mB (eOp gGe (mV 5) (eOp gPow (mK (.int 10)) (mK (.int 18)))))
  (sSeq (sAsg (eOp gMod (eN gInt (aCons (mV 5) aNil)) (eOp gPow (mK (.int 97)) (mK (.int 40)))) (gNm 5))
  (sSeq (sFor (iFnA rg1 (aCons (eOp gMod (mV 6) (mK (.int 40))) aNil)) (gNm 7)
  lb__law_draw_0)
  (sRet (eOp gMod (eOp gMod (eN gInt (aCons (mV 5) aNil)) (mK (.int 97))) (mV 2)))))
  sSkip)
  (sSeq (sAsg (eOp (gAdd false) (eOp (gMul false) (eOp (gAdd false) (eOp (gAdd false) (eOp gMod (eN gInt (aCons (eOp (gAdd false) (mV 5) (eOp (gMul false) (mK (.int 31)) (mV 6))) aNil)) (mK (.int 1000003))) (eOp (gMul false) (mK (.int 977)) (mV 1))) (mK (.int 13))) (mK (.int 48271))) (eOp gMod (eN gInt (aCons (eOp gFdiv (mV 5) (mK (.int 1000003))) aNil)) (mK (.int 999983)))) (gNm 4))
  (sRet (eOp gMod (eN gInt (aCons (eOp gMod (eOp (gMul false) (eOp gMod (mV 4) (mK (.int 2147483647))) (mK (.int 65537))) (mK (.int 4294967291))) aNil)) (mV 2)))))))
def m__law_draw : Fn := fnM 8 b__law_draw
theorem sc__law_draw : FnScope ["_law_script", "_law_at", "_law_many", "_law_row", "_law_mixed", "_law_cell", "_law_turn", "_law_step"] ["_law_script", "_law_at", "_law_many"] (defScope st__law_draw) := ⟨rfl, rfl, rfl, by decide +kernel, rfl, by decide +kernel, by decide +kernel⟩
theorem d__law_draw {f : Addr} {fd : FuncData} (F : Fun K "_law_draw" "_law_draw" st__law_draw f fd) (T : Txt K mg)  : FnOk P w K mg base (L2.CX P w) 2 f fd ["_law_script", "_law_at", "_law_many"] (SpM K mg 3 m__law_draw) := by
  refine Fun.okM (N := ["_law_script", "_law_at", "_law_many", "_law_row", "_law_mixed", "_law_cell", "_law_turn", "_law_step"]) (ps := ["_law_script", "_law_at", "_law_many"]) (b := b__law_draw) F sc__law_draw fun cdv A outer s H E hr => ?_
  have Sc := sc__law_draw
  generalize hX : cxOf (L2.CX P w) P w K mg base ["_law_script", "_law_at", "_law_many", "_law_row", "_law_mixed", "_law_cell", "_law_turn", "_law_step"] "_law_draw" (defScope st__law_draw) f cdv A outer s H E = X
  subst hX
  have tk := takes_of (X := cxOf (L2.CX P w) P w K mg base ["_law_script", "_law_at", "_law_many", "_law_row", "_law_mixed", "_law_cell", "_law_turn", "_law_step"] "_law_draw" (defScope st__law_draw) f cdv A outer s H E) rfl rfl rfl rfl
  have hp := passes_of (X := cxOf (L2.CX P w) P w K mg base ["_law_script", "_law_at", "_law_many", "_law_row", "_law_mixed", "_law_cell", "_law_turn", "_law_step"] "_law_draw" (defScope st__law_draw) f cdv A outer s H E) rfl
  have u64 : (cxOf (L2.CX P w) P w K mg base ["_law_script", "_law_at", "_law_many", "_law_row", "_law_mixed", "_law_cell", "_law_turn", "_law_step"] "_law_draw" (defScope st__law_draw) f cdv A outer s H E).A.units + 64 < cLine := hr.units
  have u100 : (cxOf (L2.CX P w) P w K mg base ["_law_script", "_law_at", "_law_many", "_law_row", "_law_mixed", "_law_cell", "_law_turn", "_law_step"] "_law_draw" (defScope st__law_draw) f cdv A outer s H E).A.units + 100 < cLine := by have q := hr.un; show (A.deeper _).units + 100 < cLine; omega
  exact
  (mss_cons (ms_set (i := 3) Sc.nd (me_if (mt_cmp (o_ne u64) (mv 0) (me_lst ma_nil) (nomark _)) (me_slH (mv 0) me_int) (me_lst (ma_cons me_int ma_nil))))
  (mss_cons (ms_par (i := 5) (j := 6) rfl Sc.nd (by decide) (by rfl) (me_ix u64 (mv 3) (me_op o_mod (mv 1) (me_blt c_len rfl T.b_len (by first | rfl | exact PySem.boot_len | exact PyProof.Rows.Boot.«len») (ma_cons (mv 3) ma_nil)))) (me_op o_fdiv (mv 1) (me_blt c_len rfl T.b_len (by first | rfl | exact PySem.boot_len | exact PyProof.Rows.Boot.«len») (ma_cons (mv 3) ma_nil))))
  (mss_cons (ms_if (mt_cmp o_ge (mv 5) (me_op o_pow me_int me_int) (nomark _))
  (mss_cons (ms_set (i := 5) Sc.nd (me_op o_mod (me_typ c_int rfl T.b_int (by first | rfl | exact PySem.boot_int | exact PyProof.Rows.Boot.«int») (ma_cons (mv 5) ma_nil)) (me_op o_pow me_int me_int)))
  (mss_cons (ms_for hp rfl (mi_range1 rfl T.b_range (ma_cons (me_op o_mod (mv 6) me_int) ma_nil)) (mg_name (i := 7) Sc.nd)
  (mss_one (ms_set (i := 5) Sc.nd (me_op o_fdiv (mv 5) me_int))))
  (mss_one (ms_ret (me_op o_mod (me_op o_mod (me_typ c_int rfl T.b_int (by first | rfl | exact PySem.boot_int | exact PyProof.Rows.Boot.«int») (ma_cons (mv 5) ma_nil)) me_int) (mv 2))))))
  mss_nil)
  (mss_cons (ms_set (i := 4) Sc.nd (me_op o_add (me_op o_mul (me_op o_add (me_op o_add (me_op o_mod (me_typ c_int rfl T.b_int (by first | rfl | exact PySem.boot_int | exact PyProof.Rows.Boot.«int») (ma_cons (me_op o_add (mv 5) (me_op o_mul me_int (mv 6))) ma_nil)) me_int) (me_op o_mul me_int (mv 1))) me_int) me_int) (me_op o_mod (me_typ c_int rfl T.b_int (by first | rfl | exact PySem.boot_int | exact PyProof.Rows.Boot.«int») (ma_cons (me_op o_fdiv (mv 5) me_int) ma_nil)) me_int)))
  (mss_one (ms_ret (me_op o_mod (me_typ c_int rfl T.b_int (by first | rfl | exact PySem.boot_int | exact PyProof.Rows.Boot.«int») (ma_cons (me_op o_mod (me_op o_mul (me_op o_mod (mv 4) me_int) me_int) me_int) ma_nil)) (mv 2))))))))
/-! ### _law_knots -/
abbrev st__law_knots : Stmt := (top 16)
def ce__law_knots_0 : EM :=
  (eOp gIx (mV 5) (eCall (callP m__law_draw) (aCons (mV 0) (aCons (eOp (gAdd false) (eOp (gAdd false) (eOp (gAdd false) (mV 13) (mK (.int 5))) (eOp (gMul false) (mK (.int 5)) (mV 11))) (mV 15)) (aCons (eN gLen (aCons (mV 5) aNil)) aNil)))))
def lb__law_knots_1 : SM :=
  (sSeq (sAsg (eOp gIx (eTup (aCons (mK (.int 1)) (aCons (mK (.int 1)) (aCons (mK (.int 1)) (aCons (mK (.int 0)) (aCons (mK (.int 2)) aNil)))))) (eCall (callP m__law_draw) (aCons (mV 0) (aCons (eOp (gAdd false) (eOp (gAdd false) (mV 13) (mK (.int 4))) (eOp (gMul false) (mK (.int 5)) (mV 11))) (aCons (mK (.int 5)) aNil))))) (gNm 14))
  (sExpr (eMl gAppend (mV 12) (aCons (eN gTupOf (aCons (eLc false [15] (iFnA rg1 (aCons (mV 14) aNil)) (.nm 15) tAll ce__law_knots_0) aNil)) aNil))))
def lb__law_knots_2 : SM :=
  (sSeq (sAsg (eTup (aCons (eLst true aNil) (aCons (eOp (gAdd false) (eOp (gAdd false) (eOp (gAdd false) (mV 1) (mK (.int 10))) (eOp (gMul false) (mK (.int 40)) (mV 6))) (eOp (gMul false) (mK (.int 12)) (mV 9))) aNil))) (gTp [(gNm 12), (gNm 13)]))
  (sSeq (sFor (iFnA rg1 (aCons (eIf (mB (eOp gEq (mV 9) (mK (.int 0)))) (eCall (callP m__law_draw) (aCons (mV 0) (aCons (mV 13) (aCons (mK (.int 3)) aNil)))) (eOp (gAdd false) (mK (.int 1)) (eCall (callP m__law_draw) (aCons (mV 0) (aCons (mV 13) (aCons (mK (.int 3)) aNil)))))) aNil)) (gNm 11)
  lb__law_knots_1)
  (sExpr (eMl gAppend (mV 8) (aCons (eN gTupOf (aCons (mV 12) aNil)) aNil)))))
def lb__law_knots_3 : SM :=
  (sSeq (sAsg (eLst true aNil) (gNm 8))
  (sSeq (sFor (iFnA rg1 (aCons (mK (.int 2)) aNil)) (gNm 9)
  lb__law_knots_2)
  (sSeq (sAsg (eIf (mB (eOp gLt (eOp (gAdd false) (mV 6) (mK (.int 1))) (eN gLen (aCons (mV 3) aNil)))) (eTup (aCons (eTup (aCons (eOp gIx (mV 3) (eOp (gAdd false) (mV 6) (mK (.int 1)))) aNil)) aNil)) (eTup aNil)) (gNm 10))
  (sPutD (mV 4) (mV 7) (eTup (aCons (eOp gIx (mV 8) (mK (.int 0))) (aCons (eOp (gAdd false) (eOp (gAdd false) (eOp gIx (mV 8) (mK (.int 1))) (mV 10)) (eIf (mB (mV 2)) (eTup (aCons (eTup (aCons (mK (.str [111])) aNil)) aNil)) (eTup aNil))) aNil)))))))
def b__law_knots : SM :=
  (sSeq (sAsg (eSlH false (mK (.str [97, 98, 99, 100])) (eOp (gAdd false) (mK (.int 1)) (eCall (callP m__law_draw) (aCons (mV 0) (aCons (mV 1) (aCons (mK (.int 4)) aNil)))))) (gNm 3))
  (sSeq (sAsg (eTup (aCons (eD0 true false) (aCons (eOp (gAdd false) (eN (gListOf false) (aCons (mV 3) aNil)) (eLst false (aCons (mK (.str [111])) (aCons (mK (.str [112])) aNil)))) aNil))) (gTp [(gNm 4), (gNm 5)]))
  (sSeq (sFor (iFnA enF (aCons (mV 3) aNil)) (gTp [(gNm 6), (gNm 7)])
  lb__law_knots_3)
  (sFz 4 (sRet (mV 4))))))
def m__law_knots : Fn := fnM 16 b__law_knots
theorem sc__law_knots : FnScope ["_law_script", "_law_at", "_law_lossy", "_law_names", "_law_knots_here", "_law_targets", "_law_spot", "_law_name", "_law_rows", "_law_part", "_law_last", "_law_turn", "_law_row", "_law_first", "_law_many", "_law_one"] ["_law_script", "_law_at", "_law_lossy"] (defScope st__law_knots) := ⟨rfl, rfl, rfl, by decide +kernel, rfl, by decide +kernel, by decide +kernel⟩
theorem d__law_knots {f : Addr} {fd : FuncData} (F : Fun K "_law_knots" "_law_knots" st__law_knots f fd) (T : Txt K mg) (D__law_draw : Def P w K mg base 2 "_law_draw" 3 (callP m__law_draw)) : FnOk P w K mg base (L2.CX P w) 4 f fd ["_law_script", "_law_at", "_law_lossy"] (SpM K mg 3 m__law_knots) := by
  refine Fun.okM (N := ["_law_script", "_law_at", "_law_lossy", "_law_names", "_law_knots_here", "_law_targets", "_law_spot", "_law_name", "_law_rows", "_law_part", "_law_last", "_law_turn", "_law_row", "_law_first", "_law_many", "_law_one"]) (ps := ["_law_script", "_law_at", "_law_lossy"]) (b := b__law_knots) F sc__law_knots fun cdv A outer s H E hr => ?_
  have Sc := sc__law_knots
  generalize hX : cxOf (L2.CX P w) P w K mg base ["_law_script", "_law_at", "_law_lossy", "_law_names", "_law_knots_here", "_law_targets", "_law_spot", "_law_name", "_law_rows", "_law_part", "_law_last", "_law_turn", "_law_row", "_law_first", "_law_many", "_law_one"] "_law_knots" (defScope st__law_knots) f cdv A outer s H E = X
  subst hX
  have tk := takes_of (X := cxOf (L2.CX P w) P w K mg base ["_law_script", "_law_at", "_law_lossy", "_law_names", "_law_knots_here", "_law_targets", "_law_spot", "_law_name", "_law_rows", "_law_part", "_law_last", "_law_turn", "_law_row", "_law_first", "_law_many", "_law_one"] "_law_knots" (defScope st__law_knots) f cdv A outer s H E) rfl rfl rfl rfl
  have hp := passes_of (X := cxOf (L2.CX P w) P w K mg base ["_law_script", "_law_at", "_law_lossy", "_law_names", "_law_knots_here", "_law_targets", "_law_spot", "_law_name", "_law_rows", "_law_part", "_law_last", "_law_turn", "_law_row", "_law_first", "_law_many", "_law_one"] "_law_knots" (defScope st__law_knots) f cdv A outer s H E) rfl
  have u64 : (cxOf (L2.CX P w) P w K mg base ["_law_script", "_law_at", "_law_lossy", "_law_names", "_law_knots_here", "_law_targets", "_law_spot", "_law_name", "_law_rows", "_law_part", "_law_last", "_law_turn", "_law_row", "_law_first", "_law_many", "_law_one"] "_law_knots" (defScope st__law_knots) f cdv A outer s H E).A.units + 64 < cLine := hr.units
  have u100 : (cxOf (L2.CX P w) P w K mg base ["_law_script", "_law_at", "_law_lossy", "_law_names", "_law_knots_here", "_law_targets", "_law_spot", "_law_name", "_law_rows", "_law_part", "_law_last", "_law_turn", "_law_row", "_law_first", "_law_many", "_law_one"] "_law_knots" (defScope st__law_knots) f cdv A outer s H E).A.units + 100 < cLine := by have q := hr.un; show (A.deeper _).units + 100 < cLine; omega
  exact
  (mss_cons (ms_set (i := 3) Sc.nd (me_slH (me_str [97, 98, 99, 100]) (me_op o_add me_int (me_call D__law_draw (hr.mono (by decide)) rfl tk (ma_cons (mv 0) (ma_cons (mv 1) (ma_cons me_int ma_nil))) (aCons_len (aCons_len (aCons_len aNil_len)))))))
  (mss_cons (ms_asg (me_tup (ma_cons me_d0 (ma_cons (me_op o_add (me_typ (c_list rfl) rfl T.b_list (by first | rfl | exact PySem.boot_list | exact PyProof.Rows.Boot.«list») (ma_cons (mv 3) ma_nil)) (me_lst (ma_cons (me_str [111]) (ma_cons (me_str [112]) ma_nil)))) ma_nil))) (mg_tup rfl (mgs_cons (mg_name (i := 4) Sc.nd) (mgs_cons (mg_name (i := 5) Sc.nd) mgs_nil))))
  (mss_cons (ms_for hp rfl (mi_enum rfl T.b_enumerate (ma_cons (mv 3) ma_nil)) (mg_tup rfl (mgs_cons (mg_name (i := 6) Sc.nd) (mgs_cons (mg_name (i := 7) Sc.nd) mgs_nil)))
  (mss_cons (ms_set (i := 8) Sc.nd (me_lst ma_nil))
  (mss_cons (ms_for hp rfl (mi_range1 rfl T.b_range (ma_cons me_int ma_nil)) (mg_name (i := 9) Sc.nd)
  (mss_cons (ms_asg (me_tup (ma_cons (me_lst ma_nil) (ma_cons (me_op o_add (me_op o_add (me_op o_add (mv 1) me_int) (me_op o_mul me_int (mv 6))) (me_op o_mul me_int (mv 9))) ma_nil))) (mg_tup rfl (mgs_cons (mg_name (i := 12) Sc.nd) (mgs_cons (mg_name (i := 13) Sc.nd) mgs_nil))))
  (mss_cons (ms_for hp rfl (mi_range1 rfl T.b_range (ma_cons (me_if (mt_cmp (o_eq u64) (mv 9) me_int (nomark _)) (me_call D__law_draw (hr.mono (by decide)) rfl tk (ma_cons (mv 0) (ma_cons (mv 13) (ma_cons me_int ma_nil))) (aCons_len (aCons_len (aCons_len aNil_len)))) (me_op o_add me_int (me_call D__law_draw (hr.mono (by decide)) rfl tk (ma_cons (mv 0) (ma_cons (mv 13) (ma_cons me_int ma_nil))) (aCons_len (aCons_len (aCons_len aNil_len)))))) ma_nil)) (mg_name (i := 11) Sc.nd)
  (mss_cons (ms_set (i := 14) Sc.nd (me_ix u64 (me_tup (ma_cons me_int (ma_cons me_int (ma_cons me_int (ma_cons me_int (ma_cons me_int ma_nil)))))) (me_call D__law_draw (hr.mono (by decide)) rfl tk (ma_cons (mv 0) (ma_cons (me_op o_add (me_op o_add (mv 13) me_int) (me_op o_mul me_int (mv 11))) (ma_cons me_int ma_nil))) (aCons_len (aCons_len (aCons_len aNil_len))))))
  (mss_one (ms_expr (me_append (mv 12) (ma_cons (me_typ c_tuple rfl T.b_tuple (by first | rfl | exact PySem.boot_tuple | exact PyProof.Rows.Boot.«tuple») (ma_cons (me_lc (own := [("_law_one", 15)]) rfl Sc.nd (mi_range1 rfl T.b_range (ma_cons (mv 14) ma_nil)) (by rfl) (fun s0 H0 C0 cl0 fp0 => (cg_name (i := 15) Sc.nd (by decide))) (fun s0 H0 C0 cl0 fp0 => mts_nil) (fun s0 H0 C0 cl0 fp0 => (me_ix u64 (mv 5) (me_call D__law_draw (hr.mono (by decide)) rfl takes0 (ma_cons (mv 0) (ma_cons (me_op o_add (me_op o_add (me_op o_add (mv 13) me_int) (me_op o_mul me_int (mv 11))) (mv 15)) (ma_cons (me_blt c_len rfl T.b_len (by first | rfl | exact PySem.boot_len | exact PyProof.Rows.Boot.«len») (ma_cons (mv 5) ma_nil)) ma_nil))) (aCons_len (aCons_len (aCons_len aNil_len))))))) ma_nil)) ma_nil))))))
  (mss_one (ms_expr (me_append (mv 8) (ma_cons (me_typ c_tuple rfl T.b_tuple (by first | rfl | exact PySem.boot_tuple | exact PyProof.Rows.Boot.«tuple») (ma_cons (mv 12) ma_nil)) ma_nil)))))))
  (mss_cons (ms_set (i := 10) Sc.nd (me_if (mt_cmp o_lt (me_op o_add (mv 6) me_int) (me_blt c_len rfl T.b_len (by first | rfl | exact PySem.boot_len | exact PyProof.Rows.Boot.«len») (ma_cons (mv 3) ma_nil)) (nomark _)) (me_tup (ma_cons (me_tup (ma_cons (me_ix u64 (mv 3) (me_op o_add (mv 6) me_int)) ma_nil)) ma_nil)) (me_tup ma_nil)))
  (mss_one (ms_putD u64 (mv 4) (mv 7) (me_tup (ma_cons (me_ix u64 (mv 8) me_int) (ma_cons (me_op o_add (me_op o_add (me_ix u64 (mv 8) me_int) (mv 10)) (me_if (mt_val (mv 2)) (me_tup (ma_cons (me_tup (ma_cons (me_str [111]) ma_nil)) ma_nil)) (me_tup ma_nil))) ma_nil)))))))))
  (mss_one (ms_fz 4 (ms_ret (mv 4)))))))
/-! ### _law_inlets -/
abbrev st__law_inlets : Stmt := (top 17)
def b__law_inlets : SM :=
  (sRet (eDisp false (pCons (mK (.str [105])) (mK (.str [97])) (pCons (mK (.str [106])) (eOp gIx (eN (gSorted false) (aCons (eN (gListOf false) (aCons (mV 2) aNil)) aNil)) (eCall (callP m__law_draw) (aCons (mV 0) (aCons (mV 1) (aCons (eN gLen (aCons (mV 2) aNil)) aNil))))) pNil))))
def m__law_inlets : Fn := fnM 3 b__law_inlets
theorem sc__law_inlets : FnScope ["_law_script", "_law_at", "_law_knots_here"] ["_law_script", "_law_at", "_law_knots_here"] (defScope st__law_inlets) := ⟨rfl, rfl, rfl, by decide +kernel, rfl, by decide +kernel, by decide +kernel⟩
theorem d__law_inlets {f : Addr} {fd : FuncData} (F : Fun K "_law_inlets" "_law_inlets" st__law_inlets f fd) (T : Txt K mg) (D__law_draw : Def P w K mg base 2 "_law_draw" 3 (callP m__law_draw)) : FnOk P w K mg base (L2.CX P w) 4 f fd ["_law_script", "_law_at", "_law_knots_here"] (SpM K mg 3 m__law_inlets) := by
  refine Fun.okM (N := ["_law_script", "_law_at", "_law_knots_here"]) (ps := ["_law_script", "_law_at", "_law_knots_here"]) (b := b__law_inlets) F sc__law_inlets fun cdv A outer s H E hr => ?_
  have Sc := sc__law_inlets
  generalize hX : cxOf (L2.CX P w) P w K mg base ["_law_script", "_law_at", "_law_knots_here"] "_law_inlets" (defScope st__law_inlets) f cdv A outer s H E = X
  subst hX
  have tk := takes_of (X := cxOf (L2.CX P w) P w K mg base ["_law_script", "_law_at", "_law_knots_here"] "_law_inlets" (defScope st__law_inlets) f cdv A outer s H E) rfl rfl rfl rfl
  have hp := passes_of (X := cxOf (L2.CX P w) P w K mg base ["_law_script", "_law_at", "_law_knots_here"] "_law_inlets" (defScope st__law_inlets) f cdv A outer s H E) rfl
  have u64 : (cxOf (L2.CX P w) P w K mg base ["_law_script", "_law_at", "_law_knots_here"] "_law_inlets" (defScope st__law_inlets) f cdv A outer s H E).A.units + 64 < cLine := hr.units
  have u100 : (cxOf (L2.CX P w) P w K mg base ["_law_script", "_law_at", "_law_knots_here"] "_law_inlets" (defScope st__law_inlets) f cdv A outer s H E).A.units + 100 < cLine := by have q := hr.un; show (A.deeper _).units + 100 < cLine; omega
  exact
  (mss_one (ms_ret (me_disp (pd_cons (me_str [105]) (me_str [97]) (pd_cons (me_str [106]) (me_ix u64 (me_blt (c_sorted rfl) rfl T.b_sorted (by first | rfl | exact PySem.boot_sorted | exact PyProof.Rows.Boot.«sorted») (ma_cons (me_typ (c_list rfl) rfl T.b_list (by first | rfl | exact PySem.boot_list | exact PyProof.Rows.Boot.«list») (ma_cons (mv 2) ma_nil)) ma_nil)) (me_call D__law_draw (hr.mono (by decide)) rfl takes0 (ma_cons (mv 0) (ma_cons (mv 1) (ma_cons (me_blt c_len rfl T.b_len (by first | rfl | exact PySem.boot_len | exact PyProof.Rows.Boot.«len») (ma_cons (mv 2) ma_nil)) ma_nil))) (aCons_len (aCons_len (aCons_len aNil_len))))) pd_nil)))))
/-! ### _law_refused -/
abbrev st__law_refused : Stmt := (top 18)
def b__law_refused : SM :=
  (sTry 4 [(127978455720258, true)] (sSeq (sExpr (eCall (mkP 7628110 m_Net_init) (aCons (mV 0) (aCons (mV 1) (aCons (mV 2) aNil)))))
  (sRet (mK (.bl false)))) fun x => sRet (eOp gEq (eXf 127978455720258 1701667182 x) (mV 3)))
def m__law_refused : Fn := fnM 5 b__law_refused
theorem sc__law_refused : FnScope ["_law_knots_here", "_law_inlets_here", "_law_outlets", "_law_name", "error"] ["_law_knots_here", "_law_inlets_here", "_law_outlets", "_law_name"] (defScope st__law_refused) := ⟨rfl, rfl, rfl, by decide +kernel, rfl, by decide +kernel, by decide +kernel⟩
theorem d__law_refused {f : Addr} {fd : FuncData} (F : Fun K "_law_refused" "_law_refused" st__law_refused f fd) (T : Txt K mg) (X_BadNet : XC P w K mg base 1 "BadNet" 127978455720258 1701667182) (D_Net : CDef P w K mg base 6 "Net" 7628110 4 m_Net_init) : FnOk P w K mg base (L2.CX P w) 9 f fd ["_law_knots_here", "_law_inlets_here", "_law_outlets", "_law_name"] (SpM K mg 4 m__law_refused) := by
  refine Fun.okM (N := ["_law_knots_here", "_law_inlets_here", "_law_outlets", "_law_name", "error"]) (ps := ["_law_knots_here", "_law_inlets_here", "_law_outlets", "_law_name"]) (b := b__law_refused) F sc__law_refused fun cdv A outer s H E hr => ?_
  have Sc := sc__law_refused
  generalize hX : cxOf (L2.CX P w) P w K mg base ["_law_knots_here", "_law_inlets_here", "_law_outlets", "_law_name", "error"] "_law_refused" (defScope st__law_refused) f cdv A outer s H E = X
  subst hX
  have tk := takes_of (X := cxOf (L2.CX P w) P w K mg base ["_law_knots_here", "_law_inlets_here", "_law_outlets", "_law_name", "error"] "_law_refused" (defScope st__law_refused) f cdv A outer s H E) rfl rfl rfl rfl
  have hp := passes_of (X := cxOf (L2.CX P w) P w K mg base ["_law_knots_here", "_law_inlets_here", "_law_outlets", "_law_name", "error"] "_law_refused" (defScope st__law_refused) f cdv A outer s H E) rfl
  have u64 : (cxOf (L2.CX P w) P w K mg base ["_law_knots_here", "_law_inlets_here", "_law_outlets", "_law_name", "error"] "_law_refused" (defScope st__law_refused) f cdv A outer s H E).A.units + 64 < cLine := hr.units
  have u100 : (cxOf (L2.CX P w) P w K mg base ["_law_knots_here", "_law_inlets_here", "_law_outlets", "_law_name", "error"] "_law_refused" (defScope st__law_refused) f cdv A outer s H E).A.units + 100 < cLine := by have q := hr.un; show (A.deeper _).units + 100 < cLine; omega
  exact
  (mss_one (ms_tryRet X_BadNet rfl rfl Sc.nd (i := 4) rfl rfl rfl tk (by decide +kernel) (fun a pn => (o_eq u64)) (fun W pn xe tk hp => (mss_cons (ms_expr (me_makeP D_Net (hr.mono (by decide)) rfl tk (ma_cons (mv 0) (ma_cons (mv 1) (ma_cons (mv 2) ma_nil))) (aCons_len (aCons_len (aCons_len aNil_len)))))
  (mss_one (ms_ret me_bl)))) (fun a pn => (mv 3)) (nomark _)))
def t_start : Tbl := [(7628110, m_Net_start)]
def t_eq : Tbl := [(7628110, m_Net_eq)]
def t_contains : Tbl := [(7628110, m_Net_contains)]
def t_len : Tbl := [(7628110, m_Net_len)]
/-! ### law -/
abbrev st_law : Stmt := (top 19)
def ce_law_0 : EM :=
  (eTup (aCons (eOp (gAdd false) (mK (.str [107])) (eN gStr (aCons (mV 13) aNil))) (aCons (eTup (aCons (eTup aNil) (aCons (eTup (aCons (eTup (aCons (mK (.str [111])) aNil)) aNil)) aNil))) aNil)))
def lb_law_1 : SM :=
  (sSeq (sIf (tNotM (mB (eCall (callP m__law_refused) (aCons (eN (gDictOf false) (aCons (eOp (gAdd false) (eUn (gItemsL false) (mV 1)) (eLst false (aCons (eTup (aCons (mV 11) (aCons (eTup (aCons (eTup aNil) (aCons (eTup (aCons (eTup (aCons (mK (.str [111])) aNil)) aNil)) aNil))) aNil))) aNil))) aNil)) (aCons (mV 2) (aCons (eTup (aCons (mK (.str [111])) (aCons (mK (.str [112])) aNil))) (aCons (mV 12) aNil)))))))
  (sRet (mK (.bl false)))
  sSkip)
  (sSeq (sIf (tNotM (mB (eCall (callP m__law_refused) (aCons (mV 1) (aCons (mV 2) (aCons (eTup (aCons (mK (.str [111])) (aCons (mK (.str [112])) (aCons (mV 11) aNil)))) (aCons (mV 12) aNil)))))))
  (sRet (mK (.bl false)))
  sSkip)
  (sIf (tNotM (mB (eCall (callP m__law_refused) (aCons (mV 1) (aCons (eN (gDictOf false) (aCons (eOp (gAdd false) (eUn (gItemsL false) (mV 2)) (eLst false (aCons (eTup (aCons (mV 11) (aCons (mK (.str [97])) aNil))) aNil))) aNil)) (aCons (eTup (aCons (mK (.str [111])) (aCons (mK (.str [112])) aNil))) (aCons (mV 12) aNil)))))))
  (sRet (mK (.bl false)))
  sSkip)))
def lb_law_2 : SM :=
  (sIf (tNotM (mB (eCall (callP m__law_refused) (aCons (eN (gDictOf false) (aCons (eOp (gAdd false) (eUn (gItemsL false) (mV 1)) (eLst false (aCons (eTup (aCons (mV 3) (aCons (mV 4) aNil))) aNil))) aNil)) (aCons (mV 2) (aCons (eTup (aCons (mK (.str [111])) (aCons (mK (.str [112])) aNil))) (aCons (mV 3) aNil)))))))
  (sRet (mK (.bl false)))
  sSkip)
def ce_law_3 : EM :=
  (eTup (aCons (mV 3) (aCons (mK (.int 0)) aNil)))
def ce_law_4 : EM :=
  (eTup (aCons (mV 3) (aCons (eOp gIx (mV 1) (mV 3)) aNil)))
def b_law : SM :=
  (sSeq (sAsg (eCall (callP m__law_knots) (aCons (mV 0) (aCons (mK (.int 0)) (aCons (mK (.bl true)) aNil)))) (gNm 1))
  (sSeq (sAsg (eCall (callP m__law_inlets) (aCons (mV 0) (aCons (mK (.int 5)) (aCons (mV 1) aNil)))) (gNm 2))
  (sSeq (sPar 7 8 (eCall (mkP 7628110 m_Net_init) (aCons (mV 1) (aCons (mV 2) (aCons (eLst false (aCons (mK (.str [112])) (aCons (mK (.str [111])) (aCons (mK (.str [113])) aNil)))) aNil)))) (eN (gSorted false) (aCons (eN (gListOf false) (aCons (mV 1) aNil)) aNil)))
  (sSeq (sIf (tOrM (mB (eOp gNe (eN (gListOf false) (aCons (eUn (gFld 495874698859) (mV 7)) aNil)) (mV 8))) (tOrM (mB (eOp gNe (eUn (gFld 495874698859) (mV 7)) (mV 1))) (tOrM (mB (eOp gNe (eN (gListOf false) (aCons (eUn (gFld 126943755005545) (mV 7)) aNil)) (eLst false (aCons (mK (.str [105])) (aCons (mK (.str [106])) aNil))))) (tOrM (mB (eOp gNe (eUn (gFld 32497601281815919) (mV 7)) (eTup (aCons (mK (.str [111])) (aCons (mK (.str [112])) (aCons (mK (.str [113])) aNil)))))) (mB (eOp gNe (eUnR (ownLen t_len) (mV 7)) (eN gLen (aCons (mV 1) aNil))))))))
  (sRet (mK (.bl false)))
  sSkip)
  (sSeq (sIf (tOrM (mB (eOpR (ownEq t_eq [7628110]) (mV 7) (eCall (mkP 7628110 m_Net_init) (aCons (mV 1) (aCons (mV 2) (aCons (eLst false (aCons (mK (.str [112])) (aCons (mK (.str [111])) aNil))) aNil)))))) (mB (eOpR (ownEq t_eq [7628110]) (mV 7) (mK (.int 3)))))
  (sRet (mK (.bl false)))
  sSkip)
  (sSeq (sIf (mB (eOpR (ownNe t_eq [7628110]) (mV 7) (eCall (mkP 7628110 m_Net_init) (aCons (eN (gDictOf false) (aCons (eLc false [3] (iFn rvF (eN (gListOf false) (aCons (mV 8) aNil))) (.nm 3) tAll ce_law_4) aNil)) (aCons (eDisp false (pCons (mK (.str [106])) (eOp gIx (mV 2) (mK (.str [106]))) (pCons (mK (.str [105])) (mK (.str [97])) pNil))) (aCons (eTup (aCons (mK (.str [113])) (aCons (mK (.str [112])) (aCons (mK (.str [111])) aNil)))) aNil))))))
  (sRet (mK (.bl false)))
  sSkip)
  (sSeq (sIf (tOrM (mB (eOp gNe (eMeth0 500135195763 t_start (mV 7)) (eN (gDictOf false) (aCons (eLc false [3] (iFn anyF (mV 8)) (.nm 3) tAll ce_law_3) aNil)))) (tOrM (mB (eOpR (ownNotIn t_contains) (mK (.str [97])) (mV 7))) (tOrM (mB (eOpR (ownNotIn t_contains) (mK (.str [111])) (mV 7))) (tOrM (mB (eOpR (ownIn t_contains) (mK (.str [105])) (mV 7))) (mB (eOpR (ownIn t_contains) (mK (.int 3)) (mV 7)))))))
  (sRet (mK (.bl false)))
  sSkip)
  (sSeq (sAsg (eOp gIx (mV 8) (eCall (callP m__law_draw) (aCons (mV 0) (aCons (mK (.int 300)) (aCons (eN gLen (aCons (mV 8) aNil)) aNil))))) (gNm 3))
  (sSeq (sAsg (eOp gIx (mV 1) (mV 3)) (gTp [(gNm 9), (gNm 10)]))
  (sSeq (sFor (iFn anyF (eTup (aCons (eTup (aCons (mV 9) (aCons (eTup aNil) aNil))) (aCons (eTup (aCons (mV 9) (aCons (eOp (gAdd false) (mV 10) (eTup (aCons (eTup (aCons (mK (.str [122, 122])) aNil)) aNil))) aNil))) (aCons (eTup (aCons (mV 9) (aCons (eOp (gAdd false) (mV 10) (eTup (aCons (mK (.str [111])) aNil))) aNil))) (aCons (eTup (aCons (mV 9) (aCons (eN (gListOf false) (aCons (mV 10) aNil)) aNil))) (aCons (eTup (aCons (mV 9) aNil)) (aCons (eTup (aCons (mV 9) (aCons (eOp (gAdd false) (mV 10) (eTup (aCons (eOp (gMul false) (eTup (aCons (mK (.str [111])) aNil)) (mK (.int 5))) aNil))) aNil))) (aCons (eTup (aCons (mV 9) (aCons (eOp (gAdd false) (mV 10) (eTup (aCons (eTup (aCons (mK (.str [105])) aNil)) aNil))) aNil))) (aCons (eTup (aCons (eOp (gAdd false) (mV 9) (eTup (aCons (eTup (aCons (mK (.int 3)) aNil)) aNil))) (aCons (mV 10) aNil))) (aCons (eTup (aCons (mV 9) (aCons (eSlH false (eOp (gMul false) (mV 10) (mK (.int 13))) (mK (.int 13))) aNil))) (aCons (mK .non) aNil)))))))))))) (gNm 4)
  lb_law_2)
  (sSeq (sFor (iFn anyF (eTup (aCons (eTup (aCons (mK (.str [65])) (aCons (mK (.str [65])) aNil))) (aCons (eTup (aCons (eOp gMulS (mK (.str [97])) (mK (.int 17))) (aCons (eOp gMulS (mK (.str [97])) (mK (.int 17))) aNil))) (aCons (eTup (aCons (mK (.str [49, 97])) (aCons (mK (.str [49, 97])) aNil))) (aCons (eTup (aCons (mK (.str [])) (aCons (mK (.str [])) aNil))) (aCons (eTup (aCons (mK (.int 3)) (aCons (mK .non) aNil))) aNil))))))) (gTp [(gNm 11), (gNm 12)])
  lb_law_1)
  (sSeq (sIf (tOrM (tNotM (mB (eCall (callP m__law_refused) (aCons (mV 1) (aCons (mV 2) (aCons (eTup (aCons (mK (.str [111])) (aCons (mK (.str [112])) (aCons (mK (.str [111])) aNil)))) (aCons (mK (.str [111])) aNil))))))) (tNotM (mB (eCall (callP m__law_refused) (aCons (mV 1) (aCons (mV 2) (aCons (eTup (aCons (mK (.str [111])) (aCons (mK (.str [112])) (aCons (mV 3) aNil)))) (aCons (mV 3) aNil))))))))
  (sRet (mK (.bl false)))
  sSkip)
  (sSeq (sIf (tNotM (mB (eCall (callP m__law_refused) (aCons (mV 1) (aCons (eDisp false (pCons (mK (.str [97])) (mK (.str [97])) pNil)) (aCons (eTup (aCons (mK (.str [111])) (aCons (mK (.str [112])) aNil))) (aCons (mK (.str [97])) aNil)))))))
  (sRet (mK (.bl false)))
  sSkip)
  (sSeq (sIf (tOrM (tNotM (mB (eCall (callP m__law_refused) (aCons (mV 1) (aCons (eDisp false (pCons (mK (.str [105])) (mK (.str [97])) (pCons (mK (.str [107])) (mK (.str [111])) pNil))) (aCons (eTup (aCons (mK (.str [111])) (aCons (mK (.str [112])) aNil))) (aCons (mK (.str [107])) aNil))))))) (tNotM (mB (eCall (callP m__law_refused) (aCons (mV 1) (aCons (eD0 false false) (aCons (eTup (aCons (mK (.str [111])) (aCons (mK (.str [112])) aNil))) (aCons (mK .non) aNil))))))))
  (sRet (mK (.bl false)))
  sSkip)
  (sSeq (sIf (tOrM (tNotM (mB (eCall (callP m__law_refused) (aCons (mV 1) (aCons (eLst false aNil) (aCons (eTup (aCons (mK (.str [111])) (aCons (mK (.str [112])) aNil))) (aCons (mK .non) aNil))))))) (tNotM (mB (eCall (callP m__law_refused) (aCons (mV 1) (aCons (mV 2) (aCons (mK (.str [111, 112])) (aCons (mK .non) aNil))))))))
  (sRet (mK (.bl false)))
  sSkip)
  (sSeq (sIf (tNotM (mB (eCall (callP m__law_refused) (aCons (mV 1) (aCons (eN (gDictOf false) (aCons (eOp (gAdd false) (eUn (gItemsL false) (mV 2)) (eLst false (aCons (eTup (aCons (mK (.str [49, 120])) (aCons (mK (.str [97])) aNil))) aNil))) aNil)) (aCons (eTup (aCons (mK (.str [111])) (aCons (mK (.str [112])) (aCons (mK (.str [50, 121])) aNil)))) (aCons (mK (.str [50, 121])) aNil)))))))
  (sRet (mK (.bl false)))
  sSkip)
  (sSeq (sAsg (eN (gDictOf false) (aCons (eOp (gAdd false) (eUn (gItemsL false) (mV 1)) (eLst false (aCons (eTup (aCons (mK (.str [122])) (aCons (eTup (aCons (eTup aNil) (aCons (eTup (aCons (eTup (aCons (mK (.str [122])) (aCons (mK (.str [111])) aNil))) aNil)) aNil))) aNil))) (aCons (eTup (aCons (mK (.str [121])) (aCons (eTup (aCons (eTup (aCons (eTup (aCons (mK (.str [122])) aNil)) aNil)) (aCons (eTup (aCons (eTup (aCons (mK (.str [111])) aNil)) aNil)) aNil))) aNil))) aNil)))) aNil)) (gNm 5))
  (sSeq (sIf (tOrM (tNotM (mB (eCall (callP m__law_refused) (aCons (mV 5) (aCons (mV 2) (aCons (eTup (aCons (mK (.str [111])) (aCons (mK (.str [112])) aNil))) (aCons (mK (.str [121])) aNil))))))) (tNotM (mB (eCall (callP m__law_refused) (aCons (eD0 false false) (aCons (mV 2) (aCons (eTup (aCons (mK (.str [111])) (aCons (mK (.str [112])) aNil))) (aCons (mK .non) aNil))))))))
  (sRet (mK (.bl false)))
  sSkip)
  (sSeq (sIf (tNotM (mB (eCall (callP m__law_refused) (aCons (mV 5) (aCons (eN (gDictOf false) (aCons (eOp (gAdd false) (eUn (gItemsL false) (mV 2)) (eLst false (aCons (eTup (aCons (mK (.str [107])) (aCons (mK (.str [121])) aNil))) aNil))) aNil)) (aCons (eTup (aCons (mK (.str [111])) (aCons (mK (.str [112])) aNil))) (aCons (mK (.str [122])) aNil)))))))
  (sRet (mK (.bl false)))
  sSkip)
  (sSeq (sAsg (eN (gDictOf false) (aCons (eLc false [13] (iFnA rg1 (aCons (mK (.int 13)) aNil)) (.nm 13) tAll ce_law_0) aNil)) (gNm 6))
  (sRet (eAndM (eCall (callP m__law_refused) (aCons (mV 6) (aCons (eDisp false (pCons (mK (.str [105])) (mK (.str [107, 48])) pNil)) (aCons (eTup (aCons (mK (.str [111])) aNil)) (aCons (mK .non) aNil))))) (eOp gEq (eUnR (ownLen t_len) (eCall (mkP 7628110 m_Net_init) (aCons (mV 5) (aCons (eDisp false (pCons (mK (.str [105])) (mK (.str [97])) (pCons (mK (.str [106])) (mK (.str [121])) (pCons (mK (.str [107])) (mK (.str [122])) pNil)))) (aCons (eTup (aCons (mK (.str [111])) (aCons (mK (.str [112])) aNil))) aNil))))) (eOp (gAdd false) (eN gLen (aCons (mV 1) aNil)) (mK (.int 2))))))))))))))))))))))))))
def m_law : Fn := fnM 14 b_law
theorem sc_law : FnScope ["_law_script", "_law_knots_here", "_law_inlets_here", "_law_name", "_law_bad", "_law_lone", "_law_many", "_law_net", "_law_names", "_law_front", "_law_turn", "_law_wrong", "_law_due", "_law_at"] ["_law_script"] (defScope st_law) := ⟨rfl, rfl, rfl, by decide +kernel, rfl, by decide +kernel, by decide +kernel⟩
theorem d_law {f : Addr} {fd : FuncData} (F : Fun K "law" "law" st_law f fd) (T : Txt K mg) (D__law_refused : Def P w K mg base 9 "_law_refused" 4 (callP m__law_refused)) (D__law_draw : Def P w K mg base 2 "_law_draw" 3 (callP m__law_draw)) (D__law_inlets : Def P w K mg base 4 "_law_inlets" 3 (callP m__law_inlets)) (D__law_knots : Def P w K mg base 4 "_law_knots" 3 (callP m__law_knots)) (D_Net : CDef P w K mg base 6 "Net" 7628110 4 m_Net_init) (M_start : MDef P w K mg base 2 "start" 1 t_start) (M_eq : MDef P w K mg base 2 "__eq__" 2 t_eq) (M_contains : MDef P w K mg base 2 "__contains__" 2 t_contains) (M_len : MDef P w K mg base 2 "__len__" 1 t_len) (cmpOk : CmpOk K mg t_eq [7628110]) (neOk : NeOk K mg t_eq) : FnOk P w K mg base (L2.CX P w) 11 f fd ["_law_script"] (SpM K mg 1 m_law) := by
  refine Fun.okM (N := ["_law_script", "_law_knots_here", "_law_inlets_here", "_law_name", "_law_bad", "_law_lone", "_law_many", "_law_net", "_law_names", "_law_front", "_law_turn", "_law_wrong", "_law_due", "_law_at"]) (ps := ["_law_script"]) (b := b_law) F sc_law fun cdv A outer s H E hr => ?_
  have Sc := sc_law
  generalize hX : cxOf (L2.CX P w) P w K mg base ["_law_script", "_law_knots_here", "_law_inlets_here", "_law_name", "_law_bad", "_law_lone", "_law_many", "_law_net", "_law_names", "_law_front", "_law_turn", "_law_wrong", "_law_due", "_law_at"] "law" (defScope st_law) f cdv A outer s H E = X
  subst hX
  have tk := takes_of (X := cxOf (L2.CX P w) P w K mg base ["_law_script", "_law_knots_here", "_law_inlets_here", "_law_name", "_law_bad", "_law_lone", "_law_many", "_law_net", "_law_names", "_law_front", "_law_turn", "_law_wrong", "_law_due", "_law_at"] "law" (defScope st_law) f cdv A outer s H E) rfl rfl rfl rfl
  have hp := passes_of (X := cxOf (L2.CX P w) P w K mg base ["_law_script", "_law_knots_here", "_law_inlets_here", "_law_name", "_law_bad", "_law_lone", "_law_many", "_law_net", "_law_names", "_law_front", "_law_turn", "_law_wrong", "_law_due", "_law_at"] "law" (defScope st_law) f cdv A outer s H E) rfl
  have u64 : (cxOf (L2.CX P w) P w K mg base ["_law_script", "_law_knots_here", "_law_inlets_here", "_law_name", "_law_bad", "_law_lone", "_law_many", "_law_net", "_law_names", "_law_front", "_law_turn", "_law_wrong", "_law_due", "_law_at"] "law" (defScope st_law) f cdv A outer s H E).A.units + 64 < cLine := hr.units
  have u100 : (cxOf (L2.CX P w) P w K mg base ["_law_script", "_law_knots_here", "_law_inlets_here", "_law_name", "_law_bad", "_law_lone", "_law_many", "_law_net", "_law_names", "_law_front", "_law_turn", "_law_wrong", "_law_due", "_law_at"] "law" (defScope st_law) f cdv A outer s H E).A.units + 100 < cLine := by have q := hr.un; show (A.deeper _).units + 100 < cLine; omega
  exact
  (mss_cons (ms_set (i := 1) Sc.nd (me_call D__law_knots (hr.mono (by decide)) rfl tk (ma_cons (mv 0) (ma_cons me_int (ma_cons me_bl ma_nil))) (aCons_len (aCons_len (aCons_len aNil_len)))))
  (mss_cons (ms_set (i := 2) Sc.nd (me_call D__law_inlets (hr.mono (by decide)) rfl tk (ma_cons (mv 0) (ma_cons me_int (ma_cons (mv 1) ma_nil))) (aCons_len (aCons_len (aCons_len aNil_len)))))
  (mss_cons (ms_par (i := 7) (j := 8) rfl Sc.nd (by decide) (by rfl) (me_makeP D_Net (hr.mono (by decide)) rfl tk (ma_cons (mv 1) (ma_cons (mv 2) (ma_cons (me_lst (ma_cons (me_str [112]) (ma_cons (me_str [111]) (ma_cons (me_str [113]) ma_nil)))) ma_nil))) (aCons_len (aCons_len (aCons_len aNil_len)))) (me_blt (c_sorted rfl) rfl T.b_sorted (by first | rfl | exact PySem.boot_sorted | exact PyProof.Rows.Boot.«sorted») (ma_cons (me_typ (c_list rfl) rfl T.b_list (by first | rfl | exact PySem.boot_list | exact PyProof.Rows.Boot.«list») (ma_cons (mv 1) ma_nil)) ma_nil)))
  (mss_cons (ms_if (PW.pt (mw_or (mt_cmp (o_ne u64) (me_typ (c_list rfl) rfl T.b_list (by first | rfl | exact PySem.boot_list | exact PyProof.Rows.Boot.«list») (ma_cons (me_fld 495874698859 (mv 7)) ma_nil)) (mv 8) (nomark _)) (mw_or (mt_cmp (o_ne u64) (me_fld 495874698859 (mv 7)) (mv 1) (nomark _)) (mw_or (mt_cmp (o_ne u64) (me_typ (c_list rfl) rfl T.b_list (by first | rfl | exact PySem.boot_list | exact PyProof.Rows.Boot.«list») (ma_cons (me_fld 126943755005545 (mv 7)) ma_nil)) (me_lst (ma_cons (me_str [105]) (ma_cons (me_str [106]) ma_nil))) (nomark _)) (mw_or (mt_cmp (o_ne u64) (me_fld 32497601281815919 (mv 7)) (me_tup (ma_cons (me_str [111]) (ma_cons (me_str [112]) (ma_cons (me_str [113]) ma_nil)))) (nomark _)) (mw_or1 (mt_cmp (o_ne u64) (me_lenR M_len (hr.mono (by decide)) tk rfl T.b_len (by first | rfl | exact PySem.boot_len) (mv 7)) (me_blt c_len rfl T.b_len (by first | rfl | exact PySem.boot_len | exact PyProof.Rows.Boot.«len») (ma_cons (mv 1) ma_nil)) (nomark _))))))))
  (mss_one (ms_ret me_bl))
  mss_nil)
  (mss_cons (ms_if (PW.pt (mw_or (mt_cmpR (o_eqR M_eq cmpOk (hr.mono (by decide)) tk) (mv 7) (me_makeP D_Net (hr.mono (by decide)) rfl tk (ma_cons (mv 1) (ma_cons (mv 2) (ma_cons (me_lst (ma_cons (me_str [112]) (ma_cons (me_str [111]) ma_nil))) ma_nil))) (aCons_len (aCons_len (aCons_len aNil_len)))) (nomark _)) (mw_or1 (mt_cmpR (o_eqR M_eq cmpOk (hr.mono (by decide)) tk) (mv 7) me_int (nomark _)))))
  (mss_one (ms_ret me_bl))
  mss_nil)
  (mss_cons (ms_if (mt_cmpR (o_neR M_eq cmpOk neOk (hr.mono (by decide)) tk) (mv 7) (me_makeP D_Net (hr.mono (by decide)) rfl tk (ma_cons (me_typ (c_dict rfl) rfl T.b_dict (by first | rfl | exact PySem.boot_dict | exact PyProof.Rows.Boot.«dict») (ma_cons (me_lc (own := [("_law_name", 3)]) rfl Sc.nd (mi_rev rfl T.b_reversed (me_typ (c_list rfl) rfl T.b_list (by first | rfl | exact PySem.boot_list | exact PyProof.Rows.Boot.«list») (ma_cons (mv 8) ma_nil))) (by rfl) (fun s0 H0 C0 cl0 fp0 => (cg_name (i := 3) Sc.nd (by decide))) (fun s0 H0 C0 cl0 fp0 => mts_nil) (fun s0 H0 C0 cl0 fp0 => (me_tup (ma_cons (mv 3) (ma_cons (me_ix u64 (mv 1) (mv 3)) ma_nil))))) ma_nil)) (ma_cons (me_disp (pd_cons (me_str [106]) (me_ix u64 (mv 2) (me_str [106])) (pd_cons (me_str [105]) (me_str [97]) pd_nil))) (ma_cons (me_tup (ma_cons (me_str [113]) (ma_cons (me_str [112]) (ma_cons (me_str [111]) ma_nil)))) ma_nil))) (aCons_len (aCons_len (aCons_len aNil_len)))) (nomark _))
  (mss_one (ms_ret me_bl))
  mss_nil)
  (mss_cons (ms_if (PW.pt (mw_or (mt_cmp (o_ne u64) (me_meth0 500135195763 M_start (hr.mono (by decide)) tk (mv 7)) (me_typ (c_dict rfl) rfl T.b_dict (by first | rfl | exact PySem.boot_dict | exact PyProof.Rows.Boot.«dict») (ma_cons (me_lc (own := [("_law_name", 3)]) rfl Sc.nd (mi_any (mv 8)) (by rfl) (fun s0 H0 C0 cl0 fp0 => (cg_name (i := 3) Sc.nd (by decide))) (fun s0 H0 C0 cl0 fp0 => mts_nil) (fun s0 H0 C0 cl0 fp0 => (me_tup (ma_cons (mv 3) (ma_cons me_int ma_nil))))) ma_nil)) (nomark _)) (mw_or (mt_cmpR (o_notInR M_contains (hr.mono (by decide)) tk) (me_str [97]) (mv 7) rfl) (mw_or (mt_cmpR (o_notInR M_contains (hr.mono (by decide)) tk) (me_str [111]) (mv 7) rfl) (mw_or (mt_cmpR (o_inR M_contains (hr.mono (by decide)) tk) (me_str [105]) (mv 7) rfl) (mw_or1 (mt_cmpR (o_inR M_contains (hr.mono (by decide)) tk) me_int (mv 7) rfl)))))))
  (mss_one (ms_ret me_bl))
  mss_nil)
  (mss_cons (ms_set (i := 3) Sc.nd (me_ix u64 (mv 8) (me_call D__law_draw (hr.mono (by decide)) rfl tk (ma_cons (mv 0) (ma_cons me_int (ma_cons (me_blt c_len rfl T.b_len (by first | rfl | exact PySem.boot_len | exact PyProof.Rows.Boot.«len») (ma_cons (mv 8) ma_nil)) ma_nil))) (aCons_len (aCons_len (aCons_len aNil_len))))))
  (mss_cons (ms_asg (me_ix u64 (mv 1) (mv 3)) (mg_tup rfl (mgs_cons (mg_name (i := 9) Sc.nd) (mgs_cons (mg_name (i := 10) Sc.nd) mgs_nil))))
  (mss_cons (ms_for hp rfl (mi_any (me_tup (ma_cons (me_tup (ma_cons (mv 9) (ma_cons (me_tup ma_nil) ma_nil))) (ma_cons (me_tup (ma_cons (mv 9) (ma_cons (me_op o_add (mv 10) (me_tup (ma_cons (me_tup (ma_cons (me_str [122, 122]) ma_nil)) ma_nil))) ma_nil))) (ma_cons (me_tup (ma_cons (mv 9) (ma_cons (me_op o_add (mv 10) (me_tup (ma_cons (me_str [111]) ma_nil))) ma_nil))) (ma_cons (me_tup (ma_cons (mv 9) (ma_cons (me_typ (c_list rfl) rfl T.b_list (by first | rfl | exact PySem.boot_list | exact PyProof.Rows.Boot.«list») (ma_cons (mv 10) ma_nil)) ma_nil))) (ma_cons (me_tup (ma_cons (mv 9) ma_nil)) (ma_cons (me_tup (ma_cons (mv 9) (ma_cons (me_op o_add (mv 10) (me_tup (ma_cons (me_op o_mul (me_tup (ma_cons (me_str [111]) ma_nil)) me_int) ma_nil))) ma_nil))) (ma_cons (me_tup (ma_cons (mv 9) (ma_cons (me_op o_add (mv 10) (me_tup (ma_cons (me_tup (ma_cons (me_str [105]) ma_nil)) ma_nil))) ma_nil))) (ma_cons (me_tup (ma_cons (me_op o_add (mv 9) (me_tup (ma_cons (me_tup (ma_cons me_int ma_nil)) ma_nil))) (ma_cons (mv 10) ma_nil))) (ma_cons (me_tup (ma_cons (mv 9) (ma_cons (me_slH (me_op o_mul (mv 10) me_int) me_int) ma_nil))) (ma_cons me_non ma_nil)))))))))))) (mg_name (i := 4) Sc.nd)
  (mss_one (ms_if (mt_not' (mt_val (me_call D__law_refused (hr.mono (by decide)) rfl tk (ma_cons (me_typ (c_dict rfl) rfl T.b_dict (by first | rfl | exact PySem.boot_dict | exact PyProof.Rows.Boot.«dict») (ma_cons (me_op o_add (me_listItems rfl (mv 1) rfl T.b_list) (me_lst (ma_cons (me_tup (ma_cons (mv 3) (ma_cons (mv 4) ma_nil))) ma_nil))) ma_nil)) (ma_cons (mv 2) (ma_cons (me_tup (ma_cons (me_str [111]) (ma_cons (me_str [112]) ma_nil))) (ma_cons (mv 3) ma_nil)))) (aCons_len (aCons_len (aCons_len (aCons_len aNil_len)))))))
  (mss_one (ms_ret me_bl))
  mss_nil)))
  (mss_cons (ms_for hp rfl (mi_any (me_tup (ma_cons (me_tup (ma_cons (me_str [65]) (ma_cons (me_str [65]) ma_nil))) (ma_cons (me_tup (ma_cons (me_op o_mulS (me_str [97]) me_int) (ma_cons (me_op o_mulS (me_str [97]) me_int) ma_nil))) (ma_cons (me_tup (ma_cons (me_str [49, 97]) (ma_cons (me_str [49, 97]) ma_nil))) (ma_cons (me_tup (ma_cons (me_str []) (ma_cons (me_str []) ma_nil))) (ma_cons (me_tup (ma_cons me_int (ma_cons me_non ma_nil))) ma_nil))))))) (mg_tup rfl (mgs_cons (mg_name (i := 11) Sc.nd) (mgs_cons (mg_name (i := 12) Sc.nd) mgs_nil)))
  (mss_cons (ms_if (mt_not' (mt_val (me_call D__law_refused (hr.mono (by decide)) rfl tk (ma_cons (me_typ (c_dict rfl) rfl T.b_dict (by first | rfl | exact PySem.boot_dict | exact PyProof.Rows.Boot.«dict») (ma_cons (me_op o_add (me_listItems rfl (mv 1) rfl T.b_list) (me_lst (ma_cons (me_tup (ma_cons (mv 11) (ma_cons (me_tup (ma_cons (me_tup ma_nil) (ma_cons (me_tup (ma_cons (me_tup (ma_cons (me_str [111]) ma_nil)) ma_nil)) ma_nil))) ma_nil))) ma_nil))) ma_nil)) (ma_cons (mv 2) (ma_cons (me_tup (ma_cons (me_str [111]) (ma_cons (me_str [112]) ma_nil))) (ma_cons (mv 12) ma_nil)))) (aCons_len (aCons_len (aCons_len (aCons_len aNil_len)))))))
  (mss_one (ms_ret me_bl))
  mss_nil)
  (mss_cons (ms_if (mt_not' (mt_val (me_call D__law_refused (hr.mono (by decide)) rfl tk (ma_cons (mv 1) (ma_cons (mv 2) (ma_cons (me_tup (ma_cons (me_str [111]) (ma_cons (me_str [112]) (ma_cons (mv 11) ma_nil)))) (ma_cons (mv 12) ma_nil)))) (aCons_len (aCons_len (aCons_len (aCons_len aNil_len)))))))
  (mss_one (ms_ret me_bl))
  mss_nil)
  (mss_one (ms_if (mt_not' (mt_val (me_call D__law_refused (hr.mono (by decide)) rfl tk (ma_cons (mv 1) (ma_cons (me_typ (c_dict rfl) rfl T.b_dict (by first | rfl | exact PySem.boot_dict | exact PyProof.Rows.Boot.«dict») (ma_cons (me_op o_add (me_listItems rfl (mv 2) rfl T.b_list) (me_lst (ma_cons (me_tup (ma_cons (mv 11) (ma_cons (me_str [97]) ma_nil))) ma_nil))) ma_nil)) (ma_cons (me_tup (ma_cons (me_str [111]) (ma_cons (me_str [112]) ma_nil))) (ma_cons (mv 12) ma_nil)))) (aCons_len (aCons_len (aCons_len (aCons_len aNil_len)))))))
  (mss_one (ms_ret me_bl))
  mss_nil)))))
  (mss_cons (ms_if (PW.pt (mw_or (mt_not' (mt_val (me_call D__law_refused (hr.mono (by decide)) rfl tk (ma_cons (mv 1) (ma_cons (mv 2) (ma_cons (me_tup (ma_cons (me_str [111]) (ma_cons (me_str [112]) (ma_cons (me_str [111]) ma_nil)))) (ma_cons (me_str [111]) ma_nil)))) (aCons_len (aCons_len (aCons_len (aCons_len aNil_len))))))) (mw_or1 (mt_not' (mt_val (me_call D__law_refused (hr.mono (by decide)) rfl tk (ma_cons (mv 1) (ma_cons (mv 2) (ma_cons (me_tup (ma_cons (me_str [111]) (ma_cons (me_str [112]) (ma_cons (mv 3) ma_nil)))) (ma_cons (mv 3) ma_nil)))) (aCons_len (aCons_len (aCons_len (aCons_len aNil_len))))))))))
  (mss_one (ms_ret me_bl))
  mss_nil)
  (mss_cons (ms_if (mt_not' (mt_val (me_call D__law_refused (hr.mono (by decide)) rfl tk (ma_cons (mv 1) (ma_cons (me_disp (pd_cons (me_str [97]) (me_str [97]) pd_nil)) (ma_cons (me_tup (ma_cons (me_str [111]) (ma_cons (me_str [112]) ma_nil))) (ma_cons (me_str [97]) ma_nil)))) (aCons_len (aCons_len (aCons_len (aCons_len aNil_len)))))))
  (mss_one (ms_ret me_bl))
  mss_nil)
  (mss_cons (ms_if (PW.pt (mw_or (mt_not' (mt_val (me_call D__law_refused (hr.mono (by decide)) rfl tk (ma_cons (mv 1) (ma_cons (me_disp (pd_cons (me_str [105]) (me_str [97]) (pd_cons (me_str [107]) (me_str [111]) pd_nil))) (ma_cons (me_tup (ma_cons (me_str [111]) (ma_cons (me_str [112]) ma_nil))) (ma_cons (me_str [107]) ma_nil)))) (aCons_len (aCons_len (aCons_len (aCons_len aNil_len))))))) (mw_or1 (mt_not' (mt_val (me_call D__law_refused (hr.mono (by decide)) rfl tk (ma_cons (mv 1) (ma_cons me_d0 (ma_cons (me_tup (ma_cons (me_str [111]) (ma_cons (me_str [112]) ma_nil))) (ma_cons me_non ma_nil)))) (aCons_len (aCons_len (aCons_len (aCons_len aNil_len))))))))))
  (mss_one (ms_ret me_bl))
  mss_nil)
  (mss_cons (ms_if (PW.pt (mw_or (mt_not' (mt_val (me_call D__law_refused (hr.mono (by decide)) rfl tk (ma_cons (mv 1) (ma_cons (me_lst ma_nil) (ma_cons (me_tup (ma_cons (me_str [111]) (ma_cons (me_str [112]) ma_nil))) (ma_cons me_non ma_nil)))) (aCons_len (aCons_len (aCons_len (aCons_len aNil_len))))))) (mw_or1 (mt_not' (mt_val (me_call D__law_refused (hr.mono (by decide)) rfl tk (ma_cons (mv 1) (ma_cons (mv 2) (ma_cons (me_str [111, 112]) (ma_cons me_non ma_nil)))) (aCons_len (aCons_len (aCons_len (aCons_len aNil_len))))))))))
  (mss_one (ms_ret me_bl))
  mss_nil)
  (mss_cons (ms_if (mt_not' (mt_val (me_call D__law_refused (hr.mono (by decide)) rfl tk (ma_cons (mv 1) (ma_cons (me_typ (c_dict rfl) rfl T.b_dict (by first | rfl | exact PySem.boot_dict | exact PyProof.Rows.Boot.«dict») (ma_cons (me_op o_add (me_listItems rfl (mv 2) rfl T.b_list) (me_lst (ma_cons (me_tup (ma_cons (me_str [49, 120]) (ma_cons (me_str [97]) ma_nil))) ma_nil))) ma_nil)) (ma_cons (me_tup (ma_cons (me_str [111]) (ma_cons (me_str [112]) (ma_cons (me_str [50, 121]) ma_nil)))) (ma_cons (me_str [50, 121]) ma_nil)))) (aCons_len (aCons_len (aCons_len (aCons_len aNil_len)))))))
  (mss_one (ms_ret me_bl))
  mss_nil)
  (mss_cons (ms_set (i := 5) Sc.nd (me_typ (c_dict rfl) rfl T.b_dict (by first | rfl | exact PySem.boot_dict | exact PyProof.Rows.Boot.«dict») (ma_cons (me_op o_add (me_listItems rfl (mv 1) rfl T.b_list) (me_lst (ma_cons (me_tup (ma_cons (me_str [122]) (ma_cons (me_tup (ma_cons (me_tup ma_nil) (ma_cons (me_tup (ma_cons (me_tup (ma_cons (me_str [122]) (ma_cons (me_str [111]) ma_nil))) ma_nil)) ma_nil))) ma_nil))) (ma_cons (me_tup (ma_cons (me_str [121]) (ma_cons (me_tup (ma_cons (me_tup (ma_cons (me_tup (ma_cons (me_str [122]) ma_nil)) ma_nil)) (ma_cons (me_tup (ma_cons (me_tup (ma_cons (me_str [111]) ma_nil)) ma_nil)) ma_nil))) ma_nil))) ma_nil)))) ma_nil)))
  (mss_cons (ms_if (PW.pt (mw_or (mt_not' (mt_val (me_call D__law_refused (hr.mono (by decide)) rfl tk (ma_cons (mv 5) (ma_cons (mv 2) (ma_cons (me_tup (ma_cons (me_str [111]) (ma_cons (me_str [112]) ma_nil))) (ma_cons (me_str [121]) ma_nil)))) (aCons_len (aCons_len (aCons_len (aCons_len aNil_len))))))) (mw_or1 (mt_not' (mt_val (me_call D__law_refused (hr.mono (by decide)) rfl tk (ma_cons me_d0 (ma_cons (mv 2) (ma_cons (me_tup (ma_cons (me_str [111]) (ma_cons (me_str [112]) ma_nil))) (ma_cons me_non ma_nil)))) (aCons_len (aCons_len (aCons_len (aCons_len aNil_len))))))))))
  (mss_one (ms_ret me_bl))
  mss_nil)
  (mss_cons (ms_if (mt_not' (mt_val (me_call D__law_refused (hr.mono (by decide)) rfl tk (ma_cons (mv 5) (ma_cons (me_typ (c_dict rfl) rfl T.b_dict (by first | rfl | exact PySem.boot_dict | exact PyProof.Rows.Boot.«dict») (ma_cons (me_op o_add (me_listItems rfl (mv 2) rfl T.b_list) (me_lst (ma_cons (me_tup (ma_cons (me_str [107]) (ma_cons (me_str [121]) ma_nil))) ma_nil))) ma_nil)) (ma_cons (me_tup (ma_cons (me_str [111]) (ma_cons (me_str [112]) ma_nil))) (ma_cons (me_str [122]) ma_nil)))) (aCons_len (aCons_len (aCons_len (aCons_len aNil_len)))))))
  (mss_one (ms_ret me_bl))
  mss_nil)
  (mss_cons (ms_set (i := 6) Sc.nd (me_typ (c_dict rfl) rfl T.b_dict (by first | rfl | exact PySem.boot_dict | exact PyProof.Rows.Boot.«dict») (ma_cons (me_lc (own := [("_law_at", 13)]) rfl Sc.nd (mi_range1 rfl T.b_range (ma_cons me_int ma_nil)) (by rfl) (fun s0 H0 C0 cl0 fp0 => (cg_name (i := 13) Sc.nd (by decide))) (fun s0 H0 C0 cl0 fp0 => mts_nil) (fun s0 H0 C0 cl0 fp0 => (me_tup (ma_cons (me_op o_add (me_str [107]) (me_typ c_str rfl T.b_str (by first | rfl | exact PySem.boot_str | exact PyProof.Rows.Boot.«str») (ma_cons (mv 13) ma_nil))) (ma_cons (me_tup (ma_cons (me_tup ma_nil) (ma_cons (me_tup (ma_cons (me_tup (ma_cons (me_str [111]) ma_nil)) ma_nil)) ma_nil))) ma_nil))))) ma_nil)))
  (mss_one (ms_ret (me_and (me_call D__law_refused (hr.mono (by decide)) rfl tk (ma_cons (mv 6) (ma_cons (me_disp (pd_cons (me_str [105]) (me_str [107, 48]) pd_nil)) (ma_cons (me_tup (ma_cons (me_str [111]) ma_nil)) (ma_cons me_non ma_nil)))) (aCons_len (aCons_len (aCons_len (aCons_len aNil_len))))) (me_one (me_cmp (o_eq u64) (me_lenR M_len (hr.mono (by decide)) tk rfl T.b_len (by first | rfl | exact PySem.boot_len) (me_makeP D_Net (hr.mono (by decide)) rfl tk (ma_cons (mv 5) (ma_cons (me_disp (pd_cons (me_str [105]) (me_str [97]) (pd_cons (me_str [106]) (me_str [121]) (pd_cons (me_str [107]) (me_str [122]) pd_nil)))) (ma_cons (me_tup (ma_cons (me_str [111]) (ma_cons (me_str [112]) ma_nil))) ma_nil))) (aCons_len (aCons_len (aCons_len aNil_len))))) (me_op o_add (me_blt c_len rfl T.b_len (by first | rfl | exact PySem.boot_len | exact PyProof.Rows.Boot.«len») (ma_cons (mv 1) ma_nil)) me_int) (nomark _))))))))))))))))))))))))))
end
/-! ### the facts of the text, put together -/
theorem nmC_Net : nm 7628110 = "Net" := by decide +kernel
theorem all_mk {l : PySem.W.OpenLaw} {w : World} {K : PySem.W.Frag} {h : Heap} {mg : Str → Option Value} {fa : Addr} (X : K.In h) (G : h.Ns mainGlobals mg) (hfa : mg "law" = some (.ref fa)) (kept : Kept m_law)
    {C_Net : Addr} {cdC_Net : ClassData}
    {f0 : Addr} {od0 an0 : Option Addr} {sl0 : Array (Option Value)} {oc0 kV0 dc0 pm0 cd0 ct0 : Value}
    {f1 : Addr} {od1 an1 : Option Addr} {sl1 : Array (Option Value)} {oc1 kV1 dc1 pm1 cd1 ct1 : Value}
    {f2 : Addr} {od2 an2 : Option Addr} {sl2 : Array (Option Value)} {oc2 kV2 dc2 pm2 cd2 ct2 : Value}
    {f3 : Addr} {od3 an3 : Option Addr} {sl3 : Array (Option Value)} {oc3 kV3 dc3 pm3 cd3 ct3 : Value}
    {f4 : Addr} {od4 an4 : Option Addr} {sl4 : Array (Option Value)} {oc4 kV4 dc4 pm4 cd4 ct4 : Value}
    {f5 : Addr} {od5 an5 : Option Addr} {sl5 : Array (Option Value)} {oc5 kV5 dc5 pm5 cd5 ct5 : Value}
    {f6 : Addr} {od6 an6 : Option Addr} {sl6 : Array (Option Value)} {oc6 kV6 dc6 pm6 cd6 ct6 : Value}
    {f7 : Addr} {od7 an7 : Option Addr} {sl7 : Array (Option Value)} {oc7 kV7 dc7 pm7 cd7 ct7 : Value}
    {f8 : Addr} {od8 an8 : Option Addr} {sl8 : Array (Option Value)} {oc8 kV8 dc8 pm8 cd8 ct8 : Value}
    {f9 : Addr} {od9 an9 : Option Addr} {sl9 : Array (Option Value)} {oc9 kV9 dc9 pm9 cd9 ct9 : Value}
    {f10 : Addr} {od10 an10 : Option Addr} {sl10 : Array (Option Value)} {oc10 kV10 dc10 pm10 cd10 ct10 : Value}
    {f11 : Addr} {od11 an11 : Option Addr} {sl11 : Array (Option Value)} {oc11 kV11 dc11 pm11 cd11 ct11 : Value}
    {f12 : Addr} {od12 an12 : Option Addr} {sl12 : Array (Option Value)} {oc12 kV12 dc12 pm12 cd12 ct12 : Value}
    {f13 : Addr} {od13 an13 : Option Addr} {sl13 : Array (Option Value)} {oc13 kV13 dc13 pm13 cd13 ct13 : Value}
    {f14 : Addr} {od14 an14 : Option Addr} {sl14 : Array (Option Value)} {oc14 kV14 dc14 pm14 cd14 ct14 : Value}
    {E_BadNet fE_BadNet cda_BadNet cc_BadNet : Addr} {odE_BadNet anE_BadNet cddE_BadNet cldE_BadNet : Option Addr} {slE_BadNet ccsE_BadNet cslE_BadNet : Array (Option Value)} {ocE_BadNet kVE_BadNet dcE_BadNet pmE_BadNet ctE_BadNet cclE_BadNet clE_BadNet : Value} {vsE_BadNet : Array Value} {fileE_BadNet : Str} {tfE_BadNet : Tok}
    {nmE_BadNet qE_BadNet : Str} {nE_BadNet : Addr} {bsE_BadNet bmE_BadNet : List Value} {snE_BadNet : List Str} {subE_BadNet : List Value} {abE_BadNet : Bool} {colE_BadNet : Option Bool} {ddE_BadNet : Option Addr} {k0E_BadNet k1E_BadNet k2E_BadNet k3E_BadNet k5E_BadNet : Option Value}
    {t_MOST_DROPS : Tok}
    {t_MOST_KNOTS : Tok}
    {t_MOST_SIGNS : Tok}
    {t_MOST_TARGETS : Tok}
    (aC_Net : PySem.W.nsIn K mainGlobals "Net" = some (some (.ref C_Net)))
    (a0 : PySem.W.nsIn K mainGlobals "is_name" = some (some (.ref f0)))
    (l0 : K.lookup f0 = some ⟨oc0, od0, .func (PySem.W.fnOf "is_name" "is_name" (defArgs st_is_name) (defBody st_is_name) (defScope st_is_name) .none kV0 dc0 pm0 an0 cd0 ct0), sl0⟩)
    (c0 : PySem.W.codeIn K cd0 "is_name" = true)
    (k0 : PySem.W.keepIn K (.ref f0) = true)
    (a1 : PySem.W.nsIn K mainGlobals "is_row" = some (some (.ref f1)))
    (l1 : K.lookup f1 = some ⟨oc1, od1, .func (PySem.W.fnOf "is_row" "is_row" (defArgs st_is_row) (defBody st_is_row) (defScope st_is_row) .none kV1 dc1 pm1 an1 cd1 ct1), sl1⟩)
    (c1 : PySem.W.codeIn K cd1 "is_row" = true)
    (k1 : PySem.W.keepIn K (.ref f1) = true)
    (a2 : PySem.W.nsIn K mainGlobals "is_knot" = some (some (.ref f2)))
    (l2 : K.lookup f2 = some ⟨oc2, od2, .func (PySem.W.fnOf "is_knot" "is_knot" (defArgs st_is_knot) (defBody st_is_knot) (defScope st_is_knot) .none kV2 dc2 pm2 an2 cd2 ct2), sl2⟩)
    (c2 : PySem.W.codeIn K cd2 "is_knot" = true)
    (k2 : PySem.W.keepIn K (.ref f2) = true)
    (a3 : PySem.W.nsIn K mainGlobals "first_wrong" = some (some (.ref f3)))
    (l3 : K.lookup f3 = some ⟨oc3, od3, .func (PySem.W.fnOf "first_wrong" "first_wrong" (defArgs st_first_wrong) (defBody st_first_wrong) (defScope st_first_wrong) .none kV3 dc3 pm3 an3 cd3 ct3), sl3⟩)
    (c3 : PySem.W.codeIn K cd3 "first_wrong" = true)
    (k3 : PySem.W.keepIn K (.ref f3) = true)
    (a4 : PySem.W.findIn K (.ref C_Net) "met" = some (some (.ref f4)))
    (i4 : PySem.W.isFn K (.ref f4) = true)
    (l4 : K.lookup f4 = some ⟨oc4, od4, .func (PySem.W.fnOf "met" "Net.met" (defArgs st_Net_met) (defBody st_Net_met) (defScope st_Net_met) .none kV4 dc4 pm4 an4 cd4 ct4), sl4⟩)
    (c4 : PySem.W.codeIn K cd4 "Net.met" = true)
    (k4 : PySem.W.keepIn K (.ref f4) = true)
    (a5 : PySem.W.findIn K (.ref C_Net) "__init__" = some (some (.ref f5)))
    (i5 : PySem.W.isFn K (.ref f5) = true)
    (l5 : K.lookup f5 = some ⟨oc5, od5, .func (PySem.W.fnOf "__init__" "Net.__init__" (defArgs st_Net_init) (defBody st_Net_init) (defScope st_Net_init) .none kV5 dc5 pm5 an5 cd5 ct5), sl5⟩)
    (c5 : PySem.W.codeIn K cd5 "Net.__init__" = true)
    (k5 : PySem.W.keepIn K (.ref f5) = true)
    (a6 : PySem.W.findIn K (.ref C_Net) "__eq__" = some (some (.ref f6)))
    (i6 : PySem.W.isFn K (.ref f6) = true)
    (l6 : K.lookup f6 = some ⟨oc6, od6, .func (PySem.W.fnOf "__eq__" "Net.__eq__" (defArgs st_Net_eq) (defBody st_Net_eq) (defScope st_Net_eq) .none kV6 dc6 pm6 an6 cd6 ct6), sl6⟩)
    (c6 : PySem.W.codeIn K cd6 "Net.__eq__" = true)
    (k6 : PySem.W.keepIn K (.ref f6) = true)
    (a7 : PySem.W.findIn K (.ref C_Net) "__len__" = some (some (.ref f7)))
    (i7 : PySem.W.isFn K (.ref f7) = true)
    (l7 : K.lookup f7 = some ⟨oc7, od7, .func (PySem.W.fnOf "__len__" "Net.__len__" (defArgs st_Net_len) (defBody st_Net_len) (defScope st_Net_len) .none kV7 dc7 pm7 an7 cd7 ct7), sl7⟩)
    (c7 : PySem.W.codeIn K cd7 "Net.__len__" = true)
    (k7 : PySem.W.keepIn K (.ref f7) = true)
    (a8 : PySem.W.findIn K (.ref C_Net) "__contains__" = some (some (.ref f8)))
    (i8 : PySem.W.isFn K (.ref f8) = true)
    (l8 : K.lookup f8 = some ⟨oc8, od8, .func (PySem.W.fnOf "__contains__" "Net.__contains__" (defArgs st_Net_contains) (defBody st_Net_contains) (defScope st_Net_contains) .none kV8 dc8 pm8 an8 cd8 ct8), sl8⟩)
    (c8 : PySem.W.codeIn K cd8 "Net.__contains__" = true)
    (k8 : PySem.W.keepIn K (.ref f8) = true)
    (a9 : PySem.W.findIn K (.ref C_Net) "start" = some (some (.ref f9)))
    (i9 : PySem.W.isFn K (.ref f9) = true)
    (l9 : K.lookup f9 = some ⟨oc9, od9, .func (PySem.W.fnOf "start" "Net.start" (defArgs st_Net_start) (defBody st_Net_start) (defScope st_Net_start) .none kV9 dc9 pm9 an9 cd9 ct9), sl9⟩)
    (c9 : PySem.W.codeIn K cd9 "Net.start" = true)
    (k9 : PySem.W.keepIn K (.ref f9) = true)
    (a10 : PySem.W.nsIn K mainGlobals "_law_draw" = some (some (.ref f10)))
    (l10 : K.lookup f10 = some ⟨oc10, od10, .func (PySem.W.fnOf "_law_draw" "_law_draw" (defArgs st__law_draw) (defBody st__law_draw) (defScope st__law_draw) .none kV10 dc10 pm10 an10 cd10 ct10), sl10⟩)
    (c10 : PySem.W.codeIn K cd10 "_law_draw" = true)
    (k10 : PySem.W.keepIn K (.ref f10) = true)
    (a11 : PySem.W.nsIn K mainGlobals "_law_knots" = some (some (.ref f11)))
    (l11 : K.lookup f11 = some ⟨oc11, od11, .func (PySem.W.fnOf "_law_knots" "_law_knots" (defArgs st__law_knots) (defBody st__law_knots) (defScope st__law_knots) .none kV11 dc11 pm11 an11 cd11 ct11), sl11⟩)
    (c11 : PySem.W.codeIn K cd11 "_law_knots" = true)
    (k11 : PySem.W.keepIn K (.ref f11) = true)
    (a12 : PySem.W.nsIn K mainGlobals "_law_inlets" = some (some (.ref f12)))
    (l12 : K.lookup f12 = some ⟨oc12, od12, .func (PySem.W.fnOf "_law_inlets" "_law_inlets" (defArgs st__law_inlets) (defBody st__law_inlets) (defScope st__law_inlets) .none kV12 dc12 pm12 an12 cd12 ct12), sl12⟩)
    (c12 : PySem.W.codeIn K cd12 "_law_inlets" = true)
    (k12 : PySem.W.keepIn K (.ref f12) = true)
    (a13 : PySem.W.nsIn K mainGlobals "_law_refused" = some (some (.ref f13)))
    (l13 : K.lookup f13 = some ⟨oc13, od13, .func (PySem.W.fnOf "_law_refused" "_law_refused" (defArgs st__law_refused) (defBody st__law_refused) (defScope st__law_refused) .none kV13 dc13 pm13 an13 cd13 ct13), sl13⟩)
    (c13 : PySem.W.codeIn K cd13 "_law_refused" = true)
    (k13 : PySem.W.keepIn K (.ref f13) = true)
    (a14 : PySem.W.nsIn K mainGlobals "law" = some (some (.ref f14)))
    (l14 : K.lookup f14 = some ⟨oc14, od14, .func (PySem.W.fnOf "law" "law" (defArgs st_law) (defBody st_law) (defScope st_law) .none kV14 dc14 pm14 an14 cd14 ct14), sl14⟩)
    (c14 : PySem.W.codeIn K cd14 "law" = true)
    (k14 : PySem.W.keepIn K (.ref f14) = true)
    (pg_Net : PySem.W.plainGet K C_Net Str.empty = true)
    (hd_Net : PySem.W.hasDictIn K C_Net = true)
    (po_Net : PySem.W.plainOver K C_Net = true)
    (sa_Net : PySem.W.findIn K (.ref C_Net) "__setattr__" = some (some (.builtin "object.__setattr__")))
    (mk_Net : PySem.W.makesIn K C_Net = true)
    (kc_Net : PySem.W.keepIn K (.ref C_Net) = true)
    (ha_Net : PySem.W.findIn K (.ref C_Net) "__class__" = some (some (.builtin "object.__class__")))
    (hn_Net : PySem.W.specialIn K (.builtin "object.__class__") "__get__" = some (some (.builtin "getset_descriptor.__get__")))
    (htk_Net : PySem.W.takesIn K (.builtin "object.__class__") = some true)
    (hm_Net : PySem.W.mroIn K C_Net (.type "object") = some true)
    (ci_Net : PySem.W.clsIn K C_Net = some cdC_Net)
    (ty_Net : PySem.W.typeIn K (.ref C_Net) = some (.type "type"))
    (kO_Net_NoneType : PySem.W.subIn K (.type "NoneType") (.ref C_Net) = some false)
    (kB_Net_NoneType : PySem.W.subIn K (.ref C_Net) (.type "NoneType") = some false)
    (kO_Net_bool : PySem.W.subIn K (.type "bool") (.ref C_Net) = some false)
    (kB_Net_bool : PySem.W.subIn K (.ref C_Net) (.type "bool") = some false)
    (kO_Net_int : PySem.W.subIn K (.type "int") (.ref C_Net) = some false)
    (kB_Net_int : PySem.W.subIn K (.ref C_Net) (.type "int") = some false)
    (kO_Net_str : PySem.W.subIn K (.type "str") (.ref C_Net) = some false)
    (kB_Net_str : PySem.W.subIn K (.ref C_Net) (.type "str") = some false)
    (kO_Net_tuple : PySem.W.subIn K (.type "tuple") (.ref C_Net) = some false)
    (kB_Net_tuple : PySem.W.subIn K (.ref C_Net) (.type "tuple") = some false)
    (kO_Net_list : PySem.W.subIn K (.type "list") (.ref C_Net) = some false)
    (kB_Net_list : PySem.W.subIn K (.ref C_Net) (.type "list") = some false)
    (kO_Net_dict : PySem.W.subIn K (.type "dict") (.ref C_Net) = some false)
    (kB_Net_dict : PySem.W.subIn K (.ref C_Net) (.type "dict") = some false)
    (nf_Net_NoneType : PySem.W.notFirst K C_Net (.type "NoneType") = true)
    (nf_Net_bool : PySem.W.notFirst K C_Net (.type "bool") = true)
    (nf_Net_int : PySem.W.notFirst K C_Net (.type "int") = true)
    (nf_Net_str : PySem.W.notFirst K C_Net (.type "str") = true)
    (nf_Net_tuple : PySem.W.notFirst K C_Net (.type "tuple") = true)
    (nf_Net_list : PySem.W.notFirst K C_Net (.type "list") = true)
    (nf_Net_dict : PySem.W.notFirst K C_Net (.type "dict") = true)
    (ne_Net : PySem.W.findIn K (.ref C_Net) "__ne__" = some (some (.builtin "object.__ne__")))
    (so_Net : PySem.W.subIn K (.ref C_Net) (.type "object") = some true)
    (nA_Net_knots : PySem.W.findIn K (.ref C_Net) "knots" = some none)
    (nA_Net_inlets : PySem.W.findIn K (.ref C_Net) "inlets" = some none)
    (nA_Net_outlets : PySem.W.findIn K (.ref C_Net) "outlets" = some none)
    (nA_Net_names : PySem.W.findIn K (.ref C_Net) "names" = some none)
    (z_super : PySem.W.nsIn K mainGlobals "super" = some none)
    (op_super : PySem.W.nsIn K PySem.cStatics "thirdparty.any" = some none)
    (tp_super : (l.prog.main.scope.names.lookup ("super" : Str)).isSome = false)
    (aE_BadNet : PySem.W.nsIn K mainGlobals "BadNet" = some (some (.ref E_BadNet)))
    (iE_BadNet : PySem.W.findIn K (.ref E_BadNet) "__init__" = some (some (.ref fE_BadNet)))
    (tE_BadNet : PySem.W.typeIn K (.ref fE_BadNet) = some (.type "function"))
    (lE_BadNet : K.lookup fE_BadNet = some ⟨ocE_BadNet, odE_BadNet, .func (PySem.W.ksFn "__init__" "BadNet.__init__" (defArgs (inClass (top 3) 0)) (defBody (inClass (top 3) 0)) (defScope (inClass (top 3) 0)) .none kVE_BadNet dcE_BadNet pmE_BadNet anE_BadNet (.ref cda_BadNet) ctE_BadNet cc_BadNet), slE_BadNet⟩)
    (cE_BadNet : PySem.W.codeIn K (.ref cda_BadNet) "BadNet.__init__" = true)
    (oE_BadNet : K.lookup cda_BadNet = some ⟨cclE_BadNet, cddE_BadNet, .fields vsE_BadNet, ccsE_BadNet⟩)
    (vE_BadNet : vsE_BadNet[2]? = some (.str fileE_BadNet tfE_BadNet))
    (mE_BadNet : ((l.prog.main.file : Str) == fileE_BadNet) = true)
    (eE_BadNet : K.lookup cc_BadNet = some ⟨clE_BadNet, cldE_BadNet, .cell (some (.ref E_BadNet)), cslE_BadNet⟩)
    (xE_BadNet : K.lookup E_BadNet = some (excClassObj nmE_BadNet qE_BadNet E_BadNet nE_BadNet bsE_BadNet bmE_BadNet true snE_BadNet subE_BadNet abE_BadNet colE_BadNet ddE_BadNet k0E_BadNet k1E_BadNet k2E_BadNet k3E_BadNet k5E_BadNet "ValueError.__new__"))
    (bE_BadNet : PySem.HandSPX.refsVE bmE_BadNet = true)
    (saE_BadNet : PySem.W.findIn K (.ref E_BadNet) "__setattr__" = some (some (.builtin "object.__setattr__")))
    (exE_BadNet : PySem.W.subIn K (.ref E_BadNet) (.type "BaseException") = some true)
    (tyE_BadNet : PySem.W.typeIn K (.ref E_BadNet) = some (.type "type"))
    (kcE_BadNet : PySem.W.keepIn K (.ref E_BadNet) = true)
    (mrE_BadNet : PySem.W.mroIn K E_BadNet (.ref E_BadNet) = some true)
    (spE_BadNet : PySem.W.ks_superIn K E_BadNet E_BadNet "__init__" = some (some (.builtin "ValueError.__init__")))
    (svE_BadNet : PySem.W.subIn K (.ref E_BadNet) (.type "ValueError") = some true)
    (gaE_BadNet : PySem.W.findIn K (.ref E_BadNet) "__getattribute__" = some (some (.builtin "BaseException.__getattribute__")))
    (ggE_BadNet : PySem.W.findIn K (.ref E_BadNet) "__getattr__" = some none)
    (hdE_BadNet : PySem.W.hasDictIn K E_BadNet = true)
    (fnE_BadNet : PySem.W.findIn K (.ref E_BadNet) "name" = some none)
    (z_all : PySem.W.nsIn K mainGlobals "all" = some none)
    (z_dict : PySem.W.nsIn K mainGlobals "dict" = some none)
    (z_enumerate : PySem.W.nsIn K mainGlobals "enumerate" = some none)
    (z_int : PySem.W.nsIn K mainGlobals "int" = some none)
    (z_isinstance : PySem.W.nsIn K mainGlobals "isinstance" = some none)
    (z_len : PySem.W.nsIn K mainGlobals "len" = some none)
    (z_list : PySem.W.nsIn K mainGlobals "list" = some none)
    (z_range : PySem.W.nsIn K mainGlobals "range" = some none)
    (z_reversed : PySem.W.nsIn K mainGlobals "reversed" = some none)
    (z_sorted : PySem.W.nsIn K mainGlobals "sorted" = some none)
    (z_str : PySem.W.nsIn K mainGlobals "str" = some none)
    (z_tuple : PySem.W.nsIn K mainGlobals "tuple" = some none)
    (g_MOST_DROPS : PySem.W.nsIn K mainGlobals "MOST_DROPS" = some (some (.int 12 t_MOST_DROPS)))
    (g_MOST_KNOTS : PySem.W.nsIn K mainGlobals "MOST_KNOTS" = some (some (.int 12 t_MOST_KNOTS)))
    (g_MOST_SIGNS : PySem.W.nsIn K mainGlobals "MOST_SIGNS" = some (some (.int 16 t_MOST_SIGNS)))
    (g_MOST_TARGETS : PySem.W.nsIn K mainGlobals "MOST_TARGETS" = some (some (.int 4 t_MOST_TARGETS)))
    : ∃ fd : FuncData, (∀ (s : Shared) (v : Value), BindsTo s fd ⟨[v], []⟩ [("_law_script", v)]) ∧ ∀ base : Heap, K.In base → base.Ns mainGlobals mg → FnOk l.prog w K mg base (L2.CX l.prog w) 11 fa fd ["_law_script"] (spLaw K) := by
  have e := hfa.symm.trans (PySem.W.mg_of X G a14)
  cases e
  have cI_Net : CI K mg 7628110 C_Net := ⟨by rw [nmC_Net]; exact PySem.W.mg_of X G aC_Net, ⟨pg_Net, hd_Net, po_Net, sa_Net⟩⟩
  have oc_Net : OC K C_Net := ⟨⟨pg_Net, hd_Net, po_Net, sa_Net⟩, ha_Net, hn_Net, htk_Net, hm_Net, fun T hT => by
    simp only [tyNames, List.mem_cons, List.not_mem_nil, or_false] at hT; rcases hT with rfl | rfl | rfl | rfl | rfl | rfl | rfl <;> first | exact kit_O (by rw [ci_Net]; rfl) ty_Net kO_Net_NoneType | exact kit_O (by rw [ci_Net]; rfl) ty_Net kO_Net_bool | exact kit_O (by rw [ci_Net]; rfl) ty_Net kO_Net_int | exact kit_O (by rw [ci_Net]; rfl) ty_Net kO_Net_str | exact kit_O (by rw [ci_Net]; rfl) ty_Net kO_Net_tuple | exact kit_O (by rw [ci_Net]; rfl) ty_Net kO_Net_list | exact kit_O (by rw [ci_Net]; rfl) ty_Net kO_Net_dict, kit_self, fun T hT => by
    simp only [tyNames, List.mem_cons, List.not_mem_nil, or_false] at hT; rcases hT with rfl | rfl | rfl | rfl | rfl | rfl | rfl <;> first | exact kit_B (by decide +kernel) kB_Net_NoneType | exact kit_B (by decide +kernel) kB_Net_bool | exact kit_B (by decide +kernel) kB_Net_int | exact kit_B (by decide +kernel) kB_Net_str | exact kit_B (by decide +kernel) kB_Net_tuple | exact kit_B (by decide +kernel) kB_Net_list | exact kit_B (by decide +kernel) kB_Net_dict⟩
  have T : Txt K mg := {
    b_all := PySem.W.mg_none_of X G z_all
    b_dict := PySem.W.mg_none_of X G z_dict
    b_enumerate := PySem.W.mg_none_of X G z_enumerate
    b_int := PySem.W.mg_none_of X G z_int
    b_isinstance := PySem.W.mg_none_of X G z_isinstance
    b_len := PySem.W.mg_none_of X G z_len
    b_list := PySem.W.mg_none_of X G z_list
    b_range := PySem.W.mg_none_of X G z_range
    b_reversed := PySem.W.mg_none_of X G z_reversed
    b_sorted := PySem.W.mg_none_of X G z_sorted
    b_str := PySem.W.mg_none_of X G z_str
    b_tuple := PySem.W.mg_none_of X G z_tuple
    g_MOST_DROPS := ⟨t_MOST_DROPS, PySem.W.mg_of X G g_MOST_DROPS⟩
    g_MOST_KNOTS := ⟨t_MOST_KNOTS, PySem.W.mg_of X G g_MOST_KNOTS⟩
    g_MOST_SIGNS := ⟨t_MOST_SIGNS, PySem.W.mg_of X G g_MOST_SIGNS⟩
    g_MOST_TARGETS := ⟨t_MOST_TARGETS, PySem.W.mg_of X G g_MOST_TARGETS⟩
    oc := fun cn hcn C c => by
      simp only [List.mem_cons, List.not_mem_nil, or_false] at hcn
      rcases hcn with rfl
      · rw [cI_Net.uniq c]; exact oc_Net
    nA_Net_knots := fun C c => by rw [cI_Net.uniq c, show nm 495874698859 = "knots" by decide +kernel]; exact nA_Net_knots
    nA_Net_inlets := fun C c => by rw [cI_Net.uniq c, show nm 126943755005545 = "inlets" by decide +kernel]; exact nA_Net_inlets
    nA_Net_outlets := fun C c => by rw [cI_Net.uniq c, show nm 32497601281815919 = "outlets" by decide +kernel]; exact nA_Net_outlets
    nA_Net_names := fun C c => by rw [cI_Net.uniq c, show nm 495622906222 = "names" by decide +kernel]; exact nA_Net_names
  }
  have F0 := fun_mk (st := st_is_name) l0 c0 k0
  have b0 := F0.binds (ps := ["thing"]) fun _ _ _ _ _ _ us hl => match us, hl with | [_], _ => rfl
  have F1 := fun_mk (st := st_is_row) l1 c1 k1
  have b1 := F1.binds (ps := ["thing", "known"]) fun _ _ _ _ _ _ us hl => match us, hl with | [_, _], _ => rfl
  have F2 := fun_mk (st := st_is_knot) l2 c2 k2
  have b2 := F2.binds (ps := ["thing", "known"]) fun _ _ _ _ _ _ us hl => match us, hl with | [_, _], _ => rfl
  have F3 := fun_mk (st := st_first_wrong) l3 c3 k3
  have b3 := F3.binds (ps := ["names"]) fun _ _ _ _ _ _ us hl => match us, hl with | [_], _ => rfl
  have F4 := fun_mk (st := st_Net_met) l4 c4 k4
  have b4 := F4.binds (ps := ["self"]) fun _ _ _ _ _ _ us hl => match us, hl with | [_], _ => rfl
  have F5 := fun_mk (st := st_Net_init) l5 c5 k5
  have b5 := F5.binds (ps := ["self", "knots", "inlets", "outlets"]) fun _ _ _ _ _ _ us hl => match us, hl with | [_, _, _, _], _ => rfl
  have F6 := fun_mk (st := st_Net_eq) l6 c6 k6
  have b6 := F6.binds (ps := ["self", "other"]) fun _ _ _ _ _ _ us hl => match us, hl with | [_, _], _ => rfl
  have F7 := fun_mk (st := st_Net_len) l7 c7 k7
  have b7 := F7.binds (ps := ["self"]) fun _ _ _ _ _ _ us hl => match us, hl with | [_], _ => rfl
  have F8 := fun_mk (st := st_Net_contains) l8 c8 k8
  have b8 := F8.binds (ps := ["self", "name"]) fun _ _ _ _ _ _ us hl => match us, hl with | [_, _], _ => rfl
  have F9 := fun_mk (st := st_Net_start) l9 c9 k9
  have b9 := F9.binds (ps := ["self"]) fun _ _ _ _ _ _ us hl => match us, hl with | [_], _ => rfl
  have F10 := fun_mk (st := st__law_draw) l10 c10 k10
  have b10 := F10.binds (ps := ["_law_script", "_law_at", "_law_many"]) fun _ _ _ _ _ _ us hl => match us, hl with | [_, _, _], _ => rfl
  have F11 := fun_mk (st := st__law_knots) l11 c11 k11
  have b11 := F11.binds (ps := ["_law_script", "_law_at", "_law_lossy"]) fun _ _ _ _ _ _ us hl => match us, hl with | [_, _, _], _ => rfl
  have F12 := fun_mk (st := st__law_inlets) l12 c12 k12
  have b12 := F12.binds (ps := ["_law_script", "_law_at", "_law_knots_here"]) fun _ _ _ _ _ _ us hl => match us, hl with | [_, _, _], _ => rfl
  have F13 := fun_mk (st := st__law_refused) l13 c13 k13
  have b13 := F13.binds (ps := ["_law_knots_here", "_law_inlets_here", "_law_outlets", "_law_name"]) fun _ _ _ _ _ _ us hl => match us, hl with | [_, _, _, _], _ => rfl
  have F14 := fun_mk (st := st_law) l14 c14 k14
  have b14 := F14.binds (ps := ["_law_script"]) fun _ _ _ _ _ _ us hl => match us, hl with | [_], _ => rfl
  have one : ∀ (m : Fn) (cn : Nat) (fm : Fn), lkT cn [(7628110, m)] = some fm → ∀ C, CI K mg cn C → C = C_Net := fun m cn fm e C c => by
    unfold lkT at e
    by_cases hc : ((7628110 : Nat) == cn) = true
    · have hc := beq_iff_eq.mp hc
      subst hc
      exact cI_Net.uniq c
    · rw [if_neg hc] at e; cases e
  have cmpOk : CmpOk K mg t_eq [7628110] := ⟨fun cn fm e C c T hT => by
    rw [one _ cn fm e C c]
    simp only [tyNames, List.mem_cons, List.not_mem_nil, or_false] at hT; rcases hT with rfl | rfl | rfl | rfl | rfl | rfl | rfl <;> first | exact nf_Net_NoneType | exact nf_Net_bool | exact nf_Net_int | exact nf_Net_str | exact nf_Net_tuple | exact nf_Net_list | exact nf_Net_dict,
    fun cn fm e C c cn' hc C' c' => by
    simp only [List.mem_cons, List.not_mem_nil, or_false] at hc
    subst hc
    rw [one _ cn fm e C c, cI_Net.uniq c']
    simp [PySem.W.notFirst]⟩
  have neOk : NeOk K mg t_eq := ⟨fun cn fm e C c => by rw [one _ cn fm e C c]; exact ⟨ne_Net, so_Net⟩⟩
  refine ⟨PySem.W.fnOf "law" "law" (defArgs st_law) (defBody st_law) (defScope st_law) .none kV14 dc14 pm14 an14 cd14 ct14, fun s v => .of_eq rfl, fun base _ _ => ?_⟩
  have T_BadNet : OexC K E_BadNet := ⟨⟨_, _, _, _, _, _, _, _, _, _, _, _, _, _, _, xE_BadNet, bE_BadNet⟩, saE_BadNet, exE_BadNet, tyE_BadNet, kcE_BadNet⟩
  have EI_BadNet : EI l.prog K mg E_BadNet "BadNet.__init__" (inClass (top 3) 0) fE_BadNet _ cda_BadNet cc_BadNet := ⟨⟨_, _, _, _, _, _, _, _, rfl, lE_BadNet⟩, cE_BadNet, ⟨_, _, _, _, _, _, oE_BadNet, vE_BadNet, mE_BadNet⟩, ⟨_, _, _, eE_BadNet⟩, T_BadNet, mrE_BadNet, spE_BadNet, svE_BadNet, op_super, PySem.W.mg_none_of X G z_super, tp_super⟩
  have nmX_BadNet : nm 127978455720258 = "BadNet" := by decide +kernel
  have nmF_BadNet : nm 1701667182 = "name" := by decide +kernel
  have X_BadNet : XC l.prog w K mg base 1 "BadNet" 127978455720258 1701667182 := by
    refine ⟨E_BadNet, fE_BadNet, PySem.W.ksFn "__init__" "BadNet.__init__" (defArgs (inClass (top 3) 0)) (defBody (inClass (top 3) 0)) (defScope (inClass (top 3) 0)) .none kVE_BadNet dcE_BadNet pmE_BadNet anE_BadNet (.ref cda_BadNet) ctE_BadNet cc_BadNet, ["self", "name"], T_BadNet, iE_BadNet, tE_BadNet, ?_, ?_, PySem.W.mg_of X G aE_BadNet, by rw [nmX_BadNet]; exact PySem.W.mg_of X G aE_BadNet, ⟨gaE_BadNet, ggE_BadNet, exE_BadNet, hdE_BadNet⟩, by rw [nmF_BadNet]; exact fnE_BadNet, ?_⟩
    · rw [nmF_BadNet]
      exact einit1_ok (k := 0) (ar := (((defArgs (inClass (top 3) 0)).posonlyargs ++ (defArgs (inClass (top 3) 0)).args).head?.get rfl)) (x1 := "name") EI_BadNet rfl (NdefX.nscope_by (by decide +kernel)) rfl rfl fnE_BadNet (by decide +kernel) (by decide) (by decide) (by decide) (by decide) (fun L env h => by subst h; exact ⟨_, rfl⟩) (fun L env h => by subst h; rfl) (fun L env h => by subst h; rfl)
    · exact .all fun us hl => match us, hl with | [_, _], _ => rfl
    · exact exm_self exE_BadNet (by unfold PySem.W.clsIn; rw [xE_BadNet]; rfl) tyE_BadNet mrE_BadNet
  have E0 := d_is_name (P := l.prog) (w := w) (base := base) F0 T 
  have D_is_name : Def l.prog w K mg base 2 "is_name" 1 (callP m_is_name) := (Def.mk ⟨f0, DefAt.of E0 b0, PySem.W.mg_of X G a0, k0⟩).pure
  have E1 := d_is_row (P := l.prog) (w := w) (base := base) F1 T 
  have D_is_row : Def l.prog w K mg base 2 "is_row" 2 (callP m_is_row) := (Def.mk ⟨f1, DefAt.of E1 b1, PySem.W.mg_of X G a1, k1⟩).pure
  have E2 := d_is_knot (P := l.prog) (w := w) (base := base) F2 T D_is_row
  have D_is_knot : Def l.prog w K mg base 4 "is_knot" 2 (callP m_is_knot) := (Def.mk ⟨f2, DefAt.of E2 b2, PySem.W.mg_of X G a2, k2⟩).pure
  have E3 := d_first_wrong (P := l.prog) (w := w) (base := base) F3 T D_is_name
  have D_first_wrong : Def l.prog w K mg base 4 "first_wrong" 1 (callP m_first_wrong) := (Def.mk ⟨f3, DefAt.of E3 b3, PySem.W.mg_of X G a3, k3⟩).pure
  have E4 := d_Net_met (P := l.prog) (w := w) (base := base) F4 T 
  have M_met : MDef l.prog w K mg base 2 "met" 1 t_met := (MDef.cons (fun C' c' => by rw [cI_Net.uniq c']; exact ⟨f4, (DefAt.of E4 b4).mono (by decide), ⟨a4, i4, k4⟩⟩) MDef.nil)
  have E5 := d_Net_init (P := l.prog) (w := w) (base := base) F5 T X_BadNet D_is_knot D_first_wrong M_met
  have D_Net : CDef l.prog w K mg base 6 "Net" 7628110 4 m_Net_init := ⟨C_Net, f5, DefAt.of E5 b5, cI_Net, PySem.W.mg_of X G aC_Net, ⟨mk_Net, a5, i5, kc_Net⟩⟩
  have E6 := d_Net_eq (P := l.prog) (w := w) (base := base) F6 T cI_Net
  have E7 := d_Net_len (P := l.prog) (w := w) (base := base) F7 T 
  have E8 := d_Net_contains (P := l.prog) (w := w) (base := base) F8 T 
  have E9 := d_Net_start (P := l.prog) (w := w) (base := base) F9 T 
  have E10 := d__law_draw (P := l.prog) (w := w) (base := base) F10 T 
  have D__law_draw : Def l.prog w K mg base 2 "_law_draw" 3 (callP m__law_draw) := (Def.mk ⟨f10, DefAt.of E10 b10, PySem.W.mg_of X G a10, k10⟩).pure
  have E11 := d__law_knots (P := l.prog) (w := w) (base := base) F11 T D__law_draw
  have D__law_knots : Def l.prog w K mg base 4 "_law_knots" 3 (callP m__law_knots) := (Def.mk ⟨f11, DefAt.of E11 b11, PySem.W.mg_of X G a11, k11⟩).pure
  have E12 := d__law_inlets (P := l.prog) (w := w) (base := base) F12 T D__law_draw
  have D__law_inlets : Def l.prog w K mg base 4 "_law_inlets" 3 (callP m__law_inlets) := (Def.mk ⟨f12, DefAt.of E12 b12, PySem.W.mg_of X G a12, k12⟩).pure
  have E13 := d__law_refused (P := l.prog) (w := w) (base := base) F13 T X_BadNet D_Net
  have D__law_refused : Def l.prog w K mg base 9 "_law_refused" 4 (callP m__law_refused) := (Def.mk ⟨f13, DefAt.of E13 b13, PySem.W.mg_of X G a13, k13⟩).pure
  have M_start : MDef l.prog w K mg base 2 "start" 1 t_start := (MDef.cons (fun C' c' => by rw [cI_Net.uniq c']; exact ⟨f9, (DefAt.of E9 b9).mono (by decide), ⟨a9, i9, k9⟩⟩) MDef.nil)
  have M_eq : MDef l.prog w K mg base 2 "__eq__" 2 t_eq := (MDef.cons (fun C' c' => by rw [cI_Net.uniq c']; exact ⟨f6, (DefAt.of E6 b6).mono (by decide), ⟨a6, i6, k6⟩⟩) MDef.nil)
  have M_contains : MDef l.prog w K mg base 2 "__contains__" 2 t_contains := (MDef.cons (fun C' c' => by rw [cI_Net.uniq c']; exact ⟨f8, (DefAt.of E8 b8).mono (by decide), ⟨a8, i8, k8⟩⟩) MDef.nil)
  have M_len : MDef l.prog w K mg base 2 "__len__" 1 t_len := (MDef.cons (fun C' c' => by rw [cI_Net.uniq c']; exact ⟨f7, (DefAt.of E7 b7).mono (by decide), ⟨a7, i7, k7⟩⟩) MDef.nil)
  have E14 := d_law (P := l.prog) (w := w) (base := base) F14 T D__law_refused D__law_draw D__law_inlets D__law_knots D_Net M_start M_eq M_contains M_len cmpOk neOk
  exact FnOk.imp E14 (law_spec kept)
end K07
set_option maxHeartbeats 1000000
/-! QB: what Net's defs do at nets whose parts are right. -/
namespace K07
open Mo PySem PySem.Spec PyProof.Rows L2
theorem dGet_ns {g : Nm → U} {t : Nm} : ∀ ns : List Nm, dGet (ns.map fun n => (Ky.str n, g n)) (.str t) = if t ∈ ns then some (g t) else none
  | [] => rfl
  | n :: ns => by
    have ih := dGet_ns (g := g) (t := t) ns
    show (if (n == t) = true then some (g n) else _) = _
    by_cases h : n = t
    · subst h; simp
    · rw [if_neg (by simpa using h), ih]
      have : ¬ t = n := fun q => h q.symm
      simp [this]
theorem inA_ns {g : Nm → U} {t : Nm} {ns : List Nm} {u : U} {s : S} (h : dctOf u s = some (false, ns.map fun n => (Ky.str n, g n))) : inA (.str t) u s = some (decide (t ∈ ns)) := by
  unfold inA
  rw [h]
  simp only [kyOf, fits, if_true]
  rw [dGet_ns]
  by_cases q : t ∈ ns <;> simp [q]
theorem puk_ns {g : Nm → U} (h : ∀ n, pu (g n) = true) : ∀ ns : List Nm, puk (ns.map fun n => (Ky.str n, g n)) = true
  | [] => rfl
  | n :: ns => by show (pu (g n) && puk (ns.map fun n => (Ky.str n, g n))) = true; rw [h, puk_ns h ns]; rfl
abbrev Kn := List (List Nm) × List (List Nm)
abbrev uDrop (d : List Nm) : U := .tup (d.map U.str)
abbrev uRow (r : List (List Nm)) : U := .tup (r.map uDrop)
abbrev uKnot (k : Kn) : U := .tup [uRow k.1, uRow k.2]
abbrev KD (ks : List (Nm × Kn)) : List (Ky × U) := ent uKnot ks
abbrev ID (is : List (Nm × Nm)) : List (Ky × U) := ent U.str is
theorem bls_true : ∀ n : Nat, blsOf (List.replicate n (U.bl true)) = some (List.replicate n true)
  | 0 => rfl
  | n + 1 => by rw [List.replicate_succ, List.replicate_succ]; unfold blsOf; rw [bls_true n]
theorem map_rep {α : Type} (b : U) : ∀ us : List α, us.map (fun _ => b) = List.replicate us.length b
  | [] => rfl
  | u :: us => by rw [List.map_cons, map_rep b us, List.length_cons, List.replicate_succ]
theorem is_row_ok (r : List (List Nm)) (kvs : List (Ky × U)) (h1 : r.length ≤ 12) (h2 : ∀ d ∈ r, d.length ≤ 4 ∧ ∀ t ∈ d, inA (.str t) (.dct false kvs) [] = some true) : m_is_row [uRow r, .dct false kvs] [] = .ok (.bl true) [] := by
  have hl : ¬ ((12 : Int) < (r.length : Int)) := by omega
  have hz : r.length ≤ 16777216 := by omega
  obtain ⟨x, e⟩ := loop_nms (j := 2) (body := lb_is_row_1) (s := []) (r.map uDrop) [some (uRow r), some (.dct false kvs), none, none] none rfl fun u hu => by
    obtain ⟨d, hd, rfl⟩ := List.mem_map.mp hu
    obtain ⟨g1, g2⟩ := h2 d hd
    have hl : ¬ ((4 : Int) < (d.length : Int)) := by omega
    have hz : d.length ≤ 16777216 := by omega
    have lc := lcGo_map (g := .nm 3) (e := ce_is_row_0) (l := [some (uRow r), some (.dct false kvs), some (uDrop d), none]) (f := fun _ => .bl true) (s := []) (d.map U.str) fun u hu => by
      obtain ⟨t, ht, rfl⟩ := List.mem_map.mp hu
      refine ⟨[some (uRow r), some (.dct false kvs), some (uDrop d), some (.str t)], rfl, ?_⟩
      have := g2 t ht
      simp [ce_is_row_0, eAndM, eUn, eOp, mV, gIsB, tyU, isT, gIn, this, liftG]
    rw [map_rep] at lc
    simp [lb_is_row_1, sSeq, sIf, FR, tOrM, tNotM, mB, asB, eUn, eOp, eN, mV, mK, aCons, aNil, liftG, gIsB, tyU, isT, gLen, gGt, gCmp, seqOf, tupOf, lstOf, eLc, wipeL, iFn, anyF, lc, hl, mkL, gAll, gBls, bls_true, sizeLine_eq, sSkip, hz]
  simp [m_is_row, b_is_row, fnM, List.replicate]
  simp [sSeq, sIf, FR, tOrM, tNotM, mB, asB, eUn, eOp, eN, mV, mK, aCons, aNil, liftG, gIsB, tyU, isT, gLen, gGt, gCmp, seqOf, tupOf, lstOf, sizeLine_eq, sSkip, hl, hz, sFor, iFn, anyF, e, sRet]
theorem eDrop : Emb 2 uDrop (fun d => .tup (d.map D.str)) := Emb.str.tup
theorem eRow : Emb 3 uRow (fun r => .tup (r.map fun d => .tup (d.map D.str))) := eDrop.tup
theorem pus_row : ∀ r : List (List Nm), pus (r.map uDrop) = true
  | [] => rfl
  | d :: r => by show (pus (d.map U.str) && pus (r.map uDrop)) = true; rw [show pus (d.map U.str) = true from pus_nms d, pus_row r]; rfl
theorem pu_knot (k : Kn) : pu (uKnot k) = true := by
  show (pus (k.1.map uDrop) && (pus (k.2.map uDrop) && true)) = true
  rw [pus_row, pus_row]; rfl
/-- a knot whose drops are few, to known targets -/
structure KnOk (ns : List Nm) (k : Kn) : Prop where
  f : k.1.length ≤ 12
  t : k.2.length ≤ 12
  ne : k.2 ≠ []
  df : ∀ d ∈ k.1, d.length ≤ 4 ∧ ∀ t ∈ d, t ∈ ns
  dt : ∀ d ∈ k.2, d.length ≤ 4 ∧ ∀ t ∈ d, t ∈ ns
abbrev known (ns : List Nm) : List (Ky × U) := ns.map fun n => (Ky.str n, U.bl true)
theorem is_row_call {ns : List Nm} {r : List (List Nm)} (h1 : r.length ≤ 12) (h2 : ∀ d ∈ r, d.length ≤ 4 ∧ ∀ t ∈ d, t ∈ ns) (s : S) : callP m_is_row [uRow r, .dct false (known ns)] s = .ok (.bl true) s := by
  refine callP_ok ?_ (is_row_ok r (known ns) h1 fun d hd => ⟨(h2 d hd).1, fun t ht => ?_⟩) rfl
  · show (pus (r.map uDrop) && (puk (known ns) && true)) = true
    rw [pus_row, puk_ns fun _ => rfl]; rfl
  · rw [inA_ns (g := fun _ => .bl true) rfl]
    simp [(h2 d hd).2 t ht]
theorem is_knot_ok {ns : List Nm} {k : Kn} (h : KnOk ns k) : m_is_knot [uKnot k, .dct false (known ns)] [] = .ok (.bl true) [] := by
  obtain ⟨r, e1, e2⟩ := eRow.ne (by decide) k.2 [] []
  have e2 : r = true := e2.mpr h.ne
  subst e2
  have e1 : gNe (uRow k.2) (.tup []) [] = some (.bl true, []) := e1
  have e3 : gNe (.int 2) (.int 2) [] = some (.bl false, []) := rfl
  have r1 := fun s => is_row_call h.f h.df s
  have r2 := fun s => is_row_call h.t h.dt s
  simp [m_is_knot, b_is_knot, fnM, sSeq, sIf, FR, tOrM, tNotM, mB, asB, eUn, eOp, eN, mV, mK, aCons, aNil, liftG, gIsB, tyU, isT, gLen, seqOf, tupOf, lstOf, sizeLine_eq, sSkip, sRet, eAndM, eCall, gIx, gIxI, dctOf, atI, ixN, r1, r2, e1, e3, eTup, mkT]
theorem is_knot_call {ns : List Nm} {k : Kn} (h : KnOk ns k) (s : S) : callP m_is_knot [uKnot k, .dct false (known ns)] s = .ok (.bl true) s := by
  refine callP_ok ?_ (is_knot_ok h) rfl
  show (pu (uKnot k) && (puk (known ns) && true)) = true
  rw [pu_knot, puk_ns fun _ => rfl]; rfl
/-! ### met -/
theorem ap0 {s : S} {x y : O} : (s ++ [x, y])[s.length]? = some x := by simp
theorem ap1 {s : S} {x y : O} : (s ++ [x, y])[s.length + 1]? = some y := by
  rw [List.getElem?_append_right (by omega)]
  simp
theorem st0 {s : S} {x y z : O} : (s ++ [x, y]).set s.length z = s ++ [z, y] := by simp
theorem st1 {s : S} {x y z : O} : (s ++ [x, y]).set (s.length + 1) z = s ++ [x, z] := by
  rw [List.set_append_right _ _ (by omega)]
  simp
/-- names that were not found yet -/
def nf (ns F : List Nm) : List Nm := ns.filter fun n => !decide (n ∈ F)
theorem nf_le {F G : List Nm} (h : ∀ n ∈ F, n ∈ G) : ∀ ns : List Nm, (nf ns G).length ≤ (nf ns F).length
  | [] => Nat.le_refl _
  | n :: ns => by
    have ih := nf_le h ns
    unfold nf at *
    simp only [List.filter_cons]
    by_cases q : n ∈ F
    · have := h n q
      simp [q, this]; simpa using ih
    · by_cases q2 : n ∈ G
      · simp [q, q2]; omega
      · simp [q, q2]; simpa using ih
theorem nf_lt {F : List Nm} {x : Nm} (hF : x ∉ F) : ∀ {ns : List Nm}, x ∈ ns → (nf ns (F ++ [x])).length < (nf ns F).length
  | [], h => by cases h
  | n :: ns, h => by
    have le := nf_le (F := F) (G := F ++ [x]) (fun m hm => by simp [hm]) ns
    by_cases q : n = x
    · subst q
      unfold nf at *
      simp only [List.filter_cons]
      simp [hF]; simp at le; omega
    · have hx : x ∈ ns := by
        rcases List.mem_cons.mp h with h | h
        · exact absurd h.symm q
        · exact h
      have ih := nf_lt hF hx
      unfold nf at *
      simp only [List.filter_cons]
      by_cases q2 : n ∈ F
      · simp [q2]; simpa using ih
      · simp [q2, q]; simpa using ih
set_option exponentiation.threshold 5000 in
theorem many_lt {n : Nat} (h : n < 1024) : n < manyT := Nat.lt_of_lt_of_le h ((Nat.pow_le_pow_right (by decide) (show 10 ≤ 4000 by decide) : 2 ^ 10 ≤ manyT))
/-- a drop's knots -/
def kn (ns : List Nm) (d : List Nm) : List Nm := d.filter fun t => decide (t ∈ ns)
theorem kn_len {ns : List Nm} : ∀ T : List (List Nm), (∀ d ∈ T, d.length ≤ 4) → ((T.map (kn ns)).flatten).length ≤ 4 * T.length
  | [], _ => Nat.le_refl _
  | d :: T, h => by
    have ih := kn_len (ns := ns) T fun e he => h e (List.mem_cons_of_mem _ he)
    have h1 := h d List.mem_cons_self
    have h2 : (kn ns d).length ≤ d.length := List.length_filter_le _ _
    simp only [List.map_cons, List.flatten_cons, List.length_append, List.length_cons]
    omega
theorem gt_keys {α : Type} {ks : List (Nm × α)} {n : Nm} : (gt ks n).isSome = decide (n ∈ ks.map (·.1)) := by
  induction ks with
  | nil => rfl
  | cons p r ih =>
    obtain ⟨k, v⟩ := p
    unfold gt
    by_cases h : k = n
    · subst h; simp
    · have : ¬ n = k := fun q => h q.symm
      rw [if_neg h, ih]; simp [this]
section
variable {u : U} {s : S} {cn : Nat} {fs : List (Nat × U)} {ks : List (Nm × Kn)}
theorem met_drops (hu : ∀ e, insOf u (s ++ e) = some (cn, fs)) (hk : fldGet 495874698859 fs = some (.dct false (KD ks))) (F : O) (x3 : U) (T : List (List Nm)) (hT : ∀ d ∈ T, d.length ≤ 4) (hl : T.length ≤ 12) (r0 : List Nm) (hr : r0.length ≤ 1000) (x4 : Option U) :
    ∃ y, loopM (gNm 4) lb_Net_met_2 (T.map uDrop) [some u, some (.ref s.length), some (.ref (s.length + 1)), some x3, x4, none] (s ++ [F, .lst (nms r0)]) = .nx [some u, some (.ref s.length), some (.ref (s.length + 1)), some x3, y, none] (s ++ [F, .lst (nms (r0 ++ (T.map (kn (ks.map (·.1)))).flatten))]) := by
  obtain ⟨l', s', e, y, rfl, rfl⟩ := loopM_inv (g := gNm 4) (body := lb_Net_met_2) (fun k l st => ∃ y, l = [some u, some (.ref s.length), some (.ref (s.length + 1)), some x3, y, none] ∧ st = s ++ [F, .lst (nms (r0 ++ ((T.take k).map (kn (ks.map (·.1)))).flatten))]) (T.map uDrop) 0 [some u, some (.ref s.length), some (.ref (s.length + 1)), some x3, x4, none] (s ++ [F, .lst (nms r0)]) ⟨x4, rfl, by simp⟩ fun i v l st hi hI => by
    obtain ⟨y, rfl, rfl⟩ := hI
    rw [List.getElem?_map] at hi
    cases e : T[i]? with
    | none => rw [e] at hi; cases hi
    | some d =>
      rw [e] at hi
      cases hi
      have hd : d ∈ T := List.mem_of_getElem? e
      have h4 := hT d hd
      have hiT : i < T.length := (List.getElem?_eq_some_iff.mp e).1
      have htk : (T.take (0 + i + 1)) = T.take (0 + i) ++ [d] := by
        rw [Nat.zero_add, List.take_add_one, e]; rfl
      have lenP : (((T.take (0 + i)).map (kn (ks.map (·.1)))).flatten).length ≤ 4 * T.length := by
        have := kn_len (ns := ks.map (·.1)) (T.take (0 + i)) fun d hd => hT d (List.mem_of_mem_take hd)
        have h2 : (T.take (0 + i)).length ≤ T.length := by rw [List.length_take]; omega
        omega
      generalize hP : ((T.take (0 + i)).map (kn (ks.map (·.1)))).flatten = P at lenP
      have hkd : (kn (ks.map (·.1)) d).length ≤ 4 := Nat.le_trans (List.length_filter_le _ _) h4
      have lc := lcGo_filter (g := .nm 5) (t := ct_Net_met_1) (e := ce_Net_met_0) (l := [some u, some (.ref s.length), some (.ref (s.length + 1)), some x3, some (uDrop d), none]) (p := fun v => match v with | .str t => decide (t ∈ ks.map (·.1)) | _ => false) (f := fun v => v) (s := s ++ [F, .lst (nms (r0 ++ P))]) (d.map U.str) fun v hv => by
        obtain ⟨t, ht, rfl⟩ := List.mem_map.mp hv
        refine ⟨[some u, some (.ref s.length), some (.ref (s.length + 1)), some x3, some (uDrop d), some (.str t)], rfl, ?_, fun _ => rfl⟩
        have h1 := inA_dct (f := uKnot) (l := ks) (u := .dct false (KD ks)) (s := s ++ [F, .lst (nms (r0 ++ P))]) (n := t) rfl
        rw [gt_keys] at h1
        simp only [ct_Net_met_1, mB, asB, eOp, eUn, mV, R.bind, gFld, hu, hk, liftG, gIn, h1, List.getElem?_cons_succ, List.getElem?_cons_zero]
      have hf : ((d.map U.str).filter (fun v => match v with | .str t => decide (t ∈ ks.map (·.1)) | _ => false)).map (fun v => v) = nms (kn (ks.map (·.1)) d) := by
        rw [List.map_id'', List.filter_map]
        · rfl
        · exact fun _ => rfl
      rw [hf] at lc
      refine ⟨[some u, some (.ref s.length), some (.ref (s.length + 1)), some x3, some (uDrop d), none], s ++ [F, .lst (nms (r0 ++ P))], [some u, some (.ref s.length), some (.ref (s.length + 1)), some x3, some (uDrop d), none], s ++ [F, .lst (nms (r0 ++ P ++ kn (ks.map (·.1)) d))], rfl, .inl ?_, ⟨_, rfl, ?_⟩⟩
      · have q1 : (kn (ks.map (·.1)) d).length ≤ 16777216 := by omega
        have q2 : r0.length + (P.length + (kn (ks.map (·.1)) d).length) ≤ 16777216 := by omega
        simp only [lb_Net_met_2, sExpr, FR, eMl, mV, R.bind, isLs, lstOf, ap1, Option.isSome_some, if_true, aCons, aNil, eLc, iFn, anyF, tupOf, wipeL, List.getElem?_cons_succ, List.getElem?_cons_zero, List.set_cons_succ, List.set_cons_zero, lc, mkL, sizeLine_eq, List.length_map, q1, liftG, gExtend, lstW, List.length_append, q2, st1, Bool.false_eq_true, if_false, Nat.add_assoc]
        simp only [List.map_append, List.append_assoc]
      · rw [htk, List.map_append, List.flatten_append, hP]; simp
  refine ⟨y, ?_⟩
  rw [e]
  simp [List.take_of_length_le]
end
end K07
/-! QC: met, Net(..). -/
namespace K07
open Mo PySem PySem.Spec PyProof.Rows L2
section
variable {u : U} {s : S} {cn : Nat} {fs : List (Nat × U)} {ks : List (Nm × Kn)} {is : List (Nm × Nm)}
/-- what the worklist keeps to -/
structure Wl (P : Nm → Prop) (ks : List (Nm × Kn)) (is : List (Nm × Nm)) (F R : List Nm) : Prop where
  fk : ∀ n ∈ F, n ∈ ks.map (·.1)
  rk : ∀ n ∈ R, n ∈ ks.map (·.1)
  ii : ∀ p ∈ is, p.2 ∈ F ∨ p.2 ∈ R
  cl : ∀ n ∈ F, ∀ d ∈ (gtD ks n).2, ∀ t ∈ d, t ∈ ks.map (·.1) → t ∈ F ∨ t ∈ R
  le : R.length + 49 * (nf (ks.map (·.1)) F).length ≤ 648
  fl : F.length + (nf (ks.map (·.1)) F).length ≤ 12
  fp : ∀ n ∈ F, P n
  rp : ∀ n ∈ R, P n
theorem gNe_nms (ns : List Nm) (v : U) (s : S) (hv : lstOf v s = some (nms ns)) (hs : ∀ x, v ≠ .str x) (ht : tupOf v = none) (hn : ∀ b, v ≠ .bl b) (hi : ∀ i, v ≠ .int i) (hz : v ≠ .non) : gNe v (.lst []) s = some (.bl (!decide (ns = [])), s) := by
  have e : dat deep s v = some (.lst (ns.map D.str)) := by
    have h1 : mapO (Mo.dat 39 s) (nms ns) = some (ns.map D.str) := mapO_map (f := Mo.dat 39 s) (g := U.str) (h := D.str) ns fun a _ => rfl
    unfold deep dat
    split
    · exact absurd rfl hz
    · exact absurd rfl (hn _)
    · exact absurd rfl (hi _)
    · exact absurd rfl (hs _)
    · rw [ht, hv]; simp only [h1]
  have e2 : dat deep s (.lst []) = some (.lst []) := rfl
  have e3 : okNe (.lst (ns.map D.str)) (.lst []) = true := by
    have := (Emb.str.lst).nod 40 ns (by decide)
    unfold okNe deep
    rw [this]; rfl
  unfold gNe
  rw [e, e2]
  simp only [e3, if_true]
  cases ns with
  | nil => rfl
  | cons n r => rfl
theorem fnd_len (F : List Nm) : (known F).length = F.length := by simp
theorem met_ok (hu : ∀ e, insOf u (s ++ e) = some (cn, fs)) (hu0 : insOf u s = some (cn, fs)) (hk : fldGet 495874698859 fs = some (.dct false (KD ks))) (hi : fldGet 126943755005545 fs = some (.dct false (ID is)))
    (lk : ks.length ≤ 12) (li : is.length ≤ 60) (hko : ∀ p ∈ ks, p.2.2.length ≤ 12 ∧ ∀ d ∈ p.2.2, d.length ≤ 4) (hin : ∀ p ∈ is, p.2 ∈ ks.map (·.1))
    {P : Nm → Prop} (hP0 : ∀ p ∈ is, P p.2) (hP1 : ∀ n ∈ ks.map (·.1), P n → ∀ d ∈ (gtD ks n).2, ∀ t ∈ d, t ∈ ks.map (·.1) → P t) :
    ∃ F : List Nm, m_Net_met [u] s = .ok (.ref s.length) (s ++ [.dct false (known F), .lst []]) ∧ (∀ p ∈ is, p.2 ∈ F) ∧ (∀ n ∈ F, ∀ d ∈ (gtD ks n).2, ∀ t ∈ d, t ∈ ks.map (·.1) → t ∈ F) ∧ ∀ n ∈ F, P n := by
  have w := whileM_inv (t := mB (eOp gNe (mV 2) (eLst false aNil))) (body := lb_Net_met_3) (fun n l st => ∃ (F R : List Nm) (x3 x4 : Option U), l = [some u, some (.ref s.length), some (.ref (s.length + 1)), x3, x4, none] ∧ st = s ++ [.dct false (known F), .lst (nms R)] ∧ Wl P ks is F R ∧ ((n = 0 ∧ R = []) ∨ n = 1 + (R.length + 49 * (nf (ks.map (·.1)) F).length)))
    (fun n l st hI => by
      obtain ⟨F, R, x3, x4, rfl, rfl, W, hn⟩ := hI
      have ne := gNe_nms R (.ref (s.length + 1)) (s ++ [.dct false (known F), .lst (nms R)]) (by simp [lstOf, ap1]) (by simp) rfl (by simp) (by simp) (by simp)
      have tst : (mB (eOp gNe (mV 2) (eLst false aNil))) [some u, some (.ref s.length), some (.ref (s.length + 1)), x3, x4, none] (s ++ [.dct false (known F), .lst (nms R)]) = .ok (!decide (R = [])) (s ++ [.dct false (known F), .lst (nms R)]) := by
        simp only [mB, asB, eOp, mV, Mo.R.bind, eLst, aNil, mkL, liftG, ne, sizeLine_eq, List.length_nil, Nat.zero_le, if_true, if_false, Bool.false_eq_true, List.getElem?_cons_succ, List.getElem?_cons_zero]
      by_cases e : R = []
      · subst e
        exact .inl ⟨_, tst, F, [], x3, x4, rfl, rfl, W, .inl ⟨rfl, rfl⟩⟩
      · right
        obtain ⟨R, x, rfl⟩ : ∃ R' x, R = R' ++ [x] := ⟨R.dropLast, R.getLast e, (List.dropLast_concat_getLast e).symm⟩
        have hn : n = 1 + ((R ++ [x]).length + 49 * (nf (ks.map (·.1)) F).length) := by
          rcases hn with ⟨_, h⟩ | h
          · exact absurd h e
          · exact h
        have pop : (eMl gPop (mV 2) aNil) [some u, some (.ref s.length), some (.ref (s.length + 1)), x3, x4, none] (s ++ [.dct false (known F), .lst (nms (R ++ [x]))]) = .ok (.str x) (s ++ [.dct false (known F), .lst (nms R)]) := by
          have h1 : (nms (R ++ [x]))[(nms (R ++ [x])).length - 1]? = some (.str x) := by simp
          have h2 : (nms (R ++ [x])).dropLast = nms R := by simp
          simp only [eMl, mV, Mo.R.bind, isLs, lstOf, ap1, Option.isSome_some, if_true, aNil, gPop, liftG, h1, h2, st1, List.getElem?_cons_succ, List.getElem?_cons_zero]
        have hin : inA (.str x) (.ref s.length) (s ++ [.dct false (known F), .lst (nms R)]) = some (decide (x ∈ F)) := inA_ns (g := fun _ => .bl true) (by simp [dctOf])
        have hxk : x ∈ ks.map (·.1) := W.rk x (by simp)
        by_cases hx : x ∈ F
        · refine ⟨s ++ [.dct false (known F), .lst (nms (R ++ [x]))], [some u, some (.ref s.length), some (.ref (s.length + 1)), some (.str x), x4, none], s ++ [.dct false (known F), .lst (nms R)], 1 + (R.length + 49 * (nf (ks.map (·.1)) F).length), by rw [tst]; simp, .inl ?_, by rw [hn]; simp, F, R, _, _, rfl, rfl, ⟨W.fk, fun m hm => W.rk m (by simp [hm]), fun p hp => ?_, fun m hm d hd t ht htk => ?_, ?_, W.fl, W.fp, fun m hm => W.rp m (by simp [hm])⟩, .inr rfl⟩
          · have : gNotIn (.str x) (.ref s.length) (s ++ [.dct false (known F), .lst (nms R)]) = some (.bl false, s ++ [.dct false (known F), .lst (nms R)]) := by
              unfold gNotIn; rw [hin]; simp [hx]
            simp only [lb_Net_met_3, sSeq, sAsg, FR, FG, pop, gNm, List.set_cons_succ, List.set_cons_zero, sIf, mB, asB, eOp, mV, Mo.R.bind, this, liftG, sSkip, List.getElem?_cons_succ, List.getElem?_cons_zero, Bool.false_eq_true, if_false]
          · rcases W.ii p hp with h | h
            · exact .inl h
            · rcases List.mem_append.mp h with h | h
              · exact .inr h
              · have : p.2 = x := by simpa using h
                rw [this]; exact .inl hx
          · rcases W.cl m hm d hd t ht htk with h | h
            · exact .inl h
            · rcases List.mem_append.mp h with h | h
              · exact .inr h
              · have : t = x := by simpa using h
                rw [this]; exact .inl hx
          · have := W.le; simp at this ⊢; omega
        · have hg := gt_some hxk
          obtain ⟨hT, h4⟩ := hko _ (gt_mem hg)
          have rl : (R ++ [x]).length ≤ 1000 := by have := W.le; omega
          obtain ⟨y, md⟩ := met_drops (u := u) (s := s) hu hk (.dct false (known (F ++ [x]))) (.str x) (gtD ks x).2 h4 hT R (by simp at rl; omega) x4
          have hT : (gtD ks x).2.length ≤ 12 := hT
          have rl2 : (R ++ [x]).length = R.length + 1 := by simp
          have klen := kn_len (ns := ks.map (·.1)) (gtD ks x).2 h4
          have nlt := nf_lt (ns := ks.map (·.1)) hx hxk
          have fl := W.fl
          have le := W.le
          refine ⟨s ++ [.dct false (known F), .lst (nms (R ++ [x]))], [some u, some (.ref s.length), some (.ref (s.length + 1)), some (.str x), y, none], s ++ [.dct false (known (F ++ [x])), .lst (nms (R ++ ((gtD ks x).2.map (kn (ks.map (·.1)))).flatten))], 1 + ((R ++ ((gtD ks x).2.map (kn (ks.map (·.1)))).flatten).length + 49 * (nf (ks.map (·.1)) (F ++ [x])).length), by rw [tst]; simp, .inl ?_, ?_, F ++ [x], R ++ ((gtD ks x).2.map (kn (ks.map (·.1)))).flatten, _, _, rfl, rfl, ⟨fun m hm => ?_, fun m hm => ?_, fun p hp => ?_, fun m hm d hd t ht htk => ?_, ?_, ?_, fun m hm => ?_, fun m hm => ?_⟩, .inr rfl⟩
          · have ni : gNotIn (.str x) (.ref s.length) (s ++ [.dct false (known F), .lst (nms R)]) = some (.bl true, s ++ [.dct false (known F), .lst (nms R)]) := by
              unfold gNotIn; rw [hin]; simp [hx]
            have pd : gPutD (.ref s.length) (.str x) (.bl true) (s ++ [.dct false (known F), .lst (nms R)]) = some (s ++ [.dct false (known (F ++ [x])), .lst (nms R)]) := by
              have h1 : dPut (known F) (.str x) (.bl true) = known (F ++ [x]) := by
                unfold dPut
                rw [dGet_ns, if_neg hx]; simp
              have h2 : (known F).length < 16777216 := by rw [fnd_len]; omega
              simp only [gPutD, ap0, kyOf, fits, sizeLine_eq, h2, and_self, if_true, h1, st0]
            have ix1 := p_ix_dct (f := uKnot) (l := ks) (u := .dct false (KD ks)) (s := s ++ [.dct false (known (F ++ [x])), .lst (nms R)]) rfl hg
            have ix2 : gIx (uKnot (gtD ks x)) (.int 1) (s ++ [.dct false (known (F ++ [x])), .lst (nms R)]) = some (uRow (gtD ks x).2, s ++ [.dct false (known (F ++ [x])), .lst (nms R)]) := rfl
            simp only [lb_Net_met_3, sSeq, sAsg, FR, FG, pop, gNm, List.set_cons_succ, List.set_cons_zero, sIf, mB, asB, eOp, eUn, mV, mK, Mo.R.bind, ni, liftG, sSkip, List.getElem?_cons_succ, List.getElem?_cons_zero, if_true, sPutD, FS, pd, sFor, iFn, gFld, hu, hk, ix1, ix2, anyF, tupOf]
            exact md
          · rw [hn, List.length_append (as := R) (bs := List.flatten _)]; omega
          · rcases List.mem_append.mp hm with h | h
            · exact W.fk m h
            · have : m = x := by simpa using h
              rw [this]; exact hxk
          · rcases List.mem_append.mp hm with h | h
            · exact W.rk m (by simp [h])
            · obtain ⟨l, hl, hml⟩ := List.mem_flatten.mp h
              obtain ⟨d, hd, rfl⟩ := List.mem_map.mp hl
              have := (List.mem_filter.mp hml).2
              simpa using this
          · rcases W.ii p hp with h | h
            · exact .inl (by simp [h])
            · rcases List.mem_append.mp h with h | h
              · exact .inr (by simp [h])
              · have : p.2 = x := by simpa using h
                rw [this]; exact .inl (by simp)
          · rcases List.mem_append.mp hm with h | h
            · rcases W.cl m h d hd t ht htk with h | h
              · exact .inl (by simp [h])
              · rcases List.mem_append.mp h with h | h
                · exact .inr (by simp [h])
                · have : t = x := by simpa using h
                  rw [this]; exact .inl (by simp)
            · have : m = x := by simpa using h
              subst this
              right
              refine List.mem_append_right _ (List.mem_flatten.mpr ⟨kn (ks.map (·.1)) d, List.mem_map.mpr ⟨d, hd, rfl⟩, List.mem_filter.mpr ⟨ht, by simpa using htk⟩⟩)
          · rw [List.length_append (as := R) (bs := List.flatten _)]; omega
          · simp; omega
          · rcases List.mem_append.mp hm with h | h
            · exact W.fp m h
            · have : m = x := by simpa using h
              rw [this]; exact W.rp x (by simp)
          · rcases List.mem_append.mp hm with h | h
            · exact W.rp m (by simp [h])
            · obtain ⟨l, hl, hml⟩ := List.mem_flatten.mp h
              obtain ⟨d, hd, rfl⟩ := List.mem_map.mp hl
              have hmm := List.mem_filter.mp hml
              exact hP1 x hxk (W.rp x (by simp)) d hd m hmm.1 (by simpa using hmm.2))
  have hv : gValsL true (.dct false (ID is)) (s ++ [.dct false []]) = some (.ref (s.length + 1), s ++ [.dct false [], .lst (nms (is.map (·.2)))]) := by
    have : is.length ≤ 16777216 := by omega
    simp [gValsL, dctOf, mkL, sizeLine_eq, this]
  have lm : nf (ks.map (·.1)) [] = ks.map (·.1) := by
    unfold nf
    rw [List.filter_eq_self]; simp
  obtain ⟨l', s', e, F, R, x3, x4, rfl, rfl, W, hn⟩ := w (1 + ((is.map (·.2)).length + 49 * (nf (ks.map (·.1)) []).length)) manyT [some u, some (.ref s.length), some (.ref (s.length + 1)), none, none, none] (s ++ [.dct false [], .lst (nms (is.map (·.2)))]) (many_lt (by rw [lm]; simp; omega))
    ⟨[], is.map (·.2), none, none, rfl, rfl, ⟨(fun n h => by cases h), (fun n h => by obtain ⟨p, hp, rfl⟩ := List.mem_map.mp h; exact hin p hp), (fun p hp => .inr (List.mem_map.mpr ⟨p, hp, rfl⟩)), (fun n h => by cases h), by rw [lm]; simp; omega, by rw [lm]; simp; omega, (fun n h => by cases h), (fun n h => by obtain ⟨p, hp, rfl⟩ := List.mem_map.mp h; exact hP0 p hp)⟩, .inr rfl⟩
  have hR : R = [] := by
    rcases hn with ⟨_, h⟩ | h
    · exact h
    · omega
  subst hR
  refine ⟨F, ?_, fun p hp => ?_, fun m hm d hd t ht htk => ?_, W.fp⟩
  · have h0 : insOf u (s ++ [.dct false []]) = some (cn, fs) := hu _
    simp [m_Net_met, b_Net_met, fnM, sSeq, sPar, FR, eD0, mkD, liftG, sizeLine_eq, eUn, mV, gFld, h0, hi, hv, sWhile, e, sRet, -List.map_map]
  · rcases W.ii p hp with h | h
    · exact h
    · cases h
  · rcases W.cl m hm d hd t ht htk with h | h
    · exact h
    · cases h
end
end K07
/-! QD: Net(..) of right parts. -/
namespace K07
open Mo PySem PySem.Spec PyProof.Rows L2
/-- the parts of a net, all right but that knots may not be met -/
structure NetP (ks : List (Nm × Kn)) (is : List (Nm × Nm)) (os : List Nm) : Prop where
  k1 : 1 ≤ ks.length
  k12 : ks.length ≤ 12
  i1 : is ≠ []
  il : is.length ≤ 20
  ol : os.length ≤ 20
  nl : ∀ n ∈ ks.map (·.1) ++ (os ++ is.map (·.1)), n.length ≤ 16
  nd : (ks.map (·.1) ++ (os ++ is.map (·.1))).Nodup
  fw : ∃ s, m_first_wrong [.lst (nms (ks.map (·.1) ++ (os ++ is.map (·.1))))] [] = .ok (.lst []) s
  kok : ∀ p ∈ ks, KnOk (ks.map (·.1) ++ os) p.2
  iin : ∀ p ∈ is, p.2 ∈ ks.map (·.1)
/-- .. and all are met -/
structure NetOk (ks : List (Nm × Kn)) (is : List (Nm × Nm)) (os : List Nm) : Prop extends NetP ks is os where
  reach : ∀ P : Nm → Prop, (∀ p ∈ is, P p.2) → (∀ n ∈ ks.map (·.1), P n → ∀ d ∈ (gtD ks n).2, ∀ t ∈ d, t ∈ ks.map (·.1) → P t) → ∀ n ∈ ks.map (·.1), P n
/-- a net's fields -/
def netF (ks : List (Nm × Kn)) (is : List (Nm × Nm)) (os : List Nm) : List (Nat × U) :=
  [(495874698859, .dct false (KD (srtP ks))), (126943755005545, .dct false (ID (srtP is))), (32497601281815919, .tup (nms (sortN os))), (495622906222, .lst (nms (sortN (ks.map (·.1)))))]
theorem srtP_keys {α : Type} [Inhabited α] (l : List (Nm × α)) : (srtP l).map (·.1) = sortN (l.map (·.1)) := by
  unfold srtP
  rw [List.map_map]
  show List.map (fun n => n) _ = _
  exact List.map_id' _
theorem ent_srtP {α : Type} [Inhabited α] (f : α → U) (l : List (Nm × α)) : ent f (srtP l) = (sortN (l.map (·.1))).map fun n => (Ky.str n, f (gtD l n)) := by
  unfold srtP
  show List.map _ (List.map _ _) = _
  rw [List.map_map]; rfl
theorem gt_srtP {α : Type} [Inhabited α] {l : List (Nm × α)} {n : Nm} (h : n ∈ l.map (·.1)) : gt (srtP l) n = some (gtD l n) := by
  unfold srtP
  have h := sortN_mem.mpr h
  generalize sortN (l.map (·.1)) = ns at h
  induction ns with
  | nil => cases h
  | cons m ns ih =>
    show (if m = n then some (gtD l m) else _) = _
    by_cases e : m = n
    · rw [if_pos e, e]
    · rw [if_neg e]
      rcases List.mem_cons.mp h with h | h
      · exact absurd h.symm e
      · exact ih h
theorem sSeq_nx {a b : SM} {l l1 : L} {s s1 : S} (h : a l s = .nx l1 s1) : sSeq a b l s = b l1 s1 := by
  unfold sSeq
  rw [h]
theorem mapK_ent {α β : Type} {f : U → Option β} {g : α → U} {h : α → β} (e : ∀ a, f (g a) = some (h a)) : ∀ l : List (Nm × α), mapK f (ent g l) = some (l.map fun p => (Ky.str p.1, h p.2))
  | [] => rfl
  | p :: l => by
    have ih := mapK_ent e l
    show (match f (g p.2) with
      | some d => (match mapK f (ent g l) with
        | some ds => some ((Ky.str p.1, d) :: ds)
        | none => none)
      | none => none) = _
    rw [e, ih]; rfl
theorem dat_dct {u : U} {s : S} {t : Bool} {kvs : List (Ky × U)} {ds : List (Ky × D)} {n : Nat} (h : dctOf u s = some (t, kvs)) (hm : mapK (Mo.dat n s) kvs = some ds) : Mo.dat (n + 1) s u = some (.dct t ds) := by
  rcases dctOf_cases h with rfl | ⟨i, rfl, e | e⟩
  · unfold Mo.dat; simp [tupOf, lstOf, dctOf, hm]
  all_goals unfold Mo.dat; simp [tupOf, lstOf, dctOf, e, hm]
theorem eq_nil_dct {u : U} {s : S} {α : Type} {g : α → U} {h : α → D} {l : List (Nm × α)} (hd : dctOf u s = some (false, ent g l)) (e : ∀ a, Mo.dat 39 s (g a) = some (h a)) (hl : l ≠ []) : gEq u (.dct false []) s = some (.bl false, s) := by
  have h1 : Mo.dat deep s u = some (.dct false (l.map fun p => (Ky.str p.1, h p.2))) := dat_dct (n := 39) hd (mapK_ent e l)
  have h2 : Mo.dat deep s (.dct false []) = some (.dct false []) := rfl
  unfold gEq ueq
  rw [h1, h2]
  cases l with
  | nil => exact absurd rfl hl
  | cons p l => rfl
section
variable {σ : List (Nat × U) → S} {i : Nat} {u1 u2 u3 : U} {ks : List (Nm × Kn)} {is : List (Nm × Nm)} {os : List Nm}
theorem fld_step (hσ : ∀ fs e, (σ fs ++ e)[i]? = some (.ins 7628110 fs)) (hset : ∀ fs fs', (σ fs).set i (.ins 7628110 fs') = σ fs') {f : Nat} {mv : EM} {l : L} {fs : List (Nat × U)} {v : U} (h : mv l (σ fs) = .ok v (σ fs)) (hl : l[0]? = some (some (.ref i))) (hf : fs.length < 900) :
    Mo.sFld 7628110 f (mV 0) mv l (σ fs) = .nx l (σ (fldPut f v fs)) := by
  have h0 : (σ fs)[i]? = some (.ins 7628110 fs) := by simpa using hσ fs []
  simp [Mo.sFld, FR, h, mV, hl, h0, hf, hset]
theorem init_core (hσ : ∀ fs e, (σ fs ++ e)[i]? = some (.ins 7628110 fs)) (hset : ∀ fs fs', (σ fs).set i (.ins 7628110 fs') = σ fs')
    (h1 : ∀ fs, dctOf u1 (σ fs) = some (false, KD ks)) (h2 : ∀ fs, dctOf u2 (σ fs) = some (false, ID is)) (h3 : ∀ fs, seqOf u3 (σ fs) = some (nms os))
    (lk : ∃ s', dctOf u1 s' = some (false, KD ks) ∧ dctOf u2 s' = some (false, ID is) ∧ dctF u2 s' = some (false, ID is) ∧ ∀ (b : SM) (l l' : L), l[2]? = some (some u2) → b l s' = .nx l' s' → sLk 2 b l (σ []) = .nx l' (σ []))
    (N : NetP ks is os) {P : Nm → Prop} (hP0 : ∀ p ∈ is, P p.2) (hP1 : ∀ n ∈ ks.map (·.1), P n → ∀ d ∈ (gtD ks n).2, ∀ t ∈ d, t ∈ ks.map (·.1) → P t) :
    ∃ (F : List Nm) (x7 : Option U), b_Net_init [some (.ref i), some u1, some u2, some u3, none, none, none, none] (σ []) = (sFor (iFn anyF (eUn (gFld 495622906222) (mV 0))) (gNm 6) lb_Net_init_0) [some (.ref i), some u1, some u2, some u3, some (.lst []), some (.dct false (known (ks.map (·.1) ++ os))), x7, some (.ref (σ (netF ks is os)).length)] (σ (netF ks is os) ++ [.dct false (known F), .lst []]) ∧
      (∀ p ∈ is, p.2 ∈ F) ∧ (∀ n ∈ F, ∀ d ∈ (gtD ks n).2, ∀ t ∈ d, t ∈ ks.map (·.1) → t ∈ F) ∧ ∀ n ∈ F, P n := by
  have hk : ks.length ≤ 12 := N.k12
  have hkl : (ks.map (·.1)).length = ks.length := List.length_map _
  have hil : (is.map (·.1)).length = is.length := List.length_map _
  have il := N.il
  have ol := N.ol
  have ndk : (ks.map (·.1)).Nodup := (List.nodup_append.mp N.nd).1
  have ndi : (is.map (·.1)).Nodup := (List.nodup_append.mp (List.nodup_append.mp N.nd).2.1).2.1
  have ndo : os.Nodup := (List.nodup_append.mp (List.nodup_append.mp N.nd).2.1).1
  have ndko : (ks.map (·.1) ++ os).Nodup := by
    have := N.nd
    rw [← List.append_assoc] at this
    exact (List.nodup_append.mp this).1
  have kk := keysOf_ent (f := uKnot) (l := ks) fun n hn => N.nl n (List.mem_append_left _ hn)
  have ki := keysOf_ent (f := U.str) (l := is) fun n hn => N.nl n (List.mem_append_right _ (List.mem_append_right _ hn))
  have st1 : ∀ fs, starOf u1 (σ fs) = some (nms (ks.map (·.1))) := fun fs => (dct_star (h1 fs)).trans kk
  have st2 : ∀ fs, starOf u2 (σ fs) = some (nms (is.map (·.1))) := fun fs => (dct_star (h2 fs)).trans ki
  have st3 : ∀ fs, starOf u3 (σ fs) = some (nms os) := fun fs => seq_star (h3 fs)
  have so1 : ∀ fs, gSorted false [u1] (σ fs) = some (.lst (nms (sortN (ks.map (·.1)))), σ fs) := fun fs => gSorted_nms (st1 fs) (by omega)
  have so2 : ∀ fs, gSorted false [u2] (σ fs) = some (.lst (nms (sortN (is.map (·.1)))), σ fs) := fun fs => gSorted_nms (st2 fs) (by omega)
  have so3 : ∀ fs, gSorted false [u3] (σ fs) = some (.lst (nms (sortN os)), σ fs) := fun fs => gSorted_nms (st3 fs) (by omega)
  have hlk := (sortN_perm (ks.map (·.1))).length_eq
  have hli := (sortN_perm (is.map (·.1))).length_eq
  have hlo := (sortN_perm os).length_eq
  -- the checks
  have e1 : (sIf (tOrM (tNotM (mB (eUn (gIsB [7628110] "dict") (mV 1)))) (tOrM (tNotM (mB (eChain gLe gLe (mK (.int 1)) (eN gLen (aCons (mV 1) aNil)) (mK (.int 12))))) (tNotM (mB (eUn (gIsB [7628110] "dict") (mV 2)))))) (sRaise1 127978455720258 1701667182 (mK .non)) sSkip) [some (.ref i), some u1, some u2, some u3, none, none, none, none] (σ []) = .nx [some (.ref i), some u1, some u2, some u3, none, none, none, none] (σ []) := by
    have g1 : (1 : Int) ≤ (ks.length : Int) := by have := N.k1; omega
    have g2 : (ks.length : Int) ≤ 12 := by omega
    simp [sIf, FR, tOrM, tNotM, mB, asB, eUn, eN, mV, mK, aCons, aNil, liftG, gIsB, dct_ty (h1 []), dct_ty (h2 []), isT, eChain, dct_len (h1 []), gLe, gCmp, g1, g2, sSkip, -List.map_map]
  have e2 : (sIf (tOrM (tNotM (mB (eUn (gIsBs [7628110] ["list", "tuple"]) (mV 3)))) (mB (eOp gEq (mV 2) (eD0 false false)))) (sRaise1 127978455720258 1701667182 (mK .non)) sSkip) [some (.ref i), some u1, some u2, some u3, none, none, none, none] (σ []) = .nx [some (.ref i), some u1, some u2, some u3, none, none, none, none] (σ []) := by
    have q := eq_nil_dct (h2 []) (h := D.str) (fun a => rfl) N.i1
    have g : gIsBs [7628110] ["list", "tuple"] u3 (σ []) = some (.bl true, σ []) := by
      unfold gIsBs
      rcases seq_ty (h3 []) with h | h <;> rw [h] <;> rfl
    simp [sIf, FR, tOrM, tNotM, mB, asB, eUn, eOp, mV, liftG, g, eD0, mkD, sizeLine_eq, q, sSkip, -List.map_map]
  have e3 : (sAsg (eCall (callP m_first_wrong) (aCons (eLst false (aStar (mV 1) (aStar (mV 3) (aStar (mV 2) aNil)))) aNil)) (gNm 4)) [some (.ref i), some u1, some u2, some u3, none, none, none, none] (σ []) = .nx [some (.ref i), some u1, some u2, some u3, some (.lst []), none, none, none] (σ []) := by
    obtain ⟨s', fw⟩ := N.fw
    have c := callP_ok (s := σ []) (show pus [.lst (nms (ks.map (·.1) ++ (os ++ is.map (·.1))))] = true by show (pus (nms _) && true) = true; rw [pus_nms]; rfl) fw rfl
    have hz : ks.length + (os.length + is.length) ≤ 16777216 := by omega
    simp only [List.map_append] at c
    simp [sAsg, FR, FG, eCall, aCons, aNil, eLst, aStar, mV, st1, st2, st3, mkL, sizeLine_eq, hz, liftG, c, gNm, -List.map_map]
  have e4 : (sIf (mB (eOp gNe (mV 4) (eLst false aNil))) (sRaise1 127978455720258 1701667182 (eOp gIx (mV 4) (mK (.int 0)))) sSkip) [some (.ref i), some u1, some u2, some u3, some (.lst []), none, none, none] (σ []) = .nx [some (.ref i), some u1, some u2, some u3, some (.lst []), none, none, none] (σ []) := by
    have q : gNe (.lst []) (.lst []) (σ []) = some (.bl false, σ []) := rfl
    simp [sIf, FR, mB, asB, eOp, mV, eLst, aNil, mkL, liftG, sizeLine_eq, q, sSkip, -List.map_map]
  have e5 : (sAsg (eDc false [6] (iFn anyF (eLst false (aStar (mV 1) (aStar (mV 3) aNil)))) (.nm 6) tAll (mV 6) ce_Net_init_5) (gNm 5)) [some (.ref i), some u1, some u2, some u3, some (.lst []), none, none, none] (σ []) = .nx [some (.ref i), some u1, some u2, some u3, some (.lst []), some (.dct false (known (ks.map (·.1) ++ os))), none, none] (σ []) := by
    have d := dcGo_nms (j := 6) (e := ce_Net_init_5) (l := [some (.ref i), some u1, some u2, some u3, some (.lst []), none, none, none]) (s := σ []) (g := fun _ => .bl true) (by simp) (ks.map (·.1) ++ os) [] ndko (fun _ _ => rfl) (by simp; omega) fun n _ => rfl
    have hz : ks.length + os.length ≤ 16777216 := by omega
    rw [List.nil_append] at d
    simp only [List.map_append] at d
    simp [sAsg, FR, FG, eDc, iFn, eLst, aStar, mV, st1, st3, aNil, mkL, sizeLine_eq, hz, liftG, anyF, tupOf, lstF, wipeL, d, mkD, gNm, -List.map_map]
  obtain ⟨x6, e6⟩ : ∃ x, (sFor (iFn anyF (eN (gSorted false) (aCons (mV 1) aNil))) (gNm 6) lb_Net_init_4) [some (.ref i), some u1, some u2, some u3, some (.lst []), some (.dct false (known (ks.map (·.1) ++ os))), none, none] (σ []) = .nx [some (.ref i), some u1, some u2, some u3, some (.lst []), some (.dct false (known (ks.map (·.1) ++ os))), x, none] (σ []) := by
    obtain ⟨x, e⟩ := loop_nms (j := 6) (body := lb_Net_init_4) (s := σ []) (nms (sortN (ks.map (·.1)))) [some (.ref i), some u1, some u2, some u3, some (.lst []), some (.dct false (known (ks.map (·.1) ++ os))), none, none] none rfl fun u hu => by
      obtain ⟨n, hn, rfl⟩ := List.mem_map.mp hu
      have hn := sortN_mem.mp hn
      have g := gt_some hn
      have ix := p_ix_dct (h1 []) g
      have kc := is_knot_call (N.kok _ (gt_mem g)) (σ [])
      simp only [List.map_append] at kc
      simp [lb_Net_init_4, sIf, FR, tNotM, mB, asB, eCall, aCons, aNil, eOp, mV, ix, liftG, kc, sSkip, -List.map_map]
    refine ⟨x, ?_⟩
    have e := e
    simp only [List.map_append] at e
    simp [sFor, iFn, eN, aCons, aNil, mV, so1, liftG, anyF, tupOf, lstF, FR, e, -List.map_map]
  obtain ⟨x7, e7⟩ : ∃ x, (sLk 2 (sFor (iFn anyF (mV 2)) (gNm 6) lb_Net_init_3)) [some (.ref i), some u1, some u2, some u3, some (.lst []), some (.dct false (known (ks.map (·.1) ++ os))), x6, none] (σ []) = .nx [some (.ref i), some u1, some u2, some u3, some (.lst []), some (.dct false (known (ks.map (·.1) ++ os))), x, none] (σ []) := by
    obtain ⟨s', l1, l2, l3, l4⟩ := lk
    obtain ⟨x, e⟩ := loop_nms (j := 6) (body := lb_Net_init_3) (s := s') (nms (is.map (·.1))) [some (.ref i), some u1, some u2, some u3, some (.lst []), some (.dct false (known (ks.map (·.1) ++ os))), x6, none] x6 rfl fun u hu => by
      obtain ⟨n, hn, rfl⟩ := List.mem_map.mp hu
      have g := gt_some hn
      have ix := p_ix_dct l2 g
      have hin : inA (.str (gtD is n)) u1 s' = some true := by
        rw [inA_dct l1, gt_keys]
        simpa using N.iin _ (gt_mem g)
      simp [lb_Net_init_3, sIf, FR, tOrM, tNotM, mB, asB, eUn, eOp, mV, ix, liftG, gIsB, tyU, isT, gNotIn, hin, sSkip, -List.map_map]
    refine ⟨x, l4 _ _ _ rfl ?_⟩
    have ha : anyF u2 s' = some (nms (is.map (·.1))) := by
      rcases dctOf_cases l2 with rfl | ⟨j, rfl, _⟩
      · simp [anyF, tupOf, lstF, keysF, dctF, ki]
      · simp [anyF, tupOf, lstF, keysF, l3, ki]
    show FR _ _ _ = _
    simp only [iFn, mV, List.getElem?_cons_succ, List.getElem?_cons_zero, ha, FR]
    exact e
  have e8 : ∀ x, (Mo.sFld 7628110 495874698859 (mV 0) (eDc false [6] (iFn anyF (eN (gSorted false) (aCons (mV 1) aNil))) (.nm 6) tAll (mV 6) ce_Net_init_2)) [some (.ref i), some u1, some u2, some u3, some (.lst []), some (.dct false (known (ks.map (·.1) ++ os))), x, none] (σ []) = .nx [some (.ref i), some u1, some u2, some u3, some (.lst []), some (.dct false (known (ks.map (·.1) ++ os))), x, none] (σ [(495874698859, .dct false (KD (srtP ks)))]) := fun x => by
    refine fld_step hσ hset ?_ rfl (by simp)
    have d := dcGo_nms (j := 6) (e := ce_Net_init_2) (l := [some (.ref i), some u1, some u2, some u3, some (.lst []), some (.dct false (known (ks.map (·.1) ++ os))), none, none]) (s := σ []) (g := fun n => uKnot (gtD ks n)) (by simp) (sortN (ks.map (·.1))) [] ((sortN_perm _).nodup_iff.mpr ndk) (fun _ _ => rfl) (by simp; omega) fun n hn => by
      have ix := p_ix_dct (h1 []) (gt_some (sortN_mem.mp hn))
      simp [ce_Net_init_2, eOp, mV, ix, liftG]
    have hz : (sortN (ks.map (·.1))).length ≤ 16777216 := by omega
    rw [List.nil_append, ← ent_srtP] at d
    have hz2 : (srtP ks).length ≤ 16777216 := by unfold srtP; simp; omega
    simp only [List.map_append] at d
    simp [eDc, iFn, eN, aCons, aNil, mV, so1, liftG, anyF, tupOf, lstF, wipeL, d, mkD, sizeLine_eq, hz2, -List.map_map]
  have e9 : ∀ x, (Mo.sFld 7628110 126943755005545 (mV 0) (eDc false [6] (iFn anyF (eN (gSorted false) (aCons (mV 2) aNil))) (.nm 6) tAll (mV 6) ce_Net_init_1)) [some (.ref i), some u1, some u2, some u3, some (.lst []), some (.dct false (known (ks.map (·.1) ++ os))), x, none] (σ [(495874698859, .dct false (KD (srtP ks)))]) = .nx [some (.ref i), some u1, some u2, some u3, some (.lst []), some (.dct false (known (ks.map (·.1) ++ os))), x, none] (σ [(495874698859, .dct false (KD (srtP ks))), (126943755005545, .dct false (ID (srtP is)))]) := fun x => by
    refine fld_step hσ hset ?_ rfl (by simp)
    have d := dcGo_nms (j := 6) (e := ce_Net_init_1) (l := [some (.ref i), some u1, some u2, some u3, some (.lst []), some (.dct false (known (ks.map (·.1) ++ os))), none, none]) (s := σ [(495874698859, .dct false (KD (srtP ks)))]) (g := fun n => U.str (gtD is n)) (by simp) (sortN (is.map (·.1))) [] ((sortN_perm _).nodup_iff.mpr ndi) (fun _ _ => rfl) (by simp; omega) fun n hn => by
      have ix := p_ix_dct (h2 [(495874698859, .dct false (KD (srtP ks)))]) (gt_some (sortN_mem.mp hn))
      simp [ce_Net_init_1, eOp, mV, ix, liftG]
    rw [List.nil_append, ← ent_srtP] at d
    have hz2 : (srtP is).length ≤ 16777216 := by unfold srtP; simp; omega
    simp only [List.map_append] at d
    simp [eDc, iFn, eN, aCons, aNil, mV, so2, liftG, anyF, tupOf, lstF, wipeL, d, mkD, sizeLine_eq, hz2, -List.map_map]
  have e10 : ∀ x, (Mo.sFld 7628110 32497601281815919 (mV 0) (eN gTupOf (aCons (eN (gSorted false) (aCons (mV 3) aNil)) aNil))) [some (.ref i), some u1, some u2, some u3, some (.lst []), some (.dct false (known (ks.map (·.1) ++ os))), x, none] (σ [(495874698859, .dct false (KD (srtP ks))), (126943755005545, .dct false (ID (srtP is)))]) = .nx [some (.ref i), some u1, some u2, some u3, some (.lst []), some (.dct false (known (ks.map (·.1) ++ os))), x, none] (σ [(495874698859, .dct false (KD (srtP ks))), (126943755005545, .dct false (ID (srtP is))), (32497601281815919, .tup (nms (sortN os)))]) := fun x => by
    refine fld_step hσ hset ?_ rfl (by simp)
    have hz2 : (sortN os).length ≤ 16777216 := by omega
    simp [eN, aCons, aNil, mV, so3, liftG, gTupOf, tupOf, lstOf, mkT, sizeLine_eq, hz2, -List.map_map]
  have hs0 : ∀ fs, (σ fs)[i]? = some (.ins 7628110 fs) := fun fs => by simpa using hσ fs []
  have e11 : ∀ x, (Mo.sFld 7628110 495622906222 (mV 0) (eN (gListOf false) (aCons (eUn (gFld 495874698859) (mV 0)) aNil))) [some (.ref i), some u1, some u2, some u3, some (.lst []), some (.dct false (known (ks.map (·.1) ++ os))), x, none] (σ [(495874698859, .dct false (KD (srtP ks))), (126943755005545, .dct false (ID (srtP is))), (32497601281815919, .tup (nms (sortN os)))]) = .nx [some (.ref i), some u1, some u2, some u3, some (.lst []), some (.dct false (known (ks.map (·.1) ++ os))), x, none] (σ (netF ks is os)) := fun x => by
    refine fld_step hσ hset ?_ rfl (by simp)
    have hz2 : (sortN (ks.map (·.1))).length ≤ 16777216 := by omega
    have kq := keysOf_ent (f := uKnot) (l := srtP ks) fun n hn => by
      rw [srtP_keys] at hn
      exact N.nl n (List.mem_append_left _ (sortN_mem.mp hn))
    rw [srtP_keys] at kq
    simp [eN, aCons, aNil, eUn, mV, gFld, insOf, hs0, fldGet, liftG, gListOf, seqOf, tupOf, lstOf, dctOf, kq, mkL, sizeLine_eq, hz2, -List.map_map]
  have fk : fldGet 495874698859 (netF ks is os) = some (.dct false (KD (srtP ks))) := rfl
  have fi : fldGet 126943755005545 (netF ks is os) = some (.dct false (ID (srtP is))) := rfl
  have gD : ∀ n ∈ ks.map (·.1), gtD (srtP ks) n = gtD ks n := fun n hn => by unfold gtD; rw [gt_srtP hn]; rfl
  have uniq : ∀ p ∈ is, gtD is p.1 = p.2 := fun p hp => by
    have hpm : p.1 ∈ is.map (·.1) := List.mem_map.mpr ⟨p, hp, rfl⟩
    have g := gt_some hpm
    have hu : ∀ (l : List (Nm × Nm)), (l.map (·.1)).Nodup → p ∈ l → gt l p.1 = some p.2 := fun l => by
      induction l with
      | nil => intro _ h; cases h
      | cons q l ih =>
        intro nd h
        obtain ⟨n1, n2⟩ := List.nodup_cons.mp nd
        show (if q.1 = p.1 then some q.2 else gt l p.1) = _
        rcases List.mem_cons.mp h with h | h
        · rw [if_pos (by rw [h]), h]
        · rw [if_neg (fun e => n1 (List.mem_map.mpr ⟨p, h, Eq.symm e⟩))]
          exact ih n2 h
    rw [hu is ndi hp] at g
    exact (Option.some.inj g).symm
  have inS : ∀ p ∈ srtP is, p ∈ is := fun p hp => by
    obtain ⟨n, hn, rfl⟩ := List.mem_map.mp hp
    exact gt_mem (gt_some (sortN_mem.mp hn))
  have inS' : ∀ p ∈ is, p ∈ srtP is := fun p hp => List.mem_map.mpr ⟨p.1, sortN_mem.mpr (List.mem_map.mpr ⟨p, hp, rfl⟩), by rw [uniq p hp]⟩
  obtain ⟨F, m1, m2, m3, m4⟩ := met_ok (u := .ref i) (s := σ (netF ks is os)) (cn := 7628110) (ks := srtP ks) (is := srtP is) (P := P) (fun e => by simp [insOf, hσ]) (by simp [insOf, hs0]) fk fi (by unfold srtP; simp; omega) (by unfold srtP; simp; omega)
    (fun p hp => by
      obtain ⟨n, hn, rfl⟩ := List.mem_map.mp hp
      have := N.kok _ (gt_mem (gt_some (sortN_mem.mp hn)))
      exact ⟨this.t, fun d hd => (this.dt d hd).1⟩)
    (fun p hp => by
      rw [srtP_keys]
      exact sortN_mem.mpr (N.iin _ (inS p hp)))
    (fun p hp => hP0 p (inS p hp))
    (fun n hn pn d hd t ht htk => by
      rw [srtP_keys] at hn htk
      have hn := sortN_mem.mp hn
      rw [gD n hn] at hd
      exact hP1 n hn pn d hd t ht (sortN_mem.mp htk))
  have m2' : ∀ p ∈ is, p.2 ∈ F := fun p hp => m2 p (inS' p hp)
  have m3' : ∀ n ∈ F, ∀ d ∈ (gtD ks n).2, ∀ t ∈ d, t ∈ ks.map (·.1) → t ∈ F := fun n hn d hd t ht htk => by
    by_cases hk : n ∈ ks.map (·.1)
    · exact m3 n hn d (by rw [gD n hk]; exact hd) t ht (by rw [srtP_keys]; exact sortN_mem.mpr htk)
    · have : gtD ks n = default := by unfold gtD; rw [gt_none hk]; rfl
      rw [this] at hd
      cases hd
  have e12 : ∀ x, (sAsg (eMeth0 7628141 t_met (mV 0)) (gNm 7)) [some (.ref i), some u1, some u2, some u3, some (.lst []), some (.dct false (known (ks.map (·.1) ++ os))), x, none] (σ (netF ks is os)) = .nx [some (.ref i), some u1, some u2, some u3, some (.lst []), some (.dct false (known (ks.map (·.1) ++ os))), x, some (.ref (σ (netF ks is os)).length)] (σ (netF ks is os) ++ [.dct false (known F), .lst []]) := fun x => by
    have q1 : fldGet 7628141 (netF ks is os) = none := rfl
    have q2 : lkT 7628110 t_met = some m_Net_met := rfl
    simp [sAsg, FR, FG, eMeth0, mV, insOf, hs0, q1, q2, m1, gNm]
  refine ⟨F, x7, ?_, m2', m3', m4⟩
  unfold b_Net_init
  rw [sSeq_nx e1, sSeq_nx e2, sSeq_nx e3, sSeq_nx e4, sSeq_nx e5, sSeq_nx e6, sSeq_nx e7, sSeq_nx (e8 _), sSeq_nx (e9 _), sSeq_nx (e10 _), sSeq_nx (e11 _), sSeq_nx (e12 _)]
theorem init_ok (hσ : ∀ fs e, (σ fs ++ e)[i]? = some (.ins 7628110 fs)) (hset : ∀ fs fs', (σ fs).set i (.ins 7628110 fs') = σ fs')
    (h1 : ∀ fs, dctOf u1 (σ fs) = some (false, KD ks)) (h2 : ∀ fs, dctOf u2 (σ fs) = some (false, ID is)) (h3 : ∀ fs, seqOf u3 (σ fs) = some (nms os))
    (lk : ∃ s', dctOf u1 s' = some (false, KD ks) ∧ dctOf u2 s' = some (false, ID is) ∧ dctF u2 s' = some (false, ID is) ∧ ∀ (b : SM) (l l' : L), l[2]? = some (some u2) → b l s' = .nx l' s' → sLk 2 b l (σ []) = .nx l' (σ []))
    (N : NetOk ks is os) : ∃ e, m_Net_init [.ref i, u1, u2, u3] (σ []) = .ok .non (σ (netF ks is os) ++ e) := by
  obtain ⟨F, x7, eq, m1, m2, _⟩ := init_core hσ hset h1 h2 h3 lk N.toNetP (P := fun _ => True) (fun _ _ => trivial) (fun _ _ _ _ _ _ _ _ => trivial)
  have m2 : ∀ n ∈ ks.map (·.1), n ∈ F := N.reach (fun n => n ∈ F) m1 (fun n _ hn d hd t ht htk => m2 n hn d hd t ht htk)
  obtain ⟨x13, e13⟩ : ∃ x, (sFor (iFn anyF (eUn (gFld 495622906222) (mV 0))) (gNm 6) lb_Net_init_0) [some (.ref i), some u1, some u2, some u3, some (.lst []), some (.dct false (known (ks.map (·.1) ++ os))), x7, some (.ref (σ (netF ks is os)).length)] (σ (netF ks is os) ++ [.dct false (known F), .lst []]) = .nx [some (.ref i), some u1, some u2, some u3, some (.lst []), some (.dct false (known (ks.map (·.1) ++ os))), x, some (.ref (σ (netF ks is os)).length)] (σ (netF ks is os) ++ [.dct false (known F), .lst []]) := by
    obtain ⟨x, e⟩ := loop_nms (j := 6) (body := lb_Net_init_0) (s := σ (netF ks is os) ++ [.dct false (known F), .lst []]) (nms (sortN (ks.map (·.1)))) [some (.ref i), some u1, some u2, some u3, some (.lst []), some (.dct false (known (ks.map (·.1) ++ os))), x7, some (.ref (σ (netF ks is os)).length)] x7 rfl fun u hu => by
      obtain ⟨n, hn, rfl⟩ := List.mem_map.mp hu
      have hin : inA (.str n) (.ref (σ (netF ks is os)).length) (σ (netF ks is os) ++ [.dct false (known F), .lst []]) = some true := by
        rw [inA_ns (g := fun _ => .bl true) (ns := F) (by simp [dctOf])]
        simp [m2 n (sortN_mem.mp hn)]
      simp [lb_Net_init_0, sIf, FR, mB, asB, eOp, mV, gNotIn, hin, liftG, sSkip]
    refine ⟨x, ?_⟩
    have fn : fldGet 495622906222 (netF ks is os) = some (.lst (nms (sortN (ks.map (·.1))))) := rfl
    have gf : gFld 495622906222 (.ref i) (σ (netF ks is os) ++ [.dct false (known F), .lst []]) = some (.lst (nms (sortN (ks.map (·.1)))), σ (netF ks is os) ++ [.dct false (known F), .lst []]) := by
      unfold gFld insOf
      simp only [hσ, fn]
    exact k_for (k_fn (k_un (k_v rfl) gf) rfl) e
  refine ⟨[.dct false (known F), .lst []], ?_⟩
  show (match b_Net_init [some (.ref i), some u1, some u2, some u3, none, none, none, none] (σ []) with
    | .nx _ s1 => R.ok U.non s1
    | .rt u s1 => .ok u s1
    | .ex x _ s1 => .ex x s1
    | _ => .no) = _
  rw [eq, e13]
end
end K07
/-! QE: draws. -/
namespace K07
open Mo PySem PySem.Spec PyProof.Rows L2
theorem draw_row (ns : List Int) (h63 : ns.length ≤ 63) (l : L) (h0 : l[0]? = some (some (.scr (ns.map U.int)))) : ∃ row : List Int, row ≠ [] ∧ row.length ≤ 60 ∧ (eIf (mB (eOp gNe (mV 0) (eLst false aNil))) (eSlH false (mV 0) (mK (.int 60))) (eLst false (aCons (mK (.int 7)) aNil))) l [] = .ok (.lst (row.map U.int)) [] := by
  have hd : Mo.dat deep [] (.scr (ns.map U.int)) = some (.lst (ns.map D.int)) := by
    show (match mapO (Mo.dat 39 []) (ns.map U.int) with
      | some ds => some (D.lst ds)
      | none => none) = _
    rw [mapO_map (f := Mo.dat 39 []) (g := U.int) (h := D.int) ns fun a _ => rfl]
  cases ns with
  | nil =>
    have e : gNe (.scr []) (.lst []) [] = some (.bl false, []) := rfl
    refine ⟨[7], by simp, by simp, ?_⟩
    simp [eIf, mB, asB, eOp, mV, h0, eLst, aNil, aCons, mK, liftG, mkL, sizeLine_eq, e]
  | cons n r =>
    have e : gNe (.scr ((n :: r).map U.int)) (.lst []) [] = some (.bl true, []) := by
      unfold gNe
      rw [hd]
      have : Mo.dat deep ([] : S) (.lst []) = some (.lst []) := rfl
      rw [this]
      have h1 : okNe (.lst ((n :: r).map D.int)) (.lst []) = true := by
        have := (Emb.int.lst).nod 40 (n :: r) (by decide)
        unfold okNe deep
        rw [this]; rfl
      simp only [h1, if_true]
      have h2 : deqO deep (.lst ((n :: r).map D.int)) (.lst []) = some false := rfl
      rw [h2]; rfl
    refine ⟨(n :: r).take 60, by simp, by simp; omega, ?_⟩
    have hc : cutU ((n :: r).map U.int) none (some 60) = ((n :: r).take 60).map U.int := by
      unfold cutU
      have h : HT.sIx ((n :: r).map U.int).length ((n :: r).map U.int).length (some 60) = min 60 (n :: r).length := by
        rw [List.length_map]; exact HT.sIx_nat _ _ 60
      rw [h, HT.sIx_none, List.drop_zero, Nat.sub_zero, ← List.map_take]
      congr 1
      rw [List.take_eq_take_iff]; omega
    simp only [List.map_cons] at e hc h0
    simp [eIf, mB, asB, eOp, mV, h0, eLst, aNil, aCons, mK, liftG, mkL, sizeLine_eq, e, eSlH, gSl, tupOf, lstOf, hc, show min 59 r.length ≤ 16777215 by omega]
theorem log2_le {n : Nat} (h : n < 2 ^ 100) : n.log2 ≤ 100 := by
  by_cases e : n = 0
  · subst e; decide
  · exact Nat.le_of_lt ((Nat.log2_lt e).mpr h)
theorem mul_ok {i j : Int} {s : S} (hi : i.natAbs < 2 ^ 100) (hj : j.natAbs < 2 ^ 100) : gMul false (.int i) (.int j) s = some (.int (i * j), s) := by
  have h1 := log2_le hi
  have h2 := log2_le hj
  simp only [gMul]
  rw [if_pos (by omega)]
theorem k_seq_rt {a b : SM} {l : L} {s s1 : S} {u : U} (h : a l s = .rt u s1) : sSeq a b l s = .rt u s1 := by unfold sSeq; rw [h]
theorem fnM_rt {n : Nat} {b : SM} {us : List U} {s s' : S} {u : U} (h : b (us.map some ++ List.replicate (n - us.length) none) s = .rt u s') : fnM n b us s = .ok u s' := by
  unfold fnM
  rw [h]
theorem draw_ok (ns : List Int) (h63 : ns.length ≤ 63) (a m : Nat) (ha : a ≤ 500) (hm : 0 < m) (hm2 : m ≤ 1000) : ∃ (d : Nat) (s' : S), d < m ∧ m__law_draw [.scr (ns.map U.int), .int a, .int m] [] = .ok (.int d) s' := by
  obtain ⟨row, r1, r2, e1⟩ := draw_row ns h63 [some (.scr (ns.map U.int)), some (.int a), some (.int m), none, none, none, none, none] rfl
  have hl : 0 < row.length := List.length_pos_iff.mpr r1
  obtain ⟨c, hc⟩ : ∃ c, row[a % row.length]? = some c := ⟨_, List.getElem?_eq_getElem (Nat.mod_lt _ hl)⟩
  have gl : gLen [.lst (row.map U.int)] [] = some (.int row.length, []) := by
    simp [gLen, seqOf, tupOf, lstOf]
  have glog : (row.length : Int).natAbs.log2 < 9000 := by
    have := log2_le (n := row.length) (by omega)
    simp; omega
  have hpos : (0 : Int) < (row.length : Int) := by omega
  have gm : gMod (.int a) (.int row.length) [] = some (.int ((a % row.length : Nat) : Int), []) := by
    simp [gMod, gI, hpos]; omega
  have gd : gFdiv (.int a) (.int row.length) [] = some (.int ((a / row.length : Nat) : Int), []) := by
    simp only [gFdiv, gI, hpos, glog, decide_true, Bool.and_self, if_true]; norm_cast
  have gx : gIx (.lst (row.map U.int)) (.int ((a % row.length : Nat) : Int)) [] = some (.int c, []) := by
    have : atI (row.map U.int) ((a % row.length : Nat) : Int) = some (.int c) := atI_nat (by rw [List.getElem?_map, hc]; rfl)
    simp only [gIx, dctOf, gIxI, seqOf, tupOf, lstOf, this]
  have s1 : (sAsg (eIf (mB (eOp gNe (mV 0) (eLst false aNil))) (eSlH false (mV 0) (mK (.int 60))) (eLst false (aCons (mK (.int 7)) aNil))) (gNm 3)) [some (.scr (ns.map U.int)), some (.int a), some (.int m), none, none, none, none, none] [] = .nx [some (.scr (ns.map U.int)), some (.int a), some (.int m), some (.lst (row.map U.int)), none, none, none, none] [] := by
    simp only [sAsg, e1, FR, FG, gNm]; rfl
  generalize hT : a / row.length = T at gd
  have hTa : T ≤ a := by rw [← hT]; exact Nat.div_le_self _ _
  have s2 : (sPar 5 6 (eOp gIx (mV 3) (eOp gMod (mV 1) (eN gLen (aCons (mV 3) aNil)))) (eOp gFdiv (mV 1) (eN gLen (aCons (mV 3) aNil)))) [some (.scr (ns.map U.int)), some (.int a), some (.int m), some (.lst (row.map U.int)), none, none, none, none] [] = .nx [some (.scr (ns.map U.int)), some (.int a), some (.int m), some (.lst (row.map U.int)), none, some (.int c), some (.int (T : Int)), none] [] := by
    simp only [sPar, FR, eOp, mV, eN, aCons, aNil, R.bind, List.getElem?_cons_succ, List.getElem?_cons_zero, gl, gm, gx, gd, liftG, List.set_cons_succ, List.set_cons_zero]
  have gp : ∀ s, gPow (.int 10) (.int 18) s = some (.int 1000000000000000000, s) := fun s => rfl
  have gq : ∀ s, ∃ q : Int, 0 < q ∧ gPow (.int 97) (.int 40) s = some (.int q, s) := fun s => ⟨97 ^ 40, by decide, rfl⟩
  have hm0 : (0 : Int) < (m : Int) := by omega
  have g97 : ∀ (x : Int) s, gMod (.int x) (.int 97) s = some (.int (x % 97), s) := fun x s => rfl
  have gmm : ∀ (x : Int) s, gMod (.int x) (.int m) s = some (.int (x % m), s) := fun x s => by simp only [gMod, gI, hm0, decide_true, if_true]
  have fin : ∀ x : Int, ∃ d : Nat, x % (m : Int) = (d : Int) ∧ d < m := fun x => ⟨(x % m).toNat, by have := Int.emod_nonneg x (by omega : (m : Int) ≠ 0); omega, by
    have h1 := Int.emod_nonneg x (by omega : (m : Int) ≠ 0)
    have h2 := Int.emod_lt_of_pos x hm0
    omega⟩
  by_cases big : c ≥ 1000000000000000000
  · obtain ⟨q, q0, q1⟩ := gq []
    have gmq : gMod (.int c) (.int q) [] = some (.int (c % q), []) := by simp [gMod, gI, q0]
    have g40 : gMod (.int (T : Int)) (.int 40) [] = some (.int ((T % 40 : Nat) : Int), []) := by
      show some (U.int ((T : Int) % 40), ([] : S)) = _
      norm_cast
    have hr : rg1 [.int ((T % 40 : Nat) : Int)] = some (rngU 0 1 (T % 40)) := by
      have h1 : -(2 ^ 62) ≤ ((T % 40 : Nat) : Int) ∧ ((T % 40 : Nat) : Int) < 2 ^ 62 := by omega
      unfold rg1
      simp only
      rw [if_pos h1, Int.toNat_natCast]
    obtain ⟨l', s', e, y, z, hl', rfl⟩ := loopM_inv (g := gNm 7) (body := lb__law_draw_0) (fun _ l s => ∃ (y : Int) (z : Option U), l = [some (.scr (ns.map U.int)), some (.int a), some (.int m), some (.lst (row.map U.int)), none, some (.int y), some (.int (T : Int)), z] ∧ s = []) (rngU 0 1 (T % 40)) 0 [some (.scr (ns.map U.int)), some (.int a), some (.int m), some (.lst (row.map U.int)), none, some (.int (c % q)), some (.int (T : Int)), none] [] ⟨_, _, rfl, rfl⟩ fun i u l s _ hI => by
      obtain ⟨y, z, rfl, rfl⟩ := hI
      have g : gFdiv (.int y) (.int 97) [] = some (.int (y / 97), []) := by
        have : ((97 : Int).natAbs.log2 < 9000) := by decide
        have p : (0 : Int) < 97 := by decide
        simp only [gFdiv, gI, p, this, decide_true, Bool.and_self, if_true]
      refine ⟨_, _, _, _, rfl, .inl ?_, y / 97, some u, rfl, rfl⟩
      exact k_asg (k_op (k_v rfl) rfl g) rfl
    subst hl'
    obtain ⟨d, d1, d2⟩ := fin (y % 97)
    refine ⟨d, [], d2, fnM_rt (b := b__law_draw) ?_⟩
    show b__law_draw [some (.scr (ns.map U.int)), some (.int a), some (.int m), none, none, none, none, none] [] = _
    unfold b__law_draw
    rw [sSeq_nx s1, sSeq_nx s2]
    have gg : gGe (.int c) (.int 1000000000000000000) [] = some (.bl true, []) := by simp [gGe, gCmp]; exact big
    refine k_seq_rt (k_ifT (k_b (k_op (k_v rfl) (k_op rfl rfl (gp _)) gg)) ?_)
    refine k_seq (k_asg (k_op (k_n (k_cons (k_v rfl) k_nil) rfl) (k_op rfl rfl q1) gmq) rfl) ?_
    refine k_seq (k_for (k_fnA (k_cons (k_op (k_v rfl) rfl g40) k_nil) hr) e) ?_
    exact k_ret (k_op (k_op (k_n (k_cons (k_v rfl) k_nil) rfl) rfl (g97 _ _)) (k_v rfl) ((gmm _ _).trans (by rw [d1])))
  · have gg : gGe (.int c) (.int 1000000000000000000) [] = some (.bl false, []) := by simp [gGe, gCmp]; omega
    have k1 : gMul false (.int 31) (.int (T : Int)) [] = some (.int (31 * (T : Int)), []) := mul_ok (by decide) (by omega)
    have k2 : gMul false (.int 977) (.int (a : Int)) [] = some (.int (977 * (a : Int)), []) := mul_ok (by decide) (by omega)
    have m1 : ∀ x : Int, gMod (.int x) (.int 1000003) [] = some (.int (x % 1000003), []) := fun _ => rfl
    have m2 : ∀ x : Int, gMod (.int x) (.int 999983) [] = some (.int (x % 999983), []) := fun _ => rfl
    have m3 : ∀ x : Int, gMod (.int x) (.int 2147483647) [] = some (.int (x % 2147483647), []) := fun _ => rfl
    have m4 : ∀ x : Int, gMod (.int x) (.int 4294967291) [] = some (.int (x % 4294967291), []) := fun _ => rfl
    have f1 : gFdiv (.int c) (.int 1000003) [] = some (.int (c / 1000003), []) := by
      have : ((1000003 : Int).natAbs.log2 < 9000) := by decide
      have p : (0 : Int) < 1000003 := by decide
      simp only [gFdiv, gI, p, this, decide_true, Bool.and_self, if_true]
    generalize hz1 : (c + 31 * (T : Int)) % 1000003 = z1
    have b1 : 0 ≤ z1 ∧ z1 < 1000003 := by omega
    have k3 : gMul false (.int (z1 + 977 * (a : Int) + 13)) (.int 48271) [] = some (.int ((z1 + 977 * (a : Int) + 13) * 48271), []) := mul_ok (by omega) (by decide)
    generalize hz2 : ((z1 + 977 * (a : Int) + 13) * 48271 + c / 1000003 % 999983) % 2147483647 = z2
    have b2 : 0 ≤ z2 ∧ z2 < 2147483647 := by omega
    have k4 : gMul false (.int z2) (.int 65537) [] = some (.int (z2 * 65537), []) := mul_ok (by omega) (by decide)
    obtain ⟨d, d1, d2⟩ := fin (z2 * 65537 % 4294967291)
    refine ⟨d, [], d2, fnM_rt (b := b__law_draw) ?_⟩
    show b__law_draw [some (.scr (ns.map U.int)), some (.int a), some (.int m), none, none, none, none, none] [] = _
    unfold b__law_draw
    rw [sSeq_nx s1, sSeq_nx s2]
    refine k_seq (k_ifF (k_b (k_op (k_v rfl) (k_op rfl rfl (gp _)) gg)) rfl) ?_
    refine k_seq (k_asg (k_op (k_op (k_op (k_op (k_op (k_n (k_cons (k_op (k_v rfl) (k_op rfl (k_v rfl) k1) rfl) k_nil) rfl) rfl ((m1 _).trans (by rw [hz1]))) (k_op rfl (k_v rfl) k2) rfl) rfl rfl) rfl k3) (k_op (k_n (k_cons (k_op (k_v rfl) rfl f1) k_nil) rfl) rfl (m2 _)) rfl) rfl) ?_
    exact k_ret (k_op (k_n (k_cons (k_op (k_op (k_op (k_v rfl) rfl ((m3 _).trans (by rw [hz2]))) rfl k4) rfl (m4 _)) k_nil) rfl) (k_v rfl) ((gmm _ _).trans (by rw [d1])))
/-- the draw at a place, below m -/
def drw (ns : List Int) (a m : Nat) : Nat := match m__law_draw [.scr (ns.map U.int), .int a, .int m] [] with
  | .ok (.int d) _ => d.toNat
  | _ => 0
theorem drw_ok {ns : List Int} (h63 : ns.length ≤ 63) {a m : Nat} {z w : Int} (hz : z = a) (hw : w = m) (ha : a ≤ 500) (hm : 0 < m) (hm2 : m ≤ 1000) (s : S) : callP m__law_draw [.scr (ns.map U.int), .int z, .int w] s = .ok (.int (drw ns a m)) s := by
  obtain ⟨d, s', h1, h2⟩ := draw_ok ns h63 a m ha hm hm2
  subst hz hw
  have : drw ns a m = d := by unfold drw; rw [h2]; simp
  rw [this]
  refine callP_ok ?_ h2 rfl
  show (pus (ns.map U.int) && true) = true
  rw [pus_ints]; rfl
theorem drw_lt {ns : List Int} (h63 : ns.length ≤ 63) {a m : Nat} (ha : a ≤ 500) (hm : 0 < m) (hm2 : m ≤ 1000) : drw ns a m < m := by
  obtain ⟨d, s', h1, h2⟩ := draw_ok ns h63 a m ha hm hm2
  have : drw ns a m = d := by unfold drw; rw [h2]; simp
  omega
end K07
/-! QF: drawn knots. -/
namespace K07
open Mo PySem PySem.Spec PyProof.Rows L2
theorem k_int {m : EM} {l : L} {s s1 : S} {z z' : Int} (h : m l s = .ok (.int z) s1) (e : z = z') : m l s = .ok (.int z') s1 := by rw [h, e]
theorem k_addT2 {us vs : List U} {s : S} (h : us.length + vs.length ≤ 1000) : gAdd false (.tup us) (.tup vs) s = some (.tup (us ++ vs), s) := by
  obtain ⟨w, h1, h2⟩ := k_addT (s := s) h
  rw [h1, h2]
theorem k_tupOf {us : List U} {s : S} (h : us.length ≤ 1000) : gTupOf [.lst us] s = some (.tup us, s) := by
  have : us.length ≤ 16777216 := by omega
  simp [gTupOf, tupOf, lstOf, mkT, sizeLine_eq, this]
theorem k_tupOfR {us : List U} {i : Nat} {s : S} (e : s[i]? = some (.lst us)) (h : us.length ≤ 1000) : gTupOf [.ref i] s = some (.tup us, s) := by
  have : us.length ≤ 16777216 := by omega
  simp [gTupOf, tupOf, lstOf, e, mkT, sizeLine_eq, this]
theorem k_lenL {us : List U} {s : S} : gLen [.lst us] s = some (.int us.length, s) := by simp [gLen, seqOf, tupOf, lstOf]
theorem k_ixL {us : List U} {d : Nat} {u : U} {s : S} (h : us[d]? = some u) : gIx (.lst us) (.int d) s = some (u, s) := by
  have : atI us (d : Int) = some u := atI_nat h
  simp only [gIx, dctOf, gIxI, seqOf, tupOf, lstOf, this]
theorem k_ixT {us : List U} {d : Nat} {u : U} {s : S} (h : us[d]? = some u) : gIx (.tup us) (.int d) s = some (u, s) := by
  have : atI us (d : Int) = some u := atI_nat h
  simp only [gIx, dctOf, gIxI, seqOf, tupOf, this]
theorem k_ixR {us : List U} {i d : Nat} {u : U} {s : S} (e : s[i]? = some (.lst us)) (h : us[d]? = some u) : gIx (.ref i) (.int d) s = some (u, s) := by
  have : atI us (d : Int) = some u := atI_nat h
  simp only [gIx, dctOf, e, gIxI, seqOf, tupOf, lstOf, this]
theorem rng_get {n i : Nat} {u : U} (h : (rngU 0 1 n)[i]? = some u) : u = .int i ∧ i < n := by
  unfold rngU at h
  rw [List.getElem?_map] at h
  cases e : (List.range n)[i]? with
  | none => rw [e] at h; cases h
  | some j =>
    rw [e] at h
    obtain ⟨h1, h2⟩ := List.getElem?_eq_some_iff.mp e
    simp at h1 h2
    subst h2
    simp at h
    exact ⟨h.symm, h1⟩
theorem k_loop {g : GM} {b : SM} {u : U} {us : List U} {l l1 l2 : L} {s s1 s2 : S} {o : F} (h1 : g u l s = some (l1, s1)) (h2 : b l1 s1 = .nx l2 s2) (h3 : loopM g b us l2 s2 = o) : loopM g b (u :: us) l s = o := by
  unfold loopM
  rw [h1]; simp only [h2]; exact h3
def manyOf (d : Nat) : Nat := match d with
  | 0 => 1
  | 1 => 1
  | 2 => 1
  | 3 => 0
  | _ => 2
theorem many_ix {d : Nat} (h : d < 5) {s : S} : gIx (.tup [.int 1, .int 1, .int 1, .int 0, .int 2]) (.int d) s = some (.int (manyOf d), s) := by
  refine k_ixT ?_
  match d, h with
  | 0, _ => rfl
  | 1, _ => rfl
  | 2, _ => rfl
  | 3, _ => rfl
  | 4, _ => rfl
theorem many_le (d : Nat) : manyOf d ≤ 2 := by unfold manyOf; split <;> omega
variable {ns : List Int} {tg : List Nm}
def dropD (ns : List Int) (tg : List Nm) (f t : Nat) : List Nm := (List.range (manyOf (drw ns (f + 4 + 5 * t) 5))).map fun one => tg.getD (drw ns (f + 5 + 5 * t + one) tg.length) []
def rowD (ns : List Int) (tg : List Nm) (f n : Nat) : List (List Nm) := (List.range n).map (dropD ns tg f)
theorem turn_ok (h63 : ns.length ≤ 63) (ht0 : 0 < tg.length) (ht1 : tg.length ≤ 10) {f t : Nat} (hf : f ≤ 300) (ht : t ≤ 10) {pre : S} {acc : List U} (ha : acc.length ≤ 20) {x1 x2 x3 x4 x6 x7 x8 x9 x10 x14 x15 : Option U} :
    lb__law_knots_1 [some (.scr (ns.map U.int)), x1, x2, x3, x4, some (.lst (nms tg)), x6, x7, x8, x9, x10, some (.int t), some (.ref pre.length), some (.int f), x14, x15] (pre ++ [.lst acc]) =
      .nx [some (.scr (ns.map U.int)), x1, x2, x3, x4, some (.lst (nms tg)), x6, x7, x8, x9, x10, some (.int t), some (.ref pre.length), some (.int f), some (.int (manyOf (drw ns (f + 4 + 5 * t) 5))), x15] (pre ++ [.lst (acc ++ [uDrop (dropD ns tg f t)])]) := by
  have hd5 := drw_lt h63 (a := f + 4 + 5 * t) (m := 5) (by omega) (by omega) (by omega)
  have hm := many_le (drw ns (f + 4 + 5 * t) 5)
  have ll : (pre ++ [O.lst acc])[pre.length]? = some (.lst acc) := by simp
  refine k_seq (k_asg (k_op (k_tup (us := [.int 1, .int 1, .int 1, .int 0, .int 2]) rfl (by decide)) (k_call (k_cons (k_v rfl) (k_cons (k_op (k_op (k_v rfl) rfl rfl) (k_op rfl (k_v rfl) (mul_ok (by decide) (by omega))) rfl) (k_cons rfl k_nil))) (drw_ok h63 (a := f + 4 + 5 * t) (m := 5) (by omega) rfl (by omega) (by omega) (by omega) _)) (many_ix hd5)) rfl) ?_
  have lc := lcGo_map (g := .nm 15) (e := ce__law_knots_0) (l := [some (.scr (ns.map U.int)), x1, x2, x3, x4, some (.lst (nms tg)), x6, x7, x8, x9, x10, some (.int t), some (.ref pre.length), some (.int f), some (.int (manyOf (drw ns (f + 4 + 5 * t) 5))), none]) (f := fun v => match v with
    | .int j => .str (tg.getD (drw ns (f + 5 + 5 * t + j.toNat) tg.length) [])
    | _ => .non) (s := pre ++ [.lst acc]) (rngU 0 1 (manyOf (drw ns (f + 4 + 5 * t) 5))) fun u hu => by
    obtain ⟨i, hi⟩ := List.mem_iff_getElem?.mp hu
    obtain ⟨rfl, hi⟩ := rng_get hi
    have hd := drw_lt h63 (a := f + 5 + 5 * t + i) (m := tg.length) (by omega) ht0 (by omega)
    refine ⟨_, rfl, k_op (k_v rfl) (k_call (k_cons (k_v rfl) (k_cons (k_op (k_op (k_op (k_v rfl) rfl rfl) (k_op rfl (k_v rfl) (mul_ok (by decide) (by omega))) rfl) (k_v rfl) rfl) (k_cons (k_n (k_cons (k_v rfl) k_nil) k_lenL) k_nil))) (drw_ok h63 (a := f + 5 + 5 * t + i) (m := tg.length) (by omega) (by simp) (by omega) ht0 (by omega) _)) (k_ixL ?_)⟩
    simp only [List.getElem?_map, Int.toNat_natCast, List.getD_eq_getElem?_getD, List.getElem?_eq_getElem hd, Option.map_some, Option.getD_some]
  have hmap : (rngU 0 1 (manyOf (drw ns (f + 4 + 5 * t) 5))).map (fun v => match v with
    | .int j => U.str (tg.getD (drw ns (f + 5 + 5 * t + j.toNat) tg.length) [])
    | _ => .non) = (dropD ns tg f t).map U.str := by
    unfold rngU dropD
    rw [List.map_map, List.map_map]
    apply List.map_congr_left
    intro j _
    simp
  rw [hmap] at lc
  have hlen : ((dropD ns tg f t).map U.str).length ≤ 1000 := by
    unfold dropD
    simp
    omega
  refine (k_expr (k_ml (k_v rfl) (by simp [isLs, lstOf]) (k_cons (k_n (k_cons (k_lc (k_fnA (k_cons (k_v rfl) k_nil) (k_rg rfl (by omega))) lc (k_mkL hlen)) k_nil) (k_tupOf hlen)) k_nil) (k_append ll (by omega)))).trans ?_
  simp
theorem row_ok (h63 : ns.length ≤ 63) (ht0 : 0 < tg.length) (ht1 : tg.length ≤ 10) {f n : Nat} (hf : f ≤ 300) (hn : n ≤ 6) {pre : S} {x1 x2 x3 x4 x6 x7 x8 x9 x10 x11 x14 x15 : Option U} :
    ∃ y11 y14 y15, loopM (gNm 11) lb__law_knots_1 (rngU 0 1 n) [some (.scr (ns.map U.int)), x1, x2, x3, x4, some (.lst (nms tg)), x6, x7, x8, x9, x10, x11, some (.ref pre.length), some (.int f), x14, x15] (pre ++ [.lst []]) =
      .nx [some (.scr (ns.map U.int)), x1, x2, x3, x4, some (.lst (nms tg)), x6, x7, x8, x9, x10, y11, some (.ref pre.length), some (.int f), y14, y15] (pre ++ [.lst ((rowD ns tg f n).map uDrop)]) := by
  obtain ⟨l', s', e, y1, y2, y3, rfl, rfl⟩ := loopM_inv (g := gNm 11) (body := lb__law_knots_1) (fun k l st => ∃ y1 y2 y3, l = [some (.scr (ns.map U.int)), x1, x2, x3, x4, some (.lst (nms tg)), x6, x7, x8, x9, x10, y1, some (.ref pre.length), some (.int f), y2, y3] ∧ st = pre ++ [.lst (((List.range (min k 6)).map (dropD ns tg f)).map uDrop)]) (rngU 0 1 n) 0 [some (.scr (ns.map U.int)), x1, x2, x3, x4, some (.lst (nms tg)), x6, x7, x8, x9, x10, x11, some (.ref pre.length), some (.int f), x14, x15] (pre ++ [.lst []]) ⟨x11, x14, x15, rfl, rfl⟩ fun i u l st hi hI => by
    obtain ⟨y1, y2, y3, rfl, rfl⟩ := hI
    obtain ⟨rfl, hin⟩ := rng_get hi
    refine ⟨_, _, _, _, rfl, .inl (turn_ok h63 ht0 ht1 hf (t := i) (by omega) (by simp; omega)), _, _, _, rfl, ?_⟩
    have e1 : min (0 + i + 1) 6 = i + 1 := by omega
    have e2 : min (0 + i) 6 = i := by omega
    rw [e1, e2, List.range_succ]
    simp
  refine ⟨y1, y2, y3, ?_⟩
  rw [e]
  have e1 : min (0 + (rngU 0 1 n).length) 6 = n := by unfold rngU; simp; omega
  rw [e1]; rfl
def cntD (ns : List Int) (p f : Nat) : Nat := p + drw ns f 3
theorem part_ok (h63 : ns.length ≤ 63) (ht0 : 0 < tg.length) (ht1 : tg.length ≤ 10) {at_ sp p : Nat} (ha : at_ ≤ 100) (hs : sp ≤ 4) (hp : p = 0 ∨ p = 1) {st : S} {k : Nat} {rows : List U} (hk : st[k]? = some (.lst rows)) (hr : rows.length ≤ 20) {x2 x3 x4 x7 x10 x11 x12 x13 x14 x15 : Option U} :
    ∃ y11 y12 y13 y14 y15 e, lb__law_knots_2 [some (.scr (ns.map U.int)), some (.int at_), x2, x3, x4, some (.lst (nms tg)), some (.int sp), x7, some (.ref k), some (.int p), x10, x11, x12, x13, x14, x15] st =
      .nx [some (.scr (ns.map U.int)), some (.int at_), x2, x3, x4, some (.lst (nms tg)), some (.int sp), x7, some (.ref k), some (.int p), x10, y11, y12, y13, y14, y15] (st.set k (.lst (rows ++ [uRow (rowD ns tg (at_ + 10 + 40 * sp + 12 * p) (cntD ns p (at_ + 10 + 40 * sp + 12 * p)))])) ++ [e]) := by
  have hf : at_ + 10 + 40 * sp + 12 * p ≤ 300 := by omega
  have hd3 := drw_lt h63 (a := at_ + 10 + 40 * sp + 12 * p) (m := 3) (by omega) (by omega) (by omega)
  generalize hfe : at_ + 10 + 40 * sp + 12 * p = f at hf hd3
  have hc : cntD ns p f ≤ 6 := by unfold cntD; omega
  obtain ⟨y11, y14, y15, lp⟩ := row_ok h63 ht0 ht1 hf hc (pre := st) (x1 := some (.int at_)) (x2 := x2) (x3 := x3) (x4 := x4) (x6 := some (.int sp)) (x7 := x7) (x8 := some (.ref k)) (x9 := some (.int p)) (x10 := x10) (x11 := x11) (x14 := x14) (x15 := x15)
  have hkl : k < st.length := (List.getElem?_eq_some_iff.mp hk).1
  have hk2 : ∀ e : S, (st ++ e)[k]? = some (.lst rows) := fun e => by rw [List.getElem?_append_left hkl]; exact hk
  refine ⟨y11, some (.ref st.length), some (.int f), y14, y15, .lst ((rowD ns tg f (cntD ns p f)).map uDrop), ?_⟩
  refine k_seq (k_asg (u := .tup [.ref st.length, .int f]) (s1 := st ++ [.lst []]) (k_tup (k_cons (k_lst k_nil (k_mkLT (by decide))) (k_cons (k_int (k_op (k_op (k_op (k_v rfl) rfl rfl) (k_op rfl (k_v rfl) (mul_ok (by decide) (by omega))) rfl) (k_op rfl (k_v rfl) (mul_ok (by decide) (by omega))) rfl) (by omega)) k_nil)) (by simp)) rfl) ?_
  have dr := drw_ok h63 (a := f) (m := 3) (z := f) (w := 3) rfl rfl (by omega) (by omega) (by omega) (st ++ [.lst []])
  have cnt : (eIf (mB (eOp gEq (mV 9) (mK (.int 0)))) (eCall (callP m__law_draw) (aCons (mV 0) (aCons (mV 13) (aCons (mK (.int 3)) aNil)))) (eOp (gAdd false) (mK (.int 1)) (eCall (callP m__law_draw) (aCons (mV 0) (aCons (mV 13) (aCons (mK (.int 3)) aNil)))))) [some (.scr (ns.map U.int)), some (.int at_), x2, x3, x4, some (.lst (nms tg)), some (.int sp), x7, some (.ref k), some (.int p), x10, x11, some (.ref st.length), some (.int f), x14, x15] (st ++ [.lst []]) = .ok (.int (cntD ns p f)) (st ++ [.lst []]) := by
    rcases hp with rfl | rfl
    · refine k_ifE (x := true) (k_b (k_op (k_v rfl) rfl rfl)) ?_
      exact k_int (k_call (k_cons (k_v rfl) (k_cons (k_v rfl) (k_cons rfl k_nil))) dr) (by unfold cntD; omega)
    · refine k_ifE (x := false) (k_b (k_op (k_v rfl) rfl rfl)) ?_
      exact k_int (k_op rfl (k_call (k_cons (k_v rfl) (k_cons (k_v rfl) (k_cons rfl k_nil))) dr) rfl) (by unfold cntD; omega)
  refine k_seq (k_for (k_fnA (k_cons cnt k_nil) (k_rg rfl (by omega))) lp) ?_
  have hrl : ((rowD ns tg f (cntD ns p f)).map uDrop).length ≤ 1000 := by unfold rowD; simp; omega
  refine (k_expr (k_ml (k_v rfl) (by simp [isLs, lstOf, hk2]) (k_cons (k_n (k_cons (k_v rfl) k_nil) (k_tupOfR (us := (rowD ns tg f (cntD ns p f)).map uDrop) (by simp) hrl)) k_nil) (k_append (hk2 _) (by omega)))).trans ?_
  rw [List.set_append_left _ _ hkl]
def lastD (nm : List Nat) (sp : Nat) : List (List Nm) := if sp + 1 < nm.length then [[[nm.getD (sp + 1) 0]]] else []
def lossD (b : Bool) : List (List Nm) := if b = true then [[[111]]] else []
def knotD (ns : List Int) (tg : List Nm) (nm : List Nat) (b : Bool) (at_ sp : Nat) : Kn :=
  (rowD ns tg (at_ + 10 + 40 * sp + 12 * 0) (cntD ns 0 (at_ + 10 + 40 * sp + 12 * 0)), rowD ns tg (at_ + 10 + 40 * sp + 12 * 1) (cntD ns 1 (at_ + 10 + 40 * sp + 12 * 1)) ++ lastD nm sp ++ lossD b)
theorem k_lenS {x : List Nat} {s : S} (h : x.length ≤ 1000) : gLen [.str x] s = some (.int x.length, s) := by
  have : x.length ≤ 16777216 := by omega
  simp [gLen, sizeLine_eq, this]
theorem k_ixS {x : List Nat} {d c : Nat} {s : S} (h : x.length ≤ 1000) (e : x[d]? = some c) : gIx (.str x) (.int d) s = some (.str [c], s) := by
  have : atI x (d : Int) = some c := atI_nat e
  have hl : x.length ≤ 16777216 := by omega
  simp only [gIx, dctOf, gIxI, this, sizeLine_eq, hl, if_true]
theorem knot_ok (h63 : ns.length ≤ 63) (ht0 : 0 < tg.length) (ht1 : tg.length ≤ 10) {at_ sp : Nat} {nm : List Nat} {b : Bool} (ha : at_ ≤ 100) (hs : sp < nm.length) (hn : nm.length ≤ 4) {acc : List (Nm × Kn)} (hacc : acc.length ≤ 10) {n : Nm} (hnew : n ∉ acc.map (·.1)) {junk : S} {x8 x9 x10 x11 x12 x13 x14 x15 : Option U} :
    ∃ y8 y9 y10 y11 y12 y13 y14 y15 junk', lb__law_knots_3 [some (.scr (ns.map U.int)), some (.int at_), some (.bl b), some (.str nm), some (.ref 0), some (.lst (nms tg)), some (.int sp), some (.str n), x8, x9, x10, x11, x12, x13, x14, x15] (.dct false (KD acc) :: junk) =
      .nx [some (.scr (ns.map U.int)), some (.int at_), some (.bl b), some (.str nm), some (.ref 0), some (.lst (nms tg)), some (.int sp), some (.str n), y8, y9, y10, y11, y12, y13, y14, y15] (.dct false (KD (acc ++ [(n, knotD ns tg nm b at_ sp)])) :: junk') := by
  obtain ⟨a11, a12, a13, a14, a15, ea, pa⟩ := part_ok h63 ht0 ht1 ha (show sp ≤ 4 by omega) (p := 0) (.inl rfl) (st := (.dct false (KD acc) :: junk) ++ [.lst []]) (k := (O.dct false (KD acc) :: junk).length) (rows := []) (by simp) (by simp) (x2 := some (.bl b)) (x3 := some (.str nm)) (x4 := some (.ref 0)) (x7 := some (.str n)) (x10 := x10) (x11 := x11) (x12 := x12) (x13 := x13) (x14 := x14) (x15 := x15)
  generalize hr0 : rowD ns tg (at_ + 10 + 40 * sp + 12 * 0) (cntD ns 0 (at_ + 10 + 40 * sp + 12 * 0)) = r0 at pa
  rw [show (O.dct false (KD acc) :: junk ++ [O.lst []]).set (O.dct false (KD acc) :: junk).length (.lst ([] ++ [uRow r0])) = (O.dct false (KD acc) :: junk) ++ [O.lst [uRow r0]] by simp] at pa
  obtain ⟨b11, b12, b13, b14, b15, eb, pb⟩ := part_ok h63 ht0 ht1 ha (show sp ≤ 4 by omega) (p := 1) (.inr rfl) (st := ((.dct false (KD acc) :: junk) ++ [.lst [uRow r0]]) ++ [ea]) (k := (O.dct false (KD acc) :: junk).length) (rows := [uRow r0]) (by simp) (by simp) (x2 := some (.bl b)) (x3 := some (.str nm)) (x4 := some (.ref 0)) (x7 := some (.str n)) (x10 := x10) (x11 := a11) (x12 := a12) (x13 := a13) (x14 := a14) (x15 := a15)
  have hlen1 : (rowD ns tg (at_ + 10 + 40 * sp + 12 * 1) (cntD ns 1 (at_ + 10 + 40 * sp + 12 * 1))).length ≤ 6 := by
    have := drw_lt h63 (a := at_ + 10 + 40 * sp + 12 * 1) (m := 3) (by omega) (by omega) (by omega)
    unfold rowD cntD
    simp at this ⊢
    omega
  unfold knotD
  rw [hr0]
  generalize hr1 : rowD ns tg (at_ + 10 + 40 * sp + 12 * 1) (cntD ns 1 (at_ + 10 + 40 * sp + 12 * 1)) = r1 at pb hlen1
  rw [show ((O.dct false (KD acc) :: junk) ++ [O.lst [uRow r0]] ++ [ea]).set (O.dct false (KD acc) :: junk).length (.lst ([uRow r0] ++ [uRow r1])) ++ [eb] = O.dct false (KD acc) :: (junk ++ [O.lst [uRow r0, uRow r1], ea, eb]) by simp] at pb
  refine ⟨some (.ref (O.dct false (KD acc) :: junk).length), some (.int 1), some (uRow (lastD nm sp)), b11, b12, b13, b14, b15, junk ++ [O.lst [uRow r0, uRow r1], ea, eb], ?_⟩
  refine k_seq (k_asg (k_lst k_nil (k_mkLT (by simp))) rfl) ?_
  refine k_seq (k_for (k_fnA (k_cons rfl k_nil) (k_rg (n := 2) rfl (by omega))) (k_loop rfl pa (k_loop rfl pb rfl))) ?_
  have hnl : nm.length ≤ 1000 := by omega
  have lst : (eIf (mB (eOp gLt (eOp (gAdd false) (mV 6) (mK (.int 1))) (eN gLen (aCons (mV 3) aNil)))) (eTup (aCons (eTup (aCons (eOp gIx (mV 3) (eOp (gAdd false) (mV 6) (mK (.int 1)))) aNil)) aNil)) (eTup aNil)) [some (.scr (ns.map U.int)), some (.int at_), some (.bl b), some (.str nm), some (.ref 0), some (.lst (nms tg)), some (.int sp), some (.str n), some (.ref (O.dct false (KD acc) :: junk).length), some (.int 1), x10, b11, b12, b13, b14, b15] (O.dct false (KD acc) :: (junk ++ [O.lst [uRow r0, uRow r1], ea, eb])) = .ok (uRow (lastD nm sp)) (O.dct false (KD acc) :: (junk ++ [O.lst [uRow r0, uRow r1], ea, eb])) := by
    refine k_ifE (s1 := O.dct false (KD acc) :: (junk ++ [O.lst [uRow r0, uRow r1], ea, eb])) (x := decide (sp + 1 < nm.length)) (k_b (k_op (k_op (k_v rfl) rfl rfl) (k_n (k_cons (k_v rfl) k_nil) (k_lenS hnl)) ?_)) ?_
    · simp only [gLt, gCmp]
      congr 4
      exact propext (by omega)
    · unfold lastD
      by_cases h : sp + 1 < nm.length
      · rw [if_pos (by simpa using h), if_pos h]
        exact k_tup (k_cons (k_tup (k_cons (k_op (k_v rfl) (k_int (z' := ((sp + 1 : Nat) : Int)) (k_op (k_v rfl) rfl rfl) (by omega)) (k_ixS hnl (by rw [List.getD_eq_getElem?_getD, List.getElem?_eq_getElem h]; rfl))) k_nil) (by simp)) k_nil) (by simp)
      · rw [if_neg (by simpa using h), if_neg h]
        exact k_tup k_nil (by simp)
  refine k_seq (k_asg lst rfl) ?_
  have hR : ∀ st, (O.dct false (KD acc) :: (junk ++ [O.lst [uRow r0, uRow r1], ea, eb]) = st) → st[(O.dct false (KD acc) :: junk).length]? = some (.lst [uRow r0, uRow r1]) := fun st h => by subst h; simp
  have hL : (lastD nm sp).length ≤ 1 := by unfold lastD; split <;> simp
  have hO : (lossD b).length ≤ 1 := by unfold lossD; split <;> simp
  have los : ∀ l s, l[2]? = some (some (.bl b)) → (eIf (mB (mV 2)) (eTup (aCons (eTup (aCons (mK (.str [111])) aNil)) aNil)) (eTup aNil)) l s = .ok (uRow (lossD b)) s := fun l s h => by
    refine k_ifE (k_b (k_v h)) ?_
    cases b with
    | true => exact k_tup (k_cons (k_tup (k_cons rfl k_nil) (by simp)) k_nil) (by decide)
    | false => exact k_tup k_nil (by decide)
  have e1 : uRow (r1 ++ lastD nm sp ++ lossD b) = .tup ((r1.map uDrop ++ (lastD nm sp).map uDrop) ++ (lossD b).map uDrop) := by simp [uRow]
  refine (k_putD (s1 := O.dct false (KD acc) :: (junk ++ [O.lst [uRow r0, uRow r1], ea, eb])) (v := uKnot (r0, r1 ++ lastD nm sp ++ lossD b)) ?_ (k_v rfl) (k_v rfl) (k_put (k := .str n) rfl rfl rfl (by simp; omega))).trans ?_
  · refine k_tup (k_cons (k_op (k_v rfl) rfl (k_ixR (d := 0) (hR _ rfl) rfl)) (k_cons (k_op (k_op (k_op (k_v rfl) rfl (k_ixR (d := 1) (hR _ rfl) rfl)) (k_v rfl) (k_addT2 (by simp; omega))) (los _ _ rfl) ((k_addT2 (by simp; omega)).trans (by rw [← e1]))) k_nil)) (by simp)
  · have : dPut (KD acc) (.str n) (uKnot (r0, r1 ++ lastD nm sp ++ lossD b)) = KD (acc ++ [(n, (r0, r1 ++ lastD nm sp ++ lossD b))]) := by
      unfold dPut
      rw [dGet_ent, gt_none hnew]
      simp
    rw [this]; rfl
/-- the drawn knots -/
def knotsD (ns : List Int) (nm : List Nat) (b : Bool) (at_ : Nat) : List (Nm × Kn) := (List.range nm.length).map fun i => ([nm.getD i 0], knotD ns (nm.map (fun c => [c]) ++ [[111], [112]]) nm b at_ i)
theorem pairU_get : ∀ (us : List U) (k i : Nat) (u : U), (pairU k us)[i]? = some u → ∃ v, us[i]? = some v ∧ u = .tup [.int ((k + i : Nat) : Int), v]
  | [], k, i, u, h => by simp [pairU] at h
  | v :: us, k, i, u, h => by
    cases i with
    | zero => exact ⟨v, rfl, by simp [pairU] at h; rw [← h]; simp⟩
    | succ i =>
      obtain ⟨w, h1, h2⟩ := pairU_get us (k + 1) i u (by simpa [pairU] using h)
      exact ⟨w, h1, by rw [h2, show k + 1 + i = k + (i + 1) by omega]⟩
theorem pairU_len : ∀ (us : List U) (k : Nat), (pairU k us).length = us.length
  | [], _ => rfl
  | u :: us, k => by show (pairU (k + 1) us).length + 1 = _; rw [pairU_len us (k + 1)]; rfl
theorem cut_ok : ∀ d : Nat, d < 4 → ∀ s, gSl false (.str [97, 98, 99, 100]) none (some ((1 : Int) + (d : Int))) s = some (.str ([97, 98, 99, 100].take (1 + d)), s)
  | 0, _, s => by simp only [gSl, sizeLine_eq]; rfl
  | 1, _, s => by simp only [gSl, sizeLine_eq]; rfl
  | 2, _, s => by simp only [gSl, sizeLine_eq]; rfl
  | 3, _, s => by simp only [gSl, sizeLine_eq]; rfl
theorem knots_ok (h63 : ns.length ≤ 63) {at_ : Nat} {b : Bool} (ha : at_ ≤ 100) : ∃ s', m__law_knots [.scr (ns.map U.int), .int at_, .bl b] [] = .ok (.dct false (KD (knotsD ns ([97, 98, 99, 100].take (1 + drw ns at_ 4)) b at_))) s' := by
  have hd := drw_lt h63 (a := at_) (m := 4) (by omega) (by omega) (by omega)
  have dr := drw_ok h63 (a := at_) (m := 4) (z := at_) (w := 4) rfl rfl (by omega) (by omega) (by omega) []
  generalize hnm : ([97, 98, 99, 100] : List Nat).take (1 + drw ns at_ 4) = nm
  have hl : nm.length = 1 + drw ns at_ 4 := by rw [← hnm]; simp; omega
  have hnd : nm.Nodup := by rw [← hnm]; exact List.Nodup.sublist (List.take_sublist _ _) (by decide)
  have cut := cut_ok _ hd []
  rw [hnm] at cut
  have lo : gListOf false [.str nm] [.dct false []] = some (.lst (nm.map fun c => U.str [c]), [.dct false []]) := by
    have h1 : nm.length ≤ 16777216 := by omega
    simp [gListOf, sizeLine_eq, h1, mkL]
  have htg : nms (nm.map (fun c => [c]) ++ [[111], [112]]) = (nm.map fun c => U.str [c]) ++ [.str [111], .str [112]] := by simp [nms]
  obtain ⟨l', s', e, y6, y7, y8, y9, y10, y11, y12, y13, y14, y15, junk, rfl, rfl⟩ := loopM_inv (g := gTp [(gNm 6), (gNm 7)]) (body := lb__law_knots_3) (fun k l st => ∃ y6 y7 y8 y9 y10 y11 y12 y13 y14 y15 junk, l = [some (.scr (ns.map U.int)), some (.int at_), some (.bl b), some (.str nm), some (.ref 0), some (.lst (nms (nm.map (fun c => [c]) ++ [[111], [112]]))), y6, y7, y8, y9, y10, y11, y12, y13, y14, y15] ∧ st = .dct false (KD ((List.range (min k nm.length)).map fun i => ([nm.getD i 0], knotD ns (nm.map (fun c => [c]) ++ [[111], [112]]) nm b at_ i))) :: junk) (pairU 0 (nm.map fun c => U.str [c])) 0 [some (.scr (ns.map U.int)), some (.int at_), some (.bl b), some (.str nm), some (.ref 0), some (.lst (nms (nm.map (fun c => [c]) ++ [[111], [112]]))), none, none, none, none, none, none, none, none, none, none] [.dct false []] ⟨_, _, _, _, _, _, _, _, _, _, [], rfl, by simp⟩ fun i u l st hi hI => by
    obtain ⟨y6, y7, y8, y9, y10, y11, y12, y13, y14, y15, junk, rfl, rfl⟩ := hI
    obtain ⟨v, hv, rfl⟩ := pairU_get _ _ _ _ hi
    rw [List.getElem?_map] at hv
    cases hc : nm[i]? with
    | none => rw [hc] at hv; cases hv
    | some c =>
      rw [hc] at hv
      cases hv
      obtain ⟨hil, hic⟩ := List.getElem?_eq_some_iff.mp hc
      have hm1 : min (0 + i) nm.length = i := by omega
      have hm2 : min (0 + i + 1) nm.length = i + 1 := by omega
      obtain ⟨z8, z9, z10, z11, z12, z13, z14, z15, junk', ek⟩ := knot_ok (b := b) (at_ := at_) (sp := i) (nm := nm) h63 (tg := nm.map (fun c => [c]) ++ [[111], [112]]) (by simp) (by simp; omega) ha hil (by omega) (acc := (List.range i).map fun i => ([nm.getD i 0], knotD ns (nm.map (fun c => [c]) ++ [[111], [112]]) nm b at_ i)) (by simp; omega) (n := [c]) (by
        intro hmem
        rw [List.map_map] at hmem
        obtain ⟨j, hj, hje⟩ := List.mem_map.mp hmem
        have hj := List.mem_range.mp hj
        have hje : nm.getD j 0 = c := by simpa using hje
        rw [List.getD_eq_getElem?_getD, List.getElem?_eq_getElem (by omega)] at hje
        rw [← hic] at hje
        have := (List.getElem_inj hnd).mp (show nm[j]'(by omega) = nm[i] from hje)
        omega) (junk := junk) (x8 := y8) (x9 := y9) (x10 := y10) (x11 := y11) (x12 := y12) (x13 := y13) (x14 := y14) (x15 := y15)
      rw [hm1, hm2, List.range_succ]
      refine ⟨_, _, [some (.scr (ns.map U.int)), some (.int at_), some (.bl b), some (.str nm), some (.ref 0), some (.lst (nms (nm.map (fun c => [c]) ++ [[111], [112]]))), some (.int i), some (.str [c]), z8, z9, z10, z11, z12, z13, z14, z15], .dct false (KD ((List.range i).map (fun i => ([nm.getD i 0], knotD ns (nm.map (fun c => [c]) ++ [[111], [112]]) nm b at_ i)) ++ [([c], knotD ns (nm.map (fun c => [c]) ++ [[111], [112]]) nm b at_ i)])) :: junk', rfl, .inl ?_, some (.int i), some (.str [c]), z8, z9, z10, z11, z12, z13, z14, z15, junk', rfl, ?_⟩
      · refine Eq.trans ?_ (ek.trans ?_)
        · simp
        · rfl
      · simp [List.getD_eq_getElem?_getD, List.getElem?_eq_getElem hil, hic]
  have hm : min (0 + (pairU 0 (nm.map fun c => U.str [c])).length) nm.length = nm.length := by rw [pairU_len]; simp
  rw [hm] at e
  refine ⟨[.gone] ++ junk, ?_⟩
  refine k_rt ?_
  show b__law_knots [some (.scr (ns.map U.int)), some (.int at_), some (.bl b), none, none, none, none, none, none, none, none, none, none, none, none, none] [] = _
  refine k_seq (k_asg (k_op rfl (k_op rfl (k_call (k_cons (k_v rfl) (k_cons (k_v rfl) (k_cons rfl k_nil))) dr) rfl) cut) rfl) ?_
  refine k_seq (k_asg (k_tup (k_cons rfl (k_cons (k_op (k_n (k_cons (k_v rfl) k_nil) lo) (k_lst (k_cons rfl (k_cons rfl k_nil)) (k_mkL (by simp))) ((k_addL (by simp; omega)).trans (by rw [← htg]))) k_nil)) (by simp)) rfl) ?_
  refine k_seq (k_for (k_fnA (k_cons (k_v rfl) k_nil) rfl) e) ?_
  rfl
end K07
/-! QG: == of nets; Net(..) as a value. -/
namespace Mo
theorem Emb.up {α : Type} {n m : Nat} {f : α → U} {d : α → D} (e : Emb n f d) (h : n ≤ m) : Emb m f d := ⟨fun k s a hk => e.dat k s a (by omega), fun k a b hk => e.deq k a b (by omega), fun k a hk => e.nod k a (by omega)⟩
theorem Emb.pair {α β : Type} {n : Nat} {f : α → U} {d : α → D} {g : β → U} {e : β → D} (h1 : Emb n f d) (h2 : Emb n g e) : Emb (n + 1) (fun p : α × β => U.tup [f p.1, g p.2]) (fun p => D.tup [d p.1, e p.2]) := ⟨fun k s p hk => by
  obtain ⟨k, rfl⟩ : ∃ j, k = j + 1 := ⟨k - 1, by omega⟩
  show (match mapO (Mo.dat k s) [f p.1, g p.2] with
    | some ds => some (D.tup ds)
    | none => none) = _
  simp only [mapO, h1.dat k s p.1 (by omega), h2.dat k s p.2 (by omega)], fun k p q hk => by
  obtain ⟨k, rfl⟩ : ∃ j, k = j + 1 := ⟨k - 1, by omega⟩
  obtain ⟨r1, e1, i1⟩ := h1.deq k p.1 q.1 (by omega)
  obtain ⟨r2, e2, i2⟩ := h2.deq k p.2 q.2 (by omega)
  refine ⟨(r1 && (r2 && true)) && true, ?_, ?_⟩
  · show andO (andO (deqO k (d p.1) (d q.1)) (andO (deqO k (e p.2) (e q.2)) (some true))) (some true) = _
    rw [e1, e2]; rfl
  · simp only [Bool.and_true, Bool.and_eq_true, i1, i2]
    exact ⟨fun ⟨a, b⟩ => Prod.ext a b, fun h => by rw [h]; exact ⟨rfl, rfl⟩⟩, fun k p hk => by
  obtain ⟨k, rfl⟩ : ∃ j, k = j + 1 := ⟨k - 1, by omega⟩
  show (noD k (d p.1) && (noD k (e p.2) && true)) = true
  rw [h1.nod k p.1 (by omega), h2.nod k p.2 (by omega)]; rfl⟩
theorem dGetD_ent {α : Type} (d : α → D) (n : Nm) : ∀ l : List (Nm × α), dGetD (l.map fun p => (Ky.str p.1, d p.2)) (.str n) = (gt l n).map d
  | [] => rfl
  | (k, v) :: r => by
    have ih := dGetD_ent d n r
    show (if (k == n) = true then _ else _) = _
    unfold gt
    by_cases h : k = n
    · rw [if_pos h, if_pos (by rw [h]; simp)]; rfl
    · rw [if_neg h, if_neg (by simpa using h)]; exact ih
theorem hits_ent {α : Type} {n : Nat} {f : α → U} {d : α → D} (e : Emb n f d) {k : Nat} (hk : n ≤ k) (b : List (Nm × α)) : ∀ a : List (Nm × α), ∃ r, hitsZ (deqO k) (b.map fun p => (Ky.str p.1, d p.2)) (a.map fun p => (Ky.str p.1, d p.2)) = some r ∧ (r = true ↔ ∀ p ∈ a, gt b p.1 = some p.2)
  | [] => ⟨true, rfl, by simp⟩
  | p :: a => by
    obtain ⟨r, h1, h2⟩ := hits_ent e hk b a
    have hg := dGetD_ent d p.1 b
    cases hb : gt b p.1 with
    | none =>
      rw [hb] at hg
      refine ⟨false, ?_, ?_⟩
      · show (match dGetD _ (Ky.str p.1) with
          | none => some false
          | some y => _) = _
        rw [hg]; rfl
      · simp [hb]
    | some v =>
      rw [hb] at hg
      obtain ⟨q, h3, h4⟩ := e.deq k p.2 v hk
      refine ⟨q && r, ?_, ?_⟩
      · show (match dGetD _ (Ky.str p.1) with
          | none => some false
          | some y => andO (deqO k (d p.2) y) (hitsZ (deqO k) _ (a.map fun (p : Nm × α) => (Ky.str p.1, d p.2)))) = _
        rw [hg]
        show andO (deqO k (d p.2) (d v)) _ = _
        rw [h3, h1]; rfl
      · rw [Bool.and_eq_true, h4, h2]
        simp only [List.mem_cons, forall_eq_or_imp, hb, Option.some.injEq]
        exact ⟨fun ⟨a, b⟩ => ⟨a.symm, b⟩, fun ⟨a, b⟩ => ⟨a.symm, b⟩⟩
/-- two dicts by names hold the same -/
def Same {α : Type} (a b : List (Nm × α)) : Prop := a.length = b.length ∧ ∀ p ∈ a, gt b p.1 = some p.2
theorem Emb.dct {α : Type} {n : Nat} {f : α → U} {d : α → D} (e : Emb n f d) {k : Nat} (hk : n + 1 ≤ k) (a b : List (Nm × α)) : ∃ r, deqO k (.dct false (a.map fun p => (Ky.str p.1, d p.2))) (.dct false (b.map fun p => (Ky.str p.1, d p.2))) = some r ∧ (r = true ↔ Same a b) := by
  obtain ⟨k, rfl⟩ : ∃ j, k = j + 1 := ⟨k - 1, by omega⟩
  obtain ⟨r, h1, h2⟩ := hits_ent e (k := k) (by omega) b a
  by_cases hl : a.length = b.length
  · refine ⟨r, ?_, ?_⟩
    · show (if (_ == _) = true then hitsZ (deqO k) _ _ else some false) = _
      rw [if_pos (by simpa using hl), h1]
    · rw [h2]; exact ⟨fun h => ⟨hl, h⟩, fun h => h.2⟩
  · refine ⟨false, ?_, ?_⟩
    · show (if (_ == _) = true then hitsZ (deqO k) _ _ else some false) = _
      rw [if_neg (by simpa using hl)]
    · exact ⟨(fun h => by cases h), fun h => absurd h.1 hl⟩
theorem gt_of_mem {α : Type} {n : Nm} {v : α} : ∀ {l : List (Nm × α)}, (l.map (·.1)).Nodup → (n, v) ∈ l → gt l n = some v
  | [], _, h => by cases h
  | q :: l, nd, h => by
    obtain ⟨n1, n2⟩ := List.nodup_cons.mp nd
    show (if q.1 = n then some q.2 else gt l n) = _
    rcases List.mem_cons.mp h with h | h
    · rw [if_pos (by rw [← h]), ← h]
    · rw [if_neg (fun e => n1 (List.mem_map.mpr ⟨(n, v), h, Eq.symm e⟩))]
      exact gt_of_mem n2 h
theorem Same.refl {α : Type} {l : List (Nm × α)} (nd : (l.map (·.1)).Nodup) : Same l l := ⟨rfl, fun p hp => gt_of_mem nd hp⟩
theorem gt_perm {α : Type} {l l' : List (Nm × α)} (nd : (l.map (·.1)).Nodup) (h : l.Perm l') (n : Nm) : gt l' n = gt l n := by
  have nd' : (l'.map (·.1)).Nodup := (h.map (·.1)).nodup_iff.mp nd
  cases e : gt l n with
  | some v => exact gt_of_mem nd' (h.mem_iff.mp (gt_mem e))
  | none =>
    cases e2 : gt l' n with
    | none => rfl
    | some v => rw [gt_of_mem nd (h.mem_iff.mpr (gt_mem e2))] at e; cases e
/-- == of dicts by names, however they are held -/
theorem dcts_eq {α : Type} {n : Nat} {f : α → U} {d : α → D} (e : Emb n f d) (hn : n ≤ 39) {u v : U} {s : S} {a b : List (Nm × α)} (h1 : dctOf u s = some (false, ent f a)) (h2 : dctOf v s = some (false, ent f b)) : ∃ r : Bool, gEq u v s = some (.bl r, s) ∧ gNe u v s = some (.bl (!r), s) ∧ (r = true ↔ Same a b) := by
  obtain ⟨r, q1, q2⟩ := e.dct (k := 40) (by omega) a b
  have d1 : Mo.dat deep s u = some (.dct false (a.map fun p => (Ky.str p.1, d p.2))) := K07.dat_dct (n := 39) h1 (K07.mapK_ent (fun x => e.dat 39 s x hn) a)
  have d2 : Mo.dat deep s v = some (.dct false (b.map fun p => (Ky.str p.1, d p.2))) := K07.dat_dct (n := 39) h2 (K07.mapK_ent (fun x => e.dat 39 s x hn) b)
  refine ⟨r, ?_, ?_, q2⟩
  · unfold gEq ueq
    rw [d1, d2]
    show (match deqO 40 _ _ with
      | some b => some (U.bl b, s)
      | none => none) = _
    rw [q1]
  · unfold gNe
    rw [d1, d2]
    show (if okNe _ _ = true then (match deqO 40 _ _ with
      | some b => some (U.bl (!b), s)
      | none => none) else none) = _
    rw [if_pos (by unfold okNe isDct; simp), q1]
end Mo
namespace K07
open Mo PySem PySem.Spec PyProof.Rows L2
abbrev dKnot (k : Kn) : D := .tup [.tup (k.1.map fun d => .tup (d.map D.str)), .tup (k.2.map fun d => .tup (d.map D.str))]
theorem eKnot : Emb 4 uKnot dKnot := eRow.pair eRow
/-- a net by its knots, inlets, outlets -/
def netG (K : List (Nm × Kn)) (I : List (Nm × Nm)) (O : List Nm) : List (Nat × U) :=
  [(495874698859, .dct false (KD K)), (126943755005545, .dct false (ID I)), (32497601281815919, .tup (nms O)), (495622906222, .lst (nms (K.map (·.1))))]
theorem netF_G (ks : List (Nm × Kn)) (is : List (Nm × Nm)) (os : List Nm) : netF ks is os = netG (srtP ks) (srtP is) (sortN os) := by
  unfold netF netG
  rw [srtP_keys]
theorem net_eq {u v : U} {s : S} {K K' : List (Nm × Kn)} {I I' : List (Nm × Nm)} {O O' : List Nm} (h1 : insOf u s = some (7628110, netG K I O)) (h2 : insOf v s = some (7628110, netG K' I' O')) (h3 : tyU v s = none) :
    ∃ r : Bool, m_Net_eq [u, v] s = .ok (.bl r) s ∧ (r = true ↔ (Same K K' ∧ Same I I') ∧ O = O') := by
  obtain ⟨r1, a1, a2⟩ := eKnot.dct (k := 39) (by omega) K K'
  obtain ⟨r2, b1, b2⟩ := Emb.str.dct (k := 39) (by omega) I I'
  obtain ⟨r3, c1, c2⟩ := Emb.str.tup.deq 39 O O' (by omega)
  have dt : ∀ (K : List (Nm × Kn)) (I : List (Nm × Nm)) (O : List Nm), Mo.dat 40 s (.tup [.dct false (KD K), .dct false (ID I), .tup (nms O)]) = some (.tup [.dct false (K.map fun p => (Ky.str p.1, dKnot p.2)), .dct false (I.map fun p => (Ky.str p.1, D.str p.2)), .tup (O.map D.str)]) := fun K I O => by
    have e1 : Mo.dat 39 s (.dct false (KD K)) = some (.dct false (K.map fun p => (Ky.str p.1, dKnot p.2))) := dat_dct (n := 38) rfl (mapK_ent (fun x => eKnot.dat 38 s x (by omega)) K)
    have e2 : Mo.dat 39 s (.dct false (ID I)) = some (.dct false (I.map fun p => (Ky.str p.1, D.str p.2))) := dat_dct (n := 38) rfl (mapK_ent (fun x => Emb.str.dat 38 s x (by omega)) I)
    have e3 : Mo.dat 39 s (.tup (nms O)) = some (.tup (O.map D.str)) := Emb.str.tup.dat 39 s O (by omega)
    show (match mapO (Mo.dat 39 s) [.dct false (KD K), .dct false (ID I), .tup (nms O)] with
      | some ds => some (D.tup ds)
      | none => none) = _
    simp only [mapO, e1, e2, e3]
  have ge : gEq (.tup [.dct false (KD K), .dct false (ID I), .tup (nms O)]) (.tup [.dct false (KD K'), .dct false (ID I'), .tup (nms O')]) s = some (.bl ((r1 && (r2 && (r3 && true))) && true), s) := by
    unfold gEq ueq deep
    rw [dt, dt]
    have : deqO 40 (.tup [.dct false (K.map fun p => (Ky.str p.1, dKnot p.2)), .dct false (I.map fun p => (Ky.str p.1, D.str p.2)), .tup (O.map D.str)]) (.tup [.dct false (K'.map fun p => (Ky.str p.1, dKnot p.2)), .dct false (I'.map fun p => (Ky.str p.1, D.str p.2)), .tup (O'.map D.str)]) = some ((r1 && (r2 && (r3 && true))) && true) := by
      show andO (andO (deqO 39 _ _) (andO (deqO 39 _ _) (andO (deqO 39 _ _) (some true)))) (some true) = _
      rw [a1, b1, c1]; rfl
    simp only [this]
  refine ⟨(r1 && (r2 && (r3 && true))) && true, ?_, ?_⟩
  · have gi : gIsC 7628110 v s = some (.bl true, s) := by
      unfold gIsC
      rw [h3, h2]; rfl
    have f1 : ∀ (f : Nat) (w : U), fldGet f (netG K I O) = some w → gFld f u s = some (w, s) := fun f w h => by unfold gFld; rw [h1]; simp only [h]
    have f2 : ∀ (f : Nat) (w : U), fldGet f (netG K' I' O') = some w → gFld f v s = some (w, s) := fun f w h => by unfold gFld; rw [h2]; simp only [h]
    refine k_rt ?_
    show b_Net_eq [some u, some v] s = _
    refine k_seq (k_ifF (k_notT (k_b (k_un (k_v rfl) gi))) rfl) ?_
    exact k_ret (k_op (k_tup (k_cons (k_un (k_v rfl) (f1 _ _ rfl)) (k_cons (k_un (k_v rfl) (f1 _ _ rfl)) (k_cons (k_un (k_v rfl) (f1 _ _ rfl)) k_nil))) (by simp)) (k_tup (k_cons (k_un (k_v rfl) (f2 _ _ rfl)) (k_cons (k_un (k_v rfl) (f2 _ _ rfl)) (k_cons (k_un (k_v rfl) (f2 _ _ rfl)) k_nil))) (by simp)) ge)
  · simp only [Bool.and_true, Bool.and_eq_true, a2, b2, c2]
    exact ⟨fun ⟨x, y, z⟩ => ⟨⟨x, y⟩, z⟩, fun ⟨⟨x, y⟩, z⟩ => ⟨x, y, z⟩⟩
/-- a net that nobody changes -/
abbrev netU (K : List (Nm × Kn)) (I : List (Nm × Nm)) (O : List Nm) : U := .obj 7628110 (netG K I O)
theorem puf_net (K : List (Nm × Kn)) (I : List (Nm × Nm)) (O : List Nm) : puf (netG K I O) = true := by
  show (puk (KD K) && (puk (ID I) && (pus (nms O) && (pus (nms (K.map (·.1))) && true)))) = true
  rw [puk_ent pu_knot, puk_ent fun _ => rfl, pus_nms, pus_nms]; rfl
theorem mkP_ok {ks : List (Nm × Kn)} {is : List (Nm × Nm)} {os : List Nm} {u3 : U} (N : NetOk ks is os) (h3 : ∀ s, seqOf u3 s = some (nms os)) (hp : pu u3 = true) (s : S) :
    mkP 7628110 m_Net_init [.dct false (KD ks), .dct false (ID is), u3] s = .ok (netU (srtP ks) (srtP is) (sortN os)) s := by
  obtain ⟨e, h⟩ := init_ok (σ := fun fs => [.ins 7628110 fs]) (i := 0) (u1 := .dct false (KD ks)) (u2 := .dct false (ID is)) (u3 := u3) (fun _ _ => rfl) (fun _ _ => rfl) (fun _ => rfl) (fun _ => rfl) (fun _ => h3 _) ⟨[.ins 7628110 []], rfl, rfl, rfl, fun b l l' hl hb => by unfold sLk; rw [hl]; exact hb⟩ N
  have hpus : pus [.dct false (KD ks), .dct false (ID is), u3] = true := by
    show (puk (KD ks) && (puk (ID is) && (pu u3 && true))) = true
    rw [puk_ent pu_knot, puk_ent fun _ => rfl, hp]; rfl
  unfold mkP
  rw [if_pos hpus, h, netF_G]
  show (if ((7628110 == 7628110) && puf (netG _ _ _)) = true then _ else _) = _
  rw [puf_net]; rfl
end K07
/-! QH: names; nets that are drawn. -/
namespace K07
open Mo PySem PySem.Spec PyProof.Rows L2
def isTrue (r : R U) : Bool := match r with
  | .ok (.bl true) _ => true
  | _ => false
theorem isTrue_ok {r : R U} (h : isTrue r = true) : ∃ s, r = .ok (.bl true) s := by
  unfold isTrue at h
  split at h
  · exact ⟨_, rfl⟩
  · cases h
/-- a name -/
def NmOk (n : Nm) : Prop := isTrue (m_is_name [.str n] []) = true
theorem nm_call {n : Nm} (h : NmOk n) (s : S) : callP m_is_name [.str n] s = .ok (.bl true) s := by
  obtain ⟨s', h⟩ := isTrue_ok h
  exact callP_ok rfl h rfl
theorem first_wrong_ok {ns : List Nm} (h : ∀ n ∈ ns, NmOk n) (nd : ns.Nodup) (hl : ns.length ≤ 100) : ∃ s, m_first_wrong [.lst (nms ns)] [] = .ok (.lst []) s := by
  obtain ⟨l', s', e, y, rfl, rfl⟩ := loopM_inv (g := gNm 2) (body := lb_first_wrong_0) (fun k l st => ∃ y, l = [some (.lst (nms ns)), some (.ref 0), y] ∧ st = [.dct false (known (ns.take k))]) (nms ns) 0 [some (.lst (nms ns)), some (.ref 0), none] [.dct false []] ⟨_, rfl, rfl⟩ fun i u l st hi hI => by
    obtain ⟨y, rfl, rfl⟩ := hI
    rw [List.getElem?_map] at hi
    cases hc : ns[i]? with
    | none => rw [hc] at hi; cases hi
    | some n =>
      rw [hc] at hi
      cases hi
      obtain ⟨hil, hic⟩ := List.getElem?_eq_some_iff.mp hc
      have hn : n ∉ ns.take i := fun hm => by
        obtain ⟨j, hj, hje⟩ := List.mem_iff_getElem.mp hm
        rw [List.getElem_take] at hje
        rw [← hic] at hje
        have := (List.getElem_inj nd).mp hje
        simp at hj
        omega
      have hin : inA (.str n) (.ref 0) [.dct false (known (ns.take i))] = some false := by
        rw [inA_ns (g := fun _ => .bl true) (ns := ns.take i) rfl]
        simp [hn]
      have gi : gIn (.str n) (.ref 0) [.dct false (known (ns.take i))] = some (.bl false, [.dct false (known (ns.take i))]) := by unfold gIn; rw [hin]
      have hdp : dPut (known (ns.take i)) (.str n) (.bl true) = known (ns.take (i + 1)) := by
        unfold dPut
        rw [dGet_ns, if_neg hn, List.take_add_one, hc]; simp
      have hmem : n ∈ ns := List.mem_of_getElem? hc
      rw [Nat.zero_add]
      refine ⟨_, _, [some (.lst (nms ns)), some (.ref 0), some (.str n)], [.dct false (known (ns.take (i + 1)))], rfl, .inl ?_, some (.str n), rfl, rfl⟩
      refine k_seq (k_ifF (k_orF (k_notT (k_b (k_call (k_cons (k_v rfl) k_nil) (nm_call (h n hmem) _)))) (k_b (k_op (k_v rfl) (k_v rfl) gi))) rfl) ?_
      exact k_putD rfl (k_v rfl) (k_v rfl) ((k_put (k := .str n) rfl rfl rfl (by simp; omega)).trans (by rw [hdp]; rfl))
  refine ⟨[.dct false (known (ns.take (0 + (nms ns).length)))], k_rt ?_⟩
  show b_first_wrong [some (.lst (nms ns)), none, none] [] = _
  refine k_seq (k_asg rfl rfl) ?_
  refine k_seq (k_for (k_fn (k_v rfl) rfl) e) ?_
  exact k_ret (k_lst k_nil (k_mkL (by simp)))
/-- drawn knots, or such with a drop more -/
structure KnB (ns : List Nm) (k : Kn) : Prop where
  f : k.1.length ≤ 5
  t : k.2.length ≤ 8
  ne : k.2 ≠ []
  df : ∀ d ∈ k.1, d.length ≤ 3 ∧ ∀ t ∈ d, t ∈ ns
  dt : ∀ d ∈ k.2, d.length ≤ 3 ∧ ∀ t ∈ d, t ∈ ns
/-- knots by the names N, each one leading to the next -/
structure Knots (N : List Nm) (ks : List (Nm × Kn)) : Prop where
  keys : ks.map (·.1) = N
  kn : ∀ p ∈ ks, KnB (N ++ [[111], [112]]) p.2
  chain : ∀ (i : Nat) (a b : Nm), N[i]? = some a → N[i + 1]? = some b → ∃ k, gt ks a = some k ∧ ∃ d ∈ k.2, b ∈ d
theorem Knots.netOk {N : List Nm} {ks ks' : List (Nm × Kn)} {is : List (Nm × Nm)} {os : List Nm} (h : Knots N ks) (hp : ks.Perm ks') (hN : N.length ≤ 4) (ha : N[0]? = some [97]) (hnd : (N ++ (os ++ is.map (·.1))).Nodup) (hnm : ∀ n ∈ N ++ (os ++ is.map (·.1)), NmOk n ∧ n.length ≤ 16) (hos : ∀ n ∈ ([[111], [112]] : List Nm), n ∈ os) (hol : os.length ≤ 4)
    (hi : ∀ p ∈ is, p.2 ∈ N) (hia : ∃ p ∈ is, p.2 = [97]) (hil : is.length ≤ 4) : NetOk ks' is os := by
  have hk : (ks'.map (·.1)).Perm N := by rw [← h.keys]; exact (hp.map (·.1)).symm
  have hlen : ks'.length = N.length := by rw [← hk.length_eq]; simp
  have pm : (ks'.map (·.1) ++ (os ++ is.map (·.1))).Perm (N ++ (os ++ is.map (·.1))) := hk.append_right _
  have ndN : N.Nodup := (List.nodup_append.mp hnd).1
  have h0 : 0 < N.length := (List.getElem?_eq_some_iff.mp ha).1
  refine ⟨⟨by omega, by omega, fun e => ?_, by omega, by omega, fun n hn => (hnm n (pm.mem_iff.mp hn)).2, pm.nodup_iff.mpr hnd, first_wrong_ok (fun n hn => (hnm n (pm.mem_iff.mp hn)).1) (pm.nodup_iff.mpr hnd) (by rw [pm.length_eq]; simp; omega), fun p hpp => ?_, fun p hpp => hk.mem_iff.mpr (hi p hpp)⟩, fun P pi pc => ?_⟩
  · obtain ⟨p, hp, _⟩ := hia
    rw [e] at hp; cases hp
  · have := h.kn p (hp.mem_iff.mpr hpp)
    have hsub : ∀ t, t ∈ N ++ [[111], [112]] → t ∈ ks'.map (·.1) ++ os := fun t ht => by
      rcases List.mem_append.mp ht with h | h
      · exact List.mem_append_left _ (hk.mem_iff.mpr h)
      · exact List.mem_append_right _ (hos t h)
    have f := this.f
    have t := this.t
    exact ⟨by omega, by omega, this.ne, fun d hd => ⟨by have := (this.df d hd).1; omega, fun t ht => hsub t ((this.df d hd).2 t ht)⟩, fun d hd => ⟨by have := (this.dt d hd).1; omega, fun t ht => hsub t ((this.dt d hd).2 t ht)⟩⟩
  · have all : ∀ (i : Nat) (a : Nm), N[i]? = some a → P a := fun i => by
      induction i with
      | zero =>
        intro a h
        rw [ha] at h
        cases h
        obtain ⟨p, hp, hq⟩ := hia
        rw [← hq]; exact pi p hp
      | succ i ih =>
        intro b hb
        have hlt : i < N.length := by have := (List.getElem?_eq_some_iff.mp hb).1; omega
        obtain ⟨k, hg, d, hd, hbd⟩ := h.chain i N[i] b (List.getElem?_eq_getElem hlt) hb
        have hg2 : gt ks' N[i] = some k := by rw [gt_perm (by rw [h.keys]; exact ndN) hp]; exact hg
        have hgd : gtD ks' N[i] = k := by unfold gtD; rw [hg2]; rfl
        refine pc N[i] (hk.mem_iff.mpr (List.getElem_mem hlt)) (ih _ (List.getElem?_eq_getElem hlt)) d (by rw [hgd]; exact hd) b hbd (hk.mem_iff.mpr (List.mem_of_getElem? hb))
    intro n hn
    obtain ⟨i, hi⟩ := List.mem_iff_getElem?.mp (hk.mem_iff.mp hn)
    exact all i n hi
/-- the drawn ones -/
theorem dropD_ok {ns : List Int} {tg : List Nm} (h63 : ns.length ≤ 63) (ht0 : 0 < tg.length) (ht1 : tg.length ≤ 10) {f t : Nat} (hf : f ≤ 300) (ht : t ≤ 10) : (dropD ns tg f t).length ≤ 2 ∧ ∀ x ∈ dropD ns tg f t, x ∈ tg := by
  unfold dropD
  refine ⟨by simp; exact many_le _, fun x hx => ?_⟩
  obtain ⟨j, hj, rfl⟩ := List.mem_map.mp hx
  have hj := List.mem_range.mp hj
  have hm := many_le (drw ns (f + 4 + 5 * t) 5)
  have hd := drw_lt h63 (a := f + 5 + 5 * t + j) (m := tg.length) (by omega) ht0 (by omega)
  rw [List.getD_eq_getElem?_getD, List.getElem?_eq_getElem hd]
  exact List.getElem_mem hd
theorem rowD_ok {ns : List Int} {tg : List Nm} (h63 : ns.length ≤ 63) (ht0 : 0 < tg.length) (ht1 : tg.length ≤ 10) {f n : Nat} (hf : f ≤ 300) (hn : n ≤ 6) : (rowD ns tg f n).length = n ∧ ∀ d ∈ rowD ns tg f n, d.length ≤ 2 ∧ ∀ x ∈ d, x ∈ tg := by
  unfold rowD
  refine ⟨by simp, fun d hd => ?_⟩
  obtain ⟨j, hj, rfl⟩ := List.mem_map.mp hd
  have hj := List.mem_range.mp hj
  exact dropD_ok h63 ht0 ht1 hf (by omega)
/-- bounds that leave room for a drop more -/
structure KnC (ns : List Nm) (k : Kn) : Prop where
  f : k.1.length ≤ 4
  t : k.2.length ≤ 7
  ne : k.2 ≠ []
  df : ∀ d ∈ k.1, d.length ≤ 3 ∧ ∀ t ∈ d, t ∈ ns
  dt : ∀ d ∈ k.2, d.length ≤ 3 ∧ ∀ t ∈ d, t ∈ ns
theorem knotD_ok {ns : List Int} {nm : List Nat} {b : Bool} (h63 : ns.length ≤ 63) (hn : nm.length ≤ 4) {at_ sp : Nat} (ha : at_ ≤ 100) (hs : sp ≤ 4) : KnC (nm.map (fun c => [c]) ++ [[111], [112]]) (knotD ns (nm.map (fun c => [c]) ++ [[111], [112]]) nm b at_ sp) := by
  generalize htg : nm.map (fun c => [c]) ++ [[111], [112]] = tg
  have ht0 : 0 < tg.length := by rw [← htg]; simp
  have ht1 : tg.length ≤ 10 := by rw [← htg]; simp; omega
  have d0 := drw_lt h63 (a := at_ + 10 + 40 * sp + 12 * 0) (m := 3) (by omega) (by omega) (by omega)
  have d1 := drw_lt h63 (a := at_ + 10 + 40 * sp + 12 * 1) (m := 3) (by omega) (by omega) (by omega)
  obtain ⟨a1, a2⟩ := rowD_ok h63 ht0 ht1 (f := at_ + 10 + 40 * sp + 12 * 0) (n := cntD ns 0 (at_ + 10 + 40 * sp + 12 * 0)) (by omega) (by unfold cntD; omega)
  obtain ⟨b1, b2⟩ := rowD_ok h63 ht0 ht1 (f := at_ + 10 + 40 * sp + 12 * 1) (n := cntD ns 1 (at_ + 10 + 40 * sp + 12 * 1)) (by omega) (by unfold cntD; omega)
  have hL : (lastD nm sp).length ≤ 1 ∧ ∀ d ∈ lastD nm sp, d.length ≤ 3 ∧ ∀ t ∈ d, t ∈ tg := by
    unfold lastD
    split
    · rename_i h
      refine ⟨by simp, fun d hd => ?_⟩
      have hd : d = [[nm.getD (sp + 1) 0]] := by simpa using hd
      subst hd
      refine ⟨by simp, fun t ht => ?_⟩
      have ht : t = [nm.getD (sp + 1) 0] := by simpa using ht
      subst ht
      rw [← htg]
      refine List.mem_append_left _ (List.mem_map.mpr ⟨nm.getD (sp + 1) 0, ?_, rfl⟩)
      rw [List.getD_eq_getElem?_getD, List.getElem?_eq_getElem h]
      exact List.getElem_mem h
    · exact ⟨by simp, fun d hd => by cases hd⟩
  have hO : (lossD b).length ≤ 1 ∧ ∀ d ∈ lossD b, d.length ≤ 3 ∧ ∀ t ∈ d, t ∈ tg := by
    unfold lossD
    split
    · refine ⟨by simp, fun d hd => ?_⟩
      have hd : d = [[111]] := by simpa using hd
      subst hd
      refine ⟨by simp, fun t ht => ?_⟩
      have ht : t = [111] := by simpa using ht
      subst ht
      rw [← htg]; simp
    · exact ⟨by simp, fun d hd => by cases hd⟩
  have c0 : cntD ns 0 (at_ + 10 + 40 * sp + 12 * 0) ≤ 2 := by unfold cntD; omega
  have c1 : cntD ns 1 (at_ + 10 + 40 * sp + 12 * 1) ≤ 3 ∧ 1 ≤ cntD ns 1 (at_ + 10 + 40 * sp + 12 * 1) := by unfold cntD; omega
  unfold knotD
  refine ⟨by show (rowD _ _ _ _).length ≤ 4; omega, ?_, ?_, fun d hd => ?_, fun d hd => ?_⟩
  · show (rowD _ _ _ _ ++ lastD _ _ ++ lossD _).length ≤ 7
    rw [List.length_append, List.length_append]; omega
  · intro h
    have : (rowD ns tg (at_ + 10 + 40 * sp + 12 * 1) (cntD ns 1 (at_ + 10 + 40 * sp + 12 * 1)) ++ lastD nm sp ++ lossD b).length = 0 := by
      have h : rowD ns tg (at_ + 10 + 40 * sp + 12 * 1) (cntD ns 1 (at_ + 10 + 40 * sp + 12 * 1)) ++ lastD nm sp ++ lossD b = [] := h
      rw [h]; rfl
    rw [List.length_append, List.length_append] at this; omega
  · obtain ⟨h1, h2⟩ := a2 d hd
    exact ⟨by omega, h2⟩
  · rcases List.mem_append.mp hd with hd | hd
    · rcases List.mem_append.mp hd with hd | hd
      · obtain ⟨h1, h2⟩ := b2 d hd
        exact ⟨by omega, h2⟩
      · exact hL.2 d hd
    · exact hO.2 d hd
/-- knots with room for a drop more -/
structure KnotsC (N : List Nm) (ks : List (Nm × Kn)) : Prop where
  keys : ks.map (·.1) = N
  kn : ∀ p ∈ ks, KnC (N ++ [[111], [112]]) p.2
  chain : ∀ (i : Nat) (a b : Nm), N[i]? = some a → N[i + 1]? = some b → ∃ k, gt ks a = some k ∧ ∃ d ∈ k.2, b ∈ d
theorem knotsD_ok {ns : List Int} {nm : List Nat} {b : Bool} (h63 : ns.length ≤ 63) (hn : nm.length ≤ 4) (nd : nm.Nodup) {at_ : Nat} (ha : at_ ≤ 100) : KnotsC (nm.map fun c => [c]) (knotsD ns nm b at_) := by
  have keys : (knotsD ns nm b at_).map (·.1) = nm.map fun c => [c] := by
    unfold knotsD
    rw [List.map_map]
    apply List.ext_getElem (by simp)
    intro i h1 h2
    simp at h1 h2
    simp [List.getD_eq_getElem?_getD, h2]
  refine ⟨keys, fun p hp => ?_, fun i a c ha' hc => ?_⟩
  · unfold knotsD at hp
    obtain ⟨i, hi, rfl⟩ := List.mem_map.mp hp
    have := List.mem_range.mp hi
    exact knotD_ok h63 hn ha (by omega)
  · have hi1 : i + 1 < nm.length := by have := (List.getElem?_eq_some_iff.mp hc).1; simpa using this
    have hga : a = [nm[i]] := by
      rw [List.getElem?_map, List.getElem?_eq_getElem (by omega)] at ha'
      exact (Option.some.inj ha').symm
    have hgc : c = [nm[i + 1]] := by
      rw [List.getElem?_map, List.getElem?_eq_getElem hi1] at hc
      exact (Option.some.inj hc).symm
    refine ⟨knotD ns (nm.map (fun c => [c]) ++ [[111], [112]]) nm b at_ i, gt_of_mem ?_ ?_, [[nm.getD (i + 1) 0]], ?_, ?_⟩
    · rw [keys]
      exact List.Pairwise.map _ (fun x y h e => h (by injection e)) nd
    · unfold knotsD
      refine List.mem_map.mpr ⟨i, List.mem_range.mpr (by omega), ?_⟩
      rw [hga]
      simp [List.getD_eq_getElem?_getD, List.getElem?_eq_getElem (show i < nm.length by omega)]
    · unfold knotD lastD
      rw [if_pos hi1]; simp
    · rw [hgc]
      simp [List.getD_eq_getElem?_getD, List.getElem?_eq_getElem hi1]
theorem KnC.B {ns : List Nm} {k : Kn} (h : KnC ns k) : KnB ns k := ⟨by have := h.f; omega, by have := h.t; omega, h.ne, h.df, h.dt⟩
theorem KnotsC.B {N : List Nm} {ks : List (Nm × Kn)} (h : KnotsC N ks) : Knots N ks := ⟨h.keys, fun p hp => (h.kn p hp).B, h.chain⟩
/-- one knot changed -/
def setK {α : Type} (ks : List (Nm × α)) (n : Nm) (k : α) : List (Nm × α) := ks.map fun p => if p.1 = n then (p.1, k) else p
theorem setK_keys {α : Type} (ks : List (Nm × α)) (n : Nm) (k : α) : (setK ks n k).map (·.1) = ks.map (·.1) := by
  unfold setK
  rw [List.map_map]
  apply List.map_congr_left
  intro p _
  show (if p.1 = n then (p.1, k) else p).1 = p.1
  split <;> rfl
theorem gt_setK {α : Type} {n m : Nm} {k : α} : ∀ {ks : List (Nm × α)}, gt (setK ks n k) m = if m = n then (gt ks m).map (fun _ => k) else gt ks m
  | [] => by simp [setK, gt]
  | p :: ks => by
    have ih := gt_setK (n := n) (m := m) (k := k) (ks := ks)
    obtain ⟨a, v⟩ := p
    show gt ((if a = n then (a, k) else (a, v)) :: setK ks n k) m = _
    by_cases h1 : a = n
    · rw [if_pos h1]
      unfold gt
      by_cases h2 : a = m
      · rw [if_pos h2, if_pos h2, if_pos (by rw [← h2, h1])]; rfl
      · rw [if_neg h2, if_neg h2]; exact ih
    · rw [if_neg h1]
      unfold gt
      by_cases h2 : a = m
      · rw [if_pos h2, if_pos h2, if_neg (by rw [← h2]; exact h1)]
      · rw [if_neg h2, if_neg h2]; exact ih
theorem KnotsC.set {N : List Nm} {ks : List (Nm × Kn)} {n : Nm} {k k' : Kn} (h : KnotsC N ks) (hg : gt ks n = some k) (hk : KnB (N ++ [[111], [112]]) k') (hs : ∀ d ∈ k.2, d ∈ k'.2) : Knots N (setK ks n k') := by
  refine ⟨by rw [setK_keys, h.keys], fun p hp => ?_, fun i a b ha hb => ?_⟩
  · unfold setK at hp
    obtain ⟨q, hq, rfl⟩ := List.mem_map.mp hp
    split
    · exact hk
    · exact (h.kn q hq).B
  · obtain ⟨j, hj, d, hd, hbd⟩ := h.chain i a b ha hb
    by_cases e : a = n
    · subst e
      rw [hg] at hj
      cases hj
      exact ⟨k', by rw [gt_setK, if_pos rfl, hg]; rfl, d, hs d hd, hbd⟩
    · exact ⟨j, by rw [gt_setK, if_neg e]; exact hj, d, hd, hbd⟩
end K07
/-! QI: the law's helpers, small methods, Net(..) of things that change. -/
namespace Mo
open PySem PySem.Spec PyProof.Rows L2
theorem prsK_ent {α : Type} (f : α → U) : ∀ l : List (Nm × α), prsK (prsOf (ent f l)) = some (ent f l)
  | [] => rfl
  | p :: l => by
    have ih := prsK_ent f l
    show (match (some (Ky.str p.1) : Option Ky), prsK (prsOf (ent f l)) with
      | some kk, some r => if fits false kk = true then some ((kk, f p.2) :: r) else none
      | _, _ => none) = _
    rw [ih]; rfl
theorem dPut_new {α : Type} {f : α → U} {l : List (Nm × α)} {n : Nm} {u : U} (h : n ∉ l.map (·.1)) : dPut (ent f l) (.str n) u = ent f l ++ [(.str n, u)] := by
  unfold dPut
  rw [dGet_ent, gt_none h]; rfl
theorem dPut_old {α : Type} {f : α → U} {l : List (Nm × α)} {n : Nm} {v : α} (h : n ∈ l.map (·.1)) : dPut (ent f l) (.str n) (f v) = ent f (l.map fun p => if p.1 = n then (p.1, v) else p) := by
  have : (gt l n).isSome = true := by rw [K07.gt_keys]; simpa using h
  unfold dPut
  rw [dGet_ent, Option.isSome_map, if_pos this]
  unfold ent
  rw [List.map_map, List.map_map]
  apply List.map_congr_left
  intro p _
  show (if (p.1 == n) = true then (Ky.str p.1, f v) else (Ky.str p.1, f p.2)) = (Ky.str (if p.1 = n then (p.1, v) else p).1, f (if p.1 = n then (p.1, v) else p).2)
  by_cases e : p.1 = n
  · rw [if_pos (by simpa using e), if_pos e]
  · rw [if_neg (by simpa using e), if_neg e]
theorem mrgK_ent {α : Type} (f : α → U) : ∀ (l a : List (Nm × α)), ((a ++ l).map (·.1)).Nodup → mrgK (ent f a) (ent f l) = ent f (a ++ l)
  | [], a, _ => by rw [List.append_nil]; rfl
  | p :: l, a, nd => by
    have hn : p.1 ∉ a.map (·.1) := fun h => by
      rw [List.map_append, List.nodup_append] at nd
      exact nd.2.2 _ h _ List.mem_cons_self rfl
    have ih := mrgK_ent f l (a ++ [p]) (by rw [List.append_assoc]; exact nd)
    show mrgK (dPut (ent f a) (.str p.1) (f p.2)) (ent f l) = _
    rw [dPut_new hn, show ent f a ++ [(Ky.str p.1, f p.2)] = ent f (a ++ [p]) by simp, ih, List.append_assoc]; rfl
theorem mrgK_app {kvs a : List (Ky × U)} : ∀ l : List (Ky × U), mrgK kvs (l ++ a) = mrgK (mrgK kvs l) a := fun l => by
  induction l generalizing kvs with
  | nil => rfl
  | cons p l ih => exact ih
theorem items_ok {α : Type} {f : α → U} {l : List (Nm × α)} {u : U} {s : S} (h : dctOf u s = some (false, ent f l)) (hn : ∀ n ∈ l.map (·.1), n.length ≤ 16) (hl : l.length ≤ 100) : gItemsL false u s = some (.lst (prsOf (ent f l)), s) := by
  have h1 : (ent f l).all (fun p => kyOk p.1) = true := by
    rw [List.all_eq_true]
    intro p hp
    obtain ⟨q, hq, rfl⟩ := List.mem_map.mp hp
    have := hn q.1 (List.mem_map.mpr ⟨q, hq, rfl⟩)
    simp [kyOk, kyOk1, sizeLine_eq]
    omega
  have h2 : (prsOf (ent f l)).length ≤ 1000 := by unfold prsOf; simp; omega
  unfold gItemsL
  rw [h]
  simp only [h1, if_true]
  exact k_mkL h2
theorem dict_ok {α : Type} {f : α → U} {l : List (Nm × α)} {s : S} (nd : (l.map (·.1)).Nodup) (hl : l.length ≤ 100) (lv : Bool) : gDictOf lv [.lst (prsOf (ent f l))] s = mkD lv false (ent f l) s := by
  have e := mrgK_ent f l [] nd
  have e : mrgK [] (ent f l) = ent f l := e
  simp only [gDictOf, dctOf, lstOf, prsK_ent, e]
theorem list_ok {α : Type} {f : α → U} {l : List (Nm × α)} {u : U} {s : S} (h : dctOf u s = some (false, ent f l)) (hs : ∀ x, u ≠ .str x) (hn : ∀ n ∈ l.map (·.1), n.length ≤ 16) (hl : l.length ≤ 100) : gListOf false [u] s = some (.lst (nms (l.map (·.1))), s) := by
  have h2 := keysOf_ent (f := f) hn
  have h3 := k_mkL (us := nms (l.map (·.1))) (s := s) (by simp; omega)
  rcases dctOf_cases h with rfl | ⟨i, rfl, e | e⟩
  · simp only [gListOf, seqOf, tupOf, lstOf, dctOf, h2]; exact h3
  all_goals simp only [gListOf, seqOf, tupOf, lstOf, dctOf, e, h2]; exact h3
end Mo
namespace K07
open Mo PySem PySem.Spec PyProof.Rows L2
variable {ns : List Int}
theorem sortedL_ok {N : List Nm} {s : S} (hl : N.length ≤ 60) : gSorted false [.lst (nms N)] s = some (.lst (nms (sortN N)), s) := gSorted_nms (seq_star rfl) hl
theorem inlets_ok (h63 : ns.length ≤ 63) {ks : List (Nm × Kn)} {N : List Nm} (hk : ks.map (·.1) = N) (hN : N.length ≤ 4) (h0 : 0 < N.length) (hn : ∀ n ∈ N, n.length ≤ 16) (srt : sortN N = N) : ∃ x ∈ N, ∀ s, callP m__law_inlets [.scr (ns.map U.int), .int 5, .dct false (KD ks)] s = .ok (.dct false (ID [([105], [97]), ([106], x)])) s := by
  have hlen : ks.length = N.length := by rw [← hk]; simp
  have hd := drw_lt h63 (a := 5) (m := N.length) (by omega) h0 (by omega)
  refine ⟨N[drw ns 5 N.length], List.getElem_mem hd, fun s => callP_ok ?_ (s' := []) (k_rt ?_) rfl⟩
  · show (pus (ns.map U.int) && (puk (KD ks) && true)) = true
    rw [pus_ints, puk_ent pu_knot]; rfl
  show b__law_inlets [some (.scr (ns.map U.int)), some (.int 5), some (.dct false (KD ks))] [] = _
  have li := list_ok (f := uKnot) (l := ks) (u := .dct false (KD ks)) (s := []) rfl (fun _ e => by cases e) (by rw [hk]; exact hn) (by omega)
  rw [hk] at li
  have so := sortedL_ok (N := N) (s := []) (by omega)
  rw [srt] at so
  exact k_ret (k_disp (k_dcons rfl rfl (k_dcons rfl (k_op (k_n (k_cons (k_n (k_cons (k_v rfl) k_nil) li) k_nil) so) (k_call (k_cons (k_v rfl) (k_cons (k_v rfl) (k_cons (k_n (k_cons (k_v rfl) k_nil) (dct_len rfl)) k_nil))) (drw_ok h63 (a := 5) (m := N.length) rfl (by simp [hlen]) (by omega) h0 (by omega) _)) (k_ixL (by rw [List.getElem?_map, List.getElem?_eq_getElem hd]; rfl))) k_dnil rfl rfl) rfl rfl) (by simp) (k_mkD (show 2 ≤ 1000 by decide)))
/-! ### small methods -/
section
variable {u : U} {s : S} {K : List (Nm × Kn)} {I : List (Nm × Nm)} {O : List Nm}
theorem fld_net (h : insOf u s = some (7628110, netG K I O)) {f : Nat} {w : U} (e : fldGet f (netG K I O) = some w) : gFld f u s = some (w, s) := by
  unfold gFld
  rw [h]; simp only [e]
theorem start_ok (h : insOf u s = some (7628110, netG K I O)) (nd : (K.map (·.1)).Nodup) (hl : K.length ≤ 50) : m_Net_start [u] s = .ok (.ref s.length) (s ++ [.dct false (ent U.int (K.map fun p => (p.1, (0 : Int))))]) := by
  refine k_rt ?_
  show b_Net_start [some u, none] s = _
  have d := dcGo_nms (j := 1) (e := ce_Net_start_0) (l := [some u, none]) (s := s) (g := fun _ => .int 0) (by simp) (K.map (·.1)) [] nd (fun _ _ => rfl) (by simp; omega) fun n _ => rfl
  have e : (K.map (·.1)).map (fun n => (Ky.str n, U.int 0)) = ent U.int (K.map fun p => (p.1, (0 : Int))) := by simp [ent]
  rw [List.nil_append, e] at d
  exact k_ret (k_dc (k_fn (k_un (k_v rfl) (fld_net h rfl)) rfl) d (k_mkDT (by simp; omega)))
theorem len_ok (h : insOf u s = some (7628110, netG K I O)) : m_Net_len [u] s = .ok (.int K.length) s := by
  refine k_rt ?_
  show b_Net_len [some u] s = _
  exact k_ret (k_n (k_cons (k_un (k_v rfl) (fld_net h rfl)) k_nil) ((dct_len rfl).trans (by simp)))
theorem flb_nms {t : Nm} : ∀ os : List Nm, ((nms os).any fun w => flb w (.str t)) = decide (t ∈ os)
  | [] => rfl
  | o :: os => by
    have ih := flb_nms (t := t) os
    show ((o == t) || (nms os).any fun w => flb w (.str t)) = _
    rw [ih]
    by_cases h : o = t
    · subst h; simp
    · have : ¬ t = o := fun e => h e.symm
      have h2 : (o == t) = false := by simpa using h
      simp [this, h2]
theorem in_tup {t : Nm} {os : List Nm} {s : S} : gIn (.str t) (.tup (nms os)) s = some (.bl (decide (t ∈ os)), s) := by
  have h1 : (nms os).all isFl = true := by simp [isFl]
  unfold gIn inA
  simp only [dctOf, seqOf, tupOf, h1, isFl, and_self, if_true, flb_nms]
theorem in_dct {α : Type} {f : α → U} {l : List (Nm × α)} {u : U} {s : S} {n : Nm} (h : dctOf u s = some (false, ent f l)) : gIn (.str n) u s = some (.bl (decide (n ∈ l.map (·.1))), s) := by
  unfold gIn
  rw [inA_dct h, gt_keys]
theorem or_ok {m1 m2 : EM} {l : L} {s : S} {a b : Bool} (h1 : m1 l s = .ok (.bl a) s) (h2 : m2 l s = .ok (.bl b) s) : eOrM m1 m2 l s = .ok (.bl (a || b)) s := by
  cases a with
  | true => exact k_eOrT h1
  | false => exact k_eOrF h1 h2
theorem contains_ok (h : insOf u s = some (7628110, netG K I O)) (t : Nm) : m_Net_contains [u, .str t] s = .ok (.bl (decide (t ∈ K.map (·.1)) || decide (t ∈ O))) s := by
  refine k_rt ?_
  show b_Net_contains [some u, some (.str t)] s = _
  exact k_ret (or_ok (k_op (k_v rfl) (k_un (k_v rfl) (fld_net h rfl)) (in_dct rfl)) (k_op (k_v rfl) (k_un (k_v rfl) (fld_net h rfl)) in_tup))
end
theorem set_same {s : S} {i : Nat} {o : O} (h : s[i]? = some o) : s.set i o = s := by
  apply List.ext_getElem?
  intro j
  by_cases e : i = j
  · subst e
    rw [h, List.getElem?_set_self (List.getElem?_eq_some_iff.mp h).1]
  · rw [List.getElem?_set_ne e]
theorem mkS_ok {ks : List (Nm × Kn)} {is : List (Nm × Nm)} {os : List Nm} {s : S} {a b c : Nat} (N : NetOk ks is os) (ha : s[a]? = some (.dct false (KD ks))) (hb : s[b]? = some (.dct false (ID is))) (hc : s[c]? = some (.lst (nms os))) (hab : a ≠ b) :
    ∃ e, mkS 7628110 m_Net_init [.ref a, .ref b, .ref c] s = .ok (.ref s.length) (s ++ [O.ins 7628110 (netG (srtP ks) (srtP is) (sortN os))] ++ e) := by
  have la := (List.getElem?_eq_some_iff.mp ha).1
  have lb := (List.getElem?_eq_some_iff.mp hb).1
  have lc := (List.getElem?_eq_some_iff.mp hc).1
  have ra : ∀ e : S, (s ++ e)[a]? = some (.dct false (KD ks)) := fun e => by rw [List.getElem?_append_left la]; exact ha
  have rb : ∀ e : S, (s ++ e)[b]? = some (.dct false (ID is)) := fun e => by rw [List.getElem?_append_left lb]; exact hb
  have rc : ∀ e : S, (s ++ e)[c]? = some (.lst (nms os)) := fun e => by rw [List.getElem?_append_left lc]; exact hc
  obtain ⟨e, h⟩ := init_ok (σ := fun fs => s ++ [.ins 7628110 fs]) (i := s.length) (u1 := .ref a) (u2 := .ref b) (u3 := .ref c) (ks := ks) (is := is) (os := os) (fun fs e => by simp) (fun fs fs' => by simp) (fun fs => by simp only [dctOf, ra]) (fun fs => by simp only [dctOf, rb]) (fun fs => by simp only [seqOf, tupOf, lstOf, rc])
    ⟨(s ++ [O.ins 7628110 []]).set b (.ld false (ID is)), by simp only [dctOf]; rw [List.getElem?_set_ne (fun e => hab e.symm), ra], by simp only [dctOf]; rw [List.getElem?_set_self (by simp; omega)], by simp only [dctF]; rw [List.getElem?_set_self (by simp; omega)], fun B l l' hl hB => by
      unfold sLk
      rw [hl]
      simp only [rb, hB, List.set_set]
      rw [set_same (rb _)]⟩ N
  refine ⟨e, ?_⟩
  unfold mkS
  rw [h, netF_G]
end K07
/-! QJ: the law's parts. -/
namespace K07
open Mo PySem PySem.Spec PyProof.Rows L2
def letters : List Nm := [[97], [98], [99], [100], [111], [112], [105], [106], [107], [113], [121], [122]]
theorem letters_ok {n : Nm} (h : n ∈ letters) : NmOk n ∧ n.length ≤ 16 := by
  have q : letters.all (fun n => isTrue (m_is_name [.str n] []) && decide (n.length ≤ 16)) = true := by decide +kernel
  have := List.all_eq_true.mp q n h
  rw [Bool.and_eq_true] at this
  exact ⟨this.1, by simpa using this.2⟩
def chk (N os is : List Nm) : Bool := decide (N ++ (os ++ is)).Nodup && (N ++ (os ++ is)).all fun n => decide (n ∈ letters)
abbrev op : List Nm := [[111], [112]]
def OS : List (List Nm) := [[[112], [111]], [[111], [112]], [[111], [112], [113]], [[112], [111], [113]], [[113], [112], [111]]]
def IS : List (List Nm) := [[[105], [106]], [[106], [105]], [[105]], [[105], [107]], [[105], [106], [107]]]
/-- what is asked of the names -/
structure NF (N : List Nm) : Prop where
  l4 : N.length ≤ 4
  h0 : N[0]? = some [97]
  nd : N.Nodup
  srt : sortN N = N
  srtr : sortN N.reverse = N
  ck : ∀ os ∈ OS, ∀ is ∈ IS, chk N os is = true
  lt : ∀ n ∈ N, n.length ≤ 16
theorem nf_all : ∀ d : Nat, d < 4 → NF ((([97, 98, 99, 100] : List Nat).take (1 + d)).map fun c => [c])
  | 0, _ => ⟨by decide, rfl, by decide, by decide, by decide, by decide, by decide⟩
  | 1, _ => ⟨by decide, rfl, by decide, by decide, by decide, by decide, by decide⟩
  | 2, _ => ⟨by decide, rfl, by decide, by decide, by decide, by decide, by decide⟩
  | 3, _ => ⟨by decide, rfl, by decide, by decide, by decide, by decide, by decide⟩
section
variable {N : List Nm} {ks ks' : List (Nm × Kn)} {is : List (Nm × Nm)} {os : List Nm} {s : S}
theorem nok (F : NF N) (H : Knots N ks) (hp : ks.Perm ks') (hos : os ∈ OS) (his : is.map (·.1) ∈ IS) (hi : ∀ p ∈ is, p.2 ∈ N) (hia : ∃ p ∈ is, p.2 = [97]) : NetOk ks' is os := by
  have c := F.ck os hos _ his
  unfold chk at c
  rw [Bool.and_eq_true, List.all_eq_true] at c
  have o1 : ∀ os ∈ OS, (∀ n ∈ op, n ∈ os) ∧ os.length ≤ 4 := by decide
  have i1 : ∀ is ∈ IS, is.length ≤ 4 := by decide
  have il := i1 _ his
  rw [List.length_map] at il
  exact H.netOk hp F.l4 F.h0 (by simpa using c.1) (fun n hn => letters_ok (by simpa using c.2 n hn)) (o1 os hos).1 (o1 os hos).2 hi hia il
theorem srtP_perm {α : Type} [Inhabited α] {l l' : List (Nm × α)} (nd : (l.map (·.1)).Nodup) (hp : l.Perm l') (hs : sortN (l'.map (·.1)) = l.map (·.1)) : srtP l' = l := by
  unfold srtP
  rw [hs, List.map_map]
  refine Eq.trans (List.map_congr_left (g := fun p => p) fun p h => ?_) (List.map_id' _)
  show (p.1, gtD l' p.1) = p
  have : gtD l' p.1 = p.2 := by
    unfold gtD
    rw [gt_perm nd hp, gt_of_mem (n := p.1) (v := p.2) nd h]; rfl
  rw [this]
theorem isort_id {α : Type} {l : List (Nm × α)} (nd : (l.map (·.1)).Nodup) (hs : sortN (l.map (·.1)) = l.map (·.1)) : isort (fun a b : Nm × α => sLt a.1 b.1) l = l := by
  have hp := p_isort_perm (fun a b : Nm × α => sLt a.1 b.1) l
  have hk : (isort (fun a b : Nm × α => sLt a.1 b.1) l).map (·.1) = l.map (·.1) := by
    rw [← p_isort_map sLt (fun p : Nm × α => p.1) l]; exact hs
  generalize isort (fun a b : Nm × α => sLt a.1 b.1) l = l' at hp hk
  have hlen : l'.length = l.length := hp.length_eq
  apply List.ext_getElem hlen
  intro i h1 h2
  have e1 : l'[i].1 = l[i].1 := by
    have := congrArg (fun x => x[i]?) hk
    simpa [h1, h2] using this
  have m1 : l'[i] ∈ l := hp.mem_iff.mp (List.getElem_mem h1)
  have g1 := gt_of_mem (n := l'[i].1) (v := l'[i].2) nd m1
  have g2 := gt_of_mem (n := l[i].1) (v := l[i].2) nd (List.getElem_mem h2)
  rw [e1, g2] at g1
  exact Prod.ext e1 (Option.some.inj g1).symm
theorem prsOf_ent {α : Type} (f : α → U) (l : List (Nm × α)) : prsOf (ent f l) = l.map fun p => U.tup [.str p.1, f p.2] := by simp [prsOf, ent, kyU]
theorem sortedI_ok {α : Type} {f : α → U} {l : List (Nm × α)} (nd : (l.map (·.1)).Nodup) (hs : sortN (l.map (·.1)) = l.map (·.1)) (hl : l.length ≤ 60) : gSorted false [.lst (prsOf (ent f l))] s = some (.lst (prsOf (ent f l)), s) := by
  have hf : ∀ l : List (Nm × α), fstsOf (prsOf (ent f l)) = some (l.map (·.1)) := fun l => by
    induction l with
    | nil => rfl
    | cons p l ih =>
      show (match fstS (.tup [.str p.1, f p.2]), fstsOf (prsOf (ent f l)) with
        | some z, some zs => some (z :: zs)
        | _, _ => none) = _
      rw [ih]; rfl
  have hn : ∀ ns : List Nm, ns.Nodup → nodupL ns = true := fun ns => by
    induction ns with
    | nil => intro _; rfl
    | cons n ns ih =>
      intro h
      obtain ⟨h1, h2⟩ := List.nodup_cons.mp h
      show (!(ns.any fun y => y == n) && nodupL ns) = true
      rw [ih h2]
      simp
      intro x hx e
      exact h1 (by rw [← e]; exact hx)
  have hk : isort (fun u w => sLt (keyT u) (keyT w)) (prsOf (ent f l)) = prsOf (ent f l) := by
    rw [prsOf_ent, p_isort_map]
    exact congrArg _ (isort_id nd hs)
  have hsr : srtU (prsOf (ent f l)) = some (prsOf (ent f l)) := by
    cases l with
    | nil => rfl
    | cons p l =>
      unfold srtU
      rw [show intsOf (prsOf (ent f (p :: l))) = none from rfl, show strsOf (prsOf (ent f (p :: l))) = none from rfl, hf]
      simp only [hn _ nd, if_true, hk]
  unfold gSorted
  have st : starOf (.lst (prsOf (ent f l))) s = some (prsOf (ent f l)) := rfl
  simp only [st, hsr]
  exact k_mkL (by unfold prsOf; simp; omega)
/-- == of nets -/
theorem own_eq {u v : U} {K K' : List (Nm × Kn)} {I I' : List (Nm × Nm)} {O O' : List Nm} (h1 : insOf u s = some (7628110, netG K I O)) (h2 : insOf v s = some (7628110, netG K' I' O')) (h3 : tyU v s = none) :
    ∃ r : Bool, ownEq t_eq [7628110] u v s = .ok (.bl r) s ∧ ownNe t_eq [7628110] u v s = .ok (.bl (!r)) s ∧ (r = true ↔ (Same K K' ∧ Same I I') ∧ O = O') := by
  obtain ⟨r, e, i⟩ := net_eq h1 h2 h3
  have q : rtOk [7628110] v s = true := by
    unfold rtOk
    rw [h3, h2]; rfl
  have q2 : ownC t_eq [u, v] s = .ok (.bl r) s := by
    unfold ownC
    simp only [h1]
    exact e
  refine ⟨r, ?_, ?_, i⟩
  · unfold ownEq; rw [if_pos q, q2]
  · unfold ownNe; rw [if_pos q, q2]; rfl
theorem own_eqT {u v : U} {T : String} {K : List (Nm × Kn)} {I : List (Nm × Nm)} {O : List Nm} (h1 : insOf u s = some (7628110, netG K I O)) (h3 : tyU v s = some T) : ownEq t_eq [7628110] u v s = .ok (.bl false) s := by
  have q : rtOk [7628110] v s = true := by
    unfold rtOk
    rw [h3]
  have gi : gIsC 7628110 v s = some (.bl false, s) := by
    unfold gIsC
    rw [h3]
  unfold ownEq
  rw [if_pos q]
  unfold ownC
  simp only [h1]
  refine k_rt ?_
  show b_Net_eq [some u, some v] s = _
  exact k_seq_rt (k_ifT (k_notT (k_b (k_un (k_v rfl) gi))) (k_ret rfl))
theorem own_in {v : U} {t : Nm} {K : List (Nm × Kn)} {I : List (Nm × Nm)} {O : List Nm} (h1 : insOf v s = some (7628110, netG K I O)) : ownIn t_contains (.str t) v s = .ok (.bl (decide (t ∈ K.map (·.1)) || decide (t ∈ O))) s := by
  have q2 : ownC t_contains [v, .str t] s = .ok (.bl (decide (t ∈ K.map (·.1)) || decide (t ∈ O))) s := by
    unfold ownC
    simp only [h1]
    exact contains_ok h1 t
  unfold ownIn
  rw [q2]; rfl
theorem ownLen_int {t : Tbl} {u : U} {s s1 : S} {n : Int} (h : ownC t [u] s = .ok (.int n) s1) (h1 : 0 ≤ n ∧ n < 2 ^ 63) : ownLen t u s = .ok (.int n) s1 := by
  unfold ownLen
  rw [h]
  exact if_pos h1
theorem own_len {v : U} {K : List (Nm × Kn)} {I : List (Nm × Nm)} {O : List Nm} (h1 : insOf v s = some (7628110, netG K I O)) (hl : K.length ≤ 100) : ownLen t_len v s = .ok (.int K.length) s := by
  have q2 : ownC t_len [v] s = .ok (.int K.length) s := by
    unfold ownC
    simp only [h1]
    exact len_ok h1
  exact ownLen_int q2 (by omega)
theorem ne_bl (b : Bool) (s : S) : gNe (.bl b) (.bl b) s = some (.bl false, s) := by cases b <;> rfl
theorem ne_int (i : Int) (s : S) : gNe (.int i) (.int i) s = some (.bl false, s) := by
  obtain ⟨r, e, h⟩ := Emb.int.ne (by decide) i i s
  have : r = false := by cases r with
    | false => rfl
    | true => exact absurd rfl (h.mp rfl)
  rw [e, this]
theorem ne_items {α : Type} {n : Nat} {f : α → U} {d : α → D} (e : Emb n f d) (hn : n ≤ 30) (h1 : 1 ≤ n) (l : List (Nm × α)) : gNe (.lst (prsOf (ent f l))) (.lst (prsOf (ent f l))) s = some (.bl false, s) := by
  obtain ⟨r, e, h⟩ := ((Emb.str.up h1).pair e).lst.ne (by omega) l l s
  have : r = false := by cases r with
    | false => rfl
    | true => exact absurd rfl (h.mp rfl)
  rw [prsOf_ent]
  exact e.trans (by rw [this])
end
end K07
/-! QK: rows and knots that are none. -/
namespace Mo
def leaves (o : F) : Bool := match o with
  | .rt _ _ => true
  | .ex _ _ _ => true
  | _ => false
theorem loop_bad {j : Nat} {body : SM} {s : S} {v : U} {o : F} (vs : List U) : ∀ (us : List U) (l : L) (y : Option U), l[j]? = some y → (∀ u ∈ us, body (l.set j (some u)) s = .nx (l.set j (some u)) s) → body (l.set j (some v)) s = o → leaves o = true → loopM (gNm j) body (us ++ v :: vs) l s = o
  | [], l, y, h, _, hb, ho => by
    show loopM (gNm j) body (v :: vs) l s = o
    unfold loopM
    simp only [gNm, hb]
    cases o with
    | rt u s => rfl
    | ex x l s => rfl
    | _ => cases ho
  | u :: us, l, y, h, hg, hb, ho => by
    have h1 := hg u List.mem_cons_self
    have hj : j < l.length := (List.getElem?_eq_some_iff.mp h).1
    have ih := loop_bad (body := body) (s := s) (v := v) (o := o) vs us (l.set j (some u)) (some u) (List.getElem?_set_self hj) (fun w hw => by
      rw [List.set_set]
      exact hg w (List.mem_cons_of_mem _ hw)) (by rw [List.set_set]; exact hb) ho
    show loopM (gNm j) body (u :: (us ++ v :: vs)) l s = o
    unfold loopM
    simp only [gNm, h1]
    exact ih
theorem k_nt {t : TMt} {l : L} {s s1 : S} (h : t l s = .ok true s1) : tNotM t l s = .ok false s1 := by simp [tNotM, h]
theorem k_nf {t : TMt} {l : L} {s s1 : S} (h : t l s = .ok false s1) : tNotM t l s = .ok true s1 := by simp [tNotM, h]
theorem k_for_rt {im : IM} {g : GM} {b : SM} {l : L} {s s1 : S} {us : List U} {o : F} (h : im l s = .ok us s1) (h2 : loopM g b us l s1 = o) : sFor im g b l s = o := k_for h h2
theorem k_seq_lv {a b : SM} {l : L} {s : S} {o : F} (h : a l s = o) (ho : leaves o = true) : sSeq a b l s = o := by
  unfold sSeq
  rw [h]
  cases o with
  | rt u s => rfl
  | ex x l s => rfl
  | _ => cases ho
end Mo
namespace K07
open Mo PySem PySem.Spec PyProof.Rows L2
variable {ns : List Nm}
/-- whether a thing is a known target -/
def okT (ns : List Nm) : U → Bool
  | .str t => decide (t ∈ ns)
  | _ => false
def isFlt : U → Bool
  | .str _ => true
  | .int _ => true
  | _ => false
theorem bls_map (f : U → Bool) : ∀ us : List U, blsOf (us.map fun u => U.bl (f u)) = some (us.map f)
  | [] => rfl
  | u :: us => by
    show (match blsOf (us.map fun u => U.bl (f u)) with
      | some bs => some (f u :: bs)
      | none => none) = _
    rw [bls_map f us]; rfl
theorem drop_tup {v y : Option U} {us : List U} (hl : us.length ≤ 100) (hf : ∀ u ∈ us, isFlt u = true) (hbad : 4 < us.length ∨ us.all (okT ns) = false) : lb_is_row_1 [v, some (.dct false (known ns)), some (.tup us), y] [] = .rt (.bl false) [] := by
  have gl : gLen [.tup us] [] = some (.int us.length, []) := by simp [gLen, seqOf, tupOf]
  by_cases h4 : 4 < us.length
  · refine k_seq_rt (k_ifT (k_orF (k_nt (k_b (k_un (k_v rfl) rfl))) (k_b (k_op (k_n (k_cons (k_v rfl) k_nil) gl) rfl ?_))) (k_ret rfl))
    simp only [gGt, gCmp]
    congr 4
    exact decide_eq_true (by omega)
  · have hb : us.all (okT ns) = false := hbad.resolve_left h4
    have g4 : gGt (.int us.length) (.int 4) [] = some (.bl false, []) := by
      simp only [gGt, gCmp]
      congr 4
      exact decide_eq_false (by omega)
    refine k_seq (k_ifF (k_orF (k_nt (k_b (k_un (k_v rfl) rfl))) (k_b (k_op (k_n (k_cons (k_v rfl) k_nil) gl) rfl g4))) rfl) ?_
    have lc := lcGo_map (g := .nm 3) (e := ce_is_row_0) (l := [v, some (.dct false (known ns)), some (.tup us), none]) (f := fun u => .bl (okT ns u)) (s := []) us fun u hu => by
      refine ⟨_, rfl, ?_⟩
      have := hf u hu
      cases u with
      | str t =>
        have gi : gIn (.str t) (.dct false (known ns)) [] = some (.bl (decide (t ∈ ns)), []) := by
          unfold gIn
          rw [inA_ns (g := fun _ => .bl true) rfl]
        exact k_eAndT (k_un (k_v rfl) rfl) (k_op (k_v rfl) (k_v rfl) gi)
      | int i => exact k_eAndF (k_un (k_v rfl) rfl)
      | _ => cases this
    have ga : gAll [.lst (us.map fun u => U.bl (okT ns u))] [] = some (.bl false, []) := by
      have : (us.map (okT ns)).all id = us.all (okT ns) := by rw [List.all_map]; rfl
      simp only [gAll, gBls, lstOf, bls_map, this, hb]
    exact k_ifT (k_nf (k_b (k_n (k_cons (k_lc (k_fn (k_v rfl) rfl) lc (k_mkL (by simp; omega))) k_nil) ga))) (k_ret rfl)
theorem drop_str {v y : Option U} {t : Nm} : lb_is_row_1 [v, some (.dct false (known ns)), some (.str t), y] [] = .rt (.bl false) [] :=
  k_seq_rt (k_ifT (k_orT (k_nf (k_b (k_un (k_v rfl) rfl)))) (k_ret rfl))
theorem row_cut {us : List U} (hl : us.length ≤ 100) : gLen [.tup us] [] = some (.int us.length, []) := by simp [gLen, seqOf, tupOf]
/-- a row that is none -/
def RowNo (ns : List Nm) (v : U) : Prop := m_is_row [v, .dct false (known ns)] [] = .ok (.bl false) []
theorem rowNo_ty {v : U} {T : String} (h : tyU v [] = some T) (hT : isT T "tuple" = false) : RowNo ns v := by
  have g : gIsB [7628110] "tuple" v [] = some (.bl false, []) := by
    unfold gIsB
    rw [h]
    simp only [hT]
  refine k_rt ?_
  show b_is_row [some v, some (.dct false (known ns)), none, none] [] = _
  exact k_seq_rt (k_ifT (k_orT (k_nf (k_b (k_un (k_v rfl) g)))) (k_ret rfl))
theorem rowNo_long {us : List U} (h : 12 < us.length) (hl : us.length ≤ 100) : RowNo ns (.tup us) := by
  refine k_rt ?_
  show b_is_row [some (.tup us), some (.dct false (known ns)), none, none] [] = _
  refine k_seq_rt (k_ifT (k_orF (k_nt (k_b (k_un (k_v rfl) rfl))) (k_b (k_op (k_n (k_cons (k_v rfl) k_nil) (row_cut hl)) rfl ?_))) (k_ret rfl))
  simp only [gGt, gCmp]
  congr 4
  exact decide_eq_true (by omega)
theorem drop_good {v y : Option U} {d : List Nm} (h : d.length ≤ 4 ∧ ∀ t ∈ d, t ∈ ns) : lb_is_row_1 [v, some (.dct false (known ns)), some (uDrop d), y] [] = .nx [v, some (.dct false (known ns)), some (uDrop d), y] [] := by
  have gl : gLen [uDrop d] [] = some (.int d.length, []) := by simp [gLen, seqOf, tupOf]
  have g4 : gGt (.int d.length) (.int 4) [] = some (.bl false, []) := by
    simp only [gGt, gCmp]
    congr 4
    have := h.1
    exact decide_eq_false (by omega)
  refine k_seq (k_ifF (k_orF (k_nt (k_b (k_un (k_v rfl) rfl))) (k_b (k_op (k_n (k_cons (k_v rfl) k_nil) gl) rfl g4))) rfl) ?_
  have lc := lcGo_map (g := .nm 3) (e := ce_is_row_0) (l := [v, some (.dct false (known ns)), some (uDrop d), none]) (f := fun u => .bl (okT ns u)) (s := []) (nms d) fun u hu => by
    obtain ⟨t, ht, rfl⟩ := List.mem_map.mp hu
    refine ⟨_, rfl, ?_⟩
    have gi : gIn (.str t) (.dct false (known ns)) [] = some (.bl (decide (t ∈ ns)), []) := by
      unfold gIn
      rw [inA_ns (g := fun _ => .bl true) rfl]
    exact k_eAndT (k_un (k_v rfl) rfl) (k_op (k_v rfl) (k_v rfl) gi)
  have ga : gAll [.lst ((nms d).map fun u => U.bl (okT ns u))] [] = some (.bl true, []) := by
    have e1 : ((nms d).map (okT ns)).all id = true := by
      rw [List.all_eq_true]
      intro b hb
      obtain ⟨u, hu, rfl⟩ := List.mem_map.mp hb
      obtain ⟨t, ht, rfl⟩ := List.mem_map.mp hu
      exact decide_eq_true (h.2 t ht)
    simp only [gAll, gBls, lstOf, bls_map, e1]
  exact k_ifF (k_nt (k_b (k_n (k_cons (k_lc (k_fn (k_v rfl) rfl) lc (k_mkL (by have := h.1; simp; omega))) k_nil) ga))) rfl
theorem rowNo_drop {r : List (List Nm)} {bad : U} (hr : ∀ d ∈ r, d.length ≤ 4 ∧ ∀ t ∈ d, t ∈ ns) (hl : r.length ≤ 11) (hb : ∀ v y, lb_is_row_1 [v, some (.dct false (known ns)), some bad, y] [] = .rt (.bl false) []) : RowNo ns (.tup (r.map uDrop ++ [bad])) := by
  refine k_rt ?_
  show b_is_row [some (.tup (r.map uDrop ++ [bad])), some (.dct false (known ns)), none, none] [] = _
  have g4 : gGt (.int (r.map uDrop ++ [bad]).length) (.int 12) [] = some (.bl false, []) := by
    simp only [gGt, gCmp]
    congr 4
    exact decide_eq_false (by simp; omega)
  refine k_seq (k_ifF (k_orF (k_nt (k_b (k_un (k_v rfl) rfl))) (k_b (k_op (k_n (k_cons (k_v rfl) k_nil) (row_cut (by simp; omega))) rfl g4))) rfl) ?_
  refine k_seq_rt (k_for (k_fn (k_v rfl) rfl) (loop_bad [] (r.map uDrop) _ none rfl (fun u hu => ?_) (hb _ _) rfl))
  obtain ⟨d, hd, rfl⟩ := List.mem_map.mp hu
  exact drop_good (hr d hd)
/-- a knot that is none -/
def KnotNo (ns : List Nm) (v : U) : Prop := m_is_knot [v, .dct false (known ns)] [] = .ok (.bl false) []
theorem row_call_no {v : U} (hp : pu v = true) (h : RowNo ns v) (s : S) : callP m_is_row [v, .dct false (known ns)] s = .ok (.bl false) s := by
  refine callP_ok ?_ h rfl
  show (pu v && (puk (known ns) && true)) = true
  rw [hp, puk_ns fun _ => rfl]; rfl
theorem knotNo_non : KnotNo ns .non := k_rt (k_seq_rt (k_ifT (k_orT (k_nf (k_b (k_un (k_v rfl) rfl)))) (k_ret rfl)))
theorem knotNo_one {u : U} : KnotNo ns (.tup [u]) := k_rt (k_seq_rt (k_ifT (k_orF (k_nt (k_b (k_un (k_v rfl) rfl))) (k_orT (k_b (k_op (k_n (k_cons (k_v rfl) k_nil) rfl) rfl rfl)))) (k_ret rfl)))
theorem knotNo_fst {a b : U} (hp : pu a = true) (h : RowNo ns a) : KnotNo ns (.tup [a, b]) := k_rt (k_seq_rt (k_ifT (k_orF (k_nt (k_b (k_un (k_v rfl) rfl))) (k_orF (k_b (k_op (k_n (k_cons (k_v rfl) k_nil) rfl) rfl rfl)) (k_nf (k_b (k_call (k_cons (k_op (k_v rfl) rfl rfl) (k_cons (k_v rfl) k_nil)) (row_call_no hp h _)))))) (k_ret rfl)))
theorem knotNo_snd {r : List (List Nm)} {b : U} (hr : r.length ≤ 12 ∧ ∀ d ∈ r, d.length ≤ 4 ∧ ∀ t ∈ d, t ∈ ns) (hp : pu b = true) (h : RowNo ns b) : KnotNo ns (.tup [uRow r, b]) :=
  k_rt (k_seq (k_ifF (k_orF (k_nt (k_b (k_un (k_v rfl) rfl))) (k_orF (k_b (k_op (k_n (k_cons (k_v rfl) k_nil) rfl) rfl rfl)) (k_nt (k_b (k_call (k_cons (k_op (k_v rfl) rfl rfl) (k_cons (k_v rfl) k_nil)) (is_row_call hr.1 hr.2 _)))))) rfl) (k_ret (k_eAndF (k_call (k_cons (k_op (k_v rfl) rfl rfl) (k_cons (k_v rfl) k_nil)) (row_call_no hp h _)))))
theorem knotNo_empty {r : List (List Nm)} (hr : r.length ≤ 12 ∧ ∀ d ∈ r, d.length ≤ 4 ∧ ∀ t ∈ d, t ∈ ns) : KnotNo ns (.tup [uRow r, .tup []]) :=
  k_rt (k_seq (k_ifF (k_orF (k_nt (k_b (k_un (k_v rfl) rfl))) (k_orF (k_b (k_op (k_n (k_cons (k_v rfl) k_nil) rfl) rfl rfl)) (k_nt (k_b (k_call (k_cons (k_op (k_v rfl) rfl rfl) (k_cons (k_v rfl) k_nil)) (is_row_call hr.1 hr.2 _)))))) rfl) (k_ret (k_eAndT (k_call (k_cons (k_op (k_v rfl) rfl rfl) (k_cons (k_v rfl) k_nil)) (is_row_call (r := []) (by simp) (by simp) _)) (k_op (k_op (k_v rfl) rfl rfl) rfl rfl))))
theorem knot_call_no {v : U} (hp : pu v = true) (h : KnotNo ns v) (s : S) : callP m_is_knot [v, .dct false (known ns)] s = .ok (.bl false) s := by
  refine callP_ok ?_ h rfl
  show (pu v && (puk (known ns) && true)) = true
  rw [hp, puk_ns fun _ => rfl]; rfl
end K07
/-! QL: nets that are refused: the checks ahead. -/
namespace Mo
open PySem PySem.Spec PyProof.Rows L2
theorem k_chain {g g' : U → U → S → G0} {m1 m2 m3 : EM} {l : L} {s s1 s2 s3 s4 s5 : S} {u v w x : U} (h1 : m1 l s = .ok u s1) (h2 : m2 l s1 = .ok v s2) (h3 : g u v s2 = some (.bl true, s3)) (h4 : m3 l s3 = .ok w s4) (h5 : g' v w s4 = some (x, s5)) : eChain g g' m1 m2 m3 l s = .ok x s5 := by simp [eChain, h1, h2, h3, h4, h5, liftG]
theorem k_chainF {g g' : U → U → S → G0} {m1 m2 m3 : EM} {l : L} {s s1 s2 s3 : S} {u v : U} (h1 : m1 l s = .ok u s1) (h2 : m2 l s1 = .ok v s2) (h3 : g u v s2 = some (.bl false, s3)) : eChain g g' m1 m2 m3 l s = .ok (.bl false) s3 := by simp [eChain, h1, h2, h3]
theorem k_raise1 {cn fc : Nat} {m : EM} {l : L} {s s1 : S} {u : U} (h : m l s = .ok u s1) : sRaise1 cn fc m l s = .ex ⟨cn, [(fc, u)]⟩ l s1 := by simp [sRaise1, FR, h]
theorem loopM_pre {g : GM} {body : SM} (I : Nat → L → S → Prop) (vs : List U) : ∀ (us : List U) (k : Nat) (l : L) (s : S), I k l s →
    (∀ i u l s, us[i]? = some u → I (k + i) l s → ∃ l1 s1 l2 s2, g u l s = some (l1, s1) ∧ (body l1 s1 = .nx l2 s2 ∨ body l1 s1 = .ct l2 s2) ∧ I (k + i + 1) l2 s2) →
    ∃ l' s', loopM g body (us ++ vs) l s = loopM g body vs l' s' ∧ I (k + us.length) l' s'
  | [], k, l, s, h, _ => ⟨l, s, rfl, h⟩
  | u :: us, k, l, s, h, st => by
    obtain ⟨l1, s1, l2, s2, h1, h2, h3⟩ := st 0 u l s rfl h
    obtain ⟨l', s', h4, h5⟩ := loopM_pre I vs us (k + 1) l2 s2 h3 fun i v l s hi hI => by
      have := st (i + 1) v l s hi (by rw [← Nat.add_assoc, Nat.add_right_comm]; exact hI)
      rw [show k + 1 + i = k + (i + 1) by omega]
      exact this
    refine ⟨l', s', ?_, by rw [List.length_cons, show k + (us.length + 1) = k + 1 + us.length by omega]; exact h5⟩
    refine Eq.trans ?_ h4
    show loopM g body (u :: (us ++ vs)) l s = loopM g body (us ++ vs) l2 s2
    rcases h2 with h2 | h2 <;> simp only [loopM, h1, h2]
theorem loop_hd {g : GM} {body : SM} {v : U} {vs : List U} {l l1 : L} {s s1 : S} {o : F} (h1 : g v l s = some (l1, s1)) (h2 : body l1 s1 = o) (ho : leaves o = true) : loopM g body (v :: vs) l s = o := by
  unfold loopM
  rw [h1]
  simp only [h2]
  cases o with
  | rt u s => rfl
  | ex x l s => rfl
  | _ => cases ho
theorem eq_nil_gen {s : S} {kvs : List (Ky × U)} {ds : List (Ky × D)} (hm : mapK (Mo.dat 39 s) kvs = some ds) (hl : kvs ≠ []) : gEq (.dct false kvs) (.dct false []) s = some (.bl false, s) := by
  have h1 : Mo.dat deep s (.dct false kvs) = some (.dct false ds) := K07.dat_dct (n := 39) rfl hm
  have h2 : Mo.dat deep s (.dct false []) = some (.dct false []) := rfl
  unfold gEq ueq
  rw [h1, h2]
  cases kvs with
  | nil => exact absurd rfl hl
  | cons p r =>
    cases ds with
    | nil =>
      exfalso
      obtain ⟨k, u⟩ := p
      unfold mapK at hm
      split at hm
      · split at hm <;> cases hm
      · cases hm
    | cons d r => rfl
end Mo
namespace K07
open Mo PySem PySem.Spec PyProof.Rows L2
abbrev BN : Nat := 127978455720258
abbrev NX : Nat := 1701667182
abbrev S1 : SM := (sIf (tOrM (tNotM (mB (eUn (gIsB [7628110] "dict") (mV 1)))) (tOrM (tNotM (mB (eChain gLe gLe (mK (.int 1)) (eN gLen (aCons (mV 1) aNil)) (mK (.int 12))))) (tNotM (mB (eUn (gIsB [7628110] "dict") (mV 2)))))) (sRaise1 127978455720258 1701667182 (mK .non)) sSkip)
abbrev S2 : SM := (sIf (tOrM (tNotM (mB (eUn (gIsBs [7628110] ["list", "tuple"]) (mV 3)))) (mB (eOp gEq (mV 2) (eD0 false false)))) (sRaise1 127978455720258 1701667182 (mK .non)) sSkip)
abbrev S3 : SM := (sAsg (eCall (callP m_first_wrong) (aCons (eLst false (aStar (mV 1) (aStar (mV 3) (aStar (mV 2) aNil)))) aNil)) (gNm 4))
abbrev S4 : SM := (sIf (mB (eOp gNe (mV 4) (eLst false aNil))) (sRaise1 127978455720258 1701667182 (eOp gIx (mV 4) (mK (.int 0)))) sSkip)
abbrev S5 : SM := (sAsg (eDc false [6] (iFn anyF (eLst false (aStar (mV 1) (aStar (mV 3) aNil)))) (.nm 6) tAll (mV 6) ce_Net_init_5) (gNm 5))
/-- Net(u1, u2, u3) raises BadNet with the name w -/
def Refused (u1 u2 u3 w : U) : Prop := ∃ l s, b_Net_init [some (.ref 0), some u1, some u2, some u3, none, none, none, none] [.ins 7628110 []] = .ex ⟨BN, [(NX, w)]⟩ l s
theorem refused_call {u1 u2 u3 w : U} (h : Refused u1 u2 u3 w) (hp : pus [u1, u2, u3] = true) (hw : pu w = true) (hq : ∀ s, gEq w w s = some (.bl true, s)) (s : S) : callP m__law_refused [u1, u2, u3, w] s = .ok (.bl true) s := by
  obtain ⟨l, s1, h⟩ := h
  have e1 : m_Net_init [.ref 0, u1, u2, u3] [.ins 7628110 []] = .ex ⟨BN, [(NX, w)]⟩ s1 := by
    show (match b_Net_init [some (.ref 0), some u1, some u2, some u3, none, none, none, none] [.ins 7628110 []] with
      | .nx _ s1 => R.ok U.non s1
      | .rt u s1 => .ok u s1
      | .ex x _ s1 => .ex x s1
      | _ => .no) = _
    rw [h]
  have hw2 : puf [(NX, w)] = true := by show (pu w && true) = true; rw [hw]; rfl
  have e2 : ∀ s, mkP 7628110 m_Net_init [u1, u2, u3] s = .ex ⟨BN, [(NX, w)]⟩ s := fun s => by
    unfold mkP
    rw [if_pos hp, e1]
    exact if_pos hw2
  refine callP_ok (s' := []) ?_ (k_rt ?_) rfl
  · have : pus [u1, u2, u3] = (pu u1 && (pu u2 && (pu u3 && true))) := rfl
    rw [this] at hp
    simp only [Bool.and_eq_true] at hp
    show (pu u1 && (pu u2 && (pu u3 && (pu w && true)))) = true
    simp [hp.1, hp.2.1, hp.2.2.1, hw]
  show b__law_refused [some u1, some u2, some u3, some w, none] [] = _
  have e3 : (sSeq (sExpr (eCall (mkP 7628110 m_Net_init) (aCons (mV 0) (aCons (mV 1) (aCons (mV 2) aNil))))) (sRet (mK (.bl false)))) [some u1, some u2, some u3, some w, none] [] = .ex ⟨BN, [(NX, w)]⟩ [some u1, some u2, some u3, some w, none] [] := by
    refine k_seq_lv ?_ rfl
    have : (eCall (mkP 7628110 m_Net_init) (aCons (mV 0) (aCons (mV 1) (aCons (mV 2) aNil)))) [some u1, some u2, some u3, some w, none] [] = .ex ⟨BN, [(NX, w)]⟩ [] := k_call (k_cons (k_v rfl) (k_cons (k_v rfl) (k_cons (k_v rfl) k_nil))) (e2 _)
    unfold sExpr
    rw [this]; rfl
  have e4 : sRet (eOp gEq (eXf BN NX ⟨BN, [(NX, w)]⟩) (mV 3)) [some u1, some u2, some u3, some w, none] [] = .rt (.bl true) [] := k_ret (k_op rfl (k_v rfl) (hq _))
  unfold b__law_refused sTry
  rw [e3]
  show wipF 4 (sRet (eOp gEq (eXf BN NX ⟨BN, [(NX, w)]⟩) (mV 3)) [some u1, some u2, some u3, some w, none] []) = _
  rw [e4]; rfl
/-! ### the first wrong name -/
theorem fw_bad {good : List Nm} {v w : U} {rest : List U} (h : ∀ n ∈ good, NmOk n) (nd : good.Nodup) (hl : good.length ≤ 100) {s' : S} (hv : ∀ us, lb_first_wrong_0 [some us, some (.ref 0), some v] [.dct false (known good)] = .rt (.lst [w]) s') : m_first_wrong [.lst (nms good ++ v :: rest)] [] = .ok (.lst [w]) s' := by
  generalize hus : nms good ++ v :: rest = us
  obtain ⟨l', s1, e, y, rfl, rfl⟩ := loopM_pre (g := gNm 2) (body := lb_first_wrong_0) (fun k l st => ∃ y, l = [some (.lst us), some (.ref 0), y] ∧ st = [.dct false (known (good.take k))]) (v :: rest) (nms good) 0 [some (.lst us), some (.ref 0), none] [.dct false []] ⟨_, rfl, rfl⟩ fun i u l st hi hI => by
    obtain ⟨y, rfl, rfl⟩ := hI
    rw [List.getElem?_map] at hi
    cases hc : good[i]? with
    | none => rw [hc] at hi; cases hi
    | some n =>
      rw [hc] at hi
      cases hi
      obtain ⟨hil, hic⟩ := List.getElem?_eq_some_iff.mp hc
      have hn : n ∉ good.take i := fun hm => by
        obtain ⟨j, hj, hje⟩ := List.mem_iff_getElem.mp hm
        rw [List.getElem_take] at hje
        rw [← hic] at hje
        have := (List.getElem_inj nd).mp hje
        simp at hj
        omega
      have hin : inA (.str n) (.ref 0) [.dct false (known (good.take i))] = some false := by
        rw [inA_ns (g := fun _ => .bl true) (ns := good.take i) rfl]
        simp [hn]
      have gi : gIn (.str n) (.ref 0) [.dct false (known (good.take i))] = some (.bl false, [.dct false (known (good.take i))]) := by unfold gIn; rw [hin]
      have hdp : dPut (known (good.take i)) (.str n) (.bl true) = known (good.take (i + 1)) := by
        unfold dPut
        rw [dGet_ns, if_neg hn, List.take_add_one, hc]; simp
      have hmem : n ∈ good := List.mem_of_getElem? hc
      rw [Nat.zero_add]
      refine ⟨_, _, [some (.lst us), some (.ref 0), some (.str n)], [.dct false (known (good.take (i + 1)))], rfl, .inl ?_, some (.str n), rfl, rfl⟩
      refine k_seq (k_ifF (k_orF (k_nt (k_b (k_call (k_cons (k_v rfl) k_nil) (nm_call (h n hmem) _)))) (k_b (k_op (k_v rfl) (k_v rfl) gi))) rfl) ?_
      exact k_putD rfl (k_v rfl) (k_v rfl) ((k_put (k := .str n) rfl rfl rfl (by simp; omega)).trans (by rw [hdp]; rfl))
  have ht : good.take (0 + (nms good).length) = good := by simp [List.take_of_length_le]
  rw [ht] at e
  refine k_rt ?_
  show b_first_wrong [some (.lst us), none, none] [] = _
  refine k_seq (k_asg rfl rfl) ?_
  refine k_seq_lv (k_for (k_fn (k_v rfl) (show anyF (.lst us) _ = some (nms good ++ v :: rest) by rw [hus]; rfl)) (e.trans (loop_hd rfl (hv _) rfl))) rfl
def isFalse (r : R U) : Bool := match r with
  | .ok (.bl false) _ => true
  | _ => false
theorem isFalse_ok {r : R U} (h : isFalse r = true) : ∃ s, r = .ok (.bl false) s := by
  unfold isFalse at h
  split at h
  · exact ⟨_, rfl⟩
  · cases h
theorem fwb_name {good : List Nm} {n : Nm} (h : isFalse (m_is_name [.str n] []) = true) (us : U) : lb_first_wrong_0 [some us, some (.ref 0), some (.str n)] [.dct false (known good)] = .rt (.lst [.str n]) [.dct false (known good)] := by
  obtain ⟨s', h⟩ := isFalse_ok h
  exact k_seq_rt (k_ifT (k_orT (k_nf (k_b (k_call (k_cons (k_v rfl) k_nil) (callP_ok rfl h rfl))))) (k_ret (k_lst (k_cons (k_ifE (x := true) (k_b (k_un (k_v rfl) rfl)) rfl) k_nil) (k_mkL (by simp)))))
theorem fwb_int {good : List Nm} {i : Int} (us : U) : lb_first_wrong_0 [some us, some (.ref 0), some (.int i)] [.dct false (known good)] = .rt (.lst [.non]) [.dct false (known good)] := by
  have h : m_is_name [.int i] [] = .ok (.bl false) [] := k_rt (k_seq_rt (k_ifT (k_orT (k_nf (k_b (k_un (k_v rfl) rfl)))) (k_ret rfl)))
  exact k_seq_rt (k_ifT (k_orT (k_nf (k_b (k_call (k_cons (k_v rfl) k_nil) (callP_ok rfl h rfl))))) (k_ret (k_lst (k_cons (k_ifE (x := false) (k_b (k_un (k_v rfl) rfl)) rfl) k_nil) (k_mkL (by simp)))))
theorem fwb_dup {good : List Nm} {n : Nm} (h : NmOk n) (hm : n ∈ good) (us : U) : lb_first_wrong_0 [some us, some (.ref 0), some (.str n)] [.dct false (known good)] = .rt (.lst [.str n]) [.dct false (known good)] := by
  have gi : gIn (.str n) (.ref 0) [.dct false (known good)] = some (.bl true, [.dct false (known good)]) := by
    unfold gIn
    rw [inA_ns (g := fun _ => .bl true) (ns := good) rfl]
    simp [hm]
  exact k_seq_rt (k_ifT (k_orF (k_nt (k_b (k_call (k_cons (k_v rfl) k_nil) (nm_call h _)))) (k_b (k_op (k_v rfl) (k_v rfl) gi))) (k_ret (k_lst (k_cons (k_ifE (x := true) (k_b (k_un (k_v rfl) rfl)) rfl) k_nil) (k_mkL (by simp)))))
/-! ### the checks of Net -/
section
variable {kvs1 kvs2 : List (Ky × U)} {us1 us2 us3 : List U} {s : S}
theorem st1_ok {x4 x5 x6 x7 : Option U} {u0 u3 : U} (h1 : 1 ≤ kvs1.length) (h12 : kvs1.length ≤ 12) : S1 [some u0, some (.dct false kvs1), some (.dct false kvs2), some u3, x4, x5, x6, x7] s = .nx [some u0, some (.dct false kvs1), some (.dct false kvs2), some u3, x4, x5, x6, x7] s := by
  have g1 : gLe (.int 1) (.int kvs1.length) s = some (.bl true, s) := by
    simp only [gLe, gCmp]
    congr 4
    exact decide_eq_true (by omega)
  have g2 : gLe (.int kvs1.length) (.int 12) s = some (.bl true, s) := by
    simp only [gLe, gCmp]
    congr 4
    exact decide_eq_true (by omega)
  exact k_ifF (k_orF (k_nt (k_b (k_un (k_v rfl) rfl))) (k_orF (k_nt (k_b (k_chain rfl (k_n (k_cons (k_v rfl) k_nil) (dct_len rfl)) g1 rfl g2))) (k_nt (k_b (k_un (k_v rfl) rfl))))) rfl
theorem st2_ok {x4 x5 x6 x7 : Option U} {u0 u1 : U} (h : gEq (.dct false kvs2) (.dct false []) s = some (.bl false, s)) : S2 [some u0, some u1, some (.dct false kvs2), some (.tup us3), x4, x5, x6, x7] s = .nx [some u0, some u1, some (.dct false kvs2), some (.tup us3), x4, x5, x6, x7] s :=
  k_ifF (k_orF (k_nt (k_b (k_un (k_v rfl) rfl))) (k_b (k_op (k_v rfl) rfl h))) rfl
theorem st3_ok {x4 x5 x6 x7 : Option U} {u0 : U} {v : U} (k1 : keysOf kvs1 = some us1) (k2 : keysOf kvs2 = some us2) (hl : us1.length + (us3.length + us2.length) ≤ 1000) {s' : S} (fw : m_first_wrong [.lst (us1 ++ (us3 ++ us2))] [] = .ok v s') (hp : pus (us1 ++ (us3 ++ us2)) = true) (hv : pu v = true) :
    S3 [some u0, some (.dct false kvs1), some (.dct false kvs2), some (.tup us3), x4, x5, x6, x7] s = .nx [some u0, some (.dct false kvs1), some (.dct false kvs2), some (.tup us3), some v, x5, x6, x7] s := by
  have c := callP_ok (s := s) (show pus [.lst (us1 ++ (us3 ++ us2))] = true by show (pus _ && true) = true; rw [hp]; rfl) fw hv
  exact k_asg (k_call (k_cons (k_lst (us := us1 ++ (us3 ++ us2)) (by
    have := k_star (am := aStar (mV 3) (aStar (mV 2) aNil)) (l := [some u0, some (.dct false kvs1), some (.dct false kvs2), some (.tup us3), x4, x5, x6, x7]) (s := s) (k_v (i := 1) rfl) ((dct_star rfl).trans k1) (k_star (k_v (i := 3) rfl) (seq_star rfl) (k_star (k_v (i := 2) rfl) ((dct_star rfl).trans k2) k_nil))
    rw [List.append_nil] at this
    exact this) (k_mkL (by simp; omega))) k_nil) c) rfl
theorem st4_ok {u0 u1 u2 u3 : U} {x5 x6 x7 : Option U} : S4 [some u0, some u1, some u2, some u3, some (.lst []), x5, x6, x7] s = .nx [some u0, some u1, some u2, some u3, some (.lst []), x5, x6, x7] s :=
  k_ifF (k_b (k_op (k_v rfl) (k_lst k_nil (k_mkL (by simp))) rfl)) rfl
theorem st4_bad {u0 u1 u2 u3 w : U} {x5 x6 x7 : Option U} (h : gNe (.lst [w]) (.lst []) s = some (.bl true, s)) : S4 [some u0, some u1, some u2, some u3, some (.lst [w]), x5, x6, x7] s = .ex ⟨BN, [(NX, w)]⟩ [some u0, some u1, some u2, some u3, some (.lst [w]), x5, x6, x7] s :=
  k_ifT (k_b (k_op (k_v rfl) (k_lst k_nil (k_mkL (by simp))) h)) (k_raise1 (k_op (k_v rfl) rfl rfl))
theorem st5_ok {α : Type} {f : α → U} {l : List (Nm × α)} {os : List Nm} {u0 u2 : U} {x4 x5 x7 : Option U} (nl : ∀ n ∈ l.map (·.1), n.length ≤ 16) (nd : (l.map (·.1) ++ os).Nodup) (hl : l.length + os.length ≤ 60) :
    S5 [some u0, some (.dct false (ent f l)), some u2, some (.tup (nms os)), x4, x5, none, x7] s = .nx [some u0, some (.dct false (ent f l)), some u2, some (.tup (nms os)), x4, some (.dct false (known (l.map (·.1) ++ os))), none, x7] s := by
  have d := dcGo_nms (j := 6) (e := ce_Net_init_5) (l := [some u0, some (.dct false (ent f l)), some u2, some (.tup (nms os)), x4, x5, none, x7]) (s := s) (g := fun _ => .bl true) (by simp) (l.map (·.1) ++ os) [] nd (fun _ _ => rfl) (by simp; omega) fun n _ => rfl
  rw [List.nil_append] at d
  have hn : nms (l.map (·.1) ++ os) = nms (l.map (·.1)) ++ nms os := by simp only [nms, List.map_append]
  rw [hn] at d
  refine k_asg (k_dc (k_fn (k_lst (us := nms (l.map (·.1)) ++ nms os) ?_ (k_mkL (by simp; omega))) rfl) d (k_mkD (by simp; omega))) rfl
  have := k_star (am := aStar (mV 3) aNil) (l := [some u0, some (.dct false (ent f l)), some u2, some (.tup (nms os)), x4, x5, none, x7]) (s := s) (k_v (i := 1) rfl) ((dct_star rfl).trans (keysOf_ent nl)) (k_star (k_v (i := 3) rfl) (seq_star rfl) k_nil)
  rw [List.append_nil] at this
  exact this
end
end K07
/-! QM: nets that are refused. -/
namespace K07
open Mo PySem PySem.Spec PyProof.Rows L2
abbrev R6 : SM := (sSeq (sFor (iFn anyF (eN (gSorted false) (aCons (mV 1) aNil))) (gNm 6) lb_Net_init_4) (sSeq (sLk 2 (sFor (iFn anyF (mV 2)) (gNm 6) lb_Net_init_3)) (sSeq (sFld 7628110 495874698859 (mV 0) (eDc false [6] (iFn anyF (eN (gSorted false) (aCons (mV 1) aNil))) (.nm 6) tAll (mV 6) ce_Net_init_2)) (sSeq (sFld 7628110 126943755005545 (mV 0) (eDc false [6] (iFn anyF (eN (gSorted false) (aCons (mV 2) aNil))) (.nm 6) tAll (mV 6) ce_Net_init_1)) (sSeq (sFld 7628110 32497601281815919 (mV 0) (eN gTupOf (aCons (eN (gSorted false) (aCons (mV 3) aNil)) aNil))) (sSeq (sFld 7628110 495622906222 (mV 0) (eN (gListOf false) (aCons (eUn (gFld 495874698859) (mV 0)) aNil))) (sSeq (sAsg (eMeth0 7628141 t_met (mV 0)) (gNm 7)) (sFor (iFn anyF (eUn (gFld 495622906222) (mV 0))) (gNm 6) lb_Net_init_0))))))))
section
variable {kvs1 kvs2 : List (Ky × U)} {us1 us2 us3 : List U} {w u1 u2 u3 : U}
theorem ref_first (h1 : 1 ≤ kvs1.length) (h12 : kvs1.length ≤ 12) (hne : ∀ s, gEq (.dct false kvs2) (.dct false []) s = some (.bl false, s)) (k1 : keysOf kvs1 = some us1) (k2 : keysOf kvs2 = some us2) (hl : us1.length + (us3.length + us2.length) ≤ 1000) {s' : S} (fw : m_first_wrong [.lst (us1 ++ (us3 ++ us2))] [] = .ok (.lst [w]) s')
    (hp : pus (us1 ++ (us3 ++ us2)) = true) (hw : pu w = true) (hn : ∀ s, gNe (.lst [w]) (.lst []) s = some (.bl true, s)) : Refused (.dct false kvs1) (.dct false kvs2) (.tup us3) w :=
  ⟨_, _, k_seq (st1_ok h1 h12) (k_seq (st2_ok (hne _)) (k_seq (st3_ok k1 k2 hl fw hp (by show (pu w && true) = true; rw [hw]; rfl)) (k_seq_lv (st4_bad (hn _)) rfl)))⟩
theorem ref_inl (h1 : 1 ≤ kvs1.length) (h12 : kvs1.length ≤ 12) {us : List U} : Refused (.dct false kvs1) (.lst us) u3 .non := by
  have g1 : gLe (.int 1) (.int kvs1.length) [.ins 7628110 []] = some (.bl true, [.ins 7628110 []]) := by
    simp only [gLe, gCmp]
    congr 4
    exact decide_eq_true (by omega)
  have g2 : gLe (.int kvs1.length) (.int 12) [.ins 7628110 []] = some (.bl true, [.ins 7628110 []]) := by
    simp only [gLe, gCmp]
    congr 4
    exact decide_eq_true (by omega)
  exact ⟨_, _, k_seq_lv (k_ifT (k_orF (k_nt (k_b (k_un (k_v rfl) rfl))) (k_orF (k_nt (k_b (k_chain rfl (k_n (k_cons (k_v rfl) k_nil) (dct_len rfl)) g1 rfl g2))) (k_nf (k_b (k_un (k_v rfl) rfl))))) (k_raise1 rfl)) rfl⟩
theorem ref_none : Refused (.dct false []) u2 u3 .non :=
  ⟨_, _, k_seq_lv (k_ifT (k_orF (k_nt (k_b (k_un (k_v rfl) rfl))) (k_orT (k_nf (k_b (k_chainF rfl (k_n (k_cons (k_v rfl) k_nil) (dct_len rfl)) rfl))))) (k_raise1 rfl)) rfl⟩
theorem ref_many (h : 13 ≤ kvs1.length) : Refused (.dct false kvs1) u2 u3 .non := by
  have g1 : gLe (.int 1) (.int kvs1.length) [.ins 7628110 []] = some (.bl true, [.ins 7628110 []]) := by
    simp only [gLe, gCmp]
    congr 4
    exact decide_eq_true (by omega)
  have g2 : gLe (.int kvs1.length) (.int 12) [.ins 7628110 []] = some (.bl false, [.ins 7628110 []]) := by
    simp only [gLe, gCmp]
    congr 4
    rw [decide_eq_false (by omega)]
  exact ⟨_, _, k_seq_lv (k_ifT (k_orF (k_nt (k_b (k_un (k_v rfl) rfl))) (k_orT (k_nf (k_b (k_chain rfl (k_n (k_cons (k_v rfl) k_nil) (dct_len rfl)) g1 rfl g2))))) (k_raise1 rfl)) rfl⟩
theorem ref_noIn (h1 : 1 ≤ kvs1.length) (h12 : kvs1.length ≤ 12) : Refused (.dct false kvs1) (.dct false []) (.tup us3) .non :=
  ⟨_, _, k_seq (st1_ok h1 h12) (k_seq_lv (k_ifT (k_orF (k_nt (k_b (k_un (k_v rfl) rfl))) (k_b (k_op (k_v rfl) rfl rfl))) (k_raise1 rfl)) rfl)⟩
theorem ref_outs (h1 : 1 ≤ kvs1.length) (h12 : kvs1.length ≤ 12) {x : List Nat} : Refused (.dct false kvs1) (.dct false kvs2) (.str x) .non :=
  ⟨_, _, k_seq (st1_ok h1 h12) (k_seq_lv (k_ifT (k_orT (k_nf (k_b (k_un (k_v rfl) rfl)))) (k_raise1 rfl)) rfl)⟩
end
/-- names that are all right -/
structure Pre (N : List Nm) (is : List (Nm × Nm)) (os : List Nm) : Prop where
  k1 : 1 ≤ N.length
  k12 : N.length ≤ 12
  i1 : is ≠ []
  il : is.length ≤ 20
  ol : os.length ≤ 20
  nm : ∀ n ∈ N ++ (os ++ is.map (·.1)), NmOk n ∧ n.length ≤ 16
  nd : (N ++ (os ++ is.map (·.1))).Nodup
section
variable {α : Type} {f : α → U} {l : List (Nm × α)} {is : List (Nm × Nm)} {os : List Nm}
theorem in_nil {s : S} (h : is ≠ []) : gEq (.dct false (ID is)) (.dct false []) s = some (.bl false, s) := eq_nil_dct (h := D.str) rfl (fun a => rfl) h
theorem pass5 (A : Pre (l.map (·.1)) is os) {o : F} {s : S} {u0 : U} (h : R6 [some u0, some (.dct false (ent f l)), some (.dct false (ID is)), some (.tup (nms os)), some (.lst []), some (.dct false (known (l.map (·.1) ++ os))), none, none] s = o) :
    b_Net_init [some u0, some (.dct false (ent f l)), some (.dct false (ID is)), some (.tup (nms os)), none, none, none, none] s = o := by
  have hk : (ent f l).length = (l.map (·.1)).length := by simp
  have k1 := A.k1
  have k12 := A.k12
  have il := A.il
  have ol := A.ol
  obtain ⟨s', fw⟩ := first_wrong_ok (fun n hn => (A.nm n hn).1) A.nd (by simp at k12 ⊢; omega)
  have e : nms (l.map (·.1) ++ (os ++ is.map (·.1))) = nms (l.map (·.1)) ++ (nms os ++ nms (is.map (·.1))) := by simp only [nms, List.map_append]
  have nd5 : (l.map (·.1) ++ os).Nodup := by
    have := A.nd
    rw [← List.append_assoc] at this
    exact (List.nodup_append.mp this).1
  have hp := pus_nms (l.map (·.1) ++ (os ++ is.map (·.1)))
  rw [e] at fw hp
  exact k_seq (st1_ok (by rw [hk]; exact k1) (by rw [hk]; exact k12)) (k_seq (st2_ok (in_nil A.i1)) (k_seq (st3_ok (keysOf_ent fun n hn => (A.nm n (List.mem_append_left _ hn)).2) (keysOf_ent fun n hn => (A.nm n (List.mem_append_right _ (List.mem_append_right _ hn))).2) (by simp at k12 ⊢; omega) fw hp rfl)
    (k_seq st4_ok (k_seq (st5_ok (fun n hn => (A.nm n (List.mem_append_left _ hn)).2) nd5 (by simp at k12; omega)) h))))
theorem so_keys (A : Pre (l.map (·.1)) is os) (s : S) : gSorted false [.dct false (ent f l)] s = some (.lst (nms (sortN (l.map (·.1)))), s) := gSorted_nms ((dct_star rfl).trans (keysOf_ent fun n hn => (A.nm n (List.mem_append_left _ hn)).2)) (by have := A.k12; omega)
end
section
variable {is : List (Nm × Nm)} {os : List Nm}
abbrev KU (l : List (Nm × U)) : List (Ky × U) := ent (fun u : U => u) l
/-- one knot is none -/
theorem ref_knot {l : List (Nm × U)} {pre post : List Nm} {y : Nm} {v : U} (A : Pre (l.map (·.1)) is os) (srt : sortN (l.map (·.1)) = pre ++ y :: post) (hg : ∀ n ∈ pre, ∃ k, gt l n = some (uKnot k) ∧ KnOk (l.map (·.1) ++ os) k) (hb : gt l y = some v) (hp : pu v = true) (hv : KnotNo (l.map (·.1) ++ os) v) :
    Refused (.dct false (KU l)) (.dct false (ID is)) (.tup (nms os)) (.str y) := by
  have so := so_keys (f := fun u : U => u) A [.ins 7628110 []]
  rw [srt] at so
  have e : nms (pre ++ y :: post) = nms pre ++ U.str y :: nms post := by simp
  refine ⟨_, _, pass5 A (k_seq_lv (k_for (k_fn (k_n (k_cons (k_v rfl) k_nil) so) rfl) ((congrArg (fun us => loopM (gNm 6) lb_Net_init_4 us _ _) e).trans (loop_bad (nms post) (nms pre) _ none rfl (fun u hu => ?_) (k_ifT (k_nf (k_b (k_call (k_cons (k_op (k_v rfl) (k_v rfl) (p_ix_dct rfl hb)) (k_cons (k_v rfl) k_nil)) (knot_call_no hp hv _)))) (k_raise1 (k_v rfl))) rfl))) rfl)⟩
  obtain ⟨n, hn, rfl⟩ := List.mem_map.mp hu
  obtain ⟨k, g, ok⟩ := hg n hn
  exact k_ifF (k_nt (k_b (k_call (k_cons (k_op (k_v rfl) (k_v rfl) (p_ix_dct rfl g)) (k_cons (k_v rfl) k_nil)) (is_knot_call ok _)))) rfl
/-- all knots are right, an inlet's target is none -/
theorem ref_inlet {ks : List (Nm × Kn)} {pre post : List (Nm × Nm)} {k t : Nm} (A : Pre (ks.map (·.1)) is os) (his : is = pre ++ (k, t) :: post) (hk : ∀ p ∈ ks, KnOk (ks.map (·.1) ++ os) p.2) (hpre : ∀ p ∈ pre, p.2 ∈ ks.map (·.1)) (ht : t ∉ ks.map (·.1)) :
    Refused (.dct false (KD ks)) (.dct false (ID is)) (.tup (nms os)) (.str k) := by
  have so := so_keys (f := uKnot) A [.ins 7628110 []]
  have ndi : (is.map (·.1)).Nodup := (List.nodup_append.mp (List.nodup_append.mp A.nd).2.1).2.1
  obtain ⟨x6, e6⟩ := loop_nms (j := 6) (body := lb_Net_init_4) (s := [.ins 7628110 []]) (nms (sortN (ks.map (·.1)))) [some (.ref 0), some (.dct false (KD ks)), some (.dct false (ID is)), some (.tup (nms os)), some (.lst []), some (.dct false (known (ks.map (·.1) ++ os))), none, none] none rfl fun u hu => by
    obtain ⟨n, hn, rfl⟩ := List.mem_map.mp hu
    have g := gt_some (sortN_mem.mp hn)
    exact k_ifF (k_nt (k_b (k_call (k_cons (k_op (k_v rfl) (k_v rfl) (p_ix_dct rfl g)) (k_cons (k_v rfl) k_nil)) (is_knot_call (hk _ (gt_mem g)) _)))) rfl
  have e : nms (is.map (·.1)) = nms (pre.map (·.1)) ++ U.str k :: nms (post.map (·.1)) := by rw [his]; simp
  have gk : gt is k = some t := gt_of_mem ndi (by rw [his]; simp)
  have gk2 : ∀ s, gNotIn (.str t) (.dct false (KD ks)) s = some (.bl true, s) := fun s => by
    unfold gNotIn
    rw [inA_dct rfl, gt_keys]
    simp only [decide_eq_false ht]
    rfl
  have anyK : ∀ s, anyF (.dct false (ID is)) s = some (nms (is.map (·.1))) := fun s => keysOf_ent (f := U.str) fun n hn => (A.nm n (List.mem_append_right _ (List.mem_append_right _ hn))).2
  have lk : ∀ (b : SM) (l : L) (s : S), l[2]? = some (some (.dct false (ID is))) → sLk 2 b l s = b l s := fun b l s h => by
    unfold sLk
    rw [h]
  refine ⟨_, _, pass5 A (k_seq (k_for (k_fn (k_n (k_cons (k_v rfl) k_nil) so) rfl) e6) (k_seq_lv ((lk _ _ _ rfl).trans (k_for (k_fn (k_v rfl) (anyK _)) ((congrArg (fun us => loopM (gNm 6) lb_Net_init_3 us _ _) e).trans (loop_bad (nms (post.map (·.1))) (nms (pre.map (·.1))) _ x6 rfl (fun u hu => ?_) (k_ifT (k_orF (k_nt (k_b (k_un (k_op (k_v rfl) (k_v rfl) (p_ix_dct rfl gk)) rfl))) (k_b (k_op (k_op (k_v rfl) (k_v rfl) (p_ix_dct rfl gk)) (k_v rfl) (gk2 _)))) (k_raise1 (k_v rfl))) rfl)))) rfl))⟩
  · obtain ⟨n, hn, rfl⟩ := List.mem_map.mp hu
    obtain ⟨p, hp, rfl⟩ := List.mem_map.mp hn
    have gp : gt is p.1 = some p.2 := gt_of_mem ndi (by rw [his]; simp [hp])
    have gi : ∀ s, gNotIn (.str p.2) (.dct false (KD ks)) s = some (.bl false, s) := fun s => by
      unfold gNotIn
      rw [inA_dct rfl, gt_keys]
      simp only [decide_eq_true (hpre p hp)]
      rfl
    exact k_ifF (k_orF (k_nt (k_b (k_un (k_op (k_v rfl) (k_v rfl) (p_ix_dct rfl gp)) rfl))) (k_b (k_op (k_op (k_v rfl) (k_v rfl) (p_ix_dct rfl gp)) (k_v rfl) (gi _)))) rfl
/-- all is right, but a knot is not met -/
theorem ref_met {ks : List (Nm × Kn)} {pre post : List Nm} {y : Nm} (N : NetP ks is os) (srt : sortN (ks.map (·.1)) = pre ++ y :: post) {P : Nm → Prop} (hP0 : ∀ p ∈ is, P p.2) (hP1 : ∀ n ∈ ks.map (·.1), P n → ∀ d ∈ (gtD ks n).2, ∀ t ∈ d, t ∈ ks.map (·.1) → P t) (hy : ¬ P y)
    (hpre : ∀ F : List Nm, (∀ p ∈ is, p.2 ∈ F) → (∀ n ∈ F, ∀ d ∈ (gtD ks n).2, ∀ t ∈ d, t ∈ ks.map (·.1) → t ∈ F) → ∀ n ∈ pre, n ∈ F) :
    Refused (.dct false (KD ks)) (.dct false (ID is)) (.tup (nms os)) (.str y) := by
  obtain ⟨F, x7, eq, m1, m2, m3⟩ := init_core (σ := fun fs => [.ins 7628110 fs]) (i := 0) (u1 := .dct false (KD ks)) (u2 := .dct false (ID is)) (u3 := .tup (nms os)) (fun _ _ => rfl) (fun _ _ => rfl) (fun _ => rfl) (fun _ => rfl) (fun _ => rfl) ⟨[.ins 7628110 []], rfl, rfl, rfl, fun b l l' hl hb => by unfold sLk; rw [hl]; exact hb⟩ N hP0 hP1
  have e : nms (pre ++ y :: post) = nms pre ++ U.str y :: nms post := by simp
  have gf : gFld 495622906222 (.ref 0) [.ins 7628110 (netF ks is os), .dct false (known F), .lst []] = some (.lst (nms (pre ++ y :: post)), [.ins 7628110 (netF ks is os), .dct false (known F), .lst []]) := by
    rw [← srt]; rfl
  have gy : gNotIn (.str y) (.ref 1) [.ins 7628110 (netF ks is os), .dct false (known F), .lst []] = some (.bl true, [.ins 7628110 (netF ks is os), .dct false (known F), .lst []]) := by
    unfold gNotIn
    rw [inA_ns (g := fun _ => .bl true) (ns := F) rfl, decide_eq_false (fun h => hy (m3 y h))]; rfl
  refine ⟨_, _, eq.trans (k_for (k_fn (k_un (k_v rfl) gf) rfl) ((congrArg (fun us => loopM (gNm 6) lb_Net_init_0 us _ _) e).trans (loop_bad (nms post) (nms pre) _ x7 rfl (fun u hu => ?_) (k_ifT (k_b (k_op (k_v rfl) (k_v rfl) gy)) (k_raise1 (k_v rfl))) rfl)))⟩
  obtain ⟨n, hn, rfl⟩ := List.mem_map.mp hu
  refine k_ifF (k_b (k_op (k_v rfl) (k_v rfl) ?_)) rfl
  unfold gNotIn
  rw [inA_ns (g := fun _ => .bl true) (ns := F) rfl, decide_eq_true (hpre F m1 m2 n hn)]; rfl
end
end K07
/-! QN: the law's parts: what it refuses. -/
namespace K07
open Mo PySem PySem.Spec PyProof.Rows L2
abbrev is0 (x : Nm) : List (Nm × Nm) := [([105], [97]), ([106], x)]
abbrev zy : List Nm := [[122], [121]]
/-- what is asked of the names, with two more -/
structure NZ (N : List Nm) : Prop where
  c1 : chk (N ++ zy) op [[105], [106]] = true
  c2 : chk (N ++ zy) op [[105], [106], [107]] = true
  srt : sortN (N ++ zy) = N ++ [[121], [122]]
theorem nz_all : ∀ d : Nat, d < 4 → NZ ((([97, 98, 99, 100] : List Nat).take (1 + d)).map fun c => [c])
  | 0, _ => ⟨by decide, by decide, by decide⟩
  | 1, _ => ⟨by decide, by decide, by decide⟩
  | 2, _ => ⟨by decide, by decide, by decide⟩
  | 3, _ => ⟨by decide, by decide, by decide⟩
theorem pre_of {N : List Nm} {is : List (Nm × Nm)} {os : List Nm} (c : chk N os (is.map (·.1)) = true) (h1 : 1 ≤ N.length) (h12 : N.length ≤ 12) (hi : is ≠ []) (il : is.length ≤ 20) (ol : os.length ≤ 20) : Pre N is os := by
  unfold chk at c
  rw [Bool.and_eq_true, List.all_eq_true] at c
  exact ⟨h1, h12, hi, il, ol, fun n hn => letters_ok (by simpa using c.2 n hn), by simpa using c.1⟩
theorem eqT (n : Nm) (s : S) : gEq (.str n) (.str n) s = some (.bl true, s) := by
  obtain ⟨r, e, h⟩ := Emb.str.eq (by decide) n n s
  rw [e, h.mpr rfl]
theorem dGet_ent_int {α : Type} {f : α → U} {i : Int} : ∀ l : List (Nm × α), dGet (ent f l) (.int i) = none
  | [] => rfl
  | p :: l => dGet_ent_int l
/-- a new entry behind -/
theorem dict_new {α : Type} {f : α → U} {l : List (Nm × α)} {v w : U} {kv : Ky} {s : S} (nd : (l.map (·.1)).Nodup) (hl : l.length ≤ 100) (h1 : kyOf v = some kv) (h2 : fits false kv = true) (h3 : dGet (ent f l) kv = none) : gDictOf false [.lst (prsOf (ent f l) ++ [.tup [v, w]])] s = some (.dct false (ent f l ++ [(kv, w)]), s) := by
  have pk : ∀ l : List (Nm × α), prsK (prsOf (ent f l) ++ [.tup [v, w]]) = some (ent f l ++ [(kv, w)]) := fun l => by
    induction l with
    | nil =>
      show (match kyOf v, prsK [] with
        | some kk, some r => if fits false kk = true then some ((kk, w) :: r) else none
        | _, _ => none) = _
      rw [h1]
      show (if fits false kv = true then some [(kv, w)] else none) = _
      rw [h2]; rfl
    | cons p l ih =>
      show (match (some (Ky.str p.1) : Option Ky), prsK (prsOf (ent f l) ++ [.tup [v, w]]) with
        | some kk, some r => if fits false kk = true then some ((kk, f p.2) :: r) else none
        | _, _ => none) = _
      rw [ih]; rfl
  have mk : mrgK [] (ent f l ++ [(kv, w)]) = ent f l ++ [(kv, w)] := by
    have e : mrgK [] (ent f l) = ent f l := mrgK_ent f l [] nd
    rw [mrgK_app, e]
    show dPut (ent f l) kv w = _
    unfold dPut
    rw [h3]; rfl
  simp only [gDictOf, dctOf, lstOf, pk, mk]
  exact k_mkD (by simp; omega)
theorem keysOf_new {α : Type} {f : α → U} {l : List (Nm × α)} {w : U} {kv : Ky} (hn : ∀ n ∈ l.map (·.1), n.length ≤ 16) (hk : kyOk kv = true) : keysOf (ent f l ++ [(kv, w)]) = some (nms (l.map (·.1)) ++ [kyU kv]) := by
  have h := keysOf_ent (f := f) hn
  unfold keysOf at h ⊢
  split at h
  · rename_i ha
    have : (ent f l ++ [(kv, w)]).all (fun p => kyOk p.1) = true := by rw [List.all_append, ha]; simp [hk]
    rw [if_pos this, List.map_append]
    simp only [Option.some.injEq] at h
    rw [h]; rfl
  · cases h
section
variable {N : List Nm} {ks : List (Nm × Kn)} {x : Nm} {s : S}
theorem hin_of (F : NF N) (hx : x ∈ N) : ∀ p ∈ is0 x, p.2 ∈ N := fun p hp => by
  rcases List.mem_cons.mp hp with rfl | hp
  · exact List.mem_of_getElem? F.h0
  · rcases List.mem_cons.mp hp with rfl | hp
    · exact hx
    · cases hp
theorem C_len (F : NF N) (C : KnotsC N ks) : ks.length ≤ 4 ∧ ks.length = N.length ∧ 1 ≤ N.length := by
  have h1 : ks.length = N.length := by rw [← C.keys]; simp
  have := F.l4
  have := (List.getElem?_eq_some_iff.mp F.h0).1
  omega
theorem C_nd (F : NF N) (C : KnotsC N ks) : (ks.map (·.1)).Nodup := by rw [C.keys]; exact F.nd
theorem C_lt (F : NF N) (C : KnotsC N ks) : ∀ n ∈ ks.map (·.1), n.length ≤ 16 := by rw [C.keys]; exact F.lt
theorem C_srt (F : NF N) (C : KnotsC N ks) : sortN (ks.map (·.1)) = ks.map (·.1) := by rw [C.keys]; exact F.srt
theorem knOk (C : KnotsC N ks) {p : Nm × Kn} (hp : p ∈ ks) : KnOk (N ++ op) p.2 := by
  have := C.kn p hp
  exact ⟨by have := this.f; omega, by have := this.t; omega, this.ne, fun d hd => ⟨by have := (this.df d hd).1; omega, (this.df d hd).2⟩, fun d hd => ⟨by have := (this.dt d hd).1; omega, (this.dt d hd).2⟩⟩
theorem pus_is (x : Nm) : puk (ID (is0 x)) = true := rfl
/-- a bad knot -/
theorem refuse_knot (F : NF N) (C : KnotsC N ks) {y : Nm} (hy : y ∈ N) {bad : U} (hp : pu bad = true) (hv : KnotNo (N ++ op) bad) : callP m__law_refused [.dct false (KU (setK (ks.map fun p => (p.1, uKnot p.2)) y bad)), .dct false (ID (is0 x)), .tup (nms op), .str y] s = .ok (.bl true) s := by
  obtain ⟨h1, h2, h3⟩ := C_len F C
  have keys : (setK (ks.map fun p => (p.1, uKnot p.2)) y bad).map (·.1) = N := by
    rw [setK_keys, List.map_map]; exact C.keys
  have A : Pre ((setK (ks.map fun p => (p.1, uKnot p.2)) y bad).map (·.1)) (is0 x) op := by
    rw [keys]
    exact pre_of (F.ck op (by decide) [[105], [106]] (by decide)) h3 (by omega) (by simp) (by simp) (by simp)
  obtain ⟨pre, post, e⟩ := List.append_of_mem hy
  have gtm : ∀ n, gt (ks.map fun p => (p.1, uKnot p.2)) n = (gt ks n).map uKnot := fun n => by
    have : ∀ l : List (Nm × Kn), gt (l.map fun p => (p.1, uKnot p.2)) n = (gt l n).map uKnot := fun l => by
      induction l with
      | nil => rfl
      | cons p l ih =>
        show (if p.1 = n then some (uKnot p.2) else gt (l.map fun p => (p.1, uKnot p.2)) n) = Option.map uKnot (if p.1 = n then some p.2 else gt l n)
        split
        · rfl
        · exact ih
    exact this ks
  refine refused_call (ref_knot (v := bad) A (by rw [keys, F.srt]; exact e) (fun n hn => ?_) ?_ hp (by rw [keys]; exact hv)) ?_ rfl (eqT y) s
  · have hnN : n ∈ N := by rw [e]; exact List.mem_append_left _ hn
    have hne : n ≠ y := fun q => by
      have nd := F.nd
      rw [e] at nd
      exact (List.nodup_append.mp nd).2.2 n hn y List.mem_cons_self q
    have g := gt_some (l := ks) (n := n) (by rw [C.keys]; exact hnN)
    refine ⟨gtD ks n, ?_, by rw [keys]; exact knOk C (gt_mem g)⟩
    rw [gt_setK, if_neg hne, gtm, g]; rfl
  · have g := gt_some (l := ks) (n := y) (by rw [C.keys]; exact hy)
    rw [gt_setK, if_pos rfl, gtm, g]; rfl
  · have : ∀ l : List (Nm × Kn), puk (KU (setK (l.map fun p => (p.1, uKnot p.2)) y bad)) = true := fun l => by
      induction l with
      | nil => rfl
      | cons p l ih =>
        show (pu (if p.1 = y then (p.1, bad) else (p.1, uKnot p.2)).2 && puk (KU (setK (l.map fun p => (p.1, uKnot p.2)) y bad))) = true
        rw [ih]
        split
        · show (pu bad && true) = true; rw [hp]; rfl
        · show (pu (uKnot p.2) && true) = true; rw [pu_knot]; rfl
    show (puk (KU (setK (ks.map fun p => (p.1, uKnot p.2)) y bad)) && (puk (ID (is0 x)) && (pus (nms op) && true))) = true
    rw [this]; rfl
abbrev K1 : U := .tup [.tup [], .tup [.tup [.str [111]]]]
theorem pus_app : ∀ a b : List U, pus (a ++ b) = (pus a && pus b)
  | [], b => by simp [pus]
  | u :: a, b => by
    show (pu u && pus (a ++ b)) = (pu u && pus a && pus b)
    rw [pus_app a b, Bool.and_assoc]
theorem puk_app : ∀ a b : List (Ky × U), puk (a ++ b) = (puk a && puk b)
  | [], b => by simp [puk]
  | u :: a, b => by
    show (pu u.2 && puk (a ++ b)) = (pu u.2 && puk a && puk b)
    rw [puk_app a b, Bool.and_assoc]
/-- a name that is none: v, told as w -/
structure Wrong (N : List Nm) (v w : U) (kv : Ky) : Prop where
  ky : kyOf v = some kv
  kyU : kyU kv = v
  fit : fits false kv = true
  ok : kyOk kv = true
  pv : pu v = true
  pw : pu w = true
  eq : ∀ s, gEq w w s = some (.bl true, s)
  ne : ∀ s, gNe (.lst [w]) (.lst []) s = some (.bl true, s)
  fw : ∀ (good : List Nm) (us : U), lb_first_wrong_0 [some us, some (.ref 0), some v] [.dct false (known good)] = .rt (.lst [w]) [.dct false (known good)]
  nk : ∀ l : List (Nm × Kn), l.map (·.1) = N → dGet (KD l) kv = none
  ni : ∀ x : Nm, dGet (ID (is0 x)) kv = none
theorem good_ok (F : NF N) (n : Nat) : (∀ m ∈ (N ++ (op ++ [[105], [106]])).take n, NmOk m) ∧ ((N ++ (op ++ [[105], [106]])).take n).Nodup := by
  have A : Pre N (is0 [97]) op := by
    have := (List.getElem?_eq_some_iff.mp F.h0).1
    have := F.l4
    exact pre_of (F.ck op (by decide) [[105], [106]] (by decide)) (by omega) (by omega) (by simp) (by simp) (by simp)
  exact ⟨fun m hm => (A.nm m (List.mem_of_mem_take hm)).1, List.Nodup.sublist (List.take_sublist _ _) A.nd⟩
theorem refuse_w1 (F : NF N) (C : KnotsC N ks) {v w : U} {kv : Ky} (W : Wrong N v w kv) : callP m__law_refused [.dct false (KD ks ++ [(kv, K1)]), .dct false (ID (is0 x)), .tup (nms op), w] s = .ok (.bl true) s := by
  obtain ⟨h1, h2, h3⟩ := C_len F C
  have k1 := keysOf_new (f := uKnot) (w := K1) (C_lt F C) W.ok
  have k2 := keysOf_ent (f := U.str) (l := is0 x) (by simp)
  rw [W.kyU, C.keys] at k1
  obtain ⟨g1, g2⟩ := good_ok F N.length
  have ht : (N ++ (op ++ [[105], [106]])).take N.length = N := by simp
  rw [ht] at g1 g2
  have fw := fw_bad (rest := nms op ++ nms [[105], [106]]) g1 g2 (by omega) (W.fw N)
  refine refused_call (ref_first (us1 := nms N ++ [v]) (us2 := nms [[105], [106]]) (us3 := nms op) (by simp) (by simp; omega) (fun s => in_nil (by simp)) k1 k2 (by simp; omega) (by rw [List.append_assoc]; exact fw) ?_ W.pw W.ne) ?_ W.pw W.eq s
  · rw [pus_app, pus_app, pus_nms]
    show ((true && (pu v && true)) && _) = true
    rw [W.pv]; rfl
  · show (puk (KD ks ++ [(kv, K1)]) && (puk (ID (is0 x)) && (pus (nms op) && true))) = true
    rw [puk_app, puk_ent pu_knot]; rfl
theorem refuse_w2 (F : NF N) (C : KnotsC N ks) {v w : U} {kv : Ky} (W : Wrong N v w kv) : callP m__law_refused [.dct false (KD ks), .dct false (ID (is0 x)), .tup [.str [111], .str [112], v], w] s = .ok (.bl true) s := by
  obtain ⟨h1, h2, h3⟩ := C_len F C
  have k1 := keysOf_ent (f := uKnot) (C_lt F C)
  have k2 := keysOf_ent (f := U.str) (l := is0 x) (by simp)
  rw [C.keys] at k1
  obtain ⟨g1, g2⟩ := good_ok F (N.length + 2)
  have ht : (N ++ (op ++ [[105], [106]])).take (N.length + 2) = N ++ op := by rw [List.take_append, List.take_of_length_le (by omega)]; simp
  rw [ht] at g1 g2
  have fw := fw_bad (rest := nms [[105], [106]]) g1 g2 (by simp; omega) (W.fw (N ++ op))
  have e : nms (N ++ op) ++ v :: nms [[105], [106]] = nms N ++ ([.str [111], .str [112], v] ++ nms [[105], [106]]) := by simp
  rw [e] at fw
  refine refused_call (ref_first (us1 := nms N) (us2 := nms [[105], [106]]) (us3 := [.str [111], .str [112], v]) (by simp; omega) (by simp; omega) (fun s => in_nil (by simp)) k1 k2 (by simp; omega) fw ?_ W.pw W.ne) ?_ W.pw W.eq s
  · rw [pus_app, pus_nms]
    show (true && (true && (true && (pu v && true)))) = true
    rw [W.pv]; rfl
  · show (puk (KD ks) && (puk (ID (is0 x)) && (pu (.tup [.str [111], .str [112], v]) && true))) = true
    rw [puk_ent pu_knot]
    show (true && (true && ((true && (true && (pu v && true))) && true))) = true
    rw [W.pv]; rfl
theorem in_new (kv : Ky) (s : S) : gEq (.dct false (ID (is0 x) ++ [(kv, .str [97])])) (.dct false []) s = some (.bl false, s) := eq_nil_gen (ds := [(.str [105], .str [97]), (.str [106], .str x), (kv, .str [97])]) rfl (by simp)
theorem refuse_w3 (F : NF N) (C : KnotsC N ks) {v w : U} {kv : Ky} (W : Wrong N v w kv) : callP m__law_refused [.dct false (KD ks), .dct false (ID (is0 x) ++ [(kv, .str [97])]), .tup (nms op), w] s = .ok (.bl true) s := by
  obtain ⟨h1, h2, h3⟩ := C_len F C
  have k1 := keysOf_ent (f := uKnot) (C_lt F C)
  have k2 := keysOf_new (f := U.str) (l := is0 x) (w := .str [97]) (by simp) W.ok
  rw [C.keys] at k1
  rw [W.kyU] at k2
  obtain ⟨g1, g2⟩ := good_ok F (N.length + 4)
  have ht : (N ++ (op ++ [[105], [106]])).take (N.length + 4) = N ++ (op ++ [[105], [106]]) := List.take_of_length_le (by simp)
  rw [ht] at g1 g2
  have fw := fw_bad (rest := []) g1 g2 (by simp; omega) (W.fw (N ++ (op ++ [[105], [106]])))
  have e : nms (N ++ (op ++ [[105], [106]])) ++ [v] = nms N ++ (nms op ++ (nms ((is0 x).map (·.1)) ++ [v])) := by simp
  rw [e] at fw
  refine refused_call (ref_first (us1 := nms N) (us2 := nms ((is0 x).map (·.1)) ++ [v]) (us3 := nms op) (by simp; omega) (by simp; omega) (in_new kv) k1 k2 (by simp; omega) fw ?_ W.pw W.ne) ?_ W.pw W.eq s
  · rw [pus_app, pus_nms]
    show (true && (true && (true && (true && (true && (pu v && true)))))) = true
    rw [W.pv]; rfl
  · show (puk (KD ks) && (puk (ID (is0 x) ++ [(kv, .str [97])]) && (pus (nms op) && true))) = true
    rw [puk_ent pu_knot]; rfl
theorem wrong_str {n : Nm} (h : isFalse (m_is_name [.str n] []) = true) (hl : n.length ≤ 1000) (hn : n ∉ N) (hi : n ∉ ([[105], [106]] : List Nm)) : Wrong N (.str n) (.str n) (.str n) := ⟨rfl, rfl, rfl, by show decide (n.length ≤ sizeLine) = true; rw [sizeLine_eq]; exact decide_eq_true (by omega), rfl, rfl, eqT n, fun s => by
  obtain ⟨r, e, h⟩ := Emb.str.lst.ne (by decide) [n] [] s
  have : r = true := h.mpr (by simp)
  exact e.trans (by rw [this]), fun good us => fwb_name h us, fun l hl => by rw [dGet_ent, gt_none (by rw [hl]; exact hn)]; rfl, fun x => by rw [dGet_ent, gt_none hi]; rfl⟩
theorem wrong_int {i : Int} : Wrong N (.int i) .non (.int i) := ⟨rfl, rfl, rfl, rfl, rfl, rfl, fun _ => rfl, fun _ => rfl, fun good us => fwb_int us, fun l _ => dGet_ent_int l, fun x => dGet_ent_int _⟩
/-- an outlet that stands twice or is a knot, an inlet that is a knot -/
theorem refuse_dup (F : NF N) (C : KnotsC N ks) {n : Nm} (hn : n ∈ N ++ op) : callP m__law_refused [.dct false (KD ks), .dct false (ID (is0 x)), .tup [.str [111], .str [112], .str n], .str n] s = .ok (.bl true) s := by
  obtain ⟨h1, h2, h3⟩ := C_len F C
  have k1 := keysOf_ent (f := uKnot) (C_lt F C)
  have k2 := keysOf_ent (f := U.str) (l := is0 x) (by simp)
  rw [C.keys] at k1
  obtain ⟨g1, g2⟩ := good_ok F (N.length + 2)
  have ht : (N ++ (op ++ [[105], [106]])).take (N.length + 2) = N ++ op := by rw [List.take_append, List.take_of_length_le (by omega)]; simp
  rw [ht] at g1 g2
  have fw := fw_bad (v := .str n) (rest := nms [[105], [106]]) g1 g2 (by simp; omega) (fwb_dup (g1 n hn) hn)
  have e : nms (N ++ op) ++ .str n :: nms [[105], [106]] = nms N ++ ([.str [111], .str [112], .str n] ++ nms [[105], [106]]) := by simp
  rw [e] at fw
  refine refused_call (ref_first (us1 := nms N) (us2 := nms [[105], [106]]) (us3 := [.str [111], .str [112], .str n]) (by simp; omega) (by simp; omega) (fun s => in_nil (by simp)) k1 k2 (by simp; omega) fw ?_ rfl ?_) ?_ rfl (eqT n) s
  · rw [pus_app, pus_nms]; rfl
  · intro s
    obtain ⟨r, e, h⟩ := Emb.str.lst.ne (by decide) [n] [] s
    have : r = true := h.mpr (by simp)
    exact e.trans (by rw [this])
  · show (puk (KD ks) && (puk (ID (is0 x)) && (pu (.tup [.str [111], .str [112], .str n]) && true))) = true
    rw [puk_ent pu_knot]; rfl
theorem refuse_aa (F : NF N) (C : KnotsC N ks) : callP m__law_refused [.dct false (KD ks), .dct false (ID [([97], [97])]), .tup (nms op), .str [97]] s = .ok (.bl true) s := by
  obtain ⟨h1, h2, h3⟩ := C_len F C
  have k1 := keysOf_ent (f := uKnot) (C_lt F C)
  have k2 := keysOf_ent (f := U.str) (l := [([97], [97])]) (by simp)
  rw [C.keys] at k1
  obtain ⟨g1, g2⟩ := good_ok F (N.length + 2)
  have ht : (N ++ (op ++ [[105], [106]])).take (N.length + 2) = N ++ op := by rw [List.take_append, List.take_of_length_le (by omega)]; simp
  rw [ht] at g1 g2
  have ha : ([97] : Nm) ∈ N ++ op := List.mem_append_left _ (List.mem_of_getElem? F.h0)
  have fw := fw_bad (v := .str [97]) (rest := []) g1 g2 (by simp; omega) (fwb_dup (g1 _ ha) ha)
  have e : nms (N ++ op) ++ [.str [97]] = nms N ++ (nms op ++ nms [[97]]) := by simp
  rw [e] at fw
  refine refused_call (ref_first (us1 := nms N) (us2 := nms [[97]]) (us3 := nms op) (by simp; omega) (by simp; omega) (fun s => in_nil (by simp)) k1 k2 (by simp; omega) fw ?_ rfl (fun _ => rfl)) ?_ rfl (eqT _) s
  · rw [pus_app, pus_nms]; rfl
  · show (puk (KD ks) && (puk (ID [([97], [97])]) && (pus (nms op) && true))) = true
    rw [puk_ent pu_knot]; rfl
theorem refuse_2y (F : NF N) (C : KnotsC N ks) : callP m__law_refused [.dct false (KD ks), .dct false (ID (is0 x) ++ [(.str [49, 120], .str [97])]), .tup [.str [111], .str [112], .str [50, 121]], .str [50, 121]] s = .ok (.bl true) s := by
  obtain ⟨h1, h2, h3⟩ := C_len F C
  have k1 := keysOf_ent (f := uKnot) (C_lt F C)
  have k2 := keysOf_new (f := U.str) (l := is0 x) (w := .str [97]) (kv := .str [49, 120]) (by simp) (by show decide (2 ≤ sizeLine) = true; rw [sizeLine_eq]; rfl)
  rw [C.keys] at k1
  obtain ⟨g1, g2⟩ := good_ok F (N.length + 2)
  have ht : (N ++ (op ++ [[105], [106]])).take (N.length + 2) = N ++ op := by rw [List.take_append, List.take_of_length_le (by omega)]; simp
  rw [ht] at g1 g2
  have fw := fw_bad (v := .str [50, 121]) (rest := nms [[105], [106], [49, 120]]) g1 g2 (by simp; omega) (fwb_name (by decide +kernel))
  have e : nms (N ++ op) ++ .str [50, 121] :: nms [[105], [106], [49, 120]] = nms N ++ ([.str [111], .str [112], .str [50, 121]] ++ nms [[105], [106], [49, 120]]) := by simp
  rw [e] at fw
  refine refused_call (ref_first (us1 := nms N) (us2 := nms [[105], [106], [49, 120]]) (us3 := [.str [111], .str [112], .str [50, 121]]) (by simp; omega) (by simp; omega) (in_new _) k1 k2 (by simp; omega) fw ?_ rfl (fun _ => rfl)) ?_ rfl (eqT _) s
  · rw [pus_app, pus_nms]; rfl
  · show (puk (KD ks) && (puk (ID (is0 x) ++ [(.str [49, 120], .str [97])]) && (pu (.tup [.str [111], .str [112], .str [50, 121]]) && true))) = true
    rw [puk_ent pu_knot]; rfl
theorem refuse_ko (F : NF N) (C : KnotsC N ks) : callP m__law_refused [.dct false (KD ks), .dct false (ID [([105], [97]), ([107], [111])]), .tup (nms op), .str [107]] s = .ok (.bl true) s := by
  obtain ⟨h1, h2, h3⟩ := C_len F C
  have A : Pre (ks.map (·.1)) [([105], [97]), ([107], [111])] op := by
    rw [C.keys]
    exact pre_of (F.ck op (by decide) [[105], [107]] (by decide)) h3 (by omega) (by simp) (by simp) (by simp)
  refine refused_call (ref_inlet (pre := [([105], [97])]) (post := []) (k := [107]) (t := [111]) A rfl (fun p hp => by rw [C.keys]; exact knOk C hp) (fun p hp => ?_) ?_) ?_ rfl (eqT _) s
  · have : p = ([105], [97]) := by simpa using hp
    rw [this, C.keys]
    exact List.mem_of_getElem? F.h0
  · have nd := A.nd
    intro h
    exact (List.nodup_append.mp nd).2.2 _ h [111] (by simp) rfl
  · show (puk (KD ks) && (puk (ID [([105], [97]), ([107], [111])]) && (pus (nms op) && true))) = true
    rw [puk_ent pu_knot]; rfl
end
end K07
/-! QO: more knots than are met; bad knots; the law's loops. -/
namespace K07
open Mo PySem PySem.Spec PyProof.Rows L2
abbrev two : List (Nm × Kn) := [([122], ([], [[[122], [111]]])), ([121], ([[[122]]], [[[111]]]))]
section
variable {N : List Nm} {ks : List (Nm × Kn)} {x : Nm} {s : S}
theorem chain_reach (F : NF N) (C : KnotsC N ks) {P : Nm → Prop} (ha : P [97]) (cl : ∀ n ∈ N, P n → ∀ d ∈ (gtD ks n).2, ∀ t ∈ d, t ∈ N → P t) : ∀ n ∈ N, P n := by
  have all : ∀ (i : Nat) (a : Nm), N[i]? = some a → P a := fun i => by
    induction i with
    | zero =>
      intro a h
      rw [F.h0] at h
      cases h
      exact ha
    | succ i ih =>
      intro b hb
      have hlt : i < N.length := by have := (List.getElem?_eq_some_iff.mp hb).1; omega
      obtain ⟨k, hg, d, hd, hbd⟩ := C.chain i N[i] b (List.getElem?_eq_getElem hlt) hb
      have hgd : gtD ks N[i] = k := by unfold gtD; rw [hg]; rfl
      exact cl N[i] (List.getElem_mem hlt) (ih _ (List.getElem?_eq_getElem hlt)) d (by rw [hgd]; exact hd) b hbd (List.mem_of_getElem? hb)
  intro n hn
  obtain ⟨i, hi⟩ := List.mem_iff_getElem?.mp hn
  exact all i n hi
theorem gt_app {α : Type} {n : Nm} {b : List (Nm × α)} : ∀ a : List (Nm × α), n ∈ a.map (·.1) → gt (a ++ b) n = gt a n
  | [], h => by cases h
  | p :: a, h => by
    show (if p.1 = n then some p.2 else gt (a ++ b) n) = (if p.1 = n then some p.2 else gt a n)
    by_cases e : p.1 = n
    · rw [if_pos e, if_pos e]
    · rw [if_neg e, if_neg e]
      rcases List.mem_cons.mp h with h | h
      · exact absurd h.symm e
      · exact gt_app a h
theorem lone_keys (C : KnotsC N ks) : (ks ++ two).map (·.1) = N ++ zy := by rw [List.map_append, C.keys]; rfl
theorem lone_gt (C : KnotsC N ks) {n : Nm} (h : n ∈ N) : gtD (ks ++ two) n = gtD ks n := by
  unfold gtD
  rw [gt_app ks (by rw [C.keys]; exact h)]
/-- the names, the outlets and the two are apart -/
theorem apart (Z : NZ N) : (N ++ zy ++ op).Nodup := by
  have c := Z.c1
  unfold chk at c
  rw [Bool.and_eq_true] at c
  have : (N ++ zy ++ (op ++ [[105], [106]])).Nodup := by simpa using c.1
  rw [← List.append_assoc] at this
  exact (List.nodup_append.mp this).1
theorem not_zy (Z : NZ N) {t : Nm} (h : t ∈ N ++ op) : t ∉ zy := fun h2 => by
  have a := apart Z
  rcases List.mem_append.mp h with h | h
  · exact (List.nodup_append.mp (List.nodup_append.mp a).1).2.2 t h t h2 rfl
  · exact (List.nodup_append.mp a).2.2 t (List.mem_append_right _ h2) t h rfl
theorem in_N (Z : NZ N) {t : Nm} (h : t ∈ N ++ op) (h2 : t ∈ N ++ zy) : t ∈ N := by
  rcases List.mem_append.mp h2 with h2 | h2
  · exact h2
  · exact absurd h2 (not_zy Z h)
theorem lone_kn (F : NF N) (C : KnotsC N ks) : ∀ p ∈ ks ++ two, KnOk (N ++ zy ++ op) p.2 := fun p hp => by
  rcases List.mem_append.mp hp with h | h
  · have k := knOk C h
    have m : ∀ t, t ∈ N ++ op → t ∈ N ++ zy ++ op := fun t ht => by
      rcases List.mem_append.mp ht with h | h
      · exact List.mem_append_left _ (List.mem_append_left _ h)
      · exact List.mem_append_right _ h
    exact ⟨k.f, k.t, k.ne, fun d hd => ⟨(k.df d hd).1, fun t ht => m t ((k.df d hd).2 t ht)⟩, fun d hd => ⟨(k.dt d hd).1, fun t ht => m t ((k.dt d hd).2 t ht)⟩⟩
  · have hz : ([122] : Nm) ∈ N ++ zy ++ op := List.mem_append_left _ (List.mem_append_right _ (by decide))
    have ho : ([111] : Nm) ∈ N ++ zy ++ op := List.mem_append_right _ (by decide)
    rcases List.mem_cons.mp h with rfl | h
    · refine ⟨by simp, by simp, by simp, by simp, fun d hd => ?_⟩
      have : d = [[122], [111]] := by simpa using hd
      subst this
      refine ⟨by simp, fun t ht => ?_⟩
      rcases List.mem_cons.mp ht with rfl | ht
      · exact hz
      · have : t = [111] := by simpa using ht
        rw [this]; exact ho
    · have : p = ([121], ([[[122]]], [[[111]]])) := by simpa using h
      subst this
      refine ⟨by simp, by simp, by simp, fun d hd => ?_, fun d hd => ?_⟩
      · have : d = [[122]] := by simpa using hd
        subst this
        exact ⟨by simp, fun t ht => by
          have : t = [122] := by simpa using ht
          rw [this]; exact hz⟩
      · have : d = [[111]] := by simpa using hd
        subst this
        exact ⟨by simp, fun t ht => by
          have : t = [111] := by simpa using ht
          rw [this]; exact ho⟩
theorem lone_P (F : NF N) (Z : NZ N) (C : KnotsC N ks) {is : List (Nm × Nm)} (c : chk (N ++ zy) op (is.map (·.1)) = true) (hi : is ≠ []) (il : is.length ≤ 4) (hin : ∀ p ∈ is, p.2 ∈ N ++ zy) : NetP (ks ++ two) is op := by
  obtain ⟨h1, h2, h3⟩ := C_len F C
  have A : Pre (N ++ zy) is op := pre_of c (by simp) (by simp; omega) hi (by omega) (by simp)
  have hk := lone_keys C
  refine ⟨by simp, by simp; omega, hi, by omega, by simp, fun n hn => ?_, ?_, ?_, fun p hp => ?_, fun p hp => ?_⟩
  · rw [hk] at hn; exact (A.nm n hn).2
  · rw [hk]; exact A.nd
  · rw [hk]; exact first_wrong_ok (fun n hn => (A.nm n hn).1) A.nd (by simp; omega)
  · rw [hk]; exact lone_kn F C p hp
  · rw [hk]; exact hin p hp
theorem lone_targets (Z : NZ N) (C : KnotsC N ks) {n : Nm} (hn : n ∈ N) : ∀ d ∈ (gtD (ks ++ two) n).2, ∀ t ∈ d, t ∈ N ++ op := fun d hd t ht => by
  rw [lone_gt C hn] at hd
  exact ((C.kn _ (gt_mem (gt_some (l := ks) (n := n) (by rw [C.keys]; exact hn)))).dt d hd).2 t ht
theorem lone_chain (F : NF N) (C : KnotsC N ks) {is : List (Nm × Nm)} (ha : ([105], [97]) ∈ is) : ∀ G : List Nm, (∀ p ∈ is, p.2 ∈ G) → (∀ n ∈ G, ∀ d ∈ (gtD (ks ++ two) n).2, ∀ t ∈ d, t ∈ (ks ++ two).map (·.1) → t ∈ G) → ∀ n ∈ N, n ∈ G := fun G m1 m2 =>
  chain_reach F C (P := fun n => n ∈ G) (m1 _ ha) fun n hn hG d hd t ht htN => m2 n hG d (by rw [lone_gt C hn]; exact hd) t ht (by rw [lone_keys C]; exact List.mem_append_left _ htN)
theorem refuse_lone_y (F : NF N) (Z : NZ N) (C : KnotsC N ks) (hx : x ∈ N) : callP m__law_refused [.dct false (KD (ks ++ two)), .dct false (ID (is0 x)), .tup (nms op), .str [121]] s = .ok (.bl true) s := by
  have hk := lone_keys C
  refine refused_call (ref_met (pre := N) (post := [[122]]) (P := fun n => n ∈ N) (lone_P F Z C (is := is0 x) Z.c1 (by simp) (by simp) fun p hp => List.mem_append_left _ (hin_of F hx p hp)) (by rw [hk]; exact Z.srt) (hin_of F hx) (fun n _ hn d hd t ht htk => ?_) (fun h => ?_) (lone_chain F C List.mem_cons_self)) ?_ rfl (eqT _) s
  · rw [hk] at htk
    exact in_N Z (lone_targets Z C hn d hd t ht) htk
  · exact not_zy Z (List.mem_append_left _ h) (by decide)
  · show (puk (KD (ks ++ two)) && (puk (ID (is0 x)) && (pus (nms op) && true))) = true
    rw [puk_ent pu_knot]; rfl
abbrev is2 (x : Nm) : List (Nm × Nm) := [([105], [97]), ([106], x), ([107], [121])]
theorem refuse_lone_z (F : NF N) (Z : NZ N) (C : KnotsC N ks) (hx : x ∈ N) : callP m__law_refused [.dct false (KD (ks ++ two)), .dct false (ID (is2 x)), .tup (nms op), .str [122]] s = .ok (.bl true) s := by
  have hk := lone_keys C
  have hin : ∀ p ∈ is2 x, p.2 ∈ N ∨ p.2 = [121] := fun p hp => by
    rcases List.mem_append.mp (show p ∈ is0 x ++ [([107], [121])] from hp) with h | h
    · exact .inl (hin_of F hx p h)
    · have : p = ([107], [121]) := by simpa using h
      rw [this]; exact .inr rfl
  refine refused_call (ref_met (pre := N ++ [[121]]) (post := []) (P := fun n => n ≠ [122]) (lone_P F Z C (is := is2 x) Z.c2 (by simp) (by simp) fun p hp => ?_) (by rw [hk, Z.srt]; simp) (fun p hp => ?_) (fun n hn hnz d hd t ht htk => ?_) (fun h => h rfl) (fun G m1 m2 n hn => ?_)) ?_ rfl (eqT _) s
  · rcases hin p hp with h | h
    · exact List.mem_append_left _ h
    · rw [h]; exact List.mem_append_right _ (by decide)
  · rcases hin p hp with h | h
    · intro e
      rw [e] at h
      exact not_zy Z (List.mem_append_left _ h) (by decide)
    · rw [h]; decide
  · rw [hk] at hn
    rcases List.mem_append.mp hn with h | h
    · intro e
      have := lone_targets Z C h d hd t ht
      rw [e] at this
      exact not_zy Z this (by decide)
    · have hny : n = [121] := by
        rcases List.mem_cons.mp h with h | h
        · exact absurd h hnz
        · simpa using h
      subst hny
      have hg : gtD (ks ++ two) [121] = ([[[122]]], [[[111]]]) := by
        unfold gtD
        rw [gt_of_mem (n := [121]) (v := ([[[122]]], [[[111]]])) (by rw [hk]; exact (List.nodup_append.mp (apart Z)).1) (by simp)]; rfl
      rw [hg] at hd
      have : d = [[111]] := by simpa using hd
      subst this
      have : t = [111] := by simpa using ht
      rw [this]; decide
  · rcases List.mem_append.mp hn with h | h
    · exact lone_chain F C (is := is2 x) (by simp) G m1 m2 n h
    · have : n = [121] := by simpa using h
      rw [this]
      exact m1 ([107], [121]) (by simp)
  · show (puk (KD (ks ++ two)) && (puk (ID (is2 x)) && (pus (nms op) && true))) = true
    rw [puk_ent pu_knot, puk_ent fun _ => rfl]; rfl
abbrev is3 : List (Nm × Nm) := [([105], [97]), ([106], [121]), ([107], [122])]
theorem lone_ok (F : NF N) (Z : NZ N) (C : KnotsC N ks) : NetOk (ks ++ two) is3 op := by
  have hk := lone_keys C
  refine ⟨lone_P F Z C (is := is3) Z.c2 (by simp) (by simp) fun p hp => ?_, fun P p0 p1 n hn => ?_⟩
  · rcases List.mem_cons.mp hp with rfl | hp
    · exact List.mem_append_left _ (List.mem_of_getElem? F.h0)
    · rcases List.mem_cons.mp hp with rfl | hp
      · exact List.mem_append_right _ (by decide)
      · have : p = ([107], [122]) := by simpa using hp
        rw [this]; exact List.mem_append_right _ (by decide)
  · rw [hk] at hn
    rcases List.mem_append.mp hn with h | h
    · exact chain_reach F C (P := P) (p0 ([105], [97]) List.mem_cons_self) (fun n hn hP d hd t ht htN => p1 n (by rw [hk]; exact List.mem_append_left _ hn) hP d (by rw [lone_gt C hn]; exact hd) t ht (by rw [hk]; exact List.mem_append_left _ htN)) n h
    · rcases List.mem_cons.mp h with rfl | h
      · exact p0 ([107], [122]) (by simp)
      · have : n = [121] := by simpa using h
        rw [this]; exact p0 ([106], [121]) (by simp)
/-! ### bad knots -/
theorem k_mulT {us : List U} {k : Int} (h : us ≠ []) (h1 : 2 ≤ k) (h2 : k ≤ 1000) (h3 : us.length * k.toNat ≤ 1000) (h4 : us.length ≤ 1000) : gMul false (.tup us) (.int k) s = some (.tup (List.replicate k.toNat us).flatten, s) := by
  have e1 : -(2 ^ 63) ≤ k ∧ k < 2 ^ 63 := by omega
  have e2 : us.isEmpty = false := by cases us with
    | nil => exact absurd rfl h
    | cons _ _ => rfl
  have e3 : ((List.replicate k.toNat us).flatten).length ≤ 16777216 := by
    have : ((List.replicate k.toNat us).flatten).length = k.toNat * us.length := by simp
    rw [this, Nat.mul_comm]; omega
  unfold gMul
  simp only [lstW, tupOf]
  rw [if_pos e1, if_pos ⟨e2, h1, h2, h4⟩]
  unfold mkT
  rw [if_pos (by rw [sizeLine_eq]; exact e3)]
theorem rep_len (m : Nat) (us : List U) : ((List.replicate m us).flatten).length = m * us.length := by simp
theorem k_slT {us : List U} {n : Nat} (h : n ≤ us.length) (hn : n ≤ 1000) : gSl false (.tup us) none (some (n : Int)) s = some (.tup (us.take n), s) := by
  have e1 : HT.sIx us.length us.length (some (n : Int)) = min n us.length := HT.sIx_nat _ _ n
  have e2 : HT.sIx us.length 0 none = 0 := HT.sIx_none _ _
  have hc : cutU us none (some (n : Int)) = us.take n := by
    unfold cutU
    rw [e1, e2, List.drop_zero, Nat.sub_zero, List.take_eq_take_iff]; omega
  show (if HT.sIx us.length 0 none = 0 ∧ HT.sIx us.length us.length (some (n : Int)) = us.length then some (U.tup us, s) else mkT (cutU us none (some (n : Int))) s) = _
  by_cases e : n = us.length
  · rw [if_pos ⟨e2, by rw [e1]; omega⟩, e, List.take_length]
  · rw [if_neg (by rw [e1]; omega), hc]
    unfold mkT
    rw [if_pos (by rw [sizeLine_eq]; simp; omega)]
end
end K07
/-! QP: the law. -/
namespace K07
open Mo PySem PySem.Spec PyProof.Rows L2
abbrev opq : List Nm := [[111], [112], [113]]
section
variable {N : List Nm} {ks : List (Nm × Kn)} {x : Nm} {s : S} {x0 x1 x2 x3 x4 x5 x6 x7 x8 x9 x10 x11 x12 x13 : Option U}
theorem items_k (F : NF N) (C : KnotsC N ks) (s : S) : gItemsL false (.dct false (KD ks)) s = some (.lst (prsOf (KD ks)), s) := items_ok (f := uKnot) (l := ks) (u := .dct false (KD ks)) (s := s) rfl (C_lt F C) (by have := C_len F C; omega)
theorem items_i (s : S) : gItemsL false (.dct false (ID (is0 x))) s = some (.lst (prsOf (ID (is0 x))), s) := items_ok (f := U.str) (l := is0 x) (u := .dct false (ID (is0 x))) (s := s) rfl (by simp) (by simp)
theorem bad_dict (F : NF N) (C : KnotsC N ks) {y : Nm} (hy : y ∈ N) {bad : U} : gDictOf false [.lst (prsOf (KD ks) ++ [.tup [.str y, bad]])] s = some (.dct false (KU (setK (ks.map fun p => (p.1, uKnot p.2)) y bad)), s) := by
  have hl := C_len F C
  have e0 : KD ks = KU (ks.map fun p => (p.1, uKnot p.2)) := by simp [KD, KU, ent]
  have nd : ((ks.map fun p => (p.1, uKnot p.2)).map (·.1)).Nodup := by rw [List.map_map]; exact C_nd F C
  have e1 : prsOf (KD ks) ++ [.tup [.str y, bad]] = prsOf (KU (ks.map (fun p => (p.1, uKnot p.2)) ++ [(y, bad)])) := by
    rw [e0]; simp [prsOf, kyU]
  have e2 : mrgK [] (KU (ks.map (fun p => (p.1, uKnot p.2)) ++ [(y, bad)])) = KU (setK (ks.map fun p => (p.1, uKnot p.2)) y bad) := by
    have e3 : KU (ks.map (fun p => (p.1, uKnot p.2)) ++ [(y, bad)]) = KU (ks.map fun p => (p.1, uKnot p.2)) ++ [(.str y, bad)] := by simp [KU, ent]
    have this : mrgK [] (KU (ks.map fun p => (p.1, uKnot p.2))) = KU (ks.map fun p => (p.1, uKnot p.2)) := mrgK_ent (fun u : U => u) (ks.map fun (p : Nm × Kn) => (p.1, uKnot p.2)) [] (by exact nd)
    rw [e3, mrgK_app, this]
    exact dPut_old (f := fun u : U => u) (by rw [List.map_map]; show y ∈ ks.map (·.1); rw [C.keys]; exact hy)
  rw [e1]
  simp only [gDictOf, dctOf, lstOf, prsK_ent, e2]
  exact k_mkD (by unfold setK; simp; omega)
theorem bad_body (F : NF N) (C : KnotsC N ks) {y : Nm} (hy : y ∈ N) {bad : U} (hp : pu bad = true) (hv : KnotNo (N ++ op) bad) : lb_law_2 [x0, some (.dct false (KD ks)), some (.dct false (ID (is0 x))), some (.str y), some bad, x5, x6, x7, x8, x9, x10, x11, x12, x13] s =
    .nx [x0, some (.dct false (KD ks)), some (.dct false (ID (is0 x))), some (.str y), some bad, x5, x6, x7, x8, x9, x10, x11, x12, x13] s := by
  have hl := C_len F C
  exact k_ifF (k_nt (k_b (k_call (k_cons (k_n (k_cons (k_op (k_un (k_v rfl) (items_k F C _)) (k_lst (k_cons (k_tup (k_cons (k_v rfl) (k_cons (k_v rfl) k_nil)) (by simp)) k_nil) (k_mkL (by simp))) (k_addL (by unfold prsOf; simp; omega))) k_nil) (bad_dict F C hy)) (k_cons (k_v rfl) (k_cons (k_tup (us := nms op) rfl (by simp)) (k_cons (k_v rfl) k_nil)))) (refuse_knot F C hy hp hv)))) rfl
theorem wrong_body (F : NF N) (C : KnotsC N ks) {v w : U} {kv : Ky} (W : Wrong N v w kv) : lb_law_1 [x0, some (.dct false (KD ks)), some (.dct false (ID (is0 x))), x3, x4, x5, x6, x7, x8, x9, x10, some v, some w, x13] s =
    .nx [x0, some (.dct false (KD ks)), some (.dct false (ID (is0 x))), x3, x4, x5, x6, x7, x8, x9, x10, some v, some w, x13] s := by
  have hl := C_len F C
  have d1 := dict_new (f := uKnot) (l := ks) (v := v) (w := K1) (s := s) (C_nd F C) (by omega) W.ky W.fit (W.nk ks C.keys)
  have d2 := dict_new (f := U.str) (l := is0 x) (v := v) (w := .str [97]) (s := s) (by show ([[105], [106]] : List Nm).Nodup; decide) (by simp) W.ky W.fit (W.ni x)
  refine k_seq (k_ifF (k_nt (k_b (k_call (k_cons (k_n (k_cons (k_op (k_un (k_v rfl) (items_k F C _)) (k_lst (us := [.tup [v, K1]]) (k_cons (k_tup (k_cons (k_v rfl) (k_cons (k_tup (k_cons (k_tup k_nil (by simp)) (k_cons (k_tup (k_cons (k_tup (k_cons rfl k_nil) (by simp)) k_nil) (by simp)) k_nil)) (by simp)) k_nil)) (by simp)) k_nil) (k_mkL (by simp))) (k_addL (by unfold prsOf; simp; omega))) k_nil) d1) (k_cons (k_v rfl) (k_cons (k_tup (us := nms op) rfl (by simp)) (k_cons (k_v rfl) k_nil)))) (refuse_w1 F C W)))) rfl) ?_
  refine k_seq (k_ifF (k_nt (k_b (k_call (k_cons (k_v rfl) (k_cons (k_v rfl) (k_cons (k_tup (us := [.str [111], .str [112], v]) (k_cons rfl (k_cons rfl (k_cons (k_v rfl) k_nil))) (by simp)) (k_cons (k_v rfl) k_nil)))) (refuse_w2 F C W)))) rfl) ?_
  exact k_ifF (k_nt (k_b (k_call (k_cons (k_v rfl) (k_cons (k_n (k_cons (k_op (k_un (k_v rfl) (items_i _)) (k_lst (us := [.tup [v, .str [97]]]) (k_cons (k_tup (k_cons (k_v rfl) (k_cons rfl k_nil)) (by simp)) k_nil) (k_mkL (by simp))) (k_addL (by unfold prsOf; simp))) k_nil) d2) (k_cons (k_tup (us := nms op) rfl (by simp)) (k_cons (k_v rfl) k_nil)))) (refuse_w3 F C W)))) rfl
theorem names_ok (F : NF N) (C : KnotsC N ks) {l : L} {i : Nat} (h : l[i]? = some (some (.dct false (KD ks)))) : (eN (gSorted false) (aCons (eN (gListOf false) (aCons (mV i) aNil)) aNil)) l s = .ok (.lst (nms N)) s := by
  have hl := C_len F C
  have li := list_ok (f := uKnot) (l := ks) (u := .dct false (KD ks)) (s := s) rfl (fun _ e => by cases e) (C_lt F C) (by omega)
  rw [C.keys] at li
  have so := sortedL_ok (N := N) (s := s) (by have := F.l4; omega)
  rw [F.srt] at so
  exact k_n (k_cons (k_n (k_cons (k_v h) k_nil) li) k_nil) so
theorem own_notin {v : U} {t : Nm} {K : List (Nm × Kn)} {I : List (Nm × Nm)} {O : List Nm} (h1 : insOf v s = some (7628110, netG K I O)) : ownNotIn t_contains (.str t) v s = .ok (.bl (!(decide (t ∈ K.map (·.1)) || decide (t ∈ O)))) s := by
  have q2 : ownC t_contains [v, .str t] s = .ok (.bl (decide (t ∈ K.map (·.1)) || decide (t ∈ O))) s := by
    unfold ownC
    simp only [h1]
    exact contains_ok h1 t
  unfold ownNotIn
  rw [q2]; rfl
theorem own_in3 {v : U} {K : List (Nm × Kn)} {I : List (Nm × Nm)} (h1 : insOf v s = some (7628110, netG K I opq)) : ownIn t_contains (.int 3) v s = .ok (.bl false) s := by
  have g1 : gIn (.int 3) (.dct false (KD K)) s = some (.bl false, s) := by
    unfold gIn inA
    simp only [dctOf, kyOf, fits, if_true, dGet_ent_int]
    rfl
  have q1 : m_Net_contains [v, .int 3] s = .ok (.bl false) s := by
    refine k_rt ?_
    show b_Net_contains [some v, some (.int 3)] s = _
    exact k_ret (k_eOrF (k_op (k_v rfl) (k_un (k_v rfl) (fld_net h1 rfl)) g1) (k_op (k_v rfl) (k_un (k_v rfl) (fld_net h1 rfl)) rfl))
  have q2 : ownC t_contains [v, .int 3] s = .ok (.bl false) s := by
    unfold ownC
    simp only [h1]
    exact q1
  unfold ownIn
  rw [q2]; rfl
theorem ne_names (L : List Nm) : gNe (.lst (nms L)) (.lst (nms L)) s = some (.bl false, s) := by
  obtain ⟨r, e, h⟩ := Emb.str.lst.ne (by decide) L L s
  have : r = false := by cases r with
    | false => rfl
    | true => exact absurd rfl (h.mp rfl)
  exact e.trans (by rw [this])
def kN : List Nm := [[107, 48], [107, 49], [107, 50], [107, 51], [107, 52], [107, 53], [107, 54], [107, 55], [107, 56], [107, 57], [107, 49, 48], [107, 49, 49], [107, 49, 50]]
theorem kstr : ∀ i : Nat, i < 13 → ∀ s, gStr [.int (i : Int)] s = some (.str ((kN.getD i []).drop 1), s)
  | 0, _, _ => rfl
  | 1, _, _ => rfl
  | 2, _, _ => rfl
  | 3, _, _ => rfl
  | 4, _, _ => rfl
  | 5, _, _ => rfl
  | 6, _, _ => rfl
  | 7, _, _ => rfl
  | 8, _, _ => rfl
  | 9, _, _ => rfl
  | 10, _, _ => rfl
  | 11, _, _ => rfl
  | 12, _, _ => rfl
theorem kadd : ∀ i : Nat, i < 13 → ∀ s, gAdd false (.str [107]) (.str ((kN.getD i []).drop 1)) s = some (.str (kN.getD i []), s)
  | 0, _, _ => rfl
  | 1, _, _ => rfl
  | 2, _, _ => rfl
  | 3, _, _ => rfl
  | 4, _, _ => rfl
  | 5, _, _ => rfl
  | 6, _, _ => rfl
  | 7, _, _ => rfl
  | 8, _, _ => rfl
  | 9, _, _ => rfl
  | 10, _, _ => rfl
  | 11, _, _ => rfl
  | 12, _, _ => rfl
abbrev kM : List (Nm × Kn) := kN.map fun n => (n, ([], [[[111]]]))
theorem many_ok {l : L} (hl : 13 < l.length) : (eN (gDictOf false) (aCons (eLc false [13] (iFnA rg1 (aCons (mK (.int 13)) aNil)) (.nm 13) tAll ce_law_0) aNil)) l s = .ok (.dct false (KD kM)) s := by
  have lc := lcGo_map (g := .nm 13) (e := ce_law_0) (l := wipeL l [13]) (f := fun v => match v with
    | .int i => .tup [.str (kN.getD i.toNat []), K1]
    | _ => .non) (s := s) (rngU 0 1 13) fun u hu => by
    obtain ⟨i, hi⟩ := List.mem_iff_getElem?.mp hu
    obtain ⟨rfl, hi2⟩ := rng_get hi
    refine ⟨_, rfl, ?_⟩
    have hv : ((wipeL l [13]).set 13 (some (.int (i : Int))))[13]? = some (some (.int i)) := List.getElem?_set_self (by show 13 < (l.set 13 none).length; simpa using hl)
    exact k_tup (k_cons (k_op rfl (k_n (k_cons (k_v hv) k_nil) (kstr i hi2 _)) (kadd i hi2 _)) (k_cons (k_tup (k_cons (k_tup k_nil (by simp)) (k_cons (k_tup (k_cons (k_tup (k_cons rfl k_nil) (by simp)) k_nil) (by simp)) k_nil)) (by simp)) k_nil)) (by simp)
  have e : (rngU 0 1 13).map (fun v => match v with
    | .int i => U.tup [.str (kN.getD i.toNat []), K1]
    | _ => .non) = prsOf (KD kM) := rfl
  rw [e] at lc
  have di := (dict_ok (f := uKnot) (l := kM) (s := s) (by decide) (by decide) false).trans (k_mkD (by decide))
  exact k_n (k_cons (k_lc (k_fnA (k_cons rfl k_nil) (k_rg (n := 13) rfl (by omega))) lc (k_mkL (by decide))) k_nil) di
end
end K07
/-! QR: the law is kept. -/
namespace K07
open Mo PySem PySem.Spec PyProof.Rows L2
theorem kept : Mo.Kept K07.m_law := by
  intro ns h63
  have h4 := drw_lt h63 (a := 0) (m := 4) (by omega) (by omega) (by omega)
  have F := nf_all _ h4
  have Z := nz_all _ h4
  have zz : ([122, 122] : Nm) ∉ (([97, 98, 99, 100] : List Nat).take (1 + drw ns 0 4)).map (fun c => [c]) ++ op := fun h => by
    rcases List.mem_append.mp h with h | h
    · obtain ⟨c, _, hc⟩ := List.mem_map.mp h
      have := congrArg List.length hc
      simp at this
    · exact absurd h (by decide)
  have hnml : (([97, 98, 99, 100] : List Nat).take (1 + drw ns 0 4)).length ≤ 4 := by simp; omega
  have hnmd : (([97, 98, 99, 100] : List Nat).take (1 + drw ns 0 4)).Nodup := List.Nodup.sublist (List.take_sublist _ _) (by decide)
  have C := knotsD_ok (b := true) h63 hnml hnmd (at_ := 0) (by omega)
  obtain ⟨sk, ko⟩ := knots_ok (at_ := 0) (b := true) h63 (by omega)
  generalize hks : knotsD ns (([97, 98, 99, 100] : List Nat).take (1 + drw ns 0 4)) true 0 = ks at C ko
  generalize (([97, 98, 99, 100] : List Nat).take (1 + drw ns 0 4)).map (fun c => [c]) = N at F C Z zz
  obtain ⟨hl1, hl2, hl3⟩ := C_len F C
  have nd := C_nd F C
  have h0 : 0 < N.length := hl3
  have scrp : pus [.scr (ns.map U.int), .int 0, .bl true] = true := by
    show (pus (ns.map U.int) && true) = true
    rw [pus_ints]; rfl
  have kc := callP_ok (s := []) scrp ko (by show puk (KD ks) = true; exact puk_ent pu_knot _)
  obtain ⟨x, hx, ic⟩ := inlets_ok h63 C.keys F.l4 h0 F.lt F.srt
  have hin := hin_of F hx
  have ndI : ((is0 x).map (·.1)).Nodup := by show ([[105], [106]] : List Nm).Nodup; decide
  have sid : srtP (is0 x) = is0 x := srtP_perm ndI (.refl _) (by show sortN [[105], [106]] = [[105], [106]]; decide)
  have skd : srtP ks = ks := srtP_perm nd (.refl _) (C_srt F C)
  -- the nets
  have n1 := mkP_ok (u3 := .lst (nms [[112], [111], [113]])) (nok (is := is0 x) (os := [[112], [111], [113]]) F C.B (.refl _) (by decide) (show [[105], [106]] ∈ IS by decide) hin ⟨_, List.mem_cons_self, rfl⟩) (fun _ => rfl) rfl []
  rw [skd, sid, show sortN [[112], [111], [113]] = opq by decide] at n1
  have n2 := mkP_ok (u3 := .lst (nms [[112], [111]])) (nok (is := is0 x) (os := [[112], [111]]) F C.B (.refl _) (by decide) (show [[105], [106]] ∈ IS by decide) hin ⟨_, List.mem_cons_self, rfl⟩) (fun _ => rfl) rfl []
  rw [skd, sid, show sortN [[112], [111]] = op by decide] at n2
  have n3 := mkP_ok (u3 := .tup (nms [[113], [112], [111]])) (nok (ks' := ks.reverse) (is := (is0 x).reverse) (os := [[113], [112], [111]]) F C.B (List.reverse_perm ks).symm (by decide) (show [[106], [105]] ∈ IS by decide) (fun p hp => hin p (List.mem_reverse.mp hp)) ⟨([105], [97]), by simp, rfl⟩) (fun _ => rfl) rfl []
  rw [srtP_perm (l := ks) (l' := ks.reverse) nd (List.reverse_perm ks).symm (by rw [List.map_reverse, C.keys]; exact F.srtr), srtP_perm (l := is0 x) (l' := (is0 x).reverse) ndI (List.reverse_perm _).symm (by show sortN [[106], [105]] = [[105], [106]]; decide), show sortN [[113], [112], [111]] = opq by decide] at n3
  generalize hnet : netU ks (is0 x) opq = net at n1 n3
  have hI : ∀ s, insOf net s = some (7628110, netG ks (is0 x) opq) := fun _ => by rw [← hnet]; rfl
  have hT : ∀ s, tyU net s = none := fun _ => by rw [← hnet]; rfl
  have hI2 : ∀ s, insOf (netU ks (is0 x) op) s = some (7628110, netG ks (is0 x) op) := fun _ => rfl
  -- == of nets
  obtain ⟨r1, a1, a2, a3⟩ := own_eq (s := []) (hI []) (hI2 []) rfl
  have hr1 : r1 = false := by
    cases r1 with
    | false => rfl
    | true => have := (a3.mp rfl).2; simp at this
  subst hr1
  obtain ⟨r2, b1, b2, b3⟩ := own_eq (s := []) (hI []) (hI []) (hT [])
  have hr2 : r2 = true := b3.mpr ⟨⟨Same.refl nd, Same.refl ndI⟩, rfl⟩
  subst hr2
  -- first checks
  have li1 := list_ok (f := uKnot) (l := ks) (u := .dct false (KD ks)) (s := []) rfl (fun _ e => by cases e) (C_lt F C) (by omega)
  rw [C.keys] at li1
  obtain ⟨r3, _, c2, c3⟩ := dcts_eq eKnot (by omega) (u := .dct false (KD ks)) (v := .dct false (KD ks)) (s := []) (a := ks) (b := ks) rfl rfl
  have hr3 : r3 = true := c3.mpr (Same.refl nd)
  subst hr3
  have li2 := list_ok (f := U.str) (l := is0 x) (u := .dct false (ID (is0 x))) (s := []) rfl (fun _ e => by cases e) (by simp) (by simp)
  have ll : (KD ks).length = ks.length := by simp
  -- the other way round
  have lcr := lcGo_map (g := .nm 3) (e := ce_law_4) (l := [some (.scr (ns.map U.int)), some (.dct false (KD ks)), some (.dct false (ID (is0 x))), none, none, none, none, some net, some (.lst (nms N)), none, none, none, none, none]) (f := fun v => match v with
    | .str t => .tup [.str t, uKnot (gtD ks t)]
    | _ => .non) (s := []) (nms N.reverse) fun v hv => by
    obtain ⟨t, ht, rfl⟩ := List.mem_map.mp hv
    have g := gt_some (l := ks) (n := t) (by rw [C.keys]; exact List.mem_reverse.mp ht)
    exact ⟨_, rfl, k_tup (k_cons (k_v rfl) (k_cons (k_op (k_v rfl) (k_v rfl) (p_ix_dct rfl g)) k_nil)) (by simp)⟩
  have er : (nms N.reverse).map (fun v => match v with
    | .str t => U.tup [.str t, uKnot (gtD ks t)]
    | _ => .non) = prsOf (KD ks.reverse) := by
    rw [prsOf_ent, ← C.keys, ← List.map_reverse, List.map_map, List.map_map]
    apply List.map_congr_left
    intro p hp
    have : gtD ks p.1 = p.2 := by
      unfold gtD
      rw [gt_of_mem (n := p.1) (v := p.2) nd (List.mem_reverse.mp hp)]; rfl
    show U.tup [.str p.1, uKnot (gtD ks p.1)] = _
    rw [this]
  rw [er] at lcr
  have dr := (dict_ok (f := uKnot) (l := ks.reverse) (s := []) (by rw [List.map_reverse]; exact (List.reverse_perm _).nodup_iff.mpr nd) (by simp; omega) false).trans (k_mkD (by simp; omega))
  have ixj : ∀ s, gIx (.dct false (ID (is0 x))) (.str [106]) s = some (.str x, s) := fun s => p_ix_dct (f := U.str) (l := is0 x) rfl rfl
  have rv : rvF (.lst (nms N)) [] = some (nms N.reverse) := by
    show some (nms N).reverse = _
    rw [← List.map_reverse]
  -- start
  have st := start_ok (hI []) nd (by omega)
  generalize hz : (ks.map fun p => (p.1, (0 : Int))) = z at st
  have zk : z.map (·.1) = ks.map (·.1) := by rw [← hz, List.map_map]; rfl
  have zn : (z.map (·.1)).Nodup := by rw [zk]; exact nd
  have lcs := lcGo_map (g := .nm 3) (e := ce_law_3) (l := [some (.scr (ns.map U.int)), some (.dct false (KD ks)), some (.dct false (ID (is0 x))), none, none, none, none, some net, some (.lst (nms N)), none, none, none, none, none]) (f := fun v => .tup [v, .int 0]) (s := [] ++ [.dct false (ent U.int z)]) (nms N) fun v hv => ⟨_, rfl, k_tup (k_cons (k_v rfl) (k_cons rfl k_nil)) (by simp)⟩
  have es : (nms N).map (fun v => U.tup [v, .int 0]) = prsOf (ent U.int z) := by
    rw [prsOf_ent, ← hz, ← C.keys]
    simp
  rw [es] at lcs
  have ds := (dict_ok (f := U.int) (l := z) (s := [] ++ [.dct false (ent U.int z)]) zn (by rw [← hz]; simp; omega) false).trans (k_mkD (by rw [← hz]; simp; omega))
  obtain ⟨r5, _, d2, d3⟩ := dcts_eq Emb.int (by omega) (u := .ref ([] : S).length) (v := .dct false (ent U.int z)) (s := [] ++ [.dct false (ent U.int z)]) (a := z) (b := z) rfl rfl
  have hr5 : r5 = true := d3.mpr (Same.refl zn)
  subst hr5
  generalize hs1 : ([] : S) ++ [.dct false (ent U.int z)] = s1 at st lcs ds d2
  have ca : decide (([97] : Nm) ∈ ks.map (·.1)) = true := by rw [C.keys]; exact decide_eq_true (List.mem_of_getElem? F.h0)
  have hck : (N ++ (op ++ [[105], [106]])).Nodup := by
    have c := F.ck op (by decide) [[105], [106]] (by decide)
    unfold chk at c
    rw [Bool.and_eq_true] at c
    simpa using c.1
  have niN : ∀ t ∈ op ++ ([[105], [106]] : List Nm), t ∉ N := fun t ht h => (List.nodup_append.mp hck).2.2 t h t ht rfl
  have ci : decide (([105] : Nm) ∈ ks.map (·.1)) = false := by rw [C.keys]; exact decide_eq_false (niN _ (by decide))
  -- the name of the changed knot
  have hd2 := drw_lt h63 (a := 300) (m := N.length) (by omega) h0 (by omega)
  generalize hy : N[drw ns 300 N.length] = y
  have hyN : y ∈ N := by rw [← hy]; exact List.getElem_mem hd2
  have hg := gt_some (l := ks) (n := y) (by rw [C.keys]; exact hyN)
  generalize gtD ks y = k at hg
  have kOk := knOk C (gt_mem hg)
  have kC := C.kn _ (gt_mem hg)
  have kf : k.1.length ≤ 4 := kC.f
  have kt : k.2.length ≤ 7 := kC.t
  have kne : k.2 ≠ [] := kC.ne
  have ktl : 0 < k.2.length := List.length_pos_iff.mpr kne
  have f1 : k.1.length ≤ 12 ∧ ∀ d ∈ k.1, d.length ≤ 4 ∧ ∀ t ∈ d, t ∈ N ++ op := ⟨by omega, kOk.df⟩
  have f2 : ∀ d ∈ k.2, d.length ≤ 4 ∧ ∀ t ∈ d, t ∈ N ++ op := kOk.dt
  have dr2 := drw_ok h63 (a := 300) (m := N.length) (z := 300) (w := (nms N).length) rfl (by simp) (by omega) h0 (by omega) s1
  have ixy : gIx (.lst (nms N)) (.int (drw ns 300 N.length)) s1 = some (.str y, s1) := k_ixL (by rw [List.getElem?_map, List.getElem?_eq_getElem hd2, ← hy]; rfl)
  have ixk : gIx (.dct false (KD ks)) (.str y) s1 = some (uKnot k, s1) := p_ix_dct rfl hg
  -- bad knots
  have pr1 : pu (uRow k.1) = true := pus_row k.1
  have pr2 : pu (uRow k.2) = true := pus_row k.2
  have pus2 : ∀ u : U, pu u = true → pu (.tup [uRow k.1, u]) = true := fun u h => by show (pu (uRow k.1) && (pu u && true)) = true; rw [pr1, h]; rfl
  have papp : ∀ u : U, pu u = true → pu (.tup (k.2.map uDrop ++ [u])) = true := fun u h => by
    show pus (k.2.map uDrop ++ [u]) = true
    rw [pus_app]
    show (pu (uRow k.2) && (pu u && true)) = true
    rw [pr2, h]; rfl
  generalize hb9 : ((List.replicate (13 : Int).toNat (k.2.map uDrop)).flatten).take 13 = us9
  have hl9 : us9.length = 13 := by
    rw [← hb9]
    rw [List.length_take, rep_len, show (13 : Int).toNat = 13 from rfl, List.length_map]; omega
  have p9 : pus us9 = true := by
    have all : ∀ us : List U, (∀ u ∈ us, pu u = true) → pus us = true := fun us => by
      induction us with
      | nil => intro _; rfl
      | cons u us ih =>
        intro h
        show (pu u && pus us) = true
        rw [h u List.mem_cons_self, ih fun v hv => h v (List.mem_cons_of_mem _ hv)]; rfl
    refine all us9 fun u hu => ?_
    rw [← hb9] at hu
    obtain ⟨l, hl, hul⟩ := List.mem_flatten.mp (List.mem_of_mem_take hu)
    have := (List.mem_replicate.mp hl).2
    subst this
    obtain ⟨d, hd, rfl⟩ := List.mem_map.mp hul
    exact pus_nms d
  have bads : ∀ u ∈ [U.tup [uRow k.1, .tup []], .tup [uRow k.1, .tup (k.2.map uDrop ++ [.tup [.str [122, 122]]])], .tup [uRow k.1, .tup (k.2.map uDrop ++ [.str [111]])], .tup [uRow k.1, .lst (k.2.map uDrop)], .tup [uRow k.1], .tup [uRow k.1, .tup (k.2.map uDrop ++ [.tup [.str [111], .str [111], .str [111], .str [111], .str [111]]])], .tup [uRow k.1, .tup (k.2.map uDrop ++ [.tup [.str [105]]])], .tup [.tup (k.1.map uDrop ++ [.tup [.int 3]]), uRow k.2], .tup [uRow k.1, .tup us9], .non], pu u = true ∧ KnotNo (N ++ op) u := by
    intro u hu
    simp only [List.mem_cons, List.not_mem_nil, or_false] at hu
    have no1 : ∀ t : Nm, t ∉ N ++ op → ([U.str t]).all (okT (N ++ op)) = false := fun t h => by
      show (decide (t ∈ N ++ op) && true) = false
      rw [decide_eq_false h]; rfl
    have drp : ∀ (us : List U) (h1 : us.length ≤ 100) (h2 : ∀ u ∈ us, isFlt u = true) (h3 : 4 < us.length ∨ us.all (okT (N ++ op)) = false), RowNo (N ++ op) (.tup (k.2.map uDrop ++ [.tup us])) := fun us h1 h2 h3 => rowNo_drop f2 (by omega) fun v y => drop_tup h1 h2 h3
    rcases hu with rfl | rfl | rfl | rfl | rfl | rfl | rfl | rfl | rfl | rfl
    · exact ⟨pus2 _ rfl, knotNo_empty f1⟩
    · exact ⟨pus2 _ (papp _ rfl), knotNo_snd f1 (papp _ rfl) (drp _ (by simp) (by simp [isFlt]) (.inr (no1 _ zz)))⟩
    · exact ⟨pus2 _ (papp _ rfl), knotNo_snd f1 (papp _ rfl) (rowNo_drop f2 (by omega) fun v y => drop_str)⟩
    · exact ⟨pus2 _ pr2, knotNo_snd f1 pr2 (rowNo_ty (T := "list") rfl (by decide))⟩
    · exact ⟨by show (pu (uRow k.1) && true) = true; rw [pr1]; rfl, knotNo_one⟩
    · exact ⟨pus2 _ (papp _ rfl), knotNo_snd f1 (papp _ rfl) (drp _ (by simp) (by simp [isFlt]) (.inl (by simp)))⟩
    · exact ⟨pus2 _ (papp _ rfl), knotNo_snd f1 (papp _ rfl) (drp _ (by simp) (by simp [isFlt]) (.inr (no1 _ fun h => by
        rcases List.mem_append.mp h with h | h
        · exact niN _ (by decide) h
        · exact absurd h (by decide))))⟩
    · have pp : pu (.tup (k.1.map uDrop ++ [.tup [.int 3]])) = true := by
        show pus (k.1.map uDrop ++ [.tup [.int 3]]) = true
        rw [pus_app]
        show (pu (uRow k.1) && true) = true
        rw [pr1]; rfl
      exact ⟨by show (pu (.tup (k.1.map uDrop ++ [.tup [.int 3]])) && (pu (uRow k.2) && true)) = true; rw [pp, pr2]; rfl, knotNo_fst pp (rowNo_drop f1.2 (by omega) fun v y => drop_tup (by simp) (by simp [isFlt]) (.inr rfl))⟩
    · exact ⟨pus2 _ p9, knotNo_snd f1 p9 (rowNo_long (by omega) (by omega))⟩
    · exact ⟨rfl, knotNo_non⟩
  obtain ⟨x4, lp4⟩ := loop_nms (j := 4) (body := lb_law_2) (s := s1) [U.tup [uRow k.1, .tup []], .tup [uRow k.1, .tup (k.2.map uDrop ++ [.tup [.str [122, 122]]])], .tup [uRow k.1, .tup (k.2.map uDrop ++ [.str [111]])], .tup [uRow k.1, .lst (k.2.map uDrop)], .tup [uRow k.1], .tup [uRow k.1, .tup (k.2.map uDrop ++ [.tup [.str [111], .str [111], .str [111], .str [111], .str [111]]])], .tup [uRow k.1, .tup (k.2.map uDrop ++ [.tup [.str [105]]])], .tup [.tup (k.1.map uDrop ++ [.tup [.int 3]]), uRow k.2], .tup [uRow k.1, .tup us9], .non] [some (.scr (ns.map U.int)), some (.dct false (KD ks)), some (.dct false (ID (is0 x))), some (.str y), none, none, none, some net, some (.lst (nms N)), some (uRow k.1), some (uRow k.2), none, none, none] none rfl fun u hu => bad_body F C hyN (bads u hu).1 (bads u hu).2
  have mulT : gMul false (uRow k.2) (.int 13) s1 = some (.tup (List.replicate (13 : Int).toNat (k.2.map uDrop)).flatten, s1) := k_mulT (by simpa using kne) (by omega) (by omega) (by simp; omega) (by simp; omega)
  have slT : gSl false (.tup (List.replicate (13 : Int).toNat (k.2.map uDrop)).flatten) none (some 13) s1 = some (.tup us9, s1) := by
    have := k_slT (s := s1) (us := (List.replicate (13 : Int).toNat (k.2.map uDrop)).flatten) (n := 13) (by
      rw [rep_len, show (13 : Int).toNat = 13 from rfl, List.length_map]; omega) (by omega)
    rw [hb9] at this
    exact this
  have mul5 : gMul false (.tup [.str [111]]) (.int 5) s1 = some (.tup [.str [111], .str [111], .str [111], .str [111], .str [111]], s1) := k_mulT (us := [.str [111]]) (by simp) (by omega) (by omega) (by simp) (by simp)
  have add1 : ∀ u : U, gAdd false (uRow k.1) (.tup [u]) s1 = some (.tup (k.1.map uDrop ++ [u]), s1) := fun u => k_addT2 (by simp; omega)
  have add2 : ∀ u : U, gAdd false (uRow k.2) (.tup [u]) s1 = some (.tup (k.2.map uDrop ++ [u]), s1) := fun u => k_addT2 (by simp; omega)
  have lt2 : gListOf false [uRow k.2] s1 = some (.lst (k.2.map uDrop), s1) := by
    simp only [gListOf, seqOf, tupOf]
    exact k_mkL (by simp; omega)
  -- wrong names
  have inL : ∀ n ∈ N, n ∈ letters := fun n h => by
    have c := F.ck op (by decide) [[105], [106]] (by decide)
    unfold chk at c
    rw [Bool.and_eq_true, List.all_eq_true] at c
    simpa using c.2 n (List.mem_append_left _ h)
  have wA : Wrong N (.str [65]) (.str [65]) (.str [65]) := wrong_str (by decide +kernel) (by decide) (fun h => absurd (inL _ h) (by decide)) (by decide)
  have w17 : Wrong N (.str (List.replicate 17 97)) (.str (List.replicate 17 97)) (.str (List.replicate 17 97)) := wrong_str (by decide +kernel) (by decide) (fun h => absurd (inL _ h) (by decide)) (by decide)
  have w1a : Wrong N (.str [49, 97]) (.str [49, 97]) (.str [49, 97]) := wrong_str (by decide +kernel) (by decide) (fun h => absurd (inL _ h) (by decide)) (by decide)
  have w0 : Wrong N (.str []) (.str []) (.str []) := wrong_str (by decide +kernel) (by decide) (fun h => absurd (inL _ h) (by decide)) (by decide)
  have w3 : Wrong N (.int 3) .non (.int 3) := wrong_int
  have m17 : ∀ s, gMulS (.str [97]) (.int 17) s = some (.str (List.replicate 17 97), s) := fun s => rfl
  -- the lone ones
  have dl := dict_ok (f := uKnot) (l := ks ++ two) (s := s1) (by rw [lone_keys C]; exact (List.nodup_append.mp (apart Z)).1) (by simp; omega) false
  have dl := dl.trans (k_mkD (by simp; omega))
  have el : prsOf (KD (ks ++ two)) = prsOf (KD ks) ++ [.tup [.str [122], .tup [.tup [], .tup [.tup [.str [122], .str [111]]]]], .tup [.str [121], .tup [.tup [.tup [.str [122]]], .tup [.tup [.str [111]]]]]] := by simp [prsOf, kyU]
  rw [el] at dl
  have dk := (dict_ok (f := U.str) (l := is2 x) (s := s1) (by show ([[105], [106], [107]] : List Nm).Nodup; decide) (by simp) false).trans (k_mkD (by simp))
  have d1x := dict_new (f := U.str) (l := is0 x) (v := .str [49, 120]) (w := .str [97]) (kv := .str [49, 120]) (s := s1) ndI (by simp) rfl rfl (by rw [dGet_ent]; rfl)
  have nl := mkP_ok (u3 := .tup (nms op)) (lone_ok F Z C) (fun _ => rfl) rfl s1
  have ln := own_len (s := s1) (v := netU (srtP (ks ++ two)) (srtP is3) (sortN op)) rfl (by
    have : (srtP (ks ++ two)).length = (ks ++ two).length := by unfold srtP; simp [(sortN_perm _).length_eq]
    rw [this]; simp; omega)
  have lnl : (srtP (ks ++ two)).length = ks.length + 2 := by unfold srtP; simp [(sortN_perm _).length_eq]
  have lne : gEq (.int (srtP (ks ++ two)).length) (.int ((ks.length : Int) + 2)) s1 = some (.bl true, s1) := by
    obtain ⟨r, e, h⟩ := Emb.int.eq (by decide) ((srtP (ks ++ two)).length : Int) ((ks.length : Int) + 2) s1
    rw [e, h.mpr (by rw [lnl]; omega)]
  have rfm : callP m__law_refused [.dct false (KD kM), .dct false (ID [([105], [107, 48])]), .tup [.str [111]], .non] s1 = .ok (.bl true) s1 := refused_call (ref_many (by decide)) rfl rfl (fun _ => rfl) s1
  have rne : callP m__law_refused [.dct false [], .dct false (ID (is0 x)), .tup (nms op), .non] s1 = .ok (.bl true) s1 := refused_call ref_none rfl rfl (fun _ => rfl) s1
  have rl : callP m__law_refused [.dct false (KD ks), .lst [], .tup (nms op), .non] s1 = .ok (.bl true) s1 := refused_call (ref_inl (by simp; omega) (by simp; omega)) (by show (puk (KD ks) && true) = true; rw [puk_ent pu_knot]; rfl) rfl (fun _ => rfl) s1
  have ro : callP m__law_refused [.dct false (KD ks), .dct false (ID (is0 x)), .str [111, 112], .non] s1 = .ok (.bl true) s1 := refused_call (ref_outs (by simp; omega) (by simp; omega)) (by show (puk (KD ks) && true) = true; rw [puk_ent pu_knot]; rfl) rfl (fun _ => rfl) s1
  have rni : callP m__law_refused [.dct false (KD ks), .dct false [], .tup (nms op), .non] s1 = .ok (.bl true) s1 := refused_call (ref_noIn (us3 := nms op) (by simp; omega) (by simp; omega)) (by show (puk (KD ks) && true) = true; rw [puk_ent pu_knot]; rfl) rfl (fun _ => rfl) s1
  refine ⟨s1, k_rt ?_⟩
  show b_law [some (.scr (ns.map U.int)), none, none, none, none, none, none, none, none, none, none, none, none, none] [] = _
  refine k_seq (k_asg (k_call (k_cons (k_v rfl) (k_cons rfl (k_cons rfl k_nil))) kc) rfl) ?_
  refine k_seq (k_asg (k_call (k_cons (k_v rfl) (k_cons rfl (k_cons (k_v rfl) k_nil))) (ic _)) rfl) ?_
  refine k_seq (k_par (k_call (k_cons (k_v rfl) (k_cons (k_v rfl) (k_cons (k_lst (us := nms [[112], [111], [113]]) rfl (k_mkL (by simp))) k_nil))) n1) (names_ok F C rfl)) ?_
  refine k_seq (k_ifF (k_orF (k_b (k_op (k_n (k_cons (k_un (k_v rfl) (fld_net (hI _) rfl)) k_nil) li1) (k_v rfl) (ne_names N))) (k_orF (k_b (k_op (k_un (k_v rfl) (fld_net (hI _) rfl)) (k_v rfl) c2)) (k_orF (k_b (k_op (k_n (k_cons (k_un (k_v rfl) (fld_net (hI _) rfl)) k_nil) li2) (k_lst (us := nms [[105], [106]]) rfl (k_mkL (by simp))) rfl)) (k_orF (k_b (k_op (k_un (k_v rfl) (fld_net (hI _) rfl)) (k_tup (us := nms opq) rfl (by simp)) rfl)) (k_b (k_op (k_unR (k_v rfl) (own_len (hI _) (by omega))) (k_n (k_cons (k_v rfl) k_nil) ((dct_len rfl).trans (by rw [ll]))) (ne_int _ _))))))) rfl) ?_
  refine k_seq (k_ifF (k_orF (k_b (k_opR (k_v rfl) (k_call (k_cons (k_v rfl) (k_cons (k_v rfl) (k_cons (k_lst (us := nms [[112], [111]]) rfl (k_mkL (by simp))) k_nil))) n2) a1)) (k_b (k_opR (k_v rfl) rfl (own_eqT (hI _) rfl)))) rfl) ?_
  refine k_seq (k_ifF (k_b (k_opR (k_v rfl) (k_call (k_cons (k_n (k_cons (k_lc (k_fn (k_n (k_cons (k_v rfl) k_nil) (show gListOf false [.lst (nms N)] [] = some (.lst (nms N), []) from k_mkL (by simp; omega))) rv) lcr (k_mkL (by unfold prsOf; simp; omega))) k_nil) dr) (k_cons (k_disp (k_dcons rfl (k_op (k_v rfl) rfl (ixj _)) (k_dcons rfl rfl k_dnil rfl rfl) rfl rfl) (by simp) (k_mkD (by exact (show 2 ≤ 1000 by decide)))) (k_cons (k_tup (us := nms [[113], [112], [111]]) rfl (by simp)) k_nil))) n3) b2)) rfl) ?_
  refine k_seq (k_ifF (k_orF (k_b (k_op (k_meth0 (k_v rfl) (hI _) rfl rfl st) (k_n (k_cons (k_lc (k_fn (k_v rfl) rfl) lcs (k_mkL (by unfold prsOf; rw [← hz]; simp; omega))) k_nil) ds) d2)) (k_orF (k_b (k_opR rfl (k_v rfl) ((own_notin (hI _)).trans (by rw [ca]; rfl)))) (k_orF (k_b (k_opR rfl (k_v rfl) ((own_notin (hI _)).trans (by rw [show decide (([111] : Nm) ∈ opq) = true by decide, Bool.or_true]; rfl)))) (k_orF (k_b (k_opR rfl (k_v rfl) ((own_in (hI _)).trans (by rw [ci]; rfl)))) (k_b (k_opR rfl (k_v rfl) (own_in3 (hI _)))))))) rfl) ?_
  refine k_seq (k_asg (k_op (k_v rfl) (k_call (k_cons (k_v rfl) (k_cons rfl (k_cons (k_n (k_cons (k_v rfl) k_nil) k_lenL) k_nil))) dr2) ixy) rfl) ?_
  refine k_seq (k_asg (k_op (k_v rfl) (k_v rfl) ixk) rfl) ?_
  refine k_seq (k_for (k_fn (k_tup (us := [U.tup [uRow k.1, .tup []], .tup [uRow k.1, .tup (k.2.map uDrop ++ [.tup [.str [122, 122]]])], .tup [uRow k.1, .tup (k.2.map uDrop ++ [.str [111]])], .tup [uRow k.1, .lst (k.2.map uDrop)], .tup [uRow k.1], .tup [uRow k.1, .tup (k.2.map uDrop ++ [.tup [.str [111], .str [111], .str [111], .str [111], .str [111]]])], .tup [uRow k.1, .tup (k.2.map uDrop ++ [.tup [.str [105]]])], .tup [.tup (k.1.map uDrop ++ [.tup [.int 3]]), uRow k.2], .tup [uRow k.1, .tup us9], .non])
    (k_cons (k_tup (k_cons (k_v rfl) (k_cons (k_tup k_nil (by simp)) k_nil)) (by simp))
    (k_cons (k_tup (k_cons (k_v rfl) (k_cons (k_op (k_v rfl) (k_tup (us := [.tup [.str [122, 122]]]) rfl (by simp)) (add2 _)) k_nil)) (by simp))
    (k_cons (k_tup (k_cons (k_v rfl) (k_cons (k_op (k_v rfl) (k_tup (us := [.str [111]]) rfl (by simp)) (add2 _)) k_nil)) (by simp))
    (k_cons (k_tup (k_cons (k_v rfl) (k_cons (k_n (k_cons (k_v rfl) k_nil) lt2) k_nil)) (by simp))
    (k_cons (k_tup (k_cons (k_v rfl) k_nil) (by simp))
    (k_cons (k_tup (k_cons (k_v rfl) (k_cons (k_op (k_v rfl) (k_tup (k_cons (k_op (k_tup (us := [.str [111]]) rfl (by simp)) rfl mul5) k_nil) (by simp)) (add2 _)) k_nil)) (by simp))
    (k_cons (k_tup (k_cons (k_v rfl) (k_cons (k_op (k_v rfl) (k_tup (us := [.tup [.str [105]]]) rfl (by simp)) (add2 _)) k_nil)) (by simp))
    (k_cons (k_tup (k_cons (k_op (k_v rfl) (k_tup (us := [.tup [.int 3]]) rfl (by simp)) (add1 _)) (k_cons (k_v rfl) k_nil)) (by simp))
    (k_cons (k_tup (k_cons (k_v rfl) (k_cons (k_op (k_op (k_v rfl) rfl mulT) rfl slT) k_nil)) (by simp))
    (k_cons rfl k_nil)))))))))) (by simp)) rfl) (by exact lp4)) ?_
  have wb := fun (v w : U) (kv : Ky) (W : Wrong N v w kv) (y11 y12 : Option U) => wrong_body (s := s1) (x := x) (x0 := some (.scr (ns.map U.int))) (x3 := some (.str y)) (x4 := x4) (x5 := none) (x6 := none) (x7 := some net) (x8 := some (.lst (nms N))) (x9 := some (uRow k.1)) (x10 := some (uRow k.2)) (x13 := none) F C W
  refine k_seq (k_for (k_fn (k_tup (us := [.tup [.str [65], .str [65]], .tup [.str (List.replicate 17 97), .str (List.replicate 17 97)], .tup [.str [49, 97], .str [49, 97]], .tup [.str [], .str []], .tup [.int 3, .non]])
    (k_cons (k_tup (us := [.str [65], .str [65]]) rfl (by simp)) (k_cons (k_tup (k_cons (k_op rfl rfl (m17 _)) (k_cons (k_op rfl rfl (m17 _)) k_nil)) (by simp)) (k_cons (k_tup (us := [.str [49, 97], .str [49, 97]]) rfl (by simp)) (k_cons (k_tup (us := [.str [], .str []]) rfl (by simp)) (k_cons (k_tup (us := [.int 3, .non]) rfl (by simp)) k_nil))))) (by simp)) rfl)
    (k_loop rfl (wb _ _ _ wA none none) (k_loop rfl (wb _ _ _ w17 none none) (k_loop rfl (wb _ _ _ w1a none none) (k_loop rfl (wb _ _ _ w0 none none) (k_loop rfl (wb _ _ _ w3 none none) rfl)))))) ?_
  refine k_seq (k_ifF (k_orF (k_nt (k_b (k_call (k_cons (k_v rfl) (k_cons (k_v rfl) (k_cons (k_tup (us := [.str [111], .str [112], .str [111]]) rfl (by simp)) (k_cons rfl k_nil)))) (refuse_dup F C (List.mem_append_right _ (by decide)))))) (k_nt (k_b (k_call (k_cons (k_v rfl) (k_cons (k_v rfl) (k_cons (k_tup (us := [.str [111], .str [112], .str y]) (k_cons rfl (k_cons rfl (k_cons (k_v rfl) k_nil))) (by simp)) (k_cons (k_v rfl) k_nil)))) (refuse_dup F C (List.mem_append_left _ hyN)))))) rfl) ?_
  refine k_seq (k_ifF (k_nt (k_b (k_call (k_cons (k_v rfl) (k_cons (k_disp (k_dcons rfl rfl k_dnil rfl rfl) (by simp) (k_mkD (by exact (show 1 ≤ 1000 by decide)))) (k_cons (k_tup (us := nms op) rfl (by simp)) (k_cons rfl k_nil)))) (refuse_aa F C)))) rfl) ?_
  refine k_seq (k_ifF (k_orF (k_nt (k_b (k_call (k_cons (k_v rfl) (k_cons (k_disp (k_dcons rfl rfl (k_dcons rfl rfl k_dnil rfl rfl) rfl rfl) (by simp) (k_mkD (by exact (show 2 ≤ 1000 by decide)))) (k_cons (k_tup (us := nms op) rfl (by simp)) (k_cons rfl k_nil)))) (refuse_ko F C)))) (k_nt (k_b (k_call (k_cons (k_v rfl) (k_cons rfl (k_cons (k_tup (us := nms op) rfl (by simp)) (k_cons rfl k_nil)))) rni)))) rfl) ?_
  refine k_seq (k_ifF (k_orF (k_nt (k_b (k_call (k_cons (k_v rfl) (k_cons (k_lst k_nil (k_mkL (by simp))) (k_cons (k_tup (us := nms op) rfl (by simp)) (k_cons rfl k_nil)))) rl))) (k_nt (k_b (k_call (k_cons (k_v rfl) (k_cons (k_v rfl) (k_cons rfl (k_cons rfl k_nil)))) ro)))) rfl) ?_
  refine k_seq (k_ifF (k_nt (k_b (k_call (k_cons (k_v rfl) (k_cons (k_n (k_cons (k_op (k_un (k_v rfl) (items_i _)) (k_lst (us := [.tup [.str [49, 120], .str [97]]]) rfl (k_mkL (by simp))) (k_addL (by simp [prsOf]))) k_nil) d1x) (k_cons (k_tup (us := [.str [111], .str [112], .str [50, 121]]) rfl (by simp)) (k_cons rfl k_nil)))) (refuse_2y F C)))) rfl) ?_
  refine k_seq (k_asg (k_n (k_cons (k_op (k_un (k_v rfl) (items_k F C _)) (k_lst (us := [.tup [.str [122], .tup [.tup [], .tup [.tup [.str [122], .str [111]]]]], .tup [.str [121], .tup [.tup [.tup [.str [122]]], .tup [.tup [.str [111]]]]]]) rfl (k_mkL (by simp))) (k_addL (by unfold prsOf; simp; omega))) k_nil) dl) rfl) ?_
  refine k_seq (k_ifF (k_orF (k_nt (k_b (k_call (k_cons (k_v rfl) (k_cons (k_v rfl) (k_cons (k_tup (us := nms op) rfl (by simp)) (k_cons rfl k_nil)))) (refuse_lone_y F Z C hx)))) (k_nt (k_b (k_call (k_cons rfl (k_cons (k_v rfl) (k_cons (k_tup (us := nms op) rfl (by simp)) (k_cons rfl k_nil)))) rne)))) rfl) ?_
  refine k_seq (k_ifF (k_nt (k_b (k_call (k_cons (k_v rfl) (k_cons (k_n (k_cons (k_op (k_un (k_v rfl) (items_i _)) (k_lst (us := [.tup [.str [107], .str [121]]]) rfl (k_mkL (by simp))) (k_addL (by simp [prsOf]))) k_nil) dk) (k_cons (k_tup (us := nms op) rfl (by simp)) (k_cons rfl k_nil)))) (refuse_lone_z F Z C hx)))) rfl) ?_
  refine k_seq (k_asg (many_ok (by simp)) rfl) ?_
  exact k_ret (k_eAndT (k_call (k_cons (k_v rfl) (k_cons (k_disp (k_dcons rfl rfl k_dnil rfl rfl) (by simp) (k_mkD (by exact (show 1 ≤ 1000 by decide)))) (k_cons (k_tup (us := [.str [111]]) rfl (by simp)) (k_cons rfl k_nil)))) rfm) (k_op (k_unR (k_call (k_cons (k_v rfl) (k_cons (k_disp (k_dcons rfl rfl (k_dcons rfl rfl (k_dcons rfl rfl k_dnil rfl rfl) rfl rfl) rfl rfl) (by simp) (k_mkD (by exact (show 3 ≤ 1000 by decide)))) (k_cons (k_tup (us := nms op) rfl (by simp)) k_nil))) nl) ln) (k_op (k_n (k_cons (k_v rfl) k_nil) ((dct_len rfl).trans (by rw [ll]))) rfl rfl) lne))
end K07
open PySem PySem.W PyProof.Rows
set_option maxRecDepth 100000 in
set_option maxHeartbeats 0 in
theorem PySem.Challenge.cw_ballchutes_k07_refused_nets_holds : PySem.Challenge.rw_ballchutes_k07_refused_nets.Holds := by
  w_on; o_law; k_head; (case hw => w_witness2)
  k_fill
  refine Mo.walk (l := PySem.Challenge.rw_ballchutes_k07_refused_nets) (k := 11) (x := "_law_script") rfl rfl (by decide) (fun w h Y => PySem.W.kIn_of Y) ?F
  case F =>
    intro w mg fa h KX G hmg
    refine' K07.all_mk KX G hmg K07.kept ?aC_Net ?a0 ?l0 ?c0 ?k0 ?a1 ?l1 ?c1 ?k1 ?a2 ?l2 ?c2 ?k2 ?a3 ?l3 ?c3 ?k3 ?a4 ?i4 ?l4 ?c4 ?k4 ?a5 ?i5 ?l5 ?c5 ?k5 ?a6 ?i6 ?l6 ?c6 ?k6 ?a7 ?i7 ?l7 ?c7 ?k7 ?a8 ?i8 ?l8 ?c8 ?k8 ?a9 ?i9 ?l9 ?c9 ?k9 ?a10 ?l10 ?c10 ?k10 ?a11 ?l11 ?c11 ?k11 ?a12 ?l12 ?c12 ?k12 ?a13 ?l13 ?c13 ?k13 ?a14 ?l14 ?c14 ?k14 ?pg_Net ?hd_Net ?po_Net ?sa_Net ?mk_Net ?kc_Net ?ha_Net ?hn_Net ?htk_Net ?hm_Net ?ci_Net ?ty_Net ?kO_Net_NoneType ?kB_Net_NoneType ?kO_Net_bool ?kB_Net_bool ?kO_Net_int ?kB_Net_int ?kO_Net_str ?kB_Net_str ?kO_Net_tuple ?kB_Net_tuple ?kO_Net_list ?kB_Net_list ?kO_Net_dict ?kB_Net_dict ?nf_Net_NoneType ?nf_Net_bool ?nf_Net_int ?nf_Net_str ?nf_Net_tuple ?nf_Net_list ?nf_Net_dict ?ne_Net ?so_Net ?nA_Net_knots ?nA_Net_inlets ?nA_Net_outlets ?nA_Net_names ?z_super ?op_super ?tp_super ?aE_BadNet ?iE_BadNet ?tE_BadNet ?lE_BadNet ?cE_BadNet ?oE_BadNet ?vE_BadNet ?mE_BadNet ?eE_BadNet ?xE_BadNet ?bE_BadNet ?saE_BadNet ?exE_BadNet ?tyE_BadNet ?kcE_BadNet ?mrE_BadNet ?spE_BadNet ?svE_BadNet ?gaE_BadNet ?ggE_BadNet ?hdE_BadNet ?fnE_BadNet ?z_all ?z_dict ?z_enumerate ?z_int ?z_isinstance ?z_len ?z_list ?z_range ?z_reversed ?z_sorted ?z_str ?z_tuple ?g_MOST_DROPS ?g_MOST_KNOTS ?g_MOST_SIGNS ?g_MOST_TARGETS
    (case aC_Net => k_is)
    (case a0 => k_is)
    (case l0 => k_is)
    (case c0 => k_is)
    (case k0 => k_is)
    (case a1 => k_is)
    (case l1 => k_is)
    (case c1 => k_is)
    (case k1 => k_is)
    (case a2 => k_is)
    (case l2 => k_is)
    (case c2 => k_is)
    (case k2 => k_is)
    (case a3 => k_is)
    (case l3 => k_is)
    (case c3 => k_is)
    (case k3 => k_is)
    (case a4 => k_is)
    (case i4 => k_is)
    (case l4 => k_is)
    (case c4 => k_is)
    (case k4 => k_is)
    (case a5 => k_is)
    (case i5 => k_is)
    (case l5 => k_is)
    (case c5 => k_is)
    (case k5 => k_is)
    (case a6 => k_is)
    (case i6 => k_is)
    (case l6 => k_is)
    (case c6 => k_is)
    (case k6 => k_is)
    (case a7 => k_is)
    (case i7 => k_is)
    (case l7 => k_is)
    (case c7 => k_is)
    (case k7 => k_is)
    (case a8 => k_is)
    (case i8 => k_is)
    (case l8 => k_is)
    (case c8 => k_is)
    (case k8 => k_is)
    (case a9 => k_is)
    (case i9 => k_is)
    (case l9 => k_is)
    (case c9 => k_is)
    (case k9 => k_is)
    (case a10 => k_is)
    (case l10 => k_is)
    (case c10 => k_is)
    (case k10 => k_is)
    (case a11 => k_is)
    (case l11 => k_is)
    (case c11 => k_is)
    (case k11 => k_is)
    (case a12 => k_is)
    (case l12 => k_is)
    (case c12 => k_is)
    (case k12 => k_is)
    (case a13 => k_is)
    (case l13 => k_is)
    (case c13 => k_is)
    (case k13 => k_is)
    (case a14 => k_is)
    (case l14 => k_is)
    (case c14 => k_is)
    (case k14 => k_is)
    (case pg_Net => k_is)
    (case hd_Net => k_is)
    (case po_Net => k_is)
    (case sa_Net => k_is)
    (case mk_Net => k_is)
    (case kc_Net => k_is)
    (case ha_Net => k_is)
    (case hn_Net => k_is)
    (case htk_Net => k_is)
    (case hm_Net => k_is)
    (case ci_Net => k_is)
    (case ty_Net => k_is)
    (case kO_Net_NoneType => k_is)
    (case kB_Net_NoneType => k_is)
    (case kO_Net_bool => k_is)
    (case kB_Net_bool => k_is)
    (case kO_Net_int => k_is)
    (case kB_Net_int => k_is)
    (case kO_Net_str => k_is)
    (case kB_Net_str => k_is)
    (case kO_Net_tuple => k_is)
    (case kB_Net_tuple => k_is)
    (case kO_Net_list => k_is)
    (case kB_Net_list => k_is)
    (case kO_Net_dict => k_is)
    (case kB_Net_dict => k_is)
    (case nf_Net_NoneType => k_is)
    (case nf_Net_bool => k_is)
    (case nf_Net_int => k_is)
    (case nf_Net_str => k_is)
    (case nf_Net_tuple => k_is)
    (case nf_Net_list => k_is)
    (case nf_Net_dict => k_is)
    (case ne_Net => k_is)
    (case so_Net => k_is)
    (case nA_Net_knots => k_is)
    (case nA_Net_inlets => k_is)
    (case nA_Net_outlets => k_is)
    (case nA_Net_names => k_is)
    (case z_super => k_is)
    (case op_super => k_is)
    (case tp_super => (first | rfl | decide +kernel))
    (case aE_BadNet => k_is)
    (case iE_BadNet => k_is)
    (case tE_BadNet => k_is)
    (case lE_BadNet => k_is)
    (case cE_BadNet => k_is)
    (case oE_BadNet => k_is)
    (case vE_BadNet => rfl)
    (case mE_BadNet => (first | rfl | decide +kernel))
    (case eE_BadNet => k_is)
    (case xE_BadNet => k_is)
    (case bE_BadNet => rfl)
    (case saE_BadNet => k_is)
    (case exE_BadNet => k_is)
    (case tyE_BadNet => k_is)
    (case kcE_BadNet => k_is)
    (case mrE_BadNet => k_is)
    (case spE_BadNet => ks_is)
    (case svE_BadNet => k_is)
    (case gaE_BadNet => k_is)
    (case ggE_BadNet => k_is)
    (case hdE_BadNet => k_is)
    (case fnE_BadNet => k_is)
    (case z_all => k_is)
    (case z_dict => k_is)
    (case z_enumerate => k_is)
    (case z_int => k_is)
    (case z_isinstance => k_is)
    (case z_len => k_is)
    (case z_list => k_is)
    (case z_range => k_is)
    (case z_reversed => k_is)
    (case z_sorted => k_is)
    (case z_str => k_is)
    (case z_tuple => k_is)
    (case g_MOST_DROPS => k_is)
    (case g_MOST_KNOTS => k_is)
    (case g_MOST_SIGNS => k_is)
    (case g_MOST_TARGETS => k_is)
