import PyProof.Rows.All
import Wide.All
import OpenK.AllK
import Wide.FinOn
import HandS.ForMost
import HandS.ForExc
import HandS.CallSlots
import HandS.Set
import HandS.ExcInit
import HandS.TupAny
import HandS.TupMul
import HandS.Deep
import HandS.Zip
import HandS.IsInst
import HandS.Conv
import HandS.Text
import KE.GoesMore
import KE.GoesEnum
import HandS.Style
import HandS.Strs
import HandS.SetBool
import HandS.SetFor
import HandS.Defaults
import HandS.MakeKwOnly
import HandS.TupLe
import HandS.ExcField
import HandS.ExcValue
import KE.KExcInit
import PyProof.ExcBaseAll.IndexError
import PyProof.ExcBaseAll.RuntimeError
import PyProof.Rows.FactsExc_KeyError
import HandS.ClsMeth
import HandS.ExcIs
import HandS.DictSubMake
import PySem.Challenge.RW_asnevertold_k37_permissions_let_in
set_option Elab.async false
set_option linter.all false
set_option maxRecDepth 100000
set_option maxHeartbeats 4000000
/-! Y0: data, what stands for it, states, runs. -/
namespace Y
open PySem L2

/-! ### sets of texts -/
def txt (e : Int × Value) : Str := match e.2 with
  | .str k _ => k
  | _ => Str.empty
/-- an entry: a text with its hash -/
def TxtE (w : World) (e : Int × Value) : Prop := ∃ k u, e = (hashStr w k, Value.str k u)
/-- the set at a holds the texts l, each once; it can be walked -/
def SetS (w : World) (h : Heap) (a : Addr) (l : List Str) : Prop :=
  ∃ ob es ep t, h.get? a = some ob ∧ ob.ExactSet ∧ ob.data = .set es ep t ∧ (∀ e ∈ es.toList, TxtE w e) ∧ (es.toList.map txt).Perm l ∧ l.Nodup ∧ l.length < scanBound ∧ t.fits es.size = true ∧
    Ris t.place.toList ∧ (w.params.followText "set-order" = true ∨ t.led = true)
def SetSO (w : World) (a : Addr) (l : List Str) : HO := .ext fun h => SetS w h a l
/-- the written part and the world -/
abbrev KW := PySem.W.Frag × World
abbrev _root_.L2.Cx.kw (X : Cx) : KW := (X.K, X.w)
/-- pure data, and names of objects in the store -/
inductive D where
  | non | bl (b : Bool) | int (i : Int) | str (x : Str)
  | tup (xs : List D) | lst (xs : List D)
  | ss (xs : List Str) | dd (kvs : List (D × D))
  | ob (n : Nat) | ty (n : String) | scr (ns : List Int)
  | exn (c : Str) | exf (c f : Str) (d : D)

/-- what a place owns alone -/
inductive C where
  | lst (xs : List D) | dct (kvs : List (D × D))
inductive Sl where
  | un | val (d : D) | own (c : C)
inductive Ob where
  | ins (cls : Str) (fs : List (Str × Sl)) | box (c : C) | lck (c : C)
abbrev Sls := List Sl
/-- a tree over numbers -/
inductive Tr (α : Type) where
  | lf | nd (o : Option α) (l r : Tr α)
namespace Tr
variable {α : Type}
def get : Tr α → Nat → Option α
  | lf, _ => none
  | nd o l r, n => if n = 0 then o else if n % 2 = 1 then l.get (n / 2) else r.get (n / 2 - 1)
def setF : Nat → Tr α → Nat → α → Tr α
  | 0, t, _, _ => t
  | f + 1, lf, n, a => if n = 0 then nd (some a) lf lf else if n % 2 = 1 then nd none (setF f lf (n / 2) a) lf else nd none lf (setF f lf (n / 2 - 1) a)
  | f + 1, nd o l r, n, a => if n = 0 then nd (some a) l r else if n % 2 = 1 then nd o (setF f l (n / 2) a) r else nd o l (setF f r (n / 2 - 1) a)
theorem get_setF {a : α} : ∀ (f : Nat) (t : Tr α) (n m : Nat), n + 1 < 2 ^ f → (setF f t n a).get m = if m = n then some a else t.get m
  | 0, _, n, _, h => by simp at h
  | f + 1, t, n, m, h => by
    have hp : 2 ^ (f + 1) = 2 * 2 ^ f := by rw [Nat.pow_succ]; omega
    rw [hp] at h
    by_cases hn : n = 0
    · subst hn
      cases t with
      | lf => simp only [setF, if_true, get]; by_cases hm : m = 0 <;> simp [hm]
      | nd o l r => simp only [setF, if_true, get]; by_cases hm : m = 0 <;> simp [hm]
    · by_cases ho : n % 2 = 1
      · have ih := get_setF (a := a) f
        cases t with
        | lf =>
          simp only [setF, if_neg hn, if_pos ho, get, ih _ _ _ (show n / 2 + 1 < 2 ^ f by omega)]
          by_cases hm : m = 0
          · subst hm; simp [Ne.symm hn]
          · by_cases hmo : m % 2 = 1
            · by_cases e : m = n
              · subst e; simp [hm, hmo]
              · have : m / 2 ≠ n / 2 := by omega
                simp [hm, hmo, e, this]
            · have : m ≠ n := by omega
              simp [hm, hmo, this]
        | nd o l r =>
          simp only [setF, if_neg hn, if_pos ho, get, ih _ _ _ (show n / 2 + 1 < 2 ^ f by omega)]
          by_cases hm : m = 0
          · subst hm; simp [Ne.symm hn]
          · by_cases hmo : m % 2 = 1
            · by_cases e : m = n
              · subst e; simp [hm, hmo]
              · have : m / 2 ≠ n / 2 := by omega
                simp [hm, hmo, e, this]
            · have : m ≠ n := by omega
              simp [hm, hmo, this]
      · have ih := get_setF (a := a) f
        cases t with
        | lf =>
          simp only [setF, if_neg hn, if_neg ho, get, ih _ _ _ (show n / 2 - 1 + 1 < 2 ^ f by omega)]
          by_cases hm : m = 0
          · subst hm; simp [Ne.symm hn]
          · by_cases hmo : m % 2 = 1
            · have : m ≠ n := by omega
              simp [hm, hmo, this]
            · by_cases e : m = n
              · subst e; simp [hm, hmo]
              · have : m / 2 - 1 ≠ n / 2 - 1 := by omega
                simp [hm, hmo, e, this]
        | nd o l r =>
          simp only [setF, if_neg hn, if_neg ho, get, ih _ _ _ (show n / 2 - 1 + 1 < 2 ^ f by omega)]
          by_cases hm : m = 0
          · subst hm; simp [Ne.symm hn]
          · by_cases hmo : m % 2 = 1
            · have : m ≠ n := by omega
              simp [hm, hmo, this]
            · by_cases e : m = n
              · subst e; simp [hm, hmo]
              · have : m / 2 - 1 ≠ n / 2 - 1 := by omega
                simp [hm, hmo, e, this]
def set (t : Tr α) (n : Nat) (a : α) : Tr α := setF ((n + 1).log2 + 1) t n a
theorem get_set {a : α} {t : Tr α} {n m : Nat} : (t.set n a).get m = if m = n then some a else t.get m := get_setF _ _ _ _ Nat.lt_log2_self
end Tr
structure Store where
  t : Tr Ob
  size : Nat
namespace Store
def emp : Store := ⟨.lf, 0⟩
def get (S : Store) (n : Nat) : Option Ob := S.t.get n
def put (S : Store) (n : Nat) (o : Ob) : Store := ⟨S.t.set n o, S.size⟩
def push (S : Store) (o : Ob) : Store := ⟨S.t.set S.size o, S.size + 1⟩
theorem get_emp {n : Nat} : emp.get n = none := rfl
theorem get_put {S : Store} {n m : Nat} {o : Ob} : (S.put n o).get m = if m = n then some o else S.get m := Tr.get_set
theorem get_push {S : Store} {m : Nat} {o : Ob} : (S.push o).get m = if m = S.size then some o else S.get m := Tr.get_set
theorem size_put {S : Store} {n : Nat} {o : Ob} : (S.put n o).size = S.size := rfl
theorem size_push {S : Store} {o : Ob} : (S.push o).size = S.size + 1 := rfl
end Store

/-- an exception of the class at C that is no longer on its way, its dict at d -/
def XO (C : Addr) (d : Option Addr) (a : Addr) : HO := .ext fun h => ∃ (oe : Obj) (vs : Array Value), h.get? a = some oe ∧ oe.cls = .ref C ∧ oe.dict = d ∧ oe.data = .fields vs
/-- .. as it stands since it was made, or caught -/
def XoAt (F : Hp) (a C : Addr) (d : Option Addr) : Prop := F a = some (XO C d a) ∨ F a = some (exo a C d)
/-- the dict of an exception -/
def XdAt (F : Hp) (a : Addr) (vs : List (Str × V)) : Prop := F a = some (.xd vs) ∨ F a = some (exd a vs)
/-- the class of a name -/
def ClsOf (K : PySem.W.Frag) (c : Str) (C : Addr) : Prop := PySem.W.nsIn K mainGlobals c = some (some (.ref C))
mutual
inductive R (K : KW) (F : Hp) (β : Nat → Option Addr) : V → D → Prop
  | non : R K F β .non .non
  | bl (b : Bool) : R K F β (.bl b) (.bl b)
  | int (i : Int) : R K F β (.int i) (.int i)
  | str {x : Str} : PyData.strOk x = true → R K F β (.str x) (.str x)
  | ty (n : String) : R K F β (.ty n) (.ty n)
  | tup {a : Addr} {xs : List V} {ds : List D} : SqT K.1 F a xs → xs.length ≤ sizeLine → RAll K F β xs ds → R K F β (.ref a) (.tup ds)
  | lst {a : Addr} {xs : List V} {ds : List D} : F a = some (.lst xs) → xs.length ≤ sizeLine → RAll K F β xs ds → R K F β (.ref a) (.lst ds)
  | scr {a : Addr} {ns : List Int} : SqL K.1 F a (ns.map V.int) → ns.length ≤ sizeLine → R K F β (.ref a) (.scr ns)
  | d0 {a : Addr} : F a = some (.dK []) → R K F β (.ref a) (.dd [])
  | ob {a : Addr} {n : Nat} : β n = some a → R K F β (.ref a) (.ob n)
  | ss {a : Addr} {l : List Str} : F a = some (SetSO K.2 a l) → (∀ x ∈ l, PyData.strOk x = true) → R K F β (.ref a) (.ss l)
  | exn {a C : Addr} {c : Str} : ClsOf K.1 c C → XoAt F a C none → R K F β (.ref a) (.exn c)
  | exf {a C dd : Addr} {c f : Str} {vs : List (Str × V)} {v : V} {d : D} : ClsOf K.1 c C → XoAt F a C (some dd) → XdAt F dd vs → vs.lookup f = some v → R K F β v d → R K F β (.ref a) (.exf c f d)
inductive RAll (K : KW) (F : Hp) (β : Nat → Option Addr) : List V → List D → Prop
  | nil : RAll K F β [] []
  | cons {v : V} {vs : List V} {d : D} {ds : List D} : R K F β v d → RAll K F β vs ds → RAll K F β (v :: vs) (d :: ds)
end

abbrev Ex (H H' : Hp) : Prop := ∀ a o, H a = some o → H' a = some o
abbrev Bx (β β' : Nat → Option Addr) : Prop := ∀ n a, β n = some a → β' n = some a
theorem Ex.rd {H H' : Hp} {a : Addr} {u : HO} (e : Ex H H') (h : Rd H a u) : Rd H' a u := by
  rcases h with h | ⟨o, h⟩
  · exact Or.inl (e a _ h)
  · exact Or.inr ⟨o, e a _ h⟩
theorem Ex.l {K : PySem.W.Frag} {H H' : Hp} {a : Addr} {xs : List V} (e : Ex H H') (h : SqL K H a xs) : SqL K H' a xs := by
  rcases h with h | h
  · exact Or.inl (Ex.rd e h)
  · exact Or.inr h
theorem Ex.t {K : PySem.W.Frag} {H H' : Hp} {a : Addr} {xs : List V} (e : Ex H H') (h : SqT K H a xs) : SqT K H' a xs := by
  rcases h with h | h
  · exact Or.inl (Ex.rd e h)
  · exact Or.inr h
theorem Ex.refl (H : Hp) : Ex H H := fun _ _ h => h
theorem Ex.trans {H H1 H2 : Hp} (a : Ex H H1) (b : Ex H1 H2) : Ex H H2 := fun x o h => b x o (a x o h)
theorem Bx.refl (β : Nat → Option Addr) : Bx β β := fun _ _ h => h
theorem Bx.trans {β β1 β2 : Nat → Option Addr} (a : Bx β β1) (b : Bx β1 β2) : Bx β β2 := fun x o h => b x o (a x o h)
theorem Ex.new {H : Hp} {p : Addr} {o : HO} (h : H p = none) : Ex H (upd H p o) := fun a u e => by
  rw [upd_ne (ne_of_none e h)]
  exact e

mutual
theorem R.mono {K : KW} {F F' : Hp} {β β' : Nat → Option Addr} (e : Ex F F') (b : Bx β β') : ∀ {v : V} {d : D}, R K F β v d → R K F' β' v d
  | _, _, .non => .non
  | _, _, .bl _ => .bl _
  | _, _, .int _ => .int _
  | _, _, .str h => .str h
  | _, _, .ty _ => .ty _
  | _, _, .tup h l a => .tup (e.t h) l (RAll.mono e b a)
  | _, _, .lst h l a => .lst (e _ _ h) l (RAll.mono e b a)
  | _, _, .scr h l => .scr (e.l h) l
  | _, _, .d0 h => .d0 (e _ _ h)
  | _, _, .ob h => .ob (b _ _ h)
  | _, _, .ss h o => .ss (e _ _ h) o
  | _, _, .exn c h => .exn c (h.imp (e _ _) (e _ _))
  | _, _, .exf c h h' l r => .exf c (h.imp (e _ _) (e _ _)) (h'.imp (e _ _) (e _ _)) l (R.mono e b r)
theorem RAll.mono {K : KW} {F F' : Hp} {β β' : Nat → Option Addr} (e : Ex F F') (b : Bx β β') : ∀ {v : List V} {d : List D}, RAll K F β v d → RAll K F' β' v d
  | _, _, .nil => .nil
  | _, _, .cons h a => .cons (R.mono e b h) (RAll.mono e b a)
end
section
variable {K : KW} {F : Hp} {β : Nat → Option Addr}
theorem RAll.length : ∀ {vs : List V} {ds : List D}, RAll K F β vs ds → vs.length = ds.length
  | _, _, .nil => rfl
  | _, _, .cons _ a => congrArg Nat.succ (RAll.length a)
theorem RAll.get : ∀ {vs : List V} {ds : List D} {i : Nat} {d : D}, RAll K F β vs ds → ds[i]? = some d → ∃ v, vs[i]? = some v ∧ R K F β v d
  | _, _, _, _, .nil, e => by simp at e
  | _, _, 0, _, .cons r _, e => by simp at e; subst e; exact ⟨_, rfl, r⟩
  | _, _, i + 1, _, .cons _ t, e => by
    obtain ⟨u, h1, h2⟩ := RAll.get (i := i) t (by simpa using e)
    exact ⟨u, by simpa using h1, h2⟩
theorem RAll.getV : ∀ {vs : List V} {ds : List D} {i : Nat} {v : V}, RAll K F β vs ds → vs[i]? = some v → ∃ d, ds[i]? = some d ∧ R K F β v d
  | _, _, _, _, .nil, e => by simp at e
  | _, _, 0, _, .cons r _, e => by simp at e; subst e; exact ⟨_, rfl, r⟩
  | _, _, i + 1, _, .cons _ t, e => by
    obtain ⟨u, h1, h2⟩ := RAll.getV (i := i) t (by simpa using e)
    exact ⟨u, by simpa using h1, h2⟩
theorem RAll.append : ∀ {vs ws : List V} {ds es : List D}, RAll K F β vs ds → RAll K F β ws es → RAll K F β (vs ++ ws) (ds ++ es)
  | _, _, _, _, .nil, s => s
  | _, _, _, _, .cons r t, s => .cons r (RAll.append t s)
theorem RAll.take : ∀ {vs : List V} {ds : List D} (n : Nat), RAll K F β vs ds → RAll K F β (vs.take n) (ds.take n)
  | _, _, 0, _ => .nil
  | _, _, _ + 1, .nil => .nil
  | _, _, n + 1, .cons r t => .cons r (RAll.take n t)
theorem RAll.drop : ∀ {vs : List V} {ds : List D} (n : Nat), RAll K F β vs ds → RAll K F β (vs.drop n) (ds.drop n)
  | _, _, 0, r => r
  | _, _, _ + 1, .nil => .nil
  | _, _, n + 1, .cons _ t => RAll.drop n t
theorem RAll.reverse {vs : List V} {ds : List D} (h : RAll K F β vs ds) : RAll K F β vs.reverse ds.reverse := by
  have aux : ∀ {vs ws : List V} {ds es : List D}, RAll K F β vs ds → RAll K F β ws es → RAll K F β (vs.reverseAux ws) (ds.reverseAux es) := by
    intro vs
    induction vs with
    | nil => intro ws ds es h s; cases h; exact s
    | cons v vs ih => intro ws ds es h s; cases h with | cons r t => exact ih (es := _ :: es) t (.cons r s)
  exact aux h .nil
theorem RAll.set : ∀ {vs : List V} {ds : List D} (i : Nat) {v : V} {d : D}, RAll K F β vs ds → R K F β v d → RAll K F β (vs.set i v) (ds.set i d)
  | _, _, _, _, _, .nil, _ => .nil
  | _, _, 0, _, _, .cons _ t, q => .cons q t
  | _, _, i + 1, _, _, .cons r t, q => .cons r (RAll.set i t q)
theorem RAll.eraseIdx : ∀ {vs : List V} {ds : List D} (i : Nat), RAll K F β vs ds → RAll K F β (vs.eraseIdx i) (ds.eraseIdx i)
  | _, _, _, .nil => .nil
  | _, _, 0, .cons _ t => t
  | _, _, i + 1, .cons r t => .cons r (RAll.eraseIdx i t)
end

/-- keys of a dict: ints and texts -/
inductive KeyR : Key → D → Prop
  | int (i : Int) : KeyR (.inl i) (.int i)
  | str {x : Str} : PyData.strOk x = true → KeyR (.inr x) (.str x)
/-- entries of a dict -/
inductive EntR (K : KW) (F : Hp) (β : Nat → Option Addr) : List (Key × V) → List (D × D) → Prop
  | nil : EntR K F β [] []
  | cons {k : Key} {v : V} {d e : D} {es : List (Key × V)} {kvs : List (D × D)} : KeyR k d → R K F β v e → EntR K F β es kvs → EntR K F β ((k, v) :: es) ((d, e) :: kvs)
theorem EntR.mono {K : KW} {F F' : Hp} {β β' : Nat → Option Addr} (e : Ex F F') (b : Bx β β') : ∀ {es : List (Key × V)} {kvs : List (D × D)}, EntR K F β es kvs → EntR K F' β' es kvs
  | _, _, .nil => .nil
  | _, _, .cons k r t => .cons k (r.mono e b) (EntR.mono e b t)
/-- what stands for a dict -/
def DctO (K : KW) (F : Hp) (β : Nat → Option Addr) (u : HO) (kvs : List (D × D)) : Prop := ∃ es, u = .dK es ∧ EntR K F β es kvs
/-- an owned container at a -/
def CR (K : KW) (F : Hp) (β : Nat → Option Addr) (H : Hp) (a : Addr) : C → Prop
  | .lst ds => ∃ xs, H a = some (.lst xs) ∧ xs.length ≤ sizeLine ∧ RAll K F β xs ds
  | .dct kvs => ∃ u, H a = some u ∧ DctO K F β u kvs
/-- the same while a loop walks it -/
def CRz (K : KW) (F : Hp) (β : Nat → Option Addr) (H : Hp) (a : Addr) : C → Prop
  | .lst ds => ∃ o xs, H a = some (.frz o (.lst xs)) ∧ xs.length ≤ sizeLine ∧ RAll K F β xs ds
  | .dct kvs => ∃ o u, H a = some (.frz o u) ∧ DctO K F β u kvs

/-- places -/
inductive Pl where
  | sl (i : Nat) | ob (n : Nat) | fd (n : Nat) (f : Str)

/-- a field's value -/
def FR (K : KW) (F : Hp) (β : Nat → Option Addr) (H : Hp) (v : V) : Sl → Prop
  | .un => True
  | .val d => R K F β v d
  | .own c => ∃ a, v = .ref a ∧ CR K F β H a c
/-- an object of the store, at a -/
def OR (K : KW) (mg : Str → Option Value) (F : Hp) (β : Nat → Option Addr) (H : Hp) (a : Addr) : Ob → Prop
  | .box c => CR K F β H a c
  | .lck c => CRz K F β H a c
  | .ins cls fs => ∃ (C dx : Addr) (vs : List (Str × V)), mg cls = some (.ref C) ∧ H a = some (.ins C dx vs) ∧ vs.length = fs.length ∧
      (∀ f, fs.lookup f = none → vs.lookup f = none) ∧ (∀ f s, fs.lookup f = some s → ∃ v, vs.lookup f = some v ∧ FR K F β H v s)

/-- who owns what -/
def Own (σ : L2.St) (η : Sls) (S : Store) (β : Nat → Option Addr) (H : Hp) : Pl → Addr → Prop
  | .sl i, a => ∃ c, η[i]? = some (.own c) ∧ σ[i]? = some (some (.ref a))
  | .ob n, a => (∃ o, S.get n = some o) ∧ β n = some a
  | .fd n f, a => ∃ b cls fs C dx vs c, β n = some b ∧ S.get n = some (.ins cls fs) ∧ H b = some (.ins C dx vs) ∧ fs.lookup f = some (.own c) ∧ vs.lookup f = some (.ref a)

structure Ste (K : KW) (mg : Str → Option Value) (F P : Hp) (β : Nat → Option Addr) (σ : L2.St) (η : Sls) (S : Store) (H : Hp) : Prop where
  fsub : Ex F H
  psub : Ex P H
  fp : ∀ a o, F a = some o → P a = none
  len : σ.length = η.length
  vals : ∀ (i : Nat) (d : D), η[i]? = some (.val d) → ∃ v, σ[i]? = some (some v) ∧ R K F β v d
  owns : ∀ (i : Nat) (c : C), η[i]? = some (.own c) → ∃ a, σ[i]? = some (some (.ref a)) ∧ CR K F β H a c
  obs : ∀ (n : Nat) (o : Ob), S.get n = some o → ∃ a, β n = some a ∧ OR K mg F β H a o
  top : ∀ (n : Nat), S.size ≤ n → β n = none
  free : ∀ p a, Own σ η S β H p a → F a = none ∧ P a = none
  inj : ∀ p q a, Own σ η S β H p a → Own σ η S β H q a → p = q

/-! ### runs -/
structure Exn where
  cls : Str
  fs : List (Str × D)
inductive Res (A : Type) where
  | ok (a : A) (η : Sls) (S : Store) | ex (x : Exn) (η : Sls) (S : Store)
def M (A : Type) := Sls → Store → Option (Res A)
namespace M
def ret {A : Type} (a : A) : M A := fun η S => some (.ok a η S)
def bind {A B : Type} (m : M A) (f : A → M B) : M B := fun η S => match m η S with
  | none => none
  | some (.ok a η' S') => f a η' S'
  | some (.ex x η' S') => some (.ex x η' S')
def lift {A : Type} (o : Option A) : M A := fun η S => match o with
  | none => none
  | some a => some (.ok a η S)
def fail {A : Type} : M A := fun _ _ => none
end M
instance : Monad M where
  pure := M.ret
  bind := M.bind

/-- an exception with its fields -/
def XR (K : KW) (mg : Str → Option Value) (F : Hp) (β : Nat → Option Addr) (cls : Value) (dct : Option Addr) (x : Exn) : Prop :=
  mg x.cls = some cls ∧ match x.fs with
    | [] => dct = none
    | fs => ∃ a vs, dct = some a ∧ F a = some (.xd vs) ∧ ∀ f d, fs.lookup f = some d → ∃ v, vs.lookup f = some v ∧ R K F β v d
section
variable (X : Cx)
/-- what is behind a run -/
def Post {A : Type} (W : WX) (F P : Hp) (β : Nat → Option Addr) (σ : L2.St) (ok : A → Sls → Store → Hp → (Nat → Option Addr) → Hp → Prop) : Res A → Prop
  | .ok a η' S' => ∀ F' β' H', Ex F F' → Bx β β' → Ste X.kw X.mg F' P β' σ η' S' H' → ok a η' S' F' β' H'
  | .ex x η' S' => ∀ F' β' H' cls dct, Ex F F' → Bx β β' → Ste X.kw X.mg F' P β' σ η' S' H' → XR X.kw X.mg F' β' cls dct x → W cls dct σ H'
/-- a run from a known state -/
def Run {A : Type} (W : WX) (m : M A) (F P : Hp) (β : Nat → Option Addr) (η : Sls) (S : Store) (σ : L2.St) (H : Hp) (ok : A → Sls → Store → Hp → (Nat → Option Addr) → Hp → Prop) : Prop :=
  ∃ r, m η S = some r ∧ Ste X.kw X.mg F P β σ η S H ∧ Post X W F P β σ ok r
abbrev okE (Q : VK) : D → Sls → Store → Hp → (Nat → Option Addr) → Hp → Prop := fun d _ _ F' β' H' => ∀ v, R X.kw F' β' v d → Q v H'
abbrev okA (Q : List V → Hp → Prop) : List D → Sls → Store → Hp → (Nat → Option Addr) → Hp → Prop := fun ds _ _ F' β' H' => ∀ vs, RAll X.kw F' β' vs ds → Q vs H'
abbrev okT (Q : Bool → Hp → Prop) : Bool → Sls → Store → Hp → (Nat → Option Addr) → Hp → Prop := fun b _ _ _ _ H' => Q b H'
def rdE (W : WX) (m : M D) : TE := fun σ H Q => ∃ F P β η S, Run X W m F P β η S σ H (okE X Q)
def rdA (W : WX) (m : M (List D)) : TA := fun σ H Q => ∃ F P β η S, Run X W m F P β η S σ H (okA X Q)
def rdT (W : WX) (m : M Bool) : TT := fun σ H Q => ∃ F P β η S, Run X W m F P β η S σ H (okT Q)
/-- a new list, not yet anybody's -/
abbrev okN (P : Hp) (σ : L2.St) (Q : VK) : List D → Sls → Store → Hp → (Nat → Option Addr) → Hp → Prop := fun ds _ _ F' β' H' => ∀ p vs, H' p = none → vs.length ≤ sizeLine → RAll X.kw F' β' vs ds → Q (.ref p) (upd H' p (.lst vs))
def rdN (W : WX) (m : M (List D)) : TE := fun σ H Q => ∃ F P β η S, Run X W m F P β η S σ H (okN X P σ Q)
def DE (W : WX) (e : Expr) (m : M D) : Prop := PE X e (rdE X W m)
def DA (W : WX) (es : List Expr) (m : M (List D)) : Prop := PA X es (rdA X W m)
def DT (W : WX) (e : Expr) (m : M Bool) : Prop := PT X e (rdT X W m)
def DN (W : WX) (e : Expr) (m : M (List D)) : Prop := PE X e (rdN X W m)
end
/-- consequence -/
theorem PE.imp {X : Cx} {e : Expr} {t u : TE} (h : PE X e t) (k : ∀ σ H Q, u σ H Q → t σ H Q) : PE X e u := ⟨fun pins s σ H Q I q => h.run pins s σ H Q I (k σ H Q q)⟩
theorem PA.imp {X : Cx} {e : List Expr} {t u : TA} (h : PA X e t) (k : ∀ σ H Q, u σ H Q → t σ H Q) : PA X e u := ⟨fun pos pins s σ H Q I q => h.run pos pins s σ H Q I (k σ H Q q)⟩
theorem PT.imp {X : Cx} {e : Expr} {t u : TT} (h : PT X e t) (k : ∀ σ H Q, u σ H Q → t σ H Q) : PT X e u := ⟨fun pins s σ H Q I q => h.run pins s σ H Q I (k σ H Q q)⟩
theorem PS.imp {X : Cx} {e : Stmt} {t u : TS} (h : PS X e t) (k : ∀ E σ H, u E σ H → t E σ H) : PS X e u := ⟨fun pins s σ H E I q => h.run pins s σ H E I (k E σ H q)⟩
theorem PSs.imp {X : Cx} {e : List Stmt} {t u : TS} (h : PSs X e t) (k : ∀ E σ H, u E σ H → t E σ H) : PSs X e u := ⟨fun pins s σ H E I q => h.run pins s σ H E I (k E σ H q)⟩
theorem PE.or {X : Cx} {e : Expr} {t u : TE} (h : PE X e t) (k : PE X e u) : PE X e (fun σ H Q => t σ H Q ∨ u σ H Q) := ⟨fun pins s σ H Q I q => q.elim (h.run pins s σ H Q I) (k.run pins s σ H Q I)⟩

section
variable {X : Cx} {W : WX}
/-- one run behind another -/
theorem Run.bind {A B : Type} {m : M A} {f : A → M B} {F P : Hp} {β : Nat → Option Addr} {η : Sls} {S : Store} {σ : L2.St} {H : Hp} {ok : B → Sls → Store → Hp → (Nat → Option Addr) → Hp → Prop} (h : Run X W (m.bind f) F P β η S σ H ok) :
    Run X W m F P β η S σ H (fun a η1 S1 F1 β1 H1 => Ex F F1 ∧ Bx β β1 ∧ Run X W (f a) F1 P β1 η1 S1 σ H1 ok) := by
  obtain ⟨r, e, s, p⟩ := h
  unfold M.bind at e
  cases q : m η S with
  | none => rw [q] at e; cases e
  | some r1 =>
    rw [q] at e
    refine ⟨r1, q, s, ?_⟩
    cases r1 with
    | ex x η' S' =>
      cases e
      exact p
    | ok d η1 S1 =>
      have e : f d η1 S1 = some r := e
      intro F1 β1 H1 e1 b1 s1
      refine ⟨e1, b1, r, e, s1, ?_⟩
      cases r with
      | ok d2 η2 S2 => exact fun F2 β2 H2 e2 b2 s2 => p F2 β2 H2 (e1.trans e2) (b1.trans b2) s2
      | ex x η2 S2 => exact fun F2 β2 H2 cls dct e2 b2 s2 => p F2 β2 H2 cls dct (e1.trans e2) (b1.trans b2) s2
theorem Run.imp {A : Type} {m : M A} {F P : Hp} {β : Nat → Option Addr} {η : Sls} {S : Store} {σ : L2.St} {H : Hp} {ok ok' : A → Sls → Store → Hp → (Nat → Option Addr) → Hp → Prop} (h : Run X W m F P β η S σ H ok)
    (k : ∀ a η S F' β' H', Ste X.kw X.mg F' P β' σ η S H' → ok a η S F' β' H' → ok' a η S F' β' H') : Run X W m F P β η S σ H ok' := by
  obtain ⟨r, e, s, p⟩ := h
  refine ⟨r, e, s, ?_⟩
  cases r with
  | ok a η S => exact fun F' β' H' e b s => k _ _ _ _ _ _ s (p F' β' H' e b s)
  | ex x η S => exact p
theorem Run.ret {A : Type} {a : A} {F P : Hp} {β : Nat → Option Addr} {η : Sls} {S : Store} {σ : L2.St} {H : Hp} {ok : A → Sls → Store → Hp → (Nat → Option Addr) → Hp → Prop} {m : M A} (e : m η S = some (.ok a η S)) (h : Run X W m F P β η S σ H ok) : ok a η S F β H := by
  obtain ⟨r, e', s, p⟩ := h
  rw [e] at e'; cases e'
  exact p F β H (Ex.refl _) (Bx.refl _) s
theorem Run.lift {A : Type} {o : Option A} {F P : Hp} {β : Nat → Option Addr} {η : Sls} {S : Store} {σ : L2.St} {H : Hp} {ok : A → Sls → Store → Hp → (Nat → Option Addr) → Hp → Prop} (h : Run X W (M.lift o) F P β η S σ H ok) :
    ∃ c, o = some c ∧ Ste X.kw X.mg F P β σ η S H ∧ ∀ F' H', Ex F F' → Ste X.kw X.mg F' P β σ η S H' → ok c η S F' β H' := by
  obtain ⟨r, e, s, p⟩ := h
  unfold M.lift at e
  cases o with
  | none => cases e
  | some c => cases e; exact ⟨c, rfl, s, fun F' H' e s' => p F' β H' e (Bx.refl _) s'⟩
end
end Y
/-! Y1: the state's own lemmas; names, constants, operators. -/
namespace Y
open PySem L2

section
variable {K : KW} {mg : Str → Option Value} {F F' P : Hp} {β β' : Nat → Option Addr} {σ : L2.St} {η : Sls} {S : Store} {H H' : Hp}

theorem CR.mono {c : C} {a : Addr} (e : Ex F F') (b : Bx β β') (h : CR K F β H a c) : CR K F' β' H a c := by
  cases c with
  | lst ds => obtain ⟨xs, h1, h2, h3⟩ := h; exact ⟨xs, h1, h2, h3.mono e b⟩
  | dct kvs => obtain ⟨u, h1, es, h2, h3⟩ := h; exact ⟨u, h1, es, h2, h3.mono e b⟩
theorem CR.heap {c : C} {a : Addr} (q : ∀ o, H a = some o → H' a = some o) (h : CR K F β H a c) : CR K F β H' a c := by
  cases c with
  | lst ds => obtain ⟨xs, h1, h2, h3⟩ := h; exact ⟨xs, q _ h1, h2, h3⟩
  | dct kvs => obtain ⟨u, h1, h2⟩ := h; exact ⟨u, q _ h1, h2⟩
theorem CR.there {c : C} {a : Addr} (h : CR K F β H a c) : ∃ o, H a = some o := by
  cases c with
  | lst ds => obtain ⟨xs, h1, _⟩ := h; exact ⟨_, h1⟩
  | dct kvs => obtain ⟨u, h1, _⟩ := h; exact ⟨_, h1⟩
theorem CRz.mono {c : C} {a : Addr} (e : Ex F F') (b : Bx β β') (h : CRz K F β H a c) : CRz K F' β' H a c := by
  cases c with
  | lst ds => obtain ⟨o, xs, h1, h2, h3⟩ := h; exact ⟨o, xs, h1, h2, h3.mono e b⟩
  | dct kvs => obtain ⟨o, u, h1, es, h2, h3⟩ := h; exact ⟨o, u, h1, es, h2, h3.mono e b⟩
theorem CRz.heap {c : C} {a : Addr} (q : ∀ o, H a = some o → H' a = some o) (h : CRz K F β H a c) : CRz K F β H' a c := by
  cases c with
  | lst ds => obtain ⟨o, xs, h1, h2, h3⟩ := h; exact ⟨o, xs, q _ h1, h2, h3⟩
  | dct kvs => obtain ⟨o, u, h1, h2⟩ := h; exact ⟨o, u, q _ h1, h2⟩
theorem CRz.there {c : C} {a : Addr} (h : CRz K F β H a c) : ∃ o, H a = some o := by
  cases c with
  | lst ds => obtain ⟨o, xs, h1, _⟩ := h; exact ⟨_, h1⟩
  | dct kvs => obtain ⟨o, u, h1, _⟩ := h; exact ⟨_, h1⟩
theorem FR.mono {s : Sl} {v : V} (e : Ex F F') (b : Bx β β') (h : FR K F β H v s) : FR K F' β' H v s := by
  cases s with
  | un => trivial
  | val d => exact R.mono e b h
  | own c => obtain ⟨a, r, h⟩ := h; exact ⟨a, r, h.mono e b⟩
theorem OR.mono {o : Ob} {a : Addr} (e : Ex F F') (b : Bx β β') (h : OR K mg F β H a o) : OR K mg F' β' H a o := by
  cases o with
  | box c => exact CR.mono e b h
  | lck c => exact CRz.mono e b h
  | ins cls fs =>
    obtain ⟨C, dx, vs, h1, h2, h3, h4, h5⟩ := h
    exact ⟨C, dx, vs, h1, h2, h3, h4, fun f s q => let ⟨v, q1, q2⟩ := h5 f s q; ⟨v, q1, q2.mono e b⟩⟩
theorem Own.there (s : Ste K mg F P β σ η S H) {p : Pl} {a : Addr} (h : Own σ η S β H p a) : ∃ o, H a = some o := by
  cases p with
  | sl i =>
    obtain ⟨c, h1, h2⟩ := h
    obtain ⟨a', h3, h4⟩ := s.owns i c h1
    rw [h2] at h3; cases h3
    exact h4.there
  | ob n =>
    obtain ⟨⟨oo, h1⟩, h2⟩ := h
    obtain ⟨a', h3, h4⟩ := s.obs n oo h1
    rw [h2] at h3; cases h3
    cases oo with
    | box c => exact CR.there h4
    | lck c => exact CRz.there h4
    | ins cls fs => obtain ⟨C, dx, vs, _, h, _⟩ := h4; exact ⟨_, h⟩
  | fd n f =>
    obtain ⟨b, cls, fs, C, dx, vs, c, h1, h2, h3, h4, h5⟩ := h
    obtain ⟨a', h6, h7⟩ := s.obs n _ h2
    rw [h1] at h6; cases h6
    obtain ⟨C', dx', vs', _, g2, _, _, g5⟩ := h7
    rw [h3] at g2; cases g2
    obtain ⟨v, q1, a'', q2, q3⟩ := g5 f _ h4
    rw [h5] at q1; cases q1
    cases q2
    exact q3.there
theorem Own.ne (s : Ste K mg F P β σ η S H) {p : Pl} {a b : Addr} (h : Own σ η S β H p a) (n : H b = none) : a ≠ b := by
  obtain ⟨o, q⟩ := Own.there s h
  exact ne_of_none q n
/-- what is owned where does not turn by a change elsewhere -/
theorem Own.of_heap (s : Ste K mg F P β σ η S H) (k : ∀ n b o, (∃ u, S.get n = some u) → β n = some b → H b = some o → H' b = some o) {p : Pl} {a : Addr} (h : Own σ η S β H' p a) : Own σ η S β H p a := by
  cases p with
  | sl i => exact h
  | ob n => exact h
  | fd n f =>
    obtain ⟨b, cls, fs, C, dx, vs, c, h1, h2, h3, h4, h5⟩ := h
    obtain ⟨a', h6, h7⟩ := s.obs n _ h2
    rw [h1] at h6; cases h6
    obtain ⟨C', dx', vs', _, g2, _, _, g5⟩ := h7
    have hn : ∃ u, S.get n = some u := ⟨_, h2⟩
    have := k n b _ hn h1 g2
    rw [h3] at this; cases this
    exact ⟨b, cls, fs, C, dx, vs, c, h1, h2, g2, h4, h5⟩
/-- a new object, frozen -/
theorem Ste.new (s : Ste K mg F P β σ η S H) {p : Addr} {o : HO} (hp : H p = none) : Ste K mg (upd F p o) P β σ η S (upd H p o) := by
  have hf : F p = none := by
    cases q : F p with
    | none => rfl
    | some u => rw [s.fsub _ _ q] at hp; cases hp
  have hpp : P p = none := by
    cases q : P p with
    | none => rfl
    | some u => rw [s.psub _ _ q] at hp; cases hp
  have ef : Ex F (upd F p o) := Ex.new hf
  have eh : Ex H (upd H p o) := Ex.new hp
  have back : ∀ {q a}, Own σ η S β (upd H p o) q a → Own σ η S β H q a := fun h => Own.of_heap s (fun _ b u _ _ e => eh b u e) h
  refine ⟨?_, fun a u e => eh a u (s.psub a u e), ?_, s.len, ?_, ?_, ?_, s.top, ?_, ?_⟩
  · intro a u e
    by_cases h : a = p
    · subst h; rw [upd_same] at e ⊢; exact e
    · rw [upd_ne h] at e ⊢; exact s.fsub a u e
  · intro a u e
    by_cases h : a = p
    · subst h; exact hpp
    · rw [upd_ne h] at e; exact s.fp a u e
  · intro i d e
    obtain ⟨v, h1, h2⟩ := s.vals i d e
    exact ⟨v, h1, h2.mono ef (Bx.refl _)⟩
  · intro i c e
    obtain ⟨a, h1, h2⟩ := s.owns i c e
    exact ⟨a, h1, (h2.heap fun u q => eh a u q).mono ef (Bx.refl _)⟩
  · intro n u e
    obtain ⟨a, h1, h2⟩ := s.obs n u e
    refine ⟨a, h1, ?_⟩
    have h2 := h2.mono (mg := mg) ef (Bx.refl β)
    cases u with
    | box c => exact CR.heap (fun u q => eh a u q) h2
    | lck c => exact CRz.heap (fun u q => eh a u q) h2
    | ins cls fs =>
      obtain ⟨C, dx, vs, g1, g2, g3, g4, g5⟩ := h2
      refine ⟨C, dx, vs, g1, eh _ _ g2, g3, g4, fun f s q => ?_⟩
      obtain ⟨v, q1, q2⟩ := g5 f s q
      refine ⟨v, q1, ?_⟩
      cases s with
      | un => trivial
      | val d => exact q2
      | own c => obtain ⟨b, r, q3⟩ := q2; exact ⟨b, r, q3.heap fun u q => eh b u q⟩
  · intro q a h
    have h := back h
    have ne := Own.ne s h hp
    rw [upd_ne ne]
    exact s.free q a h
  · intro q r a h1 h2
    exact s.inj q r a (back h1) (back h2)
end

section
variable {X : Cx} {W : WX}
def const (d : D) : M D := M.ret d
theorem de_int {i j pos} : DE X W (.Constant (.int i) j pos) (const (.int i)) := PE.imp pe_int fun σ H Q ⟨F, P, β, η, S, h⟩ => Run.ret rfl h _ (.int i)
theorem de_bl {b j pos} : DE X W (.Constant (.bool b) j pos) (const (.bl b)) := PE.imp pe_bl fun σ H Q ⟨F, P, β, η, S, h⟩ => Run.ret rfl h _ (.bl b)
theorem de_non {j pos} : DE X W (.Constant .none j pos) (const .non) := PE.imp pe_non fun σ H Q ⟨F, P, β, η, S, h⟩ => Run.ret rfl h _ .non
theorem de_str {x : Str} {j pos} (hx : PyData.strOk x = true) : DE X W (.Constant (.str x) j pos) (const (.str x)) := PE.imp pe_str fun σ H Q ⟨F, P, β, η, S, h⟩ => Run.ret rfl h _ (.str hx)

def var (i : Nat) : M D := fun η S => match η[i]? with
  | some (.val d) => some (.ok d η S)
  | _ => none
theorem var_eq {i : Nat} {η : Sls} {S : Store} {r : Res D} (h : var i η S = some r) : ∃ d, η[i]? = some (.val d) ∧ r = .ok d η S := by
  unfold var at h
  split at h
  · rename_i d e; cases h; exact ⟨d, e, rfl⟩
  · cases h
theorem de_var {i : Nat} {x : Str} {pos : Pos} (h : PE X (.Name x pos) (tVar i)) : DE X W (.Name x pos) (var i) := PE.imp h fun σ H Q ⟨F, P, β, η, S, r, e, s, p⟩ => by
  obtain ⟨d, e1, rfl⟩ := var_eq e
  obtain ⟨v, h1, h2⟩ := s.vals i d e1
  exact ⟨v, h1, p F β H (Ex.refl _) (Bx.refl _) s v h2⟩
theorem de_glob {x : Str} {pos : Pos} {v : V} {d : D} (h : PE X (.Name x pos) (tC v)) (r : ∀ F β, R X.kw F β v d) : DE X W (.Name x pos) (const d) := PE.imp h fun σ H Q ⟨F, P, β, η, S, q⟩ => Run.ret rfl q v (r F β)

/-! ### an operation on values: given D, the answer -/
/-- what an operation is asked: its operands known, its answer told -/
def Ask2 (X : Cx) (g : D → D → Option D) : R2 := fun x y H Q => ∃ F P β σ η S a b c, Ste X.kw X.mg F P β σ η S H ∧ R X.kw F β x a ∧ R X.kw F β y b ∧ g a b = some c ∧
    ∀ F' H' v, Ex F F' → Ste X.kw X.mg F' P β σ η S H' → R X.kw F' β v c → Q v H'
def op2 (g : D → D → Option D) (ma mb : M D) : M D := ma.bind fun x => mb.bind fun y => M.lift (g x y)
theorem run_op2 {g : D → D → Option D} {ma mb : M D} {σ : L2.St} {H : Hp} {Q : VK} (h : rdE X W (op2 g ma mb) σ H Q) : tOp (Ask2 X g) (rdE X W ma) (rdE X W mb) σ H Q := by
  obtain ⟨F, P, β, η, S, h⟩ := h
  refine ⟨F, P, β, η, S, (Run.bind h).imp fun d η1 S1 F1 β1 H1 s1 ⟨e1, b1, h1⟩ v r1 => ?_⟩
  refine ⟨F1, P, β1, η1, S1, (Run.bind h1).imp fun d2 η2 S2 F2 β2 H2 s2 ⟨e2, b2, h2⟩ w r2 => ?_⟩
  obtain ⟨c, ec, s, p⟩ := Run.lift h2
  exact ⟨F2, P, β2, σ, η2, S2, d, d2, c, s, r1.mono e2 b2, r2, ec, fun F' H' v e s => p F' H' e s v⟩
theorem de_bin {a b : Expr} {pos : Pos} {op : Operator} {ma mb : M D} {g : D → D → Option D} (ho : OpR X (binaryOp op) (Ask2 X g)) (ha : DE X W a ma) (hb : DE X W b mb) : DE X W (.BinOp a op b pos) (op2 g ma mb) :=
  PE.imp (pe_op ho ha hb) fun _ _ _ h => run_op2 h
theorem de_cmp {a b : Expr} {pos : Pos} {op : CmpOp} {ma mb : M D} {g : D → D → Option D} (ho : OpR X (compareOp op) (Ask2 X g)) (ha : DE X W a ma) (hb : DE X W b mb) (hm : behindInMarks op b = false) : DE X W (.Compare a [op] [b] pos) (op2 g ma mb) :=
  PE.imp (pe_cmpR ho ha hb hm) fun _ _ _ h => run_op2 h
theorem OpR.imp {f : Value → Value → PySem.Sem Value} {r r' : R2} (h : OpR X f r) (k : ∀ x y H Q, r' x y H Q → r x y H Q) : OpR X f r' := fun pins s σ H x y v u Q I rx ry q => h pins s σ H x y v u Q I rx ry (k x y H Q q)
theorem OpR.or {f : Value → Value → PySem.Sem Value} {r r' : R2} (h : OpR X f r) (h' : OpR X f r') : OpR X f (fun x y H Q => r x y H Q ∨ r' x y H Q) := fun pins s σ H x y v u Q I rx ry q => q.elim (h pins s σ H x y v u Q I rx ry) (h' pins s σ H x y v u Q I rx ry)
end
end Y
/-! Y2: operators over data. -/
namespace Y
open PySem L2

/-! ### data as PyData -/
mutual
def D.toP : D → Option PyData
  | .non => some .none
  | .bl b => some (.bool b)
  | .int i => some (.int i)
  | .str x => some (.str x)
  | .tup xs => (toPs xs).map .tuple
  | .lst xs => (toPs xs).map .list
  | .scr ns => some (.list (ns.map .int))
  | _ => none
def toPs : List D → Option (List PyData)
  | [] => some []
  | x :: xs => match D.toP x, toPs xs with
    | some p, some ps => some (p :: ps)
    | _, _ => none
end
section
variable {K : KW} {F F' P H : Hp} {β β' : Nat → Option Addr}
theorem Dp.ints {a : Addr} : ∀ ns : List Int, DpAll K.1 F (ns.map V.int) (ns.map .int)
  | [] => .nil
  | n :: ns => .cons (.int n) (Dp.ints (a := a) ns)
theorem lay_ints : ∀ ns : List Int, PyData.canLayAll0 (ns.map .int) = true
  | [] => rfl
  | n :: ns => by simp [PyData.canLayAll0, PyData.canLay0, lay_ints ns]
mutual
theorem R.dp (e : Ex F H) : ∀ {v : V} {d : D} {p : PyData}, R K F β v d → d.toP = some p → Dp K.1 H v p ∧ p.canLay0 = true
  | _, _, _, .non, h => by cases h; exact ⟨.non, rfl⟩
  | _, _, _, .bl b, h => by cases h; exact ⟨.bl b, rfl⟩
  | _, _, _, .int b, h => by cases h; exact ⟨.int b, rfl⟩
  | _, _, _, .str o, h => by cases h; exact ⟨.str _, o⟩
  | _, _, _, .tup (ds := ds) s l a, h => by
    simp only [D.toP] at h
    cases q : toPs ds with
    | none => rw [q] at h; cases h
    | some ps =>
      rw [q] at h; cases h
      have := RAll.dp e a q
      exact ⟨.tup (e.t s) this.1, this.2⟩
  | _, _, _, .lst (ds := ds) s l a, h => by
    simp only [D.toP] at h
    cases q : toPs ds with
    | none => rw [q] at h; cases h
    | some ps =>
      rw [q] at h; cases h
      have := RAll.dp e a q
      exact ⟨.lst (SqL.of (e _ _ s)) this.1, this.2⟩
  | _, _, _, .scr (ns := ns) (a := a) s l, h => by
    cases h
    exact ⟨.lst (e.l s) (Dp.ints (a := a) ns), by simp only [PyData.canLay0]; exact lay_ints ns⟩
theorem RAll.dp (e : Ex F H) : ∀ {vs : List V} {ds : List D} {ps : List PyData}, RAll K F β vs ds → toPs ds = some ps → DpAll K.1 H vs ps ∧ PyData.canLayAll0 ps = true
  | _, _, _, .nil, h => by cases h; exact ⟨.nil, rfl⟩
  | _, _, _, .cons (d := d) (ds := ds) r a, h => by
    simp only [toPs] at h
    cases q : d.toP with
    | none => rw [q] at h; cases h
    | some p =>
      cases q2 : toPs ds with
      | none => rw [q, q2] at h; cases h
      | some ps =>
        rw [q, q2] at h; cases h
        have h1 := R.dp e r q
        have h2 := RAll.dp e a q2
        exact ⟨.cons h1.1 h2.1, by simp only [PyData.canLayAll0, h1.2, h2.2]; rfl⟩
end
end

/-! ### equality -/
def eqP (a b : D) : Option Bool := match a.toP, b.toP with
  | some p, some q => if p.depth ≤ 64 ∧ q.depth ≤ 64 then some (PyData.eqv p q) else none
  | _, _ => none
def eqD (a b : D) : Option D := (eqP a b).map .bl
def neD (a b : D) : Option D := (eqP a b).map fun t => .bl (!t)
section
variable {X : Cx} {W : WX}
theorem eqP_some {a b : D} {t : Bool} (h : eqP a b = some t) : ∃ p q, a.toP = some p ∧ b.toP = some q ∧ p.depth ≤ 64 ∧ q.depth ≤ 64 ∧ PyData.eqv p q = t := by
  unfold eqP at h
  split at h
  · rename_i p q e1 e2
    split at h
    · rename_i hd; cases h; exact ⟨p, q, e1, e2, hd.1, hd.2, rfl⟩
    · cases h
  · cases h
theorem shaped_of {p : PyData} (h : p.canLay0 = true) (d : p.depth ≤ 64) : SeqAt.shaped p = true := by
  show (p.canLay0 && decide (p.depth ≤ 64)) = true
  rw [h, decide_eq_true d]; rfl
theorem od_eq (hu : X.A.units + 64 < cLine) : OpR X (compareOp .Eq) (Ask2 X eqD) := Y.OpR.imp (op_eqD hu) fun x y H Q h => by
  obtain ⟨F, P, β, σ, η, S, a, b, c, s, ra, rb, g, k⟩ := h
  unfold eqD at g
  cases q : eqP a b with
  | none => rw [q] at g; cases g
  | some t =>
    rw [q] at g; cases g
    obtain ⟨p1, p2, e1, e2, d1, d2, rfl⟩ := eqP_some q
    have h1 := ra.dp s.fsub e1
    have h2 := rb.dp s.fsub e2
    exact ⟨p1, p2, h1.1, h2.1, shaped_of h1.2 d1, shaped_of h2.2 d2, k F H _ (Ex.refl _) s (.bl _)⟩
theorem od_ne (hu : X.A.units + 64 < cLine) : OpR X (compareOp .NotEq) (Ask2 X neD) := Y.OpR.imp (op_neD hu) fun x y H Q h => by
  obtain ⟨F, P, β, σ, η, S, a, b, c, s, ra, rb, g, k⟩ := h
  unfold neD at g
  cases q : eqP a b with
  | none => rw [q] at g; cases g
  | some t =>
    rw [q] at g; cases g
    obtain ⟨p1, p2, e1, e2, d1, d2, rfl⟩ := eqP_some q
    have h1 := ra.dp s.fsub e1
    have h2 := rb.dp s.fsub e2
    exact ⟨p1, p2, h1.1, h2.1, shaped_of h1.2 d1, shaped_of h2.2 d2, k F H _ (Ex.refl _) s (.bl _)⟩

/-! ### ints -/
theorem R.int_inv {K : KW} {F : Hp} {β : Nat → Option Addr} {v : V} {i : Int} (h : R K F β v (.int i)) : v = .int i := by cases h; rfl
theorem R.str_inv {K : KW} {F : Hp} {β : Nat → Option Addr} {v : V} {i : Str} (h : R K F β v (.str i)) : v = .str i := by cases h; rfl
/-- an operation on two ints under a condition -/
def int2 (c : Int → Int → Bool) (f : Int → Int → D) (a b : D) : Option D := match a, b with
  | .int i, .int j => if c i j then some (f i j) else none
  | _, _ => none
theorem int2_some {c : Int → Int → Bool} {f : Int → Int → D} {a b z : D} (h : int2 c f a b = some z) : ∃ i j, a = .int i ∧ b = .int j ∧ c i j = true ∧ z = f i j := by
  unfold int2 at h
  split at h
  · rename_i i j
    split at h
    · rename_i hc; cases h; exact ⟨i, j, rfl, rfl, hc, rfl⟩
    · cases h
  · cases h
theorem od_int {f : Value → Value → PySem.Sem Value} {Cc : Int → Int → Prop} {c : Int → Int → Bool} {g : Int → Int → V} {gd : Int → Int → D} (h : OpR X f (rI Cc g)) (hc : ∀ i j, c i j = true → Cc i j) (hg : ∀ F β i j, R X.kw F β (g i j) (gd i j)) : OpR X f (Ask2 X (int2 c gd)) :=
  Y.OpR.imp h fun x y H Q q => by
    obtain ⟨F, P, β, σ, η, S, a, b, z, s, ra, rb, e, k⟩ := q
    obtain ⟨i, j, rfl, rfl, hcc, rfl⟩ := int2_some e
    exact ⟨i, j, ra.int_inv, rb.int_inv, hc i j hcc, k F H _ (Ex.refl _) s (hg _ _ i j)⟩
theorem od_int0 {f : Value → Value → PySem.Sem Value} {g : Int → Int → V} {gd : Int → Int → D} (h : OpR X f (rI0 g)) (hg : ∀ F β i j, R X.kw F β (g i j) (gd i j)) : OpR X f (Ask2 X (int2 (fun _ _ => true) gd)) :=
  Y.OpR.imp h fun x y H Q q => by
    obtain ⟨F, P, β, σ, η, S, a, b, z, s, ra, rb, e, k⟩ := q
    obtain ⟨i, j, rfl, rfl, hcc, rfl⟩ := int2_some e
    exact ⟨i, j, ra.int_inv, rb.int_inv, k F H _ (Ex.refl _) s (hg _ _ i j)⟩
def subD : D → D → Option D := int2 (fun _ _ => true) fun i j => .int (i - j)
def modD : D → D → Option D := int2 (fun _ j => decide (0 < j)) fun i j => .int (i % j)
def fdivD : D → D → Option D := int2 (fun _ j => decide (0 < j ∧ j < 1073741824)) fun i j => .int (i / j)
def powD : D → D → Option D := int2 (fun i j => decide (0 ≤ j ∧ j ≤ 1000000 ∧ i.natAbs < 2 ^ 64)) fun i j => .int (i ^ j.toNat)
def ltD : D → D → Option D := int2 (fun _ _ => true) fun i j => .bl (decide (i < j))
def leD : D → D → Option D := int2 (fun _ _ => true) fun i j => .bl (decide (i ≤ j))
def gtD : D → D → Option D := int2 (fun _ _ => true) fun i j => .bl (decide (j < i))
def geD : D → D → Option D := int2 (fun _ _ => true) fun i j => .bl (decide (j ≤ i))
theorem od_sub : OpR X (binaryOp .Sub) (Ask2 X subD) := od_int0 op_sub fun _ _ _ _ => .int _
theorem od_mod : OpR X (binaryOp .Mod) (Ask2 X modD) := od_int op_mod (fun _ _ h => of_decide_eq_true h) fun _ _ _ _ => .int _
theorem od_fdiv : OpR X (binaryOp .FloorDiv) (Ask2 X fdivD) := od_int op_fdiv (fun i j h => by have h' : decide (0 < j ∧ j < 1073741824) = true := h; have h2 := of_decide_eq_true h'; exact h2) fun _ _ _ _ => .int _
theorem od_pow : OpR X (binaryOp .Pow) (Ask2 X powD) := od_int op_pow (fun i j h => by have h' : decide (0 ≤ j ∧ j ≤ 1000000 ∧ i.natAbs < 2 ^ 64) = true := h; have h2 := of_decide_eq_true h'; exact h2) fun _ _ _ _ => .int _
theorem od_lt : OpR X (compareOp .Lt) (Ask2 X ltD) := od_int0 op_lt fun _ _ _ _ => .bl _
theorem od_le : OpR X (compareOp .LtE) (Ask2 X leD) := od_int0 op_le fun _ _ _ _ => .bl _
theorem od_gt : OpR X (compareOp .Gt) (Ask2 X gtD) := od_int0 op_gt fun _ _ _ _ => .bl _
theorem od_ge : OpR X (compareOp .GtE) (Ask2 X geD) := od_int0 op_ge fun _ _ _ _ => .bl _

/-! ### + -/
def addD : D → D → Option D
  | .int i, .int j => some (.int (i + j))
  | .str x, .str y => if x.length + y.length ≤ sizeLine then some (.str (x ++ y)) else none
  | .tup xs, .tup ys => if xs.length + ys.length ≤ sizeLine then some (.tup (xs ++ ys)) else none
  | .lst xs, .lst ys => if xs.length + ys.length ≤ sizeLine then some (.lst (xs ++ ys)) else none
  | _, _ => none
theorem strOk_append {x y : Str} (h : PyData.strOk x = true) (h' : PyData.strOk y = true) : PyData.strOk (x ++ y) = true := by
  unfold PyData.strOk at *
  show (x.cps ++ y.cps).all (· < 0x110000) = true
  rw [Array.all_append, h, h']; rfl
theorem od_add : OpR X (binaryOp .Add) (Ask2 X addD) := by
  refine Y.OpR.imp (Y.OpR.or op_add (Y.OpR.or op_add_str (Y.OpR.or op_catA op_cat))) fun x y H Q q => ?_
  obtain ⟨F, P, β, σ, η, S, a, b, z, s, ra, rb, e, k⟩ := q
  unfold addD at e
  split at e
  · cases e; exact .inl ⟨_, _, ra.int_inv, rb.int_inv, k F H _ (Ex.refl _) s (.int _)⟩
  · split at e
    · rename_i hl
      cases e
      cases ra with
      | str o1 => cases rb with
        | str o2 => exact .inr (.inl ⟨_, _, rfl, rfl, hl, k F H _ (Ex.refl _) s (.str (strOk_append o1 o2))⟩)
    · cases e
  · split at e
    · rename_i xs ys hl
      cases e
      cases ra with
      | tup s1 l1 a1 => cases rb with
        | tup s2 l2 a2 =>
          rename_i p1 vs1 p2 vs2
          have e1 := a1.length
          have e2 := a2.length
          refine .inr (.inr (.inl ⟨p1, p2, vs1, vs2, rfl, rfl, s.fsub.t s1, s.fsub.t s2, by omega, ?_, ?_, ?_⟩))
          · intro h
            subst h
            cases a1
            exact k F H _ (Ex.refl _) s (.tup s2 l2 a2)
          · intro _ h
            subst h
            cases a2
            refine k F H _ (Ex.refl _) s ?_
            rw [List.append_nil]
            exact .tup s1 l1 a1
          · intro _ _ p hp
            have hf : F p = none := by
              cases q : F p with
              | none => rfl
              | some u => rw [s.fsub _ _ q] at hp; cases hp
            exact k (upd F p (.tup (vs1 ++ vs2))) _ _ (Ex.new hf) (s.new hp) (.tup (SqT.of upd_same) (by rw [List.length_append]; omega) ((a1.append a2).mono (Ex.new hf) (Bx.refl _)))
    · cases e
  · split at e
    · rename_i xs ys hl
      cases e
      cases ra with
      | lst s1 l1 a1 => cases rb with
        | lst s2 l2 a2 =>
          rename_i p1 vs1 p2 vs2
          have e1 := a1.length
          have e2 := a2.length
          refine .inr (.inr (.inr ⟨p1, p2, vs1, vs2, rfl, rfl, s.fsub _ _ s1, s.fsub _ _ s2, by omega, fun p hp => ?_⟩))
          have hf : F p = none := by
            cases q : F p with
            | none => rfl
            | some u => rw [s.fsub _ _ q] at hp; cases hp
          exact k (upd F p (.lst (vs1 ++ vs2))) _ _ (Ex.new hf) (s.new hp) (.lst upd_same (by rw [List.length_append]; omega) ((a1.append a2).mono (Ex.new hf) (Bx.refl _)))
    · cases e
  · cases e

/-! ### is None -/
def D.isNon : D → Bool
  | .non => true
  | _ => false
def isND (a b : D) : Option D := match b with
  | .non => some (.bl a.isNon)
  | _ => none
def notND (a b : D) : Option D := match b with
  | .non => some (.bl (!a.isNon))
  | _ => none
theorem R.non_iff {K : KW} {F : Hp} {β : Nat → Option Addr} {v : V} {d : D} (h : R K F β v d) : decide (v = .non) = d.isNon := by
  cases h <;> rfl
theorem od_is : OpR X (compareOp .Is) (Ask2 X isND) := Y.OpR.imp op_isN fun x y H Q q => by
  obtain ⟨F, P, β, σ, η, S, a, b, z, s, ra, rb, e, k⟩ := q
  unfold isND at e
  split at e
  · cases e
    cases rb
    refine ⟨rfl, ?_⟩
    rw [ra.non_iff]
    exact k F H _ (Ex.refl _) s (.bl _)
  · cases e
theorem od_isnot : OpR X (compareOp .IsNot) (Ask2 X notND) := Y.OpR.imp op_notN fun x y H Q q => by
  obtain ⟨F, P, β, σ, η, S, a, b, z, s, ra, rb, e, k⟩ := q
  unfold notND at e
  split at e
  · cases e
    cases rb
    refine ⟨rfl, ?_⟩
    rw [ra.non_iff]
    exact k F H _ (Ex.refl _) s (.bl _)
  · cases e
end
end Y
/-! Y3: tests, and/or/if, displays, items, slices, calls of built-ins. -/
namespace Y
open PySem L2
section
variable {X : Cx} {W : WX}

/-! ### tests -/
def toB (d : D) : Option Bool := match d with
  | .bl b => some b
  | _ => none
theorem toB_some {d : D} {b : Bool} (h : toB d = some b) : d = .bl b := by
  unfold toB at h
  split at h
  · cases h; rfl
  · cases h
def test (m : M D) : M Bool := m.bind fun d => M.lift (toB d)
theorem run_test {m : M D} {σ : L2.St} {H : Hp} {Q : Bool → Hp → Prop} (h : rdT X W (test m) σ H Q) : rdE X W m σ H (fun x H' => ∃ k, x = .bl k ∧ Q k H') := by
  obtain ⟨F, P, β, η, S, h⟩ := h
  refine ⟨F, P, β, η, S, (Run.bind h).imp fun d η1 S1 F1 β1 H1 s1 ⟨e1, b1, h1⟩ v r1 => ?_⟩
  obtain ⟨c, ec, s, p⟩ := Run.lift h1
  cases toB_some ec
  cases r1
  exact ⟨c, rfl, p F1 H1 (Ex.refl _) s⟩
theorem dt_val {e : Expr} {m : M D} (h : DE X W e m) (he : ∀ whole, isTrue e X.env whole = (do let v ← whole; standAt e.pos; holding [v] (truthy v)) := by intro _; rfl) : DT X W e (test m) :=
  PT.imp (pt_val h he) fun _ _ _ q => run_test q
theorem dt_cmp {a b : Expr} {pos : Pos} {op : CmpOp} {ma mb : M D} {g : D → D → Option D} (ho : OpR X (compareOp op) (Ask2 X g)) (ha : DE X W a ma) (hb : DE X W b mb) (hm : behindInMarks op b = false) : DT X W (.Compare a [op] [b] pos) (test (op2 g ma mb)) :=
  PT.imp (pt_cmpR ho ha hb hm) fun σ H Q q => run_op2 (run_test q)
theorem rdE.imp {m : M D} {σ : L2.St} {H : Hp} {Q Q' : VK} (h : rdE X W m σ H Q) (k : ∀ v H', Q v H' → Q' v H') : rdE X W m σ H Q' := by
  obtain ⟨F, P, β, η, S, h⟩ := h
  exact ⟨F, P, β, η, S, h.imp fun _ _ _ _ _ _ _ q v r => k v _ (q v r)⟩
/-- a op b op' c -/
def chain (g g' : D → D → Option D) (ma mb mc : M D) : M D := ma.bind fun x => mb.bind fun y => (M.lift (g x y)).bind fun z => (M.lift (toB z)).bind fun k => if k = true then mc.bind fun w => M.lift (g' y w) else M.ret (.bl false)
theorem run_chain {g g' : D → D → Option D} {ma mb mc : M D} {σ : L2.St} {H : Hp} {Q : VK} (h : rdE X W (chain g g' ma mb mc) σ H Q) : tChain (Ask2 X g) (Ask2 X g') (rdE X W ma) (rdE X W mb) (rdE X W mc) σ H Q := by
  obtain ⟨F, P, β, η, S, h⟩ := h
  refine ⟨F, P, β, η, S, (Run.bind h).imp fun d η1 S1 F1 β1 H1 s1 ⟨e1, b1, h1⟩ v r1 => ?_⟩
  refine ⟨F1, P, β1, η1, S1, (Run.bind h1).imp fun d2 η2 S2 F2 β2 H2 s2 ⟨e2, b2, h2⟩ w r2 => ?_⟩
  obtain ⟨c, ec, s, p⟩ := Run.lift (Run.bind h2)
  refine ⟨F2, P, β2, σ, η2, S2, d, d2, c, s, r1.mono e2 b2, r2, ec, fun F3 H3 v3 e3 s3 r3 => ?_⟩
  obtain ⟨_, _, h3⟩ := p F3 H3 e3 s3
  obtain ⟨k, ek, s4, p4⟩ := Run.lift (Run.bind h3)
  cases toB_some ek
  cases r3
  refine ⟨k, rfl, ?_⟩
  obtain ⟨_, _, h4⟩ := p4 F3 H3 (Ex.refl _) s4
  cases k with
  | true =>
    refine iteT ⟨F3, P, β2, η2, S2, (Run.bind h4).imp fun d5 η5 S5 F5 β5 H5 s5 ⟨e5, b5, h5⟩ w5 r5 => ?_⟩
    obtain ⟨c6, ec6, s6, p6⟩ := Run.lift h5
    exact ⟨F5, P, β5, σ, η5, S5, d2, d5, c6, s6, (r2.mono e3 (Bx.refl _)).mono e5 b5, r5, ec6, fun F' H' v e s => p6 F' H' e s v⟩
  | false => exact iteF (Run.ret rfl h4 _ (.bl false))
theorem de_chain {a b c : Expr} {pos : Pos} {op op' : CmpOp} {ma mb mc : M D} {g g' : D → D → Option D} (ho : OpR X (compareOp op) (Ask2 X g)) (ho' : OpR X (compareOp op') (Ask2 X g')) (ha : DE X W a ma) (hb : DE X W b mb) (hc : DE X W c mc)
    (h1 : lastMarks [op, op'] [b, c] = false := by with_unfolding_all rfl) : DE X W (.Compare a [op, op'] [b, c] pos) (chain g g' ma mb mc) :=
  PE.imp (pe_chain ho ho' ha hb hc h1) fun _ _ _ q => run_chain q
theorem dt_chain {a b c : Expr} {pos : Pos} {op op' : CmpOp} {ma mb mc : M D} {g g' : D → D → Option D} (ho : OpR X (compareOp op) (Ask2 X g)) (ho' : OpR X (compareOp op') (Ask2 X g')) (ha : DE X W a ma) (hb : DE X W b mb) (hc : DE X W c mc)
    (h1 : lastMarks [op, op'] [b, c] = false := by with_unfolding_all rfl) : DT X W (.Compare a [op, op'] [b, c] pos) (test (chain g g' ma mb mc)) :=
  PT.imp (pt_chain ho ho' ha hb hc h1) fun _ _ _ q => run_chain (run_test q)

def DW (X : Cx) (W : WX) (e : Expr) (m : M Bool) : Prop := PW X e (rdT X W m)
theorem PW.imp {X : Cx} {e : Expr} {t u : TT} (h : PW X e t) (k : ∀ σ H Q, u σ H Q → t σ H Q) : PW X e u := ⟨fun whole pins s σ H Q I q => h.run whole pins s σ H Q I (k σ H Q q)⟩
theorem DW.dt {e : Expr} {m : M Bool} (h : DW X W e m) : DT X W e m := L2.PW.pt h
def andT (a b : M Bool) : M Bool := a.bind fun c => if c = true then b else M.ret false
def orT (a b : M Bool) : M Bool := a.bind fun c => if c = true then M.ret true else b
def notT (a : M Bool) : M Bool := a.bind fun c => M.ret (!c)
theorem dw_and1 {a : Expr} {pos : Pos} {m : M Bool} (h : DT X W a m) : DW X W (.BoolOp .And [a] pos) m := pw_and1 h
theorem dw_or1 {a : Expr} {pos : Pos} {m : M Bool} (h : DT X W a m) : DW X W (.BoolOp .Or [a] pos) m := pw_or1 h
theorem dw_and {a b : Expr} {rest : List Expr} {pos : Pos} {m n : M Bool} (ha : DT X W a m) (hb : DW X W (.BoolOp .And (b :: rest) pos) n) : DW X W (.BoolOp .And (a :: b :: rest) pos) (andT m n) := by
  refine PW.imp (pw_and ha hb) fun σ H Q ⟨F, P, β, η, S, h⟩ => ?_
  refine ⟨F, P, β, η, S, (Run.bind h).imp fun c η1 S1 F1 β1 H1 s1 ⟨e1, b1, h1⟩ => ?_⟩
  cases c with
  | true => exact iteT ⟨F1, P, β1, η1, S1, h1⟩
  | false => exact iteF (Run.ret rfl h1)
theorem dw_or {a b : Expr} {rest : List Expr} {pos : Pos} {m n : M Bool} (ha : DT X W a m) (hb : DW X W (.BoolOp .Or (b :: rest) pos) n) : DW X W (.BoolOp .Or (a :: b :: rest) pos) (orT m n) := by
  refine PW.imp (pw_or ha hb) fun σ H Q ⟨F, P, β, η, S, h⟩ => ?_
  refine ⟨F, P, β, η, S, (Run.bind h).imp fun c η1 S1 F1 β1 H1 s1 ⟨e1, b1, h1⟩ => ?_⟩
  cases c with
  | true => exact iteT (Run.ret rfl h1)
  | false => exact iteF ⟨F1, P, β1, η1, S1, h1⟩
theorem dt_not {a : Expr} {pos : Pos} {m : M Bool} (ha : DT X W a m) : DT X W (.UnaryOp .Not a pos) (notT m) := by
  refine PT.imp (pt_not ha) fun σ H Q ⟨F, P, β, η, S, h⟩ => ?_
  exact ⟨F, P, β, η, S, (Run.bind h).imp fun c η1 S1 F1 β1 H1 s1 ⟨e1, b1, h1⟩ => Run.ret (a := !c) (ok := okT Q) rfl h1⟩

/-! ### and, or, not, if as values -/
def andV (a b : M D) : M D := a.bind fun x => (M.lift (toB x)).bind fun c => if c = true then b else M.ret (.bl false)
def orV (a b : M D) : M D := a.bind fun x => (M.lift (toB x)).bind fun c => if c = true then M.ret (.bl true) else b
def notV (a : M D) : M D := a.bind fun x => (M.lift (toB x)).bind fun c => M.ret (.bl (!c))
def iteV (t : M Bool) (a b : M D) : M D := t.bind fun c => if c = true then a else b
theorem de_one {a : Expr} {op} {pos : Pos} {m : M D} (h : DE X W a m) : DE X W (.BoolOp op [a] pos) m := pe_one h
theorem de_and {a b : Expr} {rest : List Expr} {pos : Pos} {m n : M D} (ha : DE X W a m) (hb : DE X W (.BoolOp .And (b :: rest) pos) n) : DE X W (.BoolOp .And (a :: b :: rest) pos) (andV m n) := by
  refine PE.imp (pe_and ha hb) fun σ H Q ⟨F, P, β, η, S, h⟩ => ?_
  refine ⟨F, P, β, η, S, (Run.bind h).imp fun d η1 S1 F1 β1 H1 s1 ⟨e1, b1, h1⟩ v r1 => ?_⟩
  obtain ⟨c, ec, s, p⟩ := Run.lift (Run.bind h1)
  cases toB_some ec
  cases r1
  obtain ⟨_, _, h2⟩ := p F1 H1 (Ex.refl _) s
  refine ⟨c, rfl, ?_⟩
  cases c with
  | true => exact iteT ⟨F1, P, β1, η1, S1, h2⟩
  | false => exact iteF (Run.ret rfl h2 _ (.bl false))
theorem de_or {a b : Expr} {rest : List Expr} {pos : Pos} {m n : M D} (ha : DE X W a m) (hb : DE X W (.BoolOp .Or (b :: rest) pos) n) : DE X W (.BoolOp .Or (a :: b :: rest) pos) (orV m n) := by
  refine PE.imp (pe_or ha hb) fun σ H Q ⟨F, P, β, η, S, h⟩ => ?_
  refine ⟨F, P, β, η, S, (Run.bind h).imp fun d η1 S1 F1 β1 H1 s1 ⟨e1, b1, h1⟩ v r1 => ?_⟩
  obtain ⟨c, ec, s, p⟩ := Run.lift (Run.bind h1)
  cases toB_some ec
  cases r1
  obtain ⟨_, _, h2⟩ := p F1 H1 (Ex.refl _) s
  refine ⟨c, rfl, ?_⟩
  cases c with
  | true => exact iteT (Run.ret rfl h2 _ (.bl true))
  | false => exact iteF ⟨F1, P, β1, η1, S1, h2⟩
theorem de_not {a : Expr} {pos : Pos} {m : M D} (ha : DE X W a m) : DE X W (.UnaryOp .Not a pos) (notV m) := by
  refine PE.imp (pe_not ha) fun σ H Q ⟨F, P, β, η, S, h⟩ => ?_
  refine ⟨F, P, β, η, S, (Run.bind h).imp fun d η1 S1 F1 β1 H1 s1 ⟨e1, b1, h1⟩ v r1 => ?_⟩
  obtain ⟨c, ec, s, p⟩ := Run.lift (Run.bind h1)
  cases toB_some ec
  cases r1
  obtain ⟨_, _, h2⟩ := p F1 H1 (Ex.refl _) s
  exact ⟨c, rfl, Run.ret rfl h2 _ (.bl _)⟩
theorem de_ite {c a b : Expr} {pos : Pos} {t : M Bool} {m n : M D} (hc : DT X W c t) (ha : DE X W a m) (hb : DE X W b n) : DE X W (.IfExp c a b pos) (iteV t m n) := by
  refine PE.imp (pe_ifExp hc ha hb) fun σ H Q ⟨F, P, β, η, S, h⟩ => ?_
  refine ⟨F, P, β, η, S, (Run.bind h).imp fun c η1 S1 F1 β1 H1 s1 ⟨e1, b1, h1⟩ => ?_⟩
  cases c with
  | true => exact iteT ⟨F1, P, β1, η1, S1, h1⟩
  | false => exact iteF ⟨F1, P, β1, η1, S1, h1⟩

/-! ### arguments, displays -/
def args0 : M (List D) := M.ret []
def args (a : M D) (r : M (List D)) : M (List D) := a.bind fun x => r.bind fun xs => M.ret (x :: xs)
theorem da_nil : DA X W [] args0 := PA.imp pa_nil fun σ H Q ⟨F, P, β, η, S, h⟩ => Run.ret rfl h _ .nil
theorem da_cons {e : Expr} {es : List Expr} {a : M D} {r : M (List D)} (ha : DE X W e a) (hr : DA X W es r) (hs : starEach (e :: es) X.env = (false, eval e X.env) :: starEach es X.env := by rfl) : DA X W (e :: es) (args a r) := by
  refine PA.imp (pa_cons ha hr hs) fun σ H Q ⟨F, P, β, η, S, h⟩ => ?_
  refine ⟨F, P, β, η, S, (Run.bind h).imp fun d η1 S1 F1 β1 H1 s1 ⟨e1, b1, h1⟩ v r1 => ?_⟩
  refine ⟨F1, P, β1, η1, S1, (Run.bind h1).imp fun ds η2 S2 F2 β2 H2 s2 ⟨e2, b2, h2⟩ vs r2 => ?_⟩
  exact Run.ret rfl h2 _ (.cons (r1.mono e2 b2) r2)
theorem Ste.fnone {K : KW} {mg : Str → Option Value} {F P : Hp} {β : Nat → Option Addr} {σ : L2.St} {η : Sls} {S : Store} {H : Hp} (s : Ste K mg F P β σ η S H) {p : Addr} (hp : H p = none) : F p = none := by
  cases q : F p with
  | none => rfl
  | some u => rw [s.fsub _ _ q] at hp; cases hp
def tupV (r : M (List D)) : M D := r.bind fun ds => M.lift (if ds.length ≤ sizeLine then some (.tup ds) else none)
def lstN (r : M (List D)) : M (List D) := r.bind fun ds => M.lift (if ds.length ≤ sizeLine then some ds else none)
/-- a new list, as a value -/
def frz (r : M (List D)) : M D := r.bind fun ds => M.ret (.lst ds)
theorem de_frz {e : Expr} {r : M (List D)} (h : DN X W e r) : DE X W e (frz r) := by
  refine PE.imp h fun σ H Q ⟨F, P, β, η, S, h⟩ => ?_
  refine ⟨F, P, β, η, S, (Run.bind h).imp fun ds η1 S1 F1 β1 H1 s1 ⟨e1, b1, h1⟩ p vs hp hl ra => ?_⟩
  obtain ⟨r, er, s, q⟩ := h1
  cases er
  have hf := s.fnone hp
  exact q (upd F1 p (.lst vs)) β1 _ (Ex.new hf) (Bx.refl _) (s.new hp) _ (.lst upd_same hl (ra.mono (Ex.new hf) (Bx.refl _)))
theorem de_tup {es : List Expr} {x1} {pos : Pos} {r : M (List D)} (h : DA X W es r) : DE X W (.Tuple es x1 pos) (tupV r) := by
  refine PE.imp (pe_tup h) fun σ H Q ⟨F, P, β, η, S, h⟩ => ?_
  refine ⟨F, P, β, η, S, (Run.bind h).imp fun ds η1 S1 F1 β1 H1 s1 ⟨e1, b1, h1⟩ vs ra => ?_⟩
  obtain ⟨c, ec, s, q⟩ := Run.lift h1
  split at ec
  · rename_i hl
    cases ec
    have := ra.length
    refine ⟨by omega, fun p hp => ?_⟩
    have hf := s.fnone hp
    exact q (upd F1 p (.tup vs)) _ (Ex.new hf) (s.new hp) _ (.tup (SqT.of upd_same) (by omega) (ra.mono (Ex.new hf) (Bx.refl _)))
  · cases ec
theorem dn_lst {es : List Expr} {pos : Pos} {r : M (List D)} (h : DA X W es r) : DN X W (.List es pos) (lstN r) := by
  refine PE.imp (pe_lst h) fun σ H Q ⟨F, P, β, η, S, h⟩ => ?_
  refine ⟨F, P, β, η, S, (Run.bind h).imp fun ds η1 S1 F1 β1 H1 s1 ⟨e1, b1, h1⟩ vs ra => ?_⟩
  obtain ⟨c, ec, s, q⟩ := Run.lift h1
  split at ec
  · rename_i hl
    cases ec
    have := ra.length
    exact ⟨by omega, fun p hp => q F1 H1 (Ex.refl _) s p vs hp (by omega) ra⟩
  · cases ec

/-! ### items, slices -/
def itemD : D → D → Option D
  | .tup xs, .int i => atI xs i
  | .lst xs, .int i => atI xs i
  | .scr ns, .int i => (atI ns i).map .int
  | .str x, .int i => if x.length ≤ sizeLine then (atI x.cps.toList i).map fun c => .str ⟨#[c]⟩ else none
  | _, _ => none
theorem RAll.atI {K : KW} {F : Hp} {β : Nat → Option Addr} {vs : List V} {ds : List D} {i : Int} {d : D} (h : RAll K F β vs ds) (e : L2.atI ds i = some d) : ∃ v, L2.atI vs i = some v ∧ R K F β v d := by
  unfold L2.atI at *
  rw [h.length]
  cases q : ixN ds.length i with
  | none => rw [q] at e; cases e
  | some j => rw [q] at e; exact h.get e
theorem IxR.imp {r r' : R2} (h : IxR X r) (k : ∀ x y H Q, r' x y H Q → r x y H Q) : IxR X r' := fun va sl pins s σ H x y v u Q I rx ry q => h va sl pins s σ H x y v u Q I rx ry (k x y H Q q)
theorem cps_ok {x : Str} {i : Int} {c : Nat} (h : PyData.strOk x = true) (e : L2.atI x.cps.toList i = some c) : PyData.strOk ⟨#[c]⟩ = true := by
  unfold L2.atI at e
  cases q : ixN x.cps.toList.length i with
  | none => rw [q] at e; cases e
  | some j =>
    rw [q] at e
    have e : x.cps.toList[j]? = some c := e
    unfold PyData.strOk at h ⊢
    rw [← Array.all_toList] at h
    have := List.all_eq_true.mp h c (List.mem_of_getElem? e)
    simpa using this
theorem ix_item : IxR X (Ask2 X itemD) := by
  refine Y.IxR.imp (ix_seq) fun x y H Q q => ?_
  obtain ⟨F, P, β, σ, η, S, a, b, z, s, ra, rb, e, k⟩ := q
  unfold itemD at e
  split at e
  · cases ra with
    | tup h l al =>
      obtain ⟨v, e1, r1⟩ := al.atI e
      exact .inr (.inl ⟨_, _, _, v, rfl, rb.int_inv, s.fsub.t h, e1, k F H v (Ex.refl _) s r1⟩)
  · cases ra with
    | lst h l al =>
      obtain ⟨v, e1, r1⟩ := al.atI e
      exact .inl ⟨_, _, _, v, rfl, rb.int_inv, SqL.of (s.fsub _ _ h), e1, k F H v (Ex.refl _) s r1⟩
  · cases ra with
    | scr h l =>
      rename_i ns i p
      unfold L2.atI at e
      cases q : ixN ns.length i with
      | none => rw [q] at e; cases e
      | some j =>
        rw [q] at e
        cases q2 : ns[j]? with
        | none => simp [q2] at e
        | some n =>
          simp [q2] at e
          subst e
          refine .inl ⟨_, _, i, .int n, rfl, rb.int_inv, s.fsub.l h, ?_, k F H _ (Ex.refl _) s (.int n)⟩
          unfold L2.atI
          rw [List.length_map, q]
          show (ns.map V.int)[j]? = some (V.int n)
          rw [List.getElem?_map, q2]; rfl
  · split at e
    · rename_i x i hl
      cases ra with
      | str ok =>
        cases q : L2.atI x.cps.toList i with
        | none => rw [q] at e; cases e
        | some c =>
          rw [q] at e
          cases e
          exact .inr (.inr ⟨_, _, c, rfl, rb.int_inv, hl, q, k F H _ (Ex.refl _) s (.str (cps_ok ok q))⟩)
    · cases e
  · cases e
theorem de_item {a b : Expr} {pos : Pos} {ma mb : M D} (ha : DE X W a ma) (hb : DE X W b mb) (hs : PlainIx b := by intro _ _; rfl) : DE X W (.Subscript a b pos) (op2 itemD ma mb) :=
  PE.imp (pe_ix ix_item ha hb hs) fun _ _ _ h => run_op2 h

/-! ### calls of built-ins -/
def AskC (X : Cx) (g : List D → Option D) : List V → Hp → VK → Prop := fun vs H Q => ∃ F P β σ η S ds c, Ste X.kw X.mg F P β σ η S H ∧ RAll X.kw F β vs ds ∧ g ds = some c ∧
    ∀ F' H' v, Ex F F' → Ste X.kw X.mg F' P β σ η S H' → R X.kw F' β v c → Q v H'
theorem CallR.imp {f : Value} {r r' : List V → Hp → VK → Prop} (h : CallR X f r) (k : ∀ xs H Q, r' xs H Q → r xs H Q) : CallR X f r' := fun pins s σ H xs us Q I rx q => h pins s σ H xs us Q I rx (k xs H Q q)
theorem CallR.or {f : Value} {r r' : List V → Hp → VK → Prop} (h : CallR X f r) (h' : CallR X f r') : CallR X f (fun xs H Q => r xs H Q ∨ r' xs H Q) := fun pins s σ H xs us Q I rx q => q.elim (h pins s σ H xs us Q I rx) (h' pins s σ H xs us Q I rx)
def opC (g : List D → Option D) (r : M (List D)) : M D := r.bind fun ds => M.lift (g ds)
theorem run_opC {g : List D → Option D} {r : M (List D)} {σ : L2.St} {H : Hp} {Q : VK} (h : rdE X W (opC g r) σ H Q) : tCB (AskC X g) (rdA X W r) σ H Q := by
  obtain ⟨F, P, β, η, S, h⟩ := h
  refine ⟨F, P, β, η, S, (Run.bind h).imp fun ds η1 S1 F1 β1 H1 s1 ⟨e1, b1, h1⟩ vs r1 => ?_⟩
  obtain ⟨c, ec, s, p⟩ := Run.lift h1
  exact ⟨F1, P, β1, σ, η1, S1, ds, c, s, r1, ec, fun F' H' v e s => p F' H' e s v⟩
end
end Y
/-! Y4: statements, targets, loops, calls of own defs. -/
namespace Y
open PySem L2
inductive Fl where
  | nx | rt (d : D) | bk | ct
section
variable (X : Cx)
def PostS (W : WX) (F P : Hp) (β : Nat → Option Addr) (Dn : Ends) : Res Fl → Prop
  | .ok .nx η' S' => ∀ F' β' σ' H', Ex F F' → Bx β β' → Ste X.kw X.mg F' P β' σ' η' S' H' → Dn.nx σ' H'
  | .ok (.rt d) η' S' => ∀ F' β' σ' H' v, Ex F F' → Bx β β' → Ste X.kw X.mg F' P β' σ' η' S' H' → R X.kw F' β' v d → Dn.rt v H'
  | .ok .bk η' S' => ∀ F' β' σ' H', Ex F F' → Bx β β' → Ste X.kw X.mg F' P β' σ' η' S' H' → Dn.bk σ' H'
  | .ok .ct η' S' => ∀ F' β' σ' H', Ex F F' → Bx β β' → Ste X.kw X.mg F' P β' σ' η' S' H' → Dn.ct σ' H'
  | .ex x η' S' => ∀ F' β' σ' H' cls dct, Ex F F' → Bx β β' → Ste X.kw X.mg F' P β' σ' η' S' H' → XR X.kw X.mg F' β' cls dct x → W cls dct σ' H'
def RunS (W : WX) (m : M Fl) (F P : Hp) (β : Nat → Option Addr) (η : Sls) (S : Store) (σ : L2.St) (H : Hp) (Dn : Ends) : Prop :=
  ∃ r, m η S = some r ∧ Ste X.kw X.mg F P β σ η S H ∧ PostS X W F P β Dn r
def rdS (W : WX) (m : M Fl) : TS := fun Dn σ H => ∃ F P β η S, RunS X W m F P β η S σ H Dn
def DS (W : WX) (st : Stmt) (m : M Fl) : Prop := PS X st (rdS X W m)
def DSs (W : WX) (st : List Stmt) (m : M Fl) : Prop := PSs X st (rdS X W m)
end
section
variable {X : Cx} {W : WX}
theorem PostS.mono {F F1 P : Hp} {β β1 : Nat → Option Addr} {Dn : Ends} {r : Res Fl} (e : Ex F F1) (b : Bx β β1) (h : PostS X W F P β Dn r) : PostS X W F1 P β1 Dn r := by
  cases r with
  | ok f η S =>
    cases f with
    | nx => exact fun F' β' σ' H' e1 b1 => h F' β' σ' H' (e.trans e1) (b.trans b1)
    | bk => exact fun F' β' σ' H' e1 b1 => h F' β' σ' H' (e.trans e1) (b.trans b1)
    | ct => exact fun F' β' σ' H' e1 b1 => h F' β' σ' H' (e.trans e1) (b.trans b1)
    | rt d => exact fun F' β' σ' H' v e1 b1 => h F' β' σ' H' v (e.trans e1) (b.trans b1)
  | ex x η S => exact fun F' β' σ' H' c d e1 b1 => h F' β' σ' H' c d (e.trans e1) (b.trans b1)
/-- an expression's run, then a statement's -/
theorem Run.bindS {A : Type} {m : M A} {f : A → M Fl} {F P : Hp} {β : Nat → Option Addr} {η : Sls} {S : Store} {σ : L2.St} {H : Hp} {Dn : Ends} (h : RunS X W (m.bind f) F P β η S σ H Dn) :
    Run X W m F P β η S σ H (fun a η1 S1 F1 β1 H1 => Ex F F1 ∧ Bx β β1 ∧ RunS X W (f a) F1 P β1 η1 S1 σ H1 Dn) := by
  obtain ⟨r, e, s, p⟩ := h
  unfold M.bind at e
  cases q : m η S with
  | none => rw [q] at e; cases e
  | some r1 =>
    rw [q] at e
    refine ⟨r1, q, s, ?_⟩
    cases r1 with
    | ex x η' S' =>
      cases e
      exact fun F' β' H' c d e b s x => p F' β' σ H' c d e b s x
    | ok d η1 S1 =>
      intro F1 β1 H1 e1 b1 s1
      exact ⟨e1, b1, r, e, s1, p.mono e1 b1⟩
def seqS (m n : M Fl) : M Fl := m.bind fun f => match f with
  | .nx => n
  | f => M.ret f
def nop : M Fl := M.ret .nx
theorem dss_nil : DSs X W [] nop := PSs.imp pss_nil fun Dn σ H ⟨F, P, β, η, S, r, e, s, p⟩ => by
  cases e
  exact p F β σ H (Ex.refl _) (Bx.refl _) s
theorem dss_cons {st : Stmt} {rest : List Stmt} {m n : M Fl} (h1 : DS X W st m) (h2 : DSs X W rest n) : DSs X W (st :: rest) (seqS m n) := by
  refine PSs.imp (pss_cons h1 h2) fun Dn σ H ⟨F, P, β, η, S, r, e, s, p⟩ => ?_
  unfold seqS M.bind at e
  cases q : m η S with
  | none => rw [q] at e; cases e
  | some r1 =>
    rw [q] at e
    refine ⟨F, P, β, η, S, r1, q, s, ?_⟩
    cases r1 with
    | ex x η' S' => cases e; exact p
    | ok f η1 S1 =>
      cases f with
      | nx => exact fun F1 β1 σ1 H1 e1 b1 s1 => ⟨F1, P, β1, η1, S1, r, e, s1, p.mono e1 b1⟩
      | rt d => cases e; exact p
      | bk => cases e; exact p
      | ct => cases e; exact p
theorem dss_one {st : Stmt} {m : M Fl} (h1 : DS X W st m) : DSs X W [st] m := pss_one h1
def retV (m : M D) : M Fl := m.bind fun d => M.ret (.rt d)
theorem ds_ret {e : Expr} {pos : Pos} {m : M D} (h : DE X W e m) : DS X W (.Return (some e) pos) (retV m) := PS.imp (ps_ret h) fun Dn σ H ⟨F, P, β, η, S, q⟩ => by
  refine ⟨F, P, β, η, S, (Run.bindS q).imp fun d η1 S1 F1 β1 H1 s1 ⟨e1, b1, r, e, s, p⟩ v rv => ?_⟩
  cases e
  exact p F1 β1 σ H1 v (Ex.refl _) (Bx.refl _) s rv
theorem ds_retN {pos : Pos} : DS X W (.Return none pos) (M.ret (.rt .non)) := PS.imp ps_retN fun Dn σ H ⟨F, P, β, η, S, r, e, s, p⟩ => by
  cases e
  exact p F β σ H .non (Ex.refl _) (Bx.refl _) s .non
def ifS (t : M Bool) (a b : M Fl) : M Fl := t.bind fun c => if c = true then a else b
theorem ds_if {c : Expr} {a b : List Stmt} {pos : Pos} {t : M Bool} {m n : M Fl} (hc : DT X W c t) (ha : DSs X W a m) (hb : DSs X W b n) : DS X W (.If c a b pos) (ifS t m n) := PS.imp (ps_if hc ha hb) fun Dn σ H ⟨F, P, β, η, S, q⟩ => by
  refine ⟨F, P, β, η, S, (Run.bindS q).imp fun c η1 S1 F1 β1 H1 s1 ⟨e1, b1, h1⟩ => ?_⟩
  cases c with
  | true => exact iteT ⟨F1, P, β1, η1, S1, h1⟩
  | false => exact iteF ⟨F1, P, β1, η1, S1, h1⟩
def dropV (m : M D) : M Fl := m.bind fun _ => M.ret .nx
theorem ds_expr {e : Expr} {pos : Pos} {m : M D} (h : DE X W e m) (hs : swapsWith e none pos.line X.env = pure false := by rfl) : DS X W (.Expr e pos) (dropV m) := PS.imp (ps_expr h hs) fun Dn σ H ⟨F, P, β, η, S, q⟩ => by
  refine ⟨F, P, β, η, S, (Run.bindS q).imp fun d η1 S1 F1 β1 H1 s1 ⟨e1, b1, r, e, s, p⟩ v rv => ?_⟩
  cases e
  exact p F1 β1 σ H1 (Ex.refl _) (Bx.refl _) s
theorem ds_pass {pos : Pos} : DS X W (.Pass pos) nop := PS.imp ps_pass fun Dn σ H ⟨F, P, β, η, S, r, e, s, p⟩ => by
  cases e
  exact p F β σ H (Ex.refl _) (Bx.refl _) s
theorem ds_break {pos : Pos} : DS X W (.Break pos) (M.ret .bk) := PS.imp ps_break fun Dn σ H ⟨F, P, β, η, S, r, e, s, p⟩ => by
  cases e
  exact p F β σ H (Ex.refl _) (Bx.refl _) s
theorem ds_continue {pos : Pos} : DS X W (.Continue pos) (M.ret .ct) := PS.imp ps_continue fun Dn σ H ⟨F, P, β, η, S, r, e, s, p⟩ => by
  cases e
  exact p F β σ H (Ex.refl _) (Bx.refl _) s
theorem dss_nox {st : List Stmt} {m : M Fl} (h : DSs X.nox W st m) : DSs X W st m := L2.PSs.nox h

/-! ### names stored -/
theorem Ste.set {K : KW} {mg : Str → Option Value} {F P : Hp} {β : Nat → Option Addr} {σ : L2.St} {η : Sls} {S : Store} {H : Hp} (s : Ste K mg F P β σ η S H) {i : Nat} {v : V} {d : D} (r : R K F β v d) (hi : i < η.length) :
    Ste K mg F P β (σ.set i (some v)) (η.set i (.val d)) S H := by
  have back : ∀ {q a}, Own (σ.set i (some v)) (η.set i (.val d)) S β H q a → Own σ η S β H q a := by
    intro q a h
    cases q with
    | ob n => exact h
    | fd n f => exact h
    | sl j =>
      obtain ⟨c, h1, h2⟩ := h
      by_cases hj : i = j
      · subst hj
        rw [List.getElem?_set_self hi] at h1; cases h1
      · rw [List.getElem?_set_ne hj] at h1 h2
        exact ⟨c, h1, h2⟩
  refine ⟨s.fsub, s.psub, s.fp, by rw [List.length_set, List.length_set]; exact s.len, ?_, ?_, s.obs, s.top, fun p a h => s.free p a (back h), fun p q a h1 h2 => s.inj p q a (back h1) (back h2)⟩
  · intro j d' h
    by_cases hj : i = j
    · subst hj
      rw [List.getElem?_set_self hi] at h; cases h
      exact ⟨v, by rw [List.getElem?_set_self (by rw [s.len]; exact hi)], r⟩
    · rw [List.getElem?_set_ne hj] at h ⊢
      exact s.vals j d' h
  · intro j c h
    by_cases hj : i = j
    · subst hj
      rw [List.getElem?_set_self hi] at h; cases h
    · rw [List.getElem?_set_ne hj] at h ⊢
      exact s.owns j c h
def put (i : Nat) (d : D) : M Fl := fun η S => if i < η.length then some (.ok .nx (η.set i (.val d)) S) else none
def setV (i : Nat) (m : M D) : M Fl := m.bind fun d => put i d
theorem run_set {i : Nat} {d : D} {F P : Hp} {β : Nat → Option Addr} {η : Sls} {S : Store} {σ : L2.St} {H : Hp} {Dn : Ends} {v : V} (h : RunS X W (put i d) F P β η S σ H Dn) (r : R X.kw F β v d) : Dn.nx (σ.set i (some v)) H := by
  obtain ⟨r', e, s, p⟩ := h
  unfold put at e
  split at e
  · rename_i hi
    cases e
    exact p F β _ H (Ex.refl _) (Bx.refl _) (s.set r hi)
  · cases e
theorem ds_set {i : Nat} {x : Str} {e : Expr} {m : M D} {pos pos' : Pos} (h : ∀ {te : TE}, PE X e te → PS X (.Assign [.Name x pos'] e pos) (tAsg te (gName i))) (he : DE X W e m) : DS X W (.Assign [.Name x pos'] e pos) (setV i m) :=
  PS.imp (h he) fun Dn σ H ⟨F, P, β, η, S, q⟩ => ⟨F, P, β, η, S, (Run.bindS q).imp fun d η1 S1 F1 β1 H1 s1 ⟨e1, b1, h1⟩ v rv => run_set h1 rv⟩

/-! ### targets -/
section
variable (X : Cx)
def rdG (js : List Nat) (g : D → Sls → Option Sls) : TG := fun v σ H Q => ∃ F P β η S d η', Ste X.kw X.mg F P β σ η S H ∧ R X.kw F β v d ∧ g d η = some η' ∧
  ∀ σ', Ste X.kw X.mg F P β σ' η' S H → σ'.length = σ.length → (∀ j, j ∉ js → σ'[j]? = σ[j]?) → Q σ' H
def DG (tg : Expr) (js : List Nat) (g : D → Sls → Option Sls) : Prop := PG X tg (rdG X js g)
def rdGs (js : List Nat) (g : List D → Sls → Option Sls) : TGs := fun vs σ H Q => ∃ F P β η S ds η', Ste X.kw X.mg F P β σ η S H ∧ RAll X.kw F β vs ds ∧ g ds η = some η' ∧
  ∀ σ', Ste X.kw X.mg F P β σ' η' S H → σ'.length = σ.length → (∀ j, j ∉ js → σ'[j]? = σ[j]?) → Q σ' H
def DGs (tgs : List Expr) (js : List Nat) (g : List D → Sls → Option Sls) : Prop := PGs X tgs (rdGs X js g)
end
theorem PG.imp {tg : Expr} {t u : TG} (h : PG X tg t) (k : ∀ v σ H Q, u v σ H Q → t v σ H Q) : PG X tg u := ⟨fun pins s σ H v w Q I r q => h.run pins s σ H v w Q I r (k v σ H Q q)⟩
theorem PGs.imp {tgs : List Expr} {t u : TGs} (h : PGs X tgs t) (k : ∀ v σ H Q, u v σ H Q → t v σ H Q) : PGs X tgs u := ⟨fun pins s σ H v w Q I r q => h.run pins s σ H v w Q I r (k v σ H Q q)⟩
def gN (i : Nat) (d : D) (η : Sls) : Option Sls := if i < η.length then some (η.set i (.val d)) else none
theorem dg_name {i : Nat} {x : Str} {pos : Pos} (h : PG X (.Name x pos) (gName i)) : DG X (.Name x pos) [i] (gN i) := PG.imp h fun v σ H Q ⟨F, P, β, η, S, d, η', s, r, e, k⟩ => by
  unfold gN at e
  split at e
  · rename_i hi
    cases e
    refine k _ (s.set r hi) (by rw [List.length_set]) fun j hj => ?_
    rw [List.getElem?_set_ne (fun q => hj (by simp [q]))]
  · cases e
def gsNil (ds : List D) (η : Sls) : Option Sls := match ds with
  | [] => some η
  | _ => none
def gsCons (g : D → Sls → Option Sls) (gs : List D → Sls → Option Sls) (ds : List D) (η : Sls) : Option Sls := match ds with
  | d :: r => (g d η).bind (gs r)
  | [] => none
theorem dgs_nil : DGs X [] [] gsNil := PGs.imp pgs_nil fun vs σ H Q ⟨F, P, β, η, S, ds, η', s, r, e, k⟩ => by
  cases r with
  | nil => cases e; exact ⟨rfl, k σ s rfl fun _ _ => rfl⟩
  | cons _ _ => cases e
theorem dgs_cons {e : Expr} {es : List Expr} {is js : List Nat} {g : D → Sls → Option Sls} {gs : List D → Sls → Option Sls} (h1 : DG X e is g) (h2 : DGs X es js gs)
    (h : ∀ {t : TG} {u : TGs}, PG X e t → PGs X es u → PGs X (e :: es) (gCons t u)) : DGs X (e :: es) (is ++ js) (gsCons g gs) := PGs.imp (h h1 h2) fun vs σ H Q ⟨F, P, β, η, S, ds, η', s, r, e, k⟩ => by
  cases r with
  | nil => cases e
  | @cons v vs d ds r1 r2 =>
    refine ⟨v, vs, rfl, ?_⟩
    simp only [gsCons] at e
    cases q : g d η with
    | none => rw [q] at e; cases e
    | some η1 =>
      rw [q] at e
      refine ⟨F, P, β, η, S, d, η1, s, r1, q, fun σ1 s1 l1 k1 => ?_⟩
      refine ⟨F, P, β, η1, S, ds, η', s1, r2, e, fun σ2 s2 l2 k2 => k σ2 s2 (l2.trans l1) fun j hj => ?_⟩
      rw [k2 j (fun z => hj (List.mem_append_right _ z)), k1 j (fun z => hj (List.mem_append_left _ z))]
def gT (n : Nat) (gs : List D → Sls → Option Sls) (d : D) (η : Sls) : Option Sls := match d with
  | .tup ds => if ds.length = n then gs ds η else none
  | _ => none
theorem dg_tup {es : List Expr} {k : Nat} {pos : Pos} {n : Nat} {js : List Nat} {gs : List D → Sls → Option Sls} (hs : DGs X es js gs) (h : ∀ {t : TGs}, PGs X es t → PG X (.Tuple es k pos) (gTup X.K n t)) : DG X (.Tuple es k pos) js (gT n gs) :=
  PG.imp (h hs) fun v σ H Q ⟨F, P, β, η, S, d, η', s, r, e, k⟩ => by
    unfold gT at e
    split at e
    · rename_i ds
      split at e
      · rename_i hn
        cases r with
        | tup h l a =>
          have := a.length
          exact ⟨_, _, rfl, s.fsub.t h, by omega, F, P, β, η, S, ds, η', s, a, e, k⟩
      · cases e
    · cases e
def asgV (m : M D) (g : D → Sls → Option Sls) : M Fl := m.bind fun d η S => match g d η with
  | some η' => some (.ok .nx η' S)
  | none => none
theorem ds_asg {tg e : Expr} {pos : Pos} {m : M D} {js : List Nat} {g : D → Sls → Option Sls} (h : ∀ {te : TE} {t : TG}, PE X e te → PG X tg t → PS X (.Assign [tg] e pos) (tAsg te t)) (he : DE X W e m) (hg : DG X tg js g) : DS X W (.Assign [tg] e pos) (asgV m g) :=
  PS.imp (h he hg) fun Dn σ H ⟨F, P, β, η, S, q⟩ => ⟨F, P, β, η, S, (Run.bindS q).imp fun d η1 S1 F1 β1 H1 s1 ⟨e1, b1, r, e, s, p⟩ v rv => by
    cases qg : g d η1 with
    | none => simp only [qg] at e; cases e
    | some η' =>
      simp only [qg] at e
      cases e
      exact ⟨F1, P, β1, η1, S1, d, η', s, rv, qg, fun σ' s' _ _ => p F1 β1 σ' H1 (Ex.refl _) (Bx.refl _) s'⟩⟩
end
end Y
/-! Y5: calls of own defs; what is walked; for. -/
namespace Y
open PySem L2
section
variable {K : KW} {mg : Str → Option Value} {F F' P : Hp} {β β' : Nat → Option Addr} {σ : L2.St} {η : Sls} {S S' : Store} {H H' : Hp}
/-- what a frame owns, for a callee: kept -/
def SlOwn (σ : L2.St) (η : Sls) (a : Addr) : Prop := ∃ (i : Nat) (c : C), η[i]? = some (.own c) ∧ σ[i]? = some (some (.ref a))
open Classical in
noncomputable def Pc (σ : L2.St) (η : Sls) (H P : Hp) : Hp := fun a => if SlOwn σ η a then H a else P a
theorem pc_own {a : Addr} (h : SlOwn σ η a) : Pc σ η H P a = H a := by unfold Pc; rw [if_pos h]
theorem pc_not {a : Addr} (h : ¬ SlOwn σ η a) : Pc σ η H P a = P a := by unfold Pc; rw [if_neg h]
theorem own_sl {S : Store} {a : Addr} (h : SlOwn σ η a) : ∃ i, Own σ η S β H (.sl i) a := by
  obtain ⟨i, c, h1, h2⟩ := h
  exact ⟨i, c, h1, h2⟩
theorem Ste.enter (s : Ste K mg F P β σ η S H) : Ste K mg F (Pc σ η H P) β [] [] S H := by
  have up : ∀ {p a}, Own [] [] S β H p a → Own σ η S β H p a ∧ ∀ i, p ≠ .sl i := by
    intro p a h
    cases p with
    | sl i => obtain ⟨c, h1, _⟩ := h; simp at h1
    | ob n => exact ⟨h, fun i z => by cases z⟩
    | fd n f => exact ⟨h, fun i z => by cases z⟩
  refine ⟨s.fsub, fun a o h => ?_, fun a o h => ?_, rfl, fun i d h => by simp at h, fun i c h => by simp at h, s.obs, s.top, fun p a h => ?_, fun p q a h1 h2 => s.inj p q a (up h1).1 (up h2).1⟩
  · by_cases q : SlOwn σ η a
    · rw [pc_own q] at h; exact h
    · rw [pc_not q] at h; exact s.psub a o h
  · by_cases q : SlOwn σ η a
    · obtain ⟨i, q⟩ := own_sl (S := S) (β := β) (H := H) q
      have := (s.free _ _ q).1
      rw [h] at this; cases this
    · rw [pc_not q]; exact s.fp a o h
  · obtain ⟨h, n⟩ := up h
    refine ⟨(s.free _ _ h).1, ?_⟩
    by_cases q : SlOwn σ η a
    · obtain ⟨i, q⟩ := own_sl (S := S) (β := β) (H := H) q
      exact absurd (s.inj _ _ _ h q) (n i)
    · rw [pc_not q]; exact (s.free _ _ h).2
theorem Ste.leave (s : Ste K mg F P β σ η S H) (s' : Ste K mg F' (Pc σ η H P) β' [] [] S' H') (e : Ex F F') (b : Bx β β') : Ste K mg F' P β' σ η S' H' := by
  have pn : ∀ {a}, SlOwn σ η a → P a = none := fun {a} q => by
    obtain ⟨i, q⟩ := own_sl (S := S) (β := β) (H := H) q
    exact (s.free _ _ q).2
  have hs : ∀ {a}, SlOwn σ η a → ∃ o, H a = some o := fun {a} q => by
    obtain ⟨i, q⟩ := own_sl (S := S) (β := β) (H := H) q
    exact Own.there s q
  have pcn : ∀ {a}, Pc σ η H P a = none → P a = none ∧ ¬ SlOwn σ η a := fun {a} h => by
    by_cases q : SlOwn σ η a
    · rw [pc_own q] at h
      obtain ⟨o, z⟩ := hs q
      rw [h] at z; cases z
    · rw [pc_not q] at h; exact ⟨h, q⟩
  refine ⟨s'.fsub, fun a o h => ?_, fun a o h => (pcn (s'.fp a o h)).1, s.len, fun i d h => ?_, fun i c h => ?_, s'.obs, s'.top, fun p a h => ?_, fun p q a h1 h2 => ?_⟩
  · by_cases q : SlOwn σ η a
    · rw [pn q] at h; cases h
    · exact s'.psub a o (by rw [pc_not q]; exact h)
  · obtain ⟨v, h1, h2⟩ := s.vals i d h
    exact ⟨v, h1, h2.mono e b⟩
  · obtain ⟨a, h1, h2⟩ := s.owns i c h
    refine ⟨a, h1, (h2.heap fun o q => ?_).mono e b⟩
    exact s'.psub a o (by rw [pc_own ⟨i, c, h, h1⟩]; exact q)
  · cases p with
    | sl i =>
      have q : SlOwn σ η a := by obtain ⟨c, h1, h2⟩ := h; exact ⟨i, c, h1, h2⟩
      refine ⟨?_, pn q⟩
      cases z : F' a with
      | none => rfl
      | some o => exact absurd q (pcn (s'.fp a o z)).2
    | ob n =>
      have := s'.free (.ob n) a h
      exact ⟨this.1, (pcn this.2).1⟩
    | fd n f =>
      have := s'.free (.fd n f) a h
      exact ⟨this.1, (pcn this.2).1⟩
  · have sl : ∀ {i a}, Own σ η S' β' H' (.sl i) a → SlOwn σ η a := fun {i a} h => by obtain ⟨c, h1, h2⟩ := h; exact ⟨i, c, h1, h2⟩
    cases p with
    | sl i =>
      cases q with
      | sl j => exact s.inj (.sl i) (.sl j) a h1 h2
      | ob n => exact absurd (sl h1) (pcn (s'.free (.ob n) a h2).2).2
      | fd n f => exact absurd (sl h1) (pcn (s'.free (.fd n f) a h2).2).2
    | ob n =>
      cases q with
      | sl j => exact absurd (sl h2) (pcn (s'.free (.ob n) a h1).2).2
      | ob n' => exact s'.inj (.ob n) (.ob n') a h1 h2
      | fd n' f => exact s'.inj (.ob n) (.fd n' f) a h1 h2
    | fd n f =>
      cases q with
      | sl j => exact absurd (sl h2) (pcn (s'.free (.fd n f) a h1).2).2
      | ob n' => exact s'.inj (.fd n f) (.ob n') a h1 h2
      | fd n' f' => exact s'.inj (.fd n f) (.fd n' f') a h1 h2
end

/-! ### own defs -/
inductive Ret where
  | ok (d : D) (S : Store) | ex (x : Exn) (S : Store)
abbrev Fn := List D → Store → Option Ret
def toRet : Option (Res Fl) → Option Ret
  | some (.ok (.rt d) _ S') => some (.ok d S')
  | some (.ok .nx _ S') => some (.ok .non S')
  | some (.ex x _ S') => some (.ex x S')
  | _ => none
def frame (N : Nat) (ds : List D) : Sls := ds.map .val ++ List.replicate (N - ds.length) .un
/-- a def of n parameters and N names -/
def bodyFn (n N : Nat) (m : M Fl) : Fn := fun ds S => if ds.length = n then toRet (m (frame N ds) S) else none
def RetP (K : KW) (mg : Str → Option Value) (F P : Hp) (β : Nat → Option Addr) (Q : VK) (E : XK) : Ret → Prop
  | .ok d S' => ∀ F' β' H' v, Ex F F' → Bx β β' → Ste K mg F' P β' [] [] S' H' → R K F' β' v d → Q v H'
  | .ex x S' => ∀ F' β' H' cls dct, Ex F F' → Bx β β' → Ste K mg F' P β' [] [] S' H' → XR K mg F' β' cls dct x → E cls dct H'
/-- the promise: it is worth fn -/
def spF (K : KW) (mg : Str → Option Value) (n : Nat) (fn : Fn) : Sp := fun vs H Q E => ∃ F P β S ds r, ds.length = n ∧ fn ds S = some r ∧ RAll K F β vs ds ∧ Ste K mg F P β [] [] S H ∧ RetP K mg F P β Q E r
section
variable {X : Cx} {W : WX}
theorem Ste.bare {K : KW} {mg : Str → Option Value} {F P : Hp} {β : Nat → Option Addr} {σ : L2.St} {η : Sls} {S : Store} {H : Hp} (s : Ste K mg F P β σ η S H) : Ste K mg F P β [] [] S H := by
  have up : ∀ {p a}, Own [] [] S β H p a → Own σ η S β H p a := by
    intro p a h
    cases p with
    | sl i => obtain ⟨c, h1, _⟩ := h; simp at h1
    | ob n => exact h
    | fd n f => exact h
  exact ⟨s.fsub, s.psub, s.fp, rfl, fun i d h => by simp at h, fun i c h => by simp at h, s.obs, s.top, fun p a h => s.free p a (up h), fun p q a h1 h2 => s.inj p q a (up h1) (up h2)⟩
theorem RAll.start {K : KW} {F : Hp} {β : Nat → Option Addr} {vs : List V} {ds : List D} (r : RAll K F β vs ds) {i : Nat} {d : D} (h : (ds.map Sl.val)[i]? = some (.val d)) : ∃ v, (vs.map some)[i]? = some (some v) ∧ R K F β v d := by
  rw [List.getElem?_map] at h
  cases q : ds[i]? with
  | none => rw [q] at h; cases h
  | some d' =>
    rw [q] at h
    have : d' = d := by simpa using h
    subst this
    obtain ⟨v, h1, h2⟩ := r.get q
    exact ⟨v, by rw [List.getElem?_map, h1]; rfl, h2⟩
theorem Ste.begin {K : KW} {mg : Str → Option Value} {F P : Hp} {β : Nat → Option Addr} {S : Store} {H : Hp} (s : Ste K mg F P β [] [] S H) {vs : List V} {ds : List D} (r : RAll K F β vs ds) (N : List Str) :
    Ste K mg F P β (L2.start N vs) (frame N.length ds) S H := by
  have hl := r.length
  have noown : ∀ (i : Nat) (c : C), ¬ (frame N.length ds)[i]? = some (.own c) := fun i c h => by
    unfold frame at h
    by_cases hi : i < (ds.map Sl.val).length
    · rw [List.getElem?_append_left hi, List.getElem?_map] at h
      cases q : ds[i]? with
      | none => rw [q] at h; cases h
      | some d => rw [q] at h; cases h
    · rw [List.getElem?_append_right (by omega)] at h
      have := List.mem_of_getElem? h
      rw [List.mem_replicate] at this
      cases this.2
  have down : ∀ {p a}, Own (L2.start N vs) (frame N.length ds) S β H p a → Own [] [] S β H p a := by
    intro p a h
    cases p with
    | sl i => obtain ⟨c, h1, _⟩ := h; exact absurd h1 (noown i c)
    | ob n => exact h
    | fd n f => exact h
  refine ⟨s.fsub, s.psub, s.fp, ?_, fun i d h => ?_, fun i c h => absurd h (noown i c), s.obs, s.top, fun p a h => s.free p a (down h), fun p q a h1 h2 => s.inj p q a (down h1) (down h2)⟩
  · unfold L2.start frame
    simp [hl]
  · unfold frame at h
    unfold L2.start
    by_cases hi : i < (ds.map Sl.val).length
    · rw [List.getElem?_append_left hi] at h
      obtain ⟨v, h1, h2⟩ := r.start h
      refine ⟨v, ?_, h2⟩
      rw [List.getElem?_append_left (by rw [List.length_map] at hi ⊢; omega)]
      exact h1
    · rw [List.getElem?_append_right (by omega)] at h
      have := List.mem_of_getElem? h
      rw [List.mem_replicate] at this
      cases this.2
abbrev W0 : WX := fun _ _ _ _ => False
def callF (fn : Fn) (r : M (List D)) : M D := r.bind fun ds η S => match fn ds S with
  | some (.ok d S') => some (.ok d η S')
  | some (.ex x S') => some (.ex x η S')
  | none => none
theorem de_call {e : Expr} {es : List Expr} {n : Nat} {fn : Fn} {r : M (List D)} (h : ∀ {t : TA}, PA X es t → PE X e (tCallSD (spF X.kw X.mg n fn) [] (fun σ cls d H => W cls d σ H) t)) (ha : DA X W es r) (hn : ∀ ds S, ds.length ≠ n → fn ds S = none) : DE X W e (callF fn r) := by
  refine PE.imp (h ha) fun σ H Q ⟨F, P, β, η, S, q⟩ => ?_
  refine ⟨F, P, β, η, S, (Run.bind q).imp fun ds η1 S1 F1 β1 H1 s1 ⟨e1, b1, r, e, s, p⟩ vs rv => ?_⟩
  have hl : ds.length = n := by
    by_cases z : ds.length = n
    · exact z
    · simp only [hn ds S1 z] at e; cases e
  show spF X.kw X.mg n fn (vs ++ []) H1 Q _
  rw [List.append_nil]
  cases qf : fn ds S1 with
  | none => simp only [qf] at e; cases e
  | some rr =>
    refine ⟨F1, Pc σ η1 H1 P, β1, S1, ds, rr, hl, qf, rv, s.enter, ?_⟩
    cases rr with
    | ok d S2 =>
      simp only [qf] at e
      cases e
      exact fun F' β' H' v e2 b2 s2 r2 => p F' β' H' e2 b2 (s.leave s2 e2 b2) v r2
    | ex x S2 =>
      simp only [qf] at e
      cases e
      exact fun F' β' H' cls dct e2 b2 s2 r2 => p F' β' H' cls dct e2 b2 (s.leave s2 e2 b2) r2

/-! ### what is walked -/
/-- J yields ds -/
def ItOk (X : Cx) (F₀ : Hp) (β₀ : Nat → Option Addr) (J : It) (ds : List D) : Prop := ∀ F P β σ η S H i, Ex F₀ F → Bx β₀ β → Ste X.kw X.mg F P β σ η S H →
  (∀ d, ds[i]? = some d → J.go i H ∧ ∀ x H', J.yld i H x H' → ∃ F', Ex F F' ∧ Ste X.kw X.mg F' P β σ η S H' ∧ R X.kw F' β x d) ∧ (i = ds.length → J.stop i H)
theorem ItOk.mono {F₀ F₁ : Hp} {β₀ β₁ : Nat → Option Addr} {J : It} {ds : List D} (h : ItOk X F₀ β₀ J ds) (e : Ex F₀ F₁) (b : Bx β₀ β₁) : ItOk X F₁ β₁ J ds := fun F P β σ η S H i e1 b1 => h F P β σ η S H i (e.trans e1) (b.trans b1)
def rdI (X : Cx) (W : WX) (m : M (List D)) : TI := fun σ H Rk => ∃ F P β η S, Run X W m F P β η S σ H (fun ds _ _ F' β' H' => ∀ J, ItOk X F' β' J ds → Rk J H')
def DI (X : Cx) (W : WX) (tg iter : Expr) (m : M (List D)) : Prop := PI X tg iter (rdI X W m)
theorem PI.imp {tg iter : Expr} {t u : TI} (h : PI X tg iter t) (k : ∀ σ H R, u σ H R → t σ H R) : PI X tg iter u := ⟨fun pins s σ H R I q => h.run pins s σ H R I (k σ H R q)⟩
theorem PI.or {tg iter : Expr} {t u : TI} (h : PI X tg iter t) (k : PI X tg iter u) : PI X tg iter (fun σ H R => t σ H R ∨ u σ H R) := ⟨fun pins s σ H R I q => q.elim (h.run pins s σ H R I) (k.run pins s σ H R I)⟩

/-! ### for -/
def forL (g : D → Sls → Option Sls) (body : M Fl) : List D → M Fl
  | [] => M.ret .nx
  | d :: ds => fun η S => match g d η with
    | none => none
    | some η1 => match body η1 S with
      | none => none
      | some (.ok .nx η2 S2) => forL g body ds η2 S2
      | some (.ok .ct η2 S2) => forL g body ds η2 S2
      | some (.ok .bk η2 S2) => some (.ok .nx η2 S2)
      | some (.ok (.rt d) η2 S2) => some (.ok (.rt d) η2 S2)
      | some (.ex x η2 S2) => some (.ex x η2 S2)
def forS (m : M (List D)) (g : D → Sls → Option Sls) (body : M Fl) : M Fl := m.bind fun ds => forL g body ds
theorem run_for {m : M (List D)} {js : List Nat} {g : D → Sls → Option Sls} {body : M Fl} {Dn : Ends} {σ : L2.St} {H : Hp} (h : rdS X W (forS m g body) Dn σ H) : tFor (rdI X W m) (rdG X js g) (rdS X W body) Dn σ H := by
  obtain ⟨F, P, β, η, S, h⟩ := h
  refine ⟨F, P, β, η, S, (Run.bindS h).imp fun ds η1 S1 F1 β1 H1 s1 ⟨e1, b1, h1⟩ J hJ => ?_⟩
  refine ⟨fun i m σ H => m = ds.length - i ∧ i ≤ ds.length ∧ ∃ F2 β2 η2 S2, Ex F1 F2 ∧ Bx β1 β2 ∧ RunS X W (forL g body (ds.drop i)) F2 P β2 η2 S2 σ H Dn, ⟨_, rfl, Nat.zero_le _, F1, β1, η1, S1, Ex.refl _, Bx.refl _, h1⟩, ?_⟩
  rintro i m σ H ⟨rfl, hi, F2, β2, η2, S2, e2, b2, r, e, s, p⟩
  have it := hJ F2 P β2 σ η2 S2 H i e2 b2 s
  by_cases hlt : i < ds.length
  · refine .inr ?_
    have hd : ds[i]? = some ds[i] := List.getElem?_eq_getElem hlt
    obtain ⟨go, yld⟩ := it.1 _ hd
    rw [List.drop_eq_getElem_cons hlt] at e
    unfold forL at e
    cases qg : g ds[i] η2 with
    | none => simp only [qg] at e; cases e
    | some η3 =>
      simp only [qg] at e
      cases qb : body η3 S2 with
      | none => simp only [qb] at e; cases e
      | some rb =>
        simp only [qb] at e
        refine ⟨go, fun σ' H' => ∃ F4 β4 η4 S4, Ex F1 F4 ∧ Bx β1 β4 ∧ RunS X W (forL g body (ds.drop (i + 1))) F4 P β4 η4 S4 σ' H' Dn, fun σ' H' q => ⟨_, by omega, rfl, hlt, q⟩, fun x H' y => ?_⟩
        obtain ⟨F3, e3, s3, r3⟩ := yld x H' y
        refine ⟨F3, P, β2, η2, S2, _, η3, s3, r3, qg, fun σ3 s4 _ _ => ⟨F3, P, β2, η3, S2, rb, qb, s4, ?_⟩⟩
        cases rb with
        | ex x η4 S4 => cases e; exact p.mono e3 (Bx.refl _)
        | ok fl η4 S4 =>
          cases fl with
          | nx => exact fun F' β' σ' H' ea ba sa => ⟨F', β', η4, S4, (e2.trans e3).trans ea, b2.trans ba, r, e, sa, (p.mono e3 (Bx.refl _)).mono ea ba⟩
          | ct => exact fun F' β' σ' H' ea ba sa => ⟨F', β', η4, S4, (e2.trans e3).trans ea, b2.trans ba, r, e, sa, (p.mono e3 (Bx.refl _)).mono ea ba⟩
          | bk => cases e; exact fun F' β' σ' H' ea ba sa => p F' β' σ' H' (e3.trans ea) ba sa
          | rt d => cases e; exact p.mono e3 (Bx.refl _)
  · have hz : i = ds.length := by omega
    refine .inl ⟨it.2 hz, ?_⟩
    rw [List.drop_eq_nil_of_le (by omega)] at e
    cases e
    exact p F2 β2 σ H (Ex.refl _) (Bx.refl _) s
theorem ds_for {tg iter : Expr} {body : List Stmt} {pos : Pos} {m : M (List D)} {js : List Nat} {g : D → Sls → Option Sls} {b : M Fl} (h : ∀ {wi : TI} {t : TG} {tb : TS}, PI X tg iter wi → PG X tg t → PSs X body tb → PS X (.For tg iter body [] pos) (tFor wi t tb))
    (hi : DI X W tg iter m) (hg : DG X tg js g) (hb : DSs X W body b) : DS X W (.For tg iter body [] pos) (forS m g b) := PS.imp (h hi hg hb) fun _ _ _ q => run_for q
end
end Y
/-! Y6: list comprehensions. -/
namespace Y
open PySem L2
def wipeS (η : Sls) : List Nat → Sls
  | [] => η
  | v :: vs => (wipeS η vs).set v .un
def keepV : Option Sl → Sl
  | some (.val d) => .val d
  | _ => .un
def restore (η1 : Sls) : List Nat → Sls → Sls
  | [], η2 => η2
  | v :: vs, η2 => (restore η1 vs η2).set v (keepV η1[v]?)
theorem wipeS_length (η : Sls) : ∀ vs : List Nat, (wipeS η vs).length = η.length
  | [] => rfl
  | v :: vs => by unfold wipeS; rw [List.length_set, wipeS_length η vs]
theorem restore_length (η1 η : Sls) : ∀ vs : List Nat, (restore η1 vs η).length = η.length
  | [] => rfl
  | v :: vs => by unfold restore; rw [List.length_set, restore_length η1 η vs]
theorem wipe_get {σ : L2.St} {j : Nat} : ∀ {vs : List Nat}, j ∉ vs → (wipe σ vs)[j]? = σ[j]?
  | [], _ => rfl
  | v :: vs, h => by
    unfold wipe
    rw [List.getElem?_set_ne (fun z => h (by simp [z])), wipe_get (fun z => h (List.mem_cons_of_mem _ z))]
theorem wipeS_get {η : Sls} {j : Nat} : ∀ {vs : List Nat}, j ∉ vs → (wipeS η vs)[j]? = η[j]?
  | [], _ => rfl
  | v :: vs, h => by
    unfold wipeS
    rw [List.getElem?_set_ne (fun z => h (by simp [z])), wipeS_get (fun z => h (List.mem_cons_of_mem _ z))]
theorem wipeS_in {η : Sls} {j : Nat} {s : Sl} : ∀ {vs : List Nat}, j ∈ vs → (wipeS η vs)[j]? = some s → s = .un
  | [], h, _ => by cases h
  | v :: vs, h, e => by
    unfold wipeS at e
    by_cases z : v = j
    · subst z
      rw [List.getElem?_set] at e
      split at e
      · split at e
        · cases e; rfl
        · cases e
      · rename_i hne; exact absurd rfl hne
    · rw [List.getElem?_set_ne z] at e
      exact wipeS_in ((List.mem_cons.mp h).resolve_left (fun q => z q.symm)) e
theorem restore_get {η1 η : Sls} {j : Nat} : ∀ {vs : List Nat}, j ∉ vs → (restore η1 vs η)[j]? = η[j]?
  | [], _ => rfl
  | v :: vs, h => by
    unfold restore
    rw [List.getElem?_set_ne (fun z => h (by simp [z])), restore_get (fun z => h (List.mem_cons_of_mem _ z))]
theorem restore_in {η1 η : Sls} {j : Nat} {s : Sl} : ∀ {vs : List Nat}, j ∈ vs → (restore η1 vs η)[j]? = some s → s = keepV η1[j]?
  | [], h, _ => by cases h
  | v :: vs, h, e => by
    unfold restore at e
    by_cases z : v = j
    · subst z
      rw [List.getElem?_set] at e
      split at e
      · split at e
        · cases e; rfl
        · cases e
      · rename_i hne; exact absurd rfl hne
    · rw [List.getElem?_set_ne z] at e
      exact restore_in ((List.mem_cons.mp h).resolve_left (fun q => z q.symm)) e
section
variable {K : KW} {mg : Str → Option Value} {F F' P : Hp} {β β' : Nat → Option Addr} {σ : L2.St} {η η' : Sls} {S S' : Store} {H H' : Hp}
theorem Ste.wipe (s : Ste K mg F P β σ η S H) (vs : List Nat) : Ste K mg F P β (wipe σ vs) (wipeS η vs) S H := by
  have nin : ∀ {j s'}, (wipeS η vs)[j]? = some s' → s' ≠ .un → j ∉ vs := fun {j s'} h n hm => n (wipeS_in hm h)
  have up : ∀ {p a}, Own (L2.wipe σ vs) (wipeS η vs) S β H p a → Own σ η S β H p a := by
    intro p a h
    cases p with
    | ob n => exact h
    | fd n f => exact h
    | sl j =>
      obtain ⟨c, h1, h2⟩ := h
      have hj := nin h1 (fun z => by cases z)
      rw [wipeS_get hj] at h1
      rw [wipe_get hj] at h2
      exact ⟨c, h1, h2⟩
  refine ⟨s.fsub, s.psub, s.fp, by rw [wipe_length, wipeS_length]; exact s.len, fun j d h => ?_, fun j c h => ?_, s.obs, s.top, fun p a h => s.free p a (up h), fun p q a h1 h2 => s.inj p q a (up h1) (up h2)⟩
  · have hj := nin h (fun z => by cases z)
    rw [wipeS_get hj] at h
    rw [wipe_get hj]
    exact s.vals j d h
  · have hj := nin h (fun z => by cases z)
    rw [wipeS_get hj] at h
    rw [wipe_get hj]
    exact s.owns j c h
theorem Ste.restore (s1 : Ste K mg F P β σ η S H) {vs : List Nat} (s2 : Ste K mg F' P β' (L2.wipe σ vs) (wipeS η' vs) S' H') (e : Ex F F') (b : Bx β β') : Ste K mg F' P β' σ (Y.restore η vs η') S' H' := by
  have kp : ∀ {j s'}, (Y.restore η vs η')[j]? = some s' → (j ∈ vs ∧ s' = keepV η[j]?) ∨ (j ∉ vs ∧ (wipeS η' vs)[j]? = some s') := fun {j s'} h => by
    by_cases hj : j ∈ vs
    · exact .inl ⟨hj, restore_in hj h⟩
    · refine .inr ⟨hj, ?_⟩
      rw [restore_get hj] at h
      rw [wipeS_get hj]; exact h
  have notown : ∀ {j : Nat} {c : C}, Sl.own c ≠ keepV η[j]? := fun {j c} z => by
    unfold keepV at z
    split at z <;> cases z
  have up : ∀ {p a}, Own σ (Y.restore η vs η') S' β' H' p a → Own (L2.wipe σ vs) (wipeS η' vs) S' β' H' p a := by
    intro p a h
    cases p with
    | ob n => exact h
    | fd n f => exact h
    | sl j =>
      obtain ⟨c, h1, h2⟩ := h
      rcases kp h1 with ⟨hj, z⟩ | ⟨hj, z⟩
      · exact absurd z notown
      · exact ⟨c, z, by rw [wipe_get hj]; exact h2⟩
  refine ⟨s2.fsub, s2.psub, s2.fp, ?_, fun j d h => ?_, fun j c h => ?_, s2.obs, s2.top, fun p a h => s2.free p a (up h), fun p q a h1 h2 => s2.inj p q a (up h1) (up h2)⟩
  · have := s2.len
    rw [wipe_length, wipeS_length] at this
    rw [restore_length]; exact this
  · rcases kp h with ⟨hj, z⟩ | ⟨hj, z⟩
    · unfold keepV at z
      split at z
      · rename_i d' q
        cases z
        obtain ⟨v, h1, h2⟩ := s1.vals j d q
        exact ⟨v, h1, h2.mono e b⟩
      · cases z
    · obtain ⟨v, h1, h2⟩ := s2.vals j d z
      rw [wipe_get hj] at h1
      exact ⟨v, h1, h2⟩
  · rcases kp h with ⟨hj, z⟩ | ⟨hj, z⟩
    · exact absurd z notown
    · obtain ⟨a, h1, h2⟩ := s2.owns j c z
      rw [wipe_get hj] at h1
      exact ⟨a, h1, h2⟩
/-- a change of the heap at p alone, p kept by P (or new) -/
theorem Ste.atP (s : Ste K mg F P β σ η S H) {P' : Hp} {p : Addr} (hF : F p = none) (hO : ∀ q, ¬ Own σ η S β H q p) (hH : ∀ a, a ≠ p → H' a = H a) (hP : ∀ a, a ≠ p → P' a = P a) (hpp : ∀ o, P' p = some o → H' p = some o) : Ste K mg F P' β σ η S H' := by
  have obp : ∀ n b, (∃ u, S.get n = some u) → β n = some b → b ≠ p := fun n b hn hb z => hO (.ob n) ⟨hn, by rw [hb, z]⟩
  have back : ∀ {q a}, Own σ η S β H' q a → Own σ η S β H q a := fun h => Own.of_heap s (fun n b u hn hb e => by rw [hH b (obp n b hn hb)]; exact e) h
  have np : ∀ {q a}, Own σ η S β H q a → a ≠ p := fun {q a} h z => hO q (z ▸ h)
  refine ⟨fun a o e => ?_, fun a o e => ?_, fun a o e => ?_, s.len, s.vals, fun i c h => ?_, fun n u h => ?_, s.top, fun q a h => ?_, fun q r a h1 h2 => s.inj q r a (back h1) (back h2)⟩
  · have ne : a ≠ p := fun z => by rw [z, hF] at e; cases e
    rw [hH a ne]; exact s.fsub a o e
  · by_cases z : a = p
    · subst z; exact hpp o e
    · rw [hP a z] at e; rw [hH a z]; exact s.psub a o e
  · have ne : a ≠ p := fun z => by rw [z, hF] at e; cases e
    rw [hP a ne]; exact s.fp a o e
  · obtain ⟨a, h1, h2⟩ := s.owns i c h
    have ne : a ≠ p := np (q := .sl i) ⟨c, h, h1⟩
    exact ⟨a, h1, h2.heap fun o q => by rw [hH a ne]; exact q⟩
  · obtain ⟨a, h1, h2⟩ := s.obs n u h
    have hn : ∃ u, S.get n = some u := ⟨_, h⟩
    have ne : a ≠ p := obp n a hn h1
    refine ⟨a, h1, ?_⟩
    cases u with
    | box c => exact CR.heap (fun o q => by rw [hH a ne]; exact q) h2
    | lck c => exact CRz.heap (fun o q => by rw [hH a ne]; exact q) h2
    | ins cls fs =>
      obtain ⟨C, dx, vs, g1, g2, g3, g4, g5⟩ := h2
      refine ⟨C, dx, vs, g1, by rw [hH a ne]; exact g2, g3, g4, fun f s' q => ?_⟩
      obtain ⟨v, q1, q2⟩ := g5 f s' q
      refine ⟨v, q1, ?_⟩
      cases s' with
      | un => trivial
      | val d => exact q2
      | own c =>
        obtain ⟨b', r, q3⟩ := q2
        subst r
        have ne' : b' ≠ p := np (q := .fd n f) ⟨a, cls, fs, C, dx, vs, c, h1, h, g2, q, q1⟩
        exact ⟨b', rfl, q3.heap fun o q => by rw [hH b' ne']; exact q⟩
  · have h := back h
    have := s.free q a h
    exact ⟨this.1, by rw [hP a (np h)]; exact this.2⟩
theorem Ste.notOwn (s : Ste K mg F P β σ η S H) {p : Addr} {o : HO} (hp : P p = some o) : ∀ q, ¬ Own σ η S β H q p := fun q h => by
  have := (s.free q p h).2
  rw [hp] at this; cases this
theorem Ste.notOwnNew (s : Ste K mg F P β σ η S H) {p : Addr} (hp : H p = none) : ∀ q, ¬ Own σ η S β H q p := fun q h => Own.ne s h hp rfl
end

/-! ### list comprehensions -/
def lcL (vs : List Nat) (g : D → Sls → Option Sls) (t : M Bool) (e : M D) : List D → List D → M (List D)
  | [], acc => M.ret acc
  | d :: ds, acc => fun η S => match g d (wipeS η vs) with
    | none => none
    | some η1 => match t η1 S with
      | some (.ok true η2 S2) => (match e η2 S2 with
        | some (.ok y η3 S3) => if acc.length < sizeLine then lcL vs g t e ds (acc ++ [y]) η3 S3 else none
        | _ => none)
      | some (.ok false η2 S2) => lcL vs g t e ds acc η2 S2
      | _ => none
def lc (m : M (List D)) (vs : List Nat) (g : D → Sls → Option Sls) (t : M Bool) (e : M D) : M (List D) := m.bind fun ds η S => match lcL vs g t e ds [] η S with
  | some (.ok acc η' S') => some (.ok acc (restore η vs η') S')
  | _ => none
def yes : M Bool := M.ret true
section
variable {X : Cx} {W : WX}
theorem wipe_eq {σ σ' : L2.St} {js vs : List Nat} (hl : σ'.length = σ.length) (h : ∀ j, j ∉ js → σ'[j]? = σ[j]?) (hs : ∀ j ∈ js, j ∈ vs) : L2.wipe σ' vs = L2.wipe σ vs := by
  have set_in : ∀ (τ : L2.St) (us : List Nat) (j : Nat), j ∈ us → (L2.wipe τ us)[j]? = if j < τ.length then some none else none := by
    intro τ us
    induction us with
    | nil => intro j h; cases h
    | cons u us ih =>
      intro j h
      unfold L2.wipe
      by_cases z : u = j
      · subst z
        rw [List.getElem?_set]
        simp [wipe_length]
      · rw [List.getElem?_set_ne z]
        exact ih j ((List.mem_cons.mp h).resolve_left (fun q => z q.symm))
  apply List.ext_getElem?
  intro j
  by_cases hj : j ∈ vs
  · rw [set_in σ' vs j hj, set_in σ vs j hj, hl]
  · rw [wipe_get hj, wipe_get hj]
    exact h j (fun z => hj (hs j z))
theorem run_lc {W' : WX} {m : M (List D)} {js vs : List Nat} {g : D → Sls → Option Sls} {t : M Bool} {el : M D} {σ : L2.St} {H : Hp} {Q : VK} (hs : ∀ j ∈ js, j ∈ vs) (h : rdN X W (lc m vs g t el) σ H Q) :
    tLc (rdI X W m) (rdG X js g) (rdT X W' t) (rdE X W' el) vs σ H Q := by
  obtain ⟨F, P, β, η, S, h⟩ := h
  refine ⟨F, P, β, η, S, (Run.bind h).imp fun ds η1 S1 F1 β1 H1 s1 ⟨e1, b1, r, e, s, p⟩ J hJ => ?_⟩
  intro A hA
  cases qc : lcL vs g t el ds [] η1 S1 with
  | none => simp only [qc] at e; cases e
  | some rc =>
    cases rc with
    | ex x η' S' => simp only [qc] at e; cases e
    | ok final ηf Sf =>
      simp only [qc] at e
      cases e
      have hFA := s.fnone hA
      have hPA : P A = none := by
        cases q : P A with
        | none => rfl
        | some u => rw [s.psub _ _ q] at hA; cases hA
      have start0 : Ste X.kw X.mg F1 (upd P A (.lst [])) β1 (L2.wipe σ vs) (wipeS η1 vs) S1 (upd H1 A (.lst [])) := by
        refine Ste.atP (s.wipe vs) hFA ((s.wipe vs).notOwnNew hA) (fun a z => upd_ne z) (fun a z => upd_ne z) fun o z => ?_
        rw [upd_same] at z ⊢; exact z
      refine ⟨fun i m H => m = ds.length - i ∧ i ≤ ds.length ∧ ∃ F2 β2 η2 S2 acc accV, Ex F1 F2 ∧ Bx β1 β2 ∧ RAll X.kw F2 β2 accV acc ∧ accV.length ≤ sizeLine ∧ lcL vs g t el (ds.drop i) acc η2 S2 = some (.ok final ηf Sf) ∧
        Ste X.kw X.mg F2 (upd P A (.lst accV)) β2 (L2.wipe σ vs) (wipeS η2 vs) S2 H, ⟨_, rfl, Nat.zero_le _, F1, β1, η1, S1, [], [], Ex.refl _, Bx.refl _, .nil, Nat.zero_le _, qc, start0⟩, ?_⟩
      rintro i m H2 ⟨rfl, hi, F2, β2, η2, S2, acc, accV, e2, b2, ra, hal, el2, s2⟩
      have it := hJ F2 _ β2 _ _ S2 H2 i e2 b2 s2
      by_cases hlt : i < ds.length
      · refine .inr ?_
        have hd : ds[i]? = some ds[i] := List.getElem?_eq_getElem hlt
        obtain ⟨go, yld⟩ := it.1 _ hd
        rw [List.drop_eq_getElem_cons hlt] at el2
        unfold lcL at el2
        cases qg : g ds[i] (wipeS η2 vs) with
        | none => simp only [qg] at el2; cases el2
        | some η3 =>
          simp only [qg] at el2
          refine ⟨go, fun H' => ∃ F4 β4 η4 S4 acc' accV', Ex F1 F4 ∧ Bx β1 β4 ∧ RAll X.kw F4 β4 accV' acc' ∧ accV'.length ≤ sizeLine ∧ lcL vs g t el (ds.drop (i + 1)) acc' η4 S4 = some (.ok final ηf Sf) ∧
            Ste X.kw X.mg F4 (upd P A (.lst accV')) β4 (L2.wipe σ vs) (wipeS η4 vs) S4 H', fun H' q => ⟨_, by omega, rfl, hlt, q⟩, fun x H' y => ?_⟩
          obtain ⟨F3, e3, s3, r3⟩ := yld x H' y
          refine ⟨F3, _, β2, _, S2, _, η3, s3, r3, qg, fun σ3 s4 l4 k4 => ⟨?_, ?_⟩⟩
          · have := wipe_eq l4 k4 hs
            rw [this]
            apply List.ext_getElem?
            intro j
            by_cases hj : j ∈ vs
            · have aux : ∀ (τ : L2.St) (us : List Nat), j ∈ us → (L2.wipe τ us)[j]? = if j < τ.length then some none else none := by
                intro τ us
                induction us with
                | nil => intro h; cases h
                | cons u us ih =>
                  intro h
                  unfold L2.wipe
                  by_cases z : u = j
                  · subst z
                    rw [List.getElem?_set]
                    simp [wipe_length]
                  · rw [List.getElem?_set_ne z]
                    exact ih ((List.mem_cons.mp h).resolve_left (fun q => z q.symm))
              rw [aux _ vs hj, aux _ vs hj, wipe_length]
            · rw [wipe_get hj, wipe_get hj]
          · have hw : L2.wipe σ3 vs = L2.wipe σ vs := by
              have h1 := wipe_eq l4 k4 hs
              rw [h1]
              apply List.ext_getElem?
              intro j
              by_cases hj : j ∈ vs
              · have aux : ∀ (τ : L2.St) (us : List Nat), j ∈ us → (L2.wipe τ us)[j]? = if j < τ.length then some none else none := by
                  intro τ us
                  induction us with
                  | nil => intro h; cases h
                  | cons u us ih =>
                    intro h
                    unfold L2.wipe
                    by_cases z : u = j
                    · subst z
                      rw [List.getElem?_set]
                      simp [wipe_length]
                    · rw [List.getElem?_set_ne z]
                      exact ih ((List.mem_cons.mp h).resolve_left (fun q => z q.symm))
                rw [aux _ vs hj, aux _ vs hj, wipe_length]
              · rw [wipe_get hj, wipe_get hj]
            cases qt : t η3 S2 with
            | none => simp only [qt] at el2; cases el2
            | some rt =>
              cases rt with
              | ex x ηx Sx => simp only [qt] at el2; cases el2
              | ok bt ηt St =>
                refine ⟨F3, upd P A (.lst accV), β2, η3, S2, _, qt, s4, fun F5 β5 H5 e5 b5 s5 => ?_⟩
                cases bt with
                | false =>
                  simp only [qt] at el2
                  refine iteF ⟨F5, β5, ηt, St, acc, accV, (e2.trans e3).trans e5, b2.trans b5, (ra.mono e3 (Bx.refl _)).mono e5 b5, hal, el2, ?_⟩
                  have := s5.wipe vs
                  rw [hw] at this
                  exact this
                | true =>
                  simp only [qt] at el2
                  refine iteT ?_
                  cases qe : el ηt St with
                  | none => simp only [qe] at el2; cases el2
                  | some re =>
                    cases re with
                    | ex x ηx Sx => simp only [qe] at el2; cases el2
                    | ok y ηy Sy =>
                      simp only [qe] at el2
                      split at el2
                      · rename_i hacc
                        refine ⟨F5, upd P A (.lst accV), β5, ηt, St, _, qe, s5, fun F6 β6 H6 e6 b6 s6 v6 r6 => ?_⟩
                        have hal2 := ra.length
                        have hA6 : H6 A = some (.lst accV) := s6.psub A _ upd_same
                        refine ⟨accV, hA6, by omega, F6, β6, ηy, Sy, _, accV ++ [v6], ((e2.trans e3).trans e5).trans e6, (b2.trans b5).trans b6, ((((ra.mono e3 (Bx.refl _)).mono e5 b5).mono e6 b6).append (.cons r6 .nil)), by rw [List.length_append]; show accV.length + 1 ≤ sizeLine; omega, el2, ?_⟩
                        have s7 := s6.wipe vs
                        rw [hw] at s7
                        have hF6 : F6 A = none := by
                          cases q : F6 A with
                          | none => rfl
                          | some u => have := s7.fp A u q; rw [upd_same] at this; cases this
                        refine Ste.atP s7 hF6 (s7.notOwn (o := .lst accV) upd_same) (fun a z => upd_ne z) (fun a z => by rw [upd_ne z, upd_ne z]) fun o z => ?_
                        rw [upd_same] at z ⊢; exact z
                      · cases el2
      · have hz : i = ds.length := by omega
        refine .inl ⟨it.2 hz, ?_⟩
        rw [List.drop_eq_nil_of_le (by omega)] at el2
        cases el2
        have hA2 : H2 A = some (.lst accV) := s2.psub A _ upd_same
        have hF2 : F2 A = none := by
          cases q : F2 A with
          | none => rfl
          | some u => have := s2.fp A u q; rw [upd_same] at this; cases this
        have s3 : Ste X.kw X.mg F2 P β2 (L2.wipe σ vs) (wipeS ηf vs) Sf (fun b => if b = A then none else H2 b) := by
          refine Ste.atP s2 hF2 (s2.notOwn (o := .lst accV) upd_same) (fun a z => by simp [z]) (fun a z => by rw [upd_ne z]) fun o z => ?_
          rw [hPA] at z; cases z
        have s4 := Ste.restore s s3 e2 b2
        have := p F2 β2 _ e2 b2 s4 A accV (by simp) hal ra
        have hh : upd (fun b => if b = A then none else H2 b) A (.lst accV) = H2 := by
          funext b
          unfold upd
          by_cases z : b = A
          · subst z; simp [hA2]
          · simp [z]
        rw [hh] at this
        exact this
theorem rdT_yes {W' : WX} {σ : L2.St} {H : Hp} {Q : Bool → Hp → Prop} (h : rdT X W' yes σ H Q) : tYes σ H Q := by
  obtain ⟨F, P, β, η, S, h⟩ := h
  exact Run.ret (ok := okT Q) rfl h
def DTs (X : Cx) (W : WX) (ifs : List Expr) (m : M Bool) : Prop := PTs X ifs (rdT X W m)
theorem PTs.imp {ifs : List Expr} {t u : TT} (h : PTs X ifs t) (k : ∀ σ H Q, u σ H Q → t σ H Q) : PTs X ifs u := ⟨fun pins s σ H Q I q => h.run pins s σ H Q I (k σ H Q q)⟩
theorem dts_nil : DTs X W [] yes := PTs.imp pts_nil fun _ _ _ q => rdT_yes q
theorem dts_one {c : Expr} {m : M Bool} (h : DT X W c m) : DTs X W [c] m := pts_one h
theorem dn_lc {e : Expr} {vs js : List Nat} {m : M (List D)} {g : D → Sls → Option Sls} {t : M Bool} {el : M D} (hs : ∀ j ∈ js, j ∈ vs) (h : PE X e (tLc (rdI X W m) (rdG X js g) (rdT X W0 t) (rdE X W0 el) vs)) : DN X W e (lc m vs g t el) :=
  PE.imp h fun _ _ _ q => run_lc hs q
end
end Y
/-! Y7: what a for walks: lists, tuples, texts, ranges, enumerate, zip. -/
namespace Y
open PySem L2
section
variable {X : Cx} {W : WX}
def signs (x : Str) : List D := x.cps.toList.map fun c => .str ⟨#[c]⟩
def itemsD : D → Option (List D)
  | .lst xs => some xs
  | .tup xs => some xs
  | .scr ns => some (ns.map .int)
  | .str x => some (signs x)
  | _ => none
theorem RAll.ints {K : KW} {F : Hp} {β : Nat → Option Addr} : ∀ ns : List Int, RAll K F β (ns.map V.int) (ns.map D.int)
  | [] => .nil
  | n :: ns => .cons (.int n) (RAll.ints ns)
theorem it_list {F : Hp} {β : Nat → Option Addr} {a : Addr} {xs : List V} {ds : List D} (h : SqL X.K F a xs) (ra : RAll X.kw F β xs ds) : ItOk X F β (Itl X.K a) ds := by
  intro F1 P β1 σ η S H i e b s
  have hs : SqL X.K H a xs := s.fsub.l (e.l h)
  refine ⟨fun d hd => ?_, fun hi => ⟨xs, hs, by rw [ra.length]; omega⟩⟩
  obtain ⟨v, hv, rv⟩ := ra.get hd
  refine ⟨⟨xs, v, hs, hv⟩, fun x H' ⟨e1, e2⟩ => ?_⟩
  subst e1
  have := e2 xs hs
  rw [hv] at this
  cases this
  exact ⟨F1, Ex.refl _, s, rv.mono e b⟩
theorem it_tup {F : Hp} {β : Nat → Option Addr} {a : Addr} {xs : List V} {ds : List D} (h : SqT X.K F a xs) (ra : RAll X.kw F β xs ds) : ItOk X F β (Itt X.K a) ds := by
  intro F1 P β1 σ η S H i e b s
  have hs : SqT X.K H a xs := s.fsub.t (e.t h)
  refine ⟨fun d hd => ?_, fun hi => ⟨xs, hs, by rw [ra.length]; omega⟩⟩
  obtain ⟨v, hv, rv⟩ := ra.get hd
  refine ⟨⟨xs, v, hs, hv⟩, fun x H' ⟨e1, e2⟩ => ?_⟩
  subst e1
  have := e2 xs hs
  rw [hv] at this
  cases this
  exact ⟨F1, Ex.refl _, s, rv.mono e b⟩
theorem it_str {F : Hp} {β : Nat → Option Addr} {x : Str} (ok : PyData.strOk x = true) : ItOk X F β (Its x) (signs x) := by
  intro F1 P β1 σ η S H i e b s
  have hl : (signs x).length = x.cps.size := by unfold signs; rw [List.length_map, Array.length_toList]
  refine ⟨fun d hd => ?_, fun hi => by rw [hl] at hi; exact Nat.le_of_eq hi.symm⟩
  have hi : i < x.cps.size := by rw [← hl]; exact (List.getElem?_eq_some_iff.mp hd).1
  refine ⟨hi, fun v H' ⟨e1, c, e2, e3⟩ => ?_⟩
  subst e1 e3
  unfold signs at hd
  rw [List.getElem?_map] at hd
  have hc : x.cps.toList[i]? = some c := by rw [Array.getElem?_toList]; exact e2
  rw [hc] at hd
  cases hd
  refine ⟨F1, Ex.refl _, s, .str ?_⟩
  unfold PyData.strOk at ok ⊢
  rw [← Array.all_toList] at ok
  have := List.all_eq_true.mp ok c (List.mem_of_getElem? hc)
  simpa using this
theorem it_rng {F : Hp} {β : Nat → Option Addr} {lo : Int} {n : Nat} : ItOk X F β (Itr lo n) ((List.range n).map fun (i : Nat) => D.int (lo + i)) := by
  intro F1 P β1 σ η S H i e b s
  refine ⟨fun d hd => ?_, fun hi => by rw [List.length_map, List.length_range] at hi; exact Nat.le_of_eq hi.symm⟩
  have hi : i < n := by
    have := (List.getElem?_eq_some_iff.mp hd).1
    rw [List.length_map, List.length_range] at this; exact this
  refine ⟨hi, fun v H' ⟨e1, e2⟩ => ?_⟩
  subst e1 e2
  rw [List.getElem?_map, List.getElem?_range hi] at hd
  cases hd
  exact ⟨F1, Ex.refl _, s, .int _⟩
def iterV (m : M D) : M (List D) := m.bind fun d => M.lift (itemsD d)
theorem di_val {tg e : Expr} {m : M D} (h : DE X W e m) : DI X W tg e (iterV m) := by
  refine PI.imp (PI.or (pi_list (tg := tg) h) (PI.or (pi_tup (tg := tg) h) (pi_str (tg := tg) h))) fun σ H Rk ⟨F, P, β, η, S, q⟩ => ?_
  have q := Run.bind q
  -- which kind it is
  obtain ⟨r, e, s, p⟩ := q
  cases r with
  | ex x η1 S1 => exact .inl ⟨F, P, β, η, S, _, e, s, p⟩
  | ok d η1 S1 =>
    cases d with
    | lst ds =>
      refine .inl ⟨F, P, β, η, S, _, e, s, fun F1 β1 H1 e1 b1 s1 v rv => ?_⟩
      obtain ⟨_, _, h2⟩ := p F1 β1 H1 e1 b1 s1
      obtain ⟨c, ec, s2, p2⟩ := Run.lift h2
      cases ec
      cases rv with
      | lst hl ll ra => exact ⟨_, rfl, ⟨_, SqL.of (s1.fsub _ _ hl)⟩, p2 F1 H1 (Ex.refl _) s2 _ (it_list (SqL.of hl) ra)⟩
    | scr ns =>
      refine .inl ⟨F, P, β, η, S, _, e, s, fun F1 β1 H1 e1 b1 s1 v rv => ?_⟩
      obtain ⟨_, _, h2⟩ := p F1 β1 H1 e1 b1 s1
      obtain ⟨c, ec, s2, p2⟩ := Run.lift h2
      cases ec
      cases rv with
      | scr hl ll => exact ⟨_, rfl, ⟨_, s1.fsub.l hl⟩, p2 F1 H1 (Ex.refl _) s2 _ (it_list hl (RAll.ints ns))⟩
    | tup ds =>
      refine .inr (.inl ⟨F, P, β, η, S, _, e, s, fun F1 β1 H1 e1 b1 s1 v rv => ?_⟩)
      obtain ⟨_, _, h2⟩ := p F1 β1 H1 e1 b1 s1
      obtain ⟨c, ec, s2, p2⟩ := Run.lift h2
      cases ec
      cases rv with
      | tup hl ll ra => exact ⟨_, rfl, ⟨_, s1.fsub.t hl⟩, p2 F1 H1 (Ex.refl _) s2 _ (it_tup hl ra)⟩
    | str x =>
      refine .inr (.inr ⟨F, P, β, η, S, _, e, s, fun F1 β1 H1 e1 b1 s1 v rv => ?_⟩)
      obtain ⟨_, _, h2⟩ := p F1 β1 H1 e1 b1 s1
      obtain ⟨c, ec, s2, p2⟩ := Run.lift h2
      cases ec
      cases rv with
      | str ok => exact ⟨_, rfl, p2 F1 H1 (Ex.refl _) s2 _ (it_str ok)⟩
    | _ =>
      refine .inl ⟨F, P, β, η, S, _, e, s, fun F1 β1 H1 e1 b1 s1 v rv => ?_⟩
      obtain ⟨_, _, h2⟩ := p F1 β1 H1 e1 b1 s1
      obtain ⟨c, ec, s2, p2⟩ := Run.lift h2
      cases ec
/-! ### ranges -/
def rngL (lo hi : Int) : List D := (List.range (hi - lo).toNat).map fun (i : Nat) => D.int (lo + i)
def rng1 (ds : List D) : Option (List D) := match ds with
  | [.int j] => if -(2 ^ 62) ≤ j ∧ j < 2 ^ 62 then some (rngL 0 j) else none
  | _ => none
def rng2 (ds : List D) : Option (List D) := match ds with
  | [.int i, .int j] => if -(2 ^ 62) ≤ i ∧ i < 2 ^ 62 ∧ -(2 ^ 62) ≤ j ∧ j < 2 ^ 62 then some (rngL i j) else none
  | _ => none
def rngV (f : List D → Option (List D)) (r : M (List D)) : M (List D) := r.bind fun ds => M.lift (f ds)
theorem di_range1 {tg it a : Expr} {r : M (List D)} (h : ∀ {ta : TA}, PA X [a] ta → PI X tg it (iRng1 ta)) (ha : DA X W [a] r) : DI X W tg it (rngV rng1 r) := by
  refine PI.imp (h ha) fun σ H Rk ⟨F, P, β, η, S, q⟩ => ?_
  refine ⟨F, P, β, η, S, (Run.bind q).imp fun ds η1 S1 F1 β1 H1 s1 ⟨e1, b1, h1⟩ vs ra => ?_⟩
  obtain ⟨c, ec, s2, p2⟩ := Run.lift h1
  unfold rng1 at ec
  split at ec
  · rename_i j _
    split at ec
    · rename_i hj
      cases ec
      cases ra with
      | cons r1 r2 =>
        cases r2
        cases r1
        refine ⟨j, rfl, hj.1, hj.2, p2 F1 H1 (Ex.refl _) s2 _ ?_⟩
        have := it_rng (X := X) (F := F1) (β := β1) (lo := 0) (n := j.toNat)
        unfold rngL
        rw [show (j - 0).toNat = j.toNat by rw [Int.sub_zero]]
        exact this
    · cases ec
  · cases ec
theorem di_range2 {tg it a b : Expr} {r : M (List D)} (h : ∀ {ta : TA}, PA X [a, b] ta → PI X tg it (iRng2 ta)) (ha : DA X W [a, b] r) : DI X W tg it (rngV rng2 r) := by
  refine PI.imp (h ha) fun σ H Rk ⟨F, P, β, η, S, q⟩ => ?_
  refine ⟨F, P, β, η, S, (Run.bind q).imp fun ds η1 S1 F1 β1 H1 s1 ⟨e1, b1, h1⟩ vs ra => ?_⟩
  obtain ⟨c, ec, s2, p2⟩ := Run.lift h1
  unfold rng2 at ec
  split at ec
  · rename_i i j _
    split at ec
    · rename_i hj
      cases ec
      cases ra with
      | cons r1 r2 =>
        cases r2 with
        | cons r2 r3 =>
          cases r3
          cases r1
          cases r2
          exact ⟨i, j, rfl, hj, p2 F1 H1 (Ex.refl _) s2 _ it_rng⟩
    · cases ec
  · cases ec

/-! ### enumerate, zip -/
def enumL (ds : List D) : List D := (List.range ds.length).zipWith (fun (i : Nat) d => D.tup [.int i, d]) ds
theorem enumL_get {ds : List D} {i : Nat} : (enumL ds)[i]? = (ds[i]?).map fun d => D.tup [.int i, d] := by
  unfold enumL
  rw [List.getElem?_zipWith]
  by_cases h : i < ds.length
  · rw [List.getElem?_range h, List.getElem?_eq_getElem h]; rfl
  · rw [List.getElem?_eq_none (l := List.range ds.length) (by rw [List.length_range]; omega), List.getElem?_eq_none (l := ds) (by omega)]; rfl
theorem enumL_length {ds : List D} : (enumL ds).length = ds.length := by
  unfold enumL; simp
theorem it_enum {F : Hp} {β : Nat → Option Addr} {a : Addr} {xs : List V} {ds : List D} (h : SqL X.K F a xs) (ra : RAll X.kw F β xs ds) : ItOk X F β (Ite X.K a) (enumL ds) := by
  intro F1 P β1 σ η S H i e b s
  have hs : SqL X.K H a xs := s.fsub.l (e.l h)
  refine ⟨fun d hd => ?_, fun hi => ⟨xs, hs, by rw [ra.length]; rw [enumL_length] at hi; omega⟩⟩
  rw [enumL_get] at hd
  cases q : ds[i]? with
  | none => rw [q] at hd; cases hd
  | some d0 =>
    rw [q] at hd
    cases hd
    obtain ⟨v, hv, rv⟩ := ra.get q
    refine ⟨⟨xs, v, hs, hv⟩, fun x H' ⟨T, y, e1, e2, e3, e4⟩ => ?_⟩
    subst e1 e3
    have := e4 xs hs
    rw [hv] at this
    cases this
    have hf := s.fnone e2
    exact ⟨upd F1 T (.tup [.int (i : Nat), v]), Ex.new hf, s.new e2, .tup (SqT.of upd_same) (by show 2 ≤ sizeLine; decide) (.cons (.int _) (.cons ((rv.mono e b).mono (Ex.new hf) (Bx.refl _)) .nil))⟩
def enumD (ds : List D) : Option (List D) := match ds with
  | [.lst xs] => some (enumL xs)
  | _ => none
theorem di_enum {tg it a : Expr} {r : M (List D)} (h : ∀ {ta : TA}, PA X [a] ta → PI X tg it (iEnum X.K ta)) (ha : DA X W [a] r) : DI X W tg it (rngV enumD r) := by
  refine PI.imp (h ha) fun σ H Rk ⟨F, P, β, η, S, q⟩ => ?_
  refine ⟨F, P, β, η, S, (Run.bind q).imp fun ds η1 S1 F1 β1 H1 s1 ⟨e1, b1, h1⟩ vs ra => ?_⟩
  obtain ⟨c, ec, s2, p2⟩ := Run.lift h1
  unfold enumD at ec
  split at ec
  · cases ec
    cases ra with
    | cons r1 r2 =>
      cases r2
      cases r1 with
      | lst hl ll ra => exact ⟨_, _, rfl, SqL.of (s1.fsub _ _ hl), p2 F1 H1 (Ex.refl _) s2 _ (it_enum (SqL.of hl) ra)⟩
  · cases ec
def zipL (xs ys : List D) : List D := xs.zipWith (fun x y => D.tup [x, y]) ys
theorem it_zipT {F : Hp} {β : Nat → Option Addr} {a b : Addr} {xs ys : List V} {ds es : List D} (h : SqT X.K F a xs) (ra : RAll X.kw F β xs ds) (h' : SqT X.K F b ys) (rb : RAll X.kw F β ys es) : ItOk X F β (RZ.ItzT X.K a b) (zipL ds es) := by
  intro F1 P β1 σ η S H i e b s
  have hs := s.fsub.t (e.t h)
  have hs' := s.fsub.t (e.t h')
  refine ⟨fun d hd => ?_, fun hi => ⟨xs, ys, hs, hs', ?_⟩⟩
  · unfold zipL at hd
    rw [List.getElem?_zipWith] at hd
    cases q1 : ds[i]? with
    | none => simp [q1] at hd
    | some d1 =>
      cases q2 : es[i]? with
      | none => simp [q1, q2] at hd
      | some d2 =>
        simp only [q1, q2] at hd
        cases hd
        obtain ⟨v, hv, rv⟩ := ra.get q1
        obtain ⟨w, hw, rw'⟩ := rb.get q2
        refine ⟨⟨xs, ys, v, w, hs, hs', hv, hw⟩, fun x H' ⟨T, y, z, e1, e2, e3, e4, e5⟩ => ?_⟩
        subst e1 e3
        have := e4 xs hs
        rw [hv] at this
        cases this
        have := e5 ys hs'
        rw [hw] at this
        cases this
        have hf := s.fnone e2
        exact ⟨upd F1 T (.tup [v, w]), Ex.new hf, s.new e2, .tup (SqT.of upd_same) (by show 2 ≤ sizeLine; decide) (.cons ((rv.mono e b).mono (Ex.new hf) (Bx.refl _)) (.cons ((rw'.mono e b).mono (Ex.new hf) (Bx.refl _)) .nil))⟩
  · unfold zipL at hi
    rw [List.length_zipWith] at hi
    rw [ra.length, rb.length]
    omega
theorem it_zipL {F : Hp} {β : Nat → Option Addr} {a b : Addr} {xs ys : List V} {ds es : List D} (h : SqL X.K F a xs) (ra : RAll X.kw F β xs ds) (h' : SqL X.K F b ys) (rb : RAll X.kw F β ys es) : ItOk X F β (Itz X.K a b) (zipL ds es) := by
  intro F1 P β1 σ η S H i e b s
  have hs := s.fsub.l (e.l h)
  have hs' := s.fsub.l (e.l h')
  refine ⟨fun d hd => ?_, fun hi => ⟨xs, ys, hs, hs', ?_⟩⟩
  · unfold zipL at hd
    rw [List.getElem?_zipWith] at hd
    cases q1 : ds[i]? with
    | none => simp [q1] at hd
    | some d1 =>
      cases q2 : es[i]? with
      | none => simp [q1, q2] at hd
      | some d2 =>
        simp only [q1, q2] at hd
        cases hd
        obtain ⟨v, hv, rv⟩ := ra.get q1
        obtain ⟨w, hw, rw'⟩ := rb.get q2
        refine ⟨⟨xs, ys, v, w, hs, hs', hv, hw⟩, fun x H' ⟨T, y, z, e1, e2, e3, e4, e5⟩ => ?_⟩
        subst e1 e3
        have := e4 xs hs
        rw [hv] at this
        cases this
        have := e5 ys hs'
        rw [hw] at this
        cases this
        have hf := s.fnone e2
        exact ⟨upd F1 T (.tup [v, w]), Ex.new hf, s.new e2, .tup (SqT.of upd_same) (by show 2 ≤ sizeLine; decide) (.cons ((rv.mono e b).mono (Ex.new hf) (Bx.refl _)) (.cons ((rw'.mono e b).mono (Ex.new hf) (Bx.refl _)) .nil))⟩
  · unfold zipL at hi
    rw [List.length_zipWith] at hi
    rw [ra.length, rb.length]
    omega
def zipD (ds : List D) : Option (List D) := match ds with
  | [.tup xs, .tup ys] => some (zipL xs ys)
  | [.lst xs, .lst ys] => some (zipL xs ys)
  | _ => none
theorem di_zip {tg it a b : Expr} {r : M (List D)} (h : ∀ {ta : TA}, PA X [a, b] ta → PI X tg it (RZ.iZipA X.K ta)) (ha : DA X W [a, b] r) : DI X W tg it (rngV zipD r) := by
  refine PI.imp (h ha) fun σ H Rk ⟨F, P, β, η, S, q⟩ => ?_
  refine ⟨F, P, β, η, S, (Run.bind q).imp fun ds η1 S1 F1 β1 H1 s1 ⟨e1, b1, h1⟩ vs ra => ?_⟩
  obtain ⟨c, ec, s2, p2⟩ := Run.lift h1
  unfold zipD at ec
  split at ec
  · cases ec
    cases ra with
    | cons r1 r2 =>
      cases r2 with
      | cons r2 r3 =>
        cases r3
        cases r1 with
        | tup hl ll ra => cases r2 with
          | tup hl' ll' ra' => exact ⟨_, _, _, _, rfl, .inr ⟨s1.fsub.t hl, s1.fsub.t hl', p2 F1 H1 (Ex.refl _) s2 _ (it_zipT hl ra hl' ra')⟩⟩
  · cases ec
    cases ra with
    | cons r1 r2 =>
      cases r2 with
      | cons r2 r3 =>
        cases r3
        cases r1 with
        | lst hl ll ra => cases r2 with
          | lst hl' ll' ra' => exact ⟨_, _, _, _, rfl, .inl ⟨SqL.of (s1.fsub _ _ hl), SqL.of (s1.fsub _ _ hl'), p2 F1 H1 (Ex.refl _) s2 _ (it_zipL (SqL.of hl) ra (SqL.of hl') ra')⟩⟩
  · cases ec
end
end Y
/-! Y8: built-ins over data. -/
namespace Y
open PySem L2
section
variable {X : Cx} {W : WX}
/-! ### isinstance -/
def D.tyN : D → Option String
  | .non => some "NoneType"
  | .bl _ => some "bool"
  | .int _ => some "int"
  | .str _ => some "str"
  | .tup _ => some "tuple"
  | .lst _ => some "list"
  | .scr _ => some "list"
  | .dd _ => some "dict"
  | _ => none
theorem R.tyX {K : KW} {F H : Hp} {β : Nat → Option Addr} {v : V} {d : D} {T : String} (e : Ex F H) (r : R K F β v d) (h : d.tyN = some T) : TyX K.1 H v (.type T) := by
  cases r with
  | non => cases h; exact .base .non
  | bl b => cases h; exact .base (.bl b)
  | int b => cases h; exact .base (.int b)
  | str b => cases h; exact .base (.str _)
  | ty n => cases h
  | exn => cases h
  | exf => cases h
  | tup s l a =>
    cases h
    rcases e.t s with (z | ⟨o, z⟩) | ⟨o, its, n, z, c, _⟩
    · exact .base (.tup z)
    · exact .fTuple z
    · exact .kTuple z c
  | lst s l a => cases h; exact .base (.lst (e _ _ s))
  | scr s l =>
    cases h
    rcases e.l s with (z | ⟨o, z⟩) | ⟨o, its, n, z, c, _⟩
    · exact .base (.lst z)
    · exact .base (.frz z)
    · exact .kList z c
  | d0 s => cases h; exact .base (.dK (e _ _ s))
  | ob s => cases h
  | ss s o => cases h
/-- isinstance of built-in kinds, by table -/
def isTy (a T : String) : Option Bool :=
  if T = "int" then some (a == "int" || a == "bool") else if T = "bool" then some (a == "bool") else if T = "str" then some (a == "str") else if T = "tuple" then some (a == "tuple") else if T = "list" then some (a == "list") else if T = "dict" then some (a == "dict") else none
theorem isTy_kit {a T : String} {b : Bool} {d : D} (hd : d.tyN = some a) (h : isTy a T = some b) : kitB a T = some b := by
  have ha : a = "NoneType" ∨ a = "bool" ∨ a = "int" ∨ a = "str" ∨ a = "tuple" ∨ a = "list" ∨ a = "dict" := by
    cases d <;> simp [D.tyN] at hd <;> simp [← hd]
  have hT : T = "int" ∨ T = "bool" ∨ T = "str" ∨ T = "tuple" ∨ T = "list" ∨ T = "dict" := by
    unfold isTy at h
    repeat' split at h
    all_goals first | (rename_i q; simp [q]; done) | skip
    cases h
  rcases ha with rfl | rfl | rfl | rfl | rfl | rfl | rfl <;> rcases hT with rfl | rfl | rfl | rfl | rfl | rfl <;> (revert h; cases b <;> decide +kernel)
def isiD (ds : List D) : Option D := match ds with
  | [x, .ty T] => (x.tyN).bind fun a => (isTy a T).map .bl
  | _ => none
theorem cd_isi : CallR X (.builtin "isinstance") (AskC X isiD) := Y.CallR.imp call_isi fun vs H Q q => by
  obtain ⟨F, P, β, σ, η, S, ds, c, s, ra, e, k⟩ := q
  unfold isiD at e
  split at e
  · rename_i x T
    cases ra with
    | cons r1 r2 => cases r2 with
      | cons r2 r3 =>
        cases r3
        cases r2
        cases q1 : x.tyN with
        | none => rw [q1] at e; cases e
        | some a =>
          rw [q1] at e
          cases q2 : isTy a T with
          | none => simp [q2] at e
          | some b =>
            simp [q2] at e
            subst e
            exact ⟨_, _, _, _, b, rfl, .ty T, r1.tyX s.fsub q1, kit_ty (isTy_kit q1 q2), k F H _ (Ex.refl _) s (.bl b)⟩
  · cases e
/-! ### len -/
def lenD (ds : List D) : Option D := match ds with
  | [.lst xs] => some (.int xs.length)
  | [.tup xs] => some (.int xs.length)
  | [.scr xs] => some (.int xs.length)
  | [.str x] => if x.length ≤ sizeLine then some (.int x.length) else none
  | _ => none
theorem cd_len : CallR X (.builtin "len") (AskC X lenD) := Y.CallR.imp (Y.CallR.or call_len_seq call_len_str) fun vs H Q q => by
  obtain ⟨F, P, β, σ, η, S, ds, c, s, ra, e, k⟩ := q
  unfold lenD at e
  split at e
  · cases e
    cases ra with
    | cons r1 r2 =>
      cases r2
      cases r1 with
      | lst h l a =>
        refine .inl ⟨_, _, rfl, .inl (SqL.of (s.fsub _ _ h)), ?_⟩
        rw [a.length]
        exact k F H _ (Ex.refl _) s (.int _)
  · cases e
    cases ra with
    | cons r1 r2 =>
      cases r2
      cases r1 with
      | tup h l a =>
        refine .inl ⟨_, _, rfl, .inr (s.fsub.t h), ?_⟩
        rw [a.length]
        exact k F H _ (Ex.refl _) s (.int _)
  · cases e
    cases ra with
    | cons r1 r2 =>
      cases r2
      cases r1 with
      | scr h l =>
        refine .inl ⟨_, _, rfl, .inl (s.fsub.l h), ?_⟩
        rw [List.length_map]
        exact k F H _ (Ex.refl _) s (.int _)
  · split at e
    · rename_i hl
      cases e
      cases ra with
      | cons r1 r2 =>
        cases r2
        cases r1
        exact .inr ⟨_, rfl, hl, k F H _ (Ex.refl _) s (.int _)⟩
    · cases e
  · cases e
/-! ### all, any -/
def bools : List D → Option (List Bool)
  | [] => some []
  | .bl b :: r => (bools r).map (b :: ·)
  | _ => none
theorem bools_all {K : KW} {F : Hp} {β : Nat → Option Addr} : ∀ {ds : List D} {bs : List Bool} {vs : List V}, bools ds = some bs → RAll K F β vs ds → vs = bs.map V.bl
  | [], _, _, h, r => by cases h; cases r; rfl
  | d :: ds, bs, vs, h, r => by
    cases r with
    | cons r1 r2 =>
      cases d with
      | bl b =>
        simp only [bools] at h
        cases q : bools ds with
        | none => rw [q] at h; cases h
        | some cs =>
          rw [q] at h
          cases h
          cases r1
          rw [bools_all q r2]; rfl
      | _ => simp [bools] at h
def allD (ds : List D) : Option D := match ds with
  | [.lst xs] => (bools xs).map fun bs => .bl (bs.all id)
  | _ => none
def anyD (ds : List D) : Option D := match ds with
  | [.lst xs] => (bools xs).map fun bs => .bl (bs.any id)
  | _ => none
theorem cd_all (hc : X.calm = true) : CallR X (.builtin "all") (AskC X allD) := Y.CallR.imp (cr_all hc) fun vs H Q q => by
  obtain ⟨F, P, β, σ, η, S, ds, c, s, ra, e, k⟩ := q
  unfold allD at e
  split at e
  · rename_i xs
    cases qb : bools xs with
    | none => rw [qb] at e; cases e
    | some bs =>
      rw [qb] at e; cases e
      cases ra with
      | cons r1 r2 =>
        cases r2
        cases r1 with
        | lst h l a => exact ⟨_, bs, rfl, SqL.of (by rw [← bools_all qb a]; exact s.fsub _ _ h), k F H _ (Ex.refl _) s (.bl _)⟩
  · cases e
theorem cd_any (hc : X.calm = true) : CallR X (.builtin "any") (AskC X anyD) := Y.CallR.imp (cr_any hc) fun vs H Q q => by
  obtain ⟨F, P, β, σ, η, S, ds, c, s, ra, e, k⟩ := q
  unfold anyD at e
  split at e
  · rename_i xs
    cases qb : bools xs with
    | none => rw [qb] at e; cases e
    | some bs =>
      rw [qb] at e; cases e
      cases ra with
      | cons r1 r2 =>
        cases r2
        cases r1 with
        | lst h l a => exact ⟨_, bs, rfl, SqL.of (by rw [← bools_all qb a]; exact s.fsub _ _ h), k F H _ (Ex.refl _) s (.bl _)⟩
  · cases e
/-! ### max(a, b), int(x) -/
def maxD (ds : List D) : Option D := match ds with
  | [.int i, .int j] => some (.int (if j > i then j else i))
  | _ => none
theorem cd_max (hc : X.calm = true) : CallR X (.builtin "max") (AskC X maxD) := Y.CallR.imp (call_max2 hc) fun vs H Q q => by
  obtain ⟨F, P, β, σ, η, S, ds, c, s, ra, e, k⟩ := q
  unfold maxD at e
  split at e
  · cases e
    cases ra with
    | cons r1 r2 => cases r2 with
      | cons r2 r3 =>
        cases r3; cases r1; cases r2
        exact ⟨_, _, rfl, k F H _ (Ex.refl _) s (.int _)⟩
  · cases e
def intD (ds : List D) : Option D := match ds with
  | [.int i] => some (.int i)
  | [.bl b] => some (.int (if b then 1 else 0))
  | _ => none
theorem cd_int : CallR X (.type "int") (AskC X intD) := Y.CallR.imp call_int1 fun vs H Q q => by
  obtain ⟨F, P, β, σ, η, S, ds, c, s, ra, e, k⟩ := q
  unfold intD at e
  split at e
  · cases e
    cases ra with
    | cons r1 r2 => cases r2; cases r1; exact .inl ⟨_, rfl, k F H _ (Ex.refl _) s (.int _)⟩
  · cases e
    cases ra with
    | cons r1 r2 => cases r2; cases r1; exact .inr ⟨_, rfl, k F H _ (Ex.refl _) s (.int _)⟩
  · cases e
/-! ### tuple(x) -/
def tupleD (ds : List D) : Option D := match ds with
  | [.lst xs] => some (.tup xs)
  | [.tup xs] => some (.tup xs)
  | _ => none
theorem cd_tuple : CallR X (.type "tuple") (AskC X tupleD) := Y.CallR.imp call_tuple_of fun vs H Q q => by
  obtain ⟨F, P, β, σ, η, S, ds, c, s, ra, e, k⟩ := q
  unfold tupleD at e
  split at e
  · cases e
    cases ra with
    | cons r1 r2 =>
      cases r2
      cases r1 with
      | lst h l a =>
        refine ⟨_, _, rfl, .inl ⟨SqL.of (s.fsub _ _ h), fun p hp => ?_⟩⟩
        have hf := s.fnone hp
        exact k (upd F p (.tup _)) _ _ (Ex.new hf) (s.new hp) (.tup (SqT.of upd_same) l (a.mono (Ex.new hf) (Bx.refl _)))
  · cases e
    cases ra with
    | cons r1 r2 =>
      cases r2
      cases r1 with
      | tup h l a => exact ⟨_, _, rfl, .inr ⟨s.fsub.t h, k F H _ (Ex.refl _) s (.tup h l a)⟩⟩
  · cases e
/-! ### slices -/
def cutL {α : Type} (xs : List α) (lo hi : Option Int) : List α := (xs.drop (HT.sIx xs.length 0 lo)).take (HT.sIx xs.length xs.length hi - HT.sIx xs.length 0 lo)
def cutD (d : D) (lo hi : Option Int) : Option D := match d with
  | .tup xs => some (.tup (cutL xs lo hi))
  | .lst xs => some (.lst (cutL xs lo hi))
  | .scr ns => some (.lst ((cutL ns lo hi).map .int))
  | _ => none
theorem RAll.cut {K : KW} {F : Hp} {β : Nat → Option Addr} {vs : List V} {ds : List D} (a : RAll K F β vs ds) (lo hi : Option Int) : RAll K F β (cutV vs lo hi) (cutL ds lo hi) := by
  unfold cutV cutL
  rw [a.length]
  exact (a.drop _).take _
theorem cutV_len {vs : List V} {lo hi : Option Int} (h : vs.length ≤ sizeLine) : (cutV vs lo hi).length ≤ sizeLine := by
  unfold cutV
  rw [List.length_take, List.length_drop]
  omega
def AskS (X : Cx) : V → Option Int → Option Int → Hp → VK → Prop := fun x lo hi H Q => ∃ F P β σ η S d c, Ste X.kw X.mg F P β σ η S H ∧ R X.kw F β x d ∧ cutD d lo hi = some c ∧
    ∀ F' H' v, Ex F F' → Ste X.kw X.mg F' P β σ η S H' → R X.kw F' β v c → Q v H'
theorem SlR.imp {r r' : V → Option Int → Option Int → Hp → VK → Prop} (h : L2.SlR X r) (k : ∀ x lo hi H Q, r' x lo hi H Q → r x lo hi H Q) : L2.SlR X r' := by
  unfold L2.SlR at *
  intros
  apply h <;> first | assumption | (apply k; assumption)
theorem sl_cut : L2.SlR X (AskS X) := by
  refine Y.SlR.imp (L2.SlR.or sl_list sl_tupA) fun x lo hi H Q q => ?_
  obtain ⟨F, P, β, σ, η, S, d, c, s, r, e, k⟩ := q
  unfold cutD at e
  split at e
  · cases e
    cases r with
    | tup h l a =>
      refine .inr ⟨_, _, rfl, s.fsub.t h, fun z => ?_, fun _ p hp => ?_⟩
      · rename_i xs ys _
        have : cutL xs lo hi = xs := by
          unfold cutL
          rw [← a.length, z.1, z.2, List.drop_zero, Nat.sub_zero, a.length, List.take_length]
        rw [this] at k
        exact k F H _ (Ex.refl _) s (.tup h l a)
      · have hf := s.fnone hp
        exact k (upd F p (.tup _)) _ _ (Ex.new hf) (s.new hp) (.tup (SqT.of upd_same) (cutV_len l) ((a.cut lo hi).mono (Ex.new hf) (Bx.refl _)))
  · cases e
    cases r with
    | lst h l a =>
      refine .inl ⟨_, _, rfl, SqL.of (s.fsub _ _ h), fun p hp => ?_⟩
      have hf := s.fnone hp
      exact k (upd F p (.lst _)) _ _ (Ex.new hf) (s.new hp) (.lst upd_same (cutV_len l) ((a.cut lo hi).mono (Ex.new hf) (Bx.refl _)))
  · cases e
    cases r with
    | scr h l =>
      rename_i ns _
      refine .inl ⟨_, _, rfl, s.fsub.l h, fun p hp => ?_⟩
      have hf := s.fnone hp
      refine k (upd F p (.lst _)) _ _ (Ex.new hf) (s.new hp) (.lst upd_same (cutV_len (by rw [List.length_map]; exact l)) ?_)
      have e : (cutL ns lo hi).map D.int = cutL (ns.map D.int) lo hi := by
        unfold cutL
        rw [List.map_take, List.map_drop, List.length_map]
      rw [e]
      exact ((RAll.ints ns).cut lo hi)
  · cases e
def partD (d : D) : Option Int := match d with
  | .int i => some i
  | _ => none
/-- a part of a slice -/
def rdO (X : Cx) (W : WX) (m : M (Option Int)) : TO := fun σ H Q => ∃ F P β η S, Run X W m F P β η S σ H (fun o _ _ _ _ H' => Q o H')
def DO (X : Cx) (W : WX) (e : Option Expr) (m : M (Option Int)) : Prop := PO X e (rdO X W m)
theorem PO.imp {e : Option Expr} {t u : TO} (h : PO X e t) (k : ∀ σ H Q, u σ H Q → t σ H Q) : PO X e u := ⟨fun pins s σ H Q I q => h.run pins s σ H Q I (k σ H Q q)⟩
def noPart : M (Option Int) := M.ret none
def part (m : M D) : M (Option Int) := m.bind fun d => M.lift ((partD d).map some)
theorem do_none : DO X W none noPart := PO.imp po_none fun σ H Q ⟨F, P, β, η, S, h⟩ => Run.ret (ok := fun o _ _ _ _ H' => Q o H') rfl h
theorem do_some {e : Expr} {m : M D} (h : DE X W e m) : DO X W (some e) (part m) := PO.imp (po_some h) fun σ H Q ⟨F, P, β, η, S, h⟩ => by
  refine ⟨F, P, β, η, S, (Run.bind h).imp fun d η1 S1 F1 β1 H1 s1 ⟨e1, b1, h1⟩ v rv => ?_⟩
  obtain ⟨c, ec, s2, p2⟩ := Run.lift h1
  cases d with
  | int i => cases ec; cases rv; exact ⟨i, rfl, p2 F1 H1 (Ex.refl _) s2⟩
  | _ => cases ec
def sliceV (m : M D) (lo hi : M (Option Int)) : M D := m.bind fun d => lo.bind fun l => hi.bind fun h => M.lift (cutD d l h)
theorem de_slice {e : Expr} {lo hi : Option Expr} {p2 pos : Pos} {m : M D} {ml mh : M (Option Int)} (he : DE X W e m) (hl : DO X W lo ml) (hh : DO X W hi mh) : DE X W (.Subscript e (.Slice lo hi none p2) pos) (sliceV m ml mh) := by
  refine PE.imp (pe_slice sl_cut he hl hh) fun σ H Q ⟨F, P, β, η, S, h⟩ => ?_
  refine ⟨F, P, β, η, S, (Run.bind h).imp fun d η1 S1 F1 β1 H1 s1 ⟨e1, b1, h1⟩ v rv => ?_⟩
  refine ⟨F1, P, β1, η1, S1, (Run.bind h1).imp fun l η2 S2 F2 β2 H2 s2 ⟨e2, b2, h2⟩ => ?_⟩
  refine ⟨F2, P, β2, η2, S2, (Run.bind h2).imp fun l η3 S3 F3 β3 H3 s3 ⟨e3, b3, h3⟩ => ?_⟩
  obtain ⟨c, ec, s4, p4⟩ := Run.lift h3
  exact ⟨F3, P, β3, σ, η3, S3, d, c, s4, (rv.mono e2 b2).mono e3 b3, ec, fun F' H' v e s => p4 F' H' e s v⟩
end
end Y
/-! Y9: defs called where no repr is under way (guards empty): promise, call, the law's end. -/
namespace Y
open PySem L2 PySem.Spec PyProof.Rows
/-- a promise kept wherever nothing is being shown -/
structure FnG (P : Program) (w : World) (K : PySem.W.Frag) (mg : Str → Option Value) (base : Heap) (CX : CXT) (k : Nat) (f : Addr) (fd : FuncData) (ps : List Str) (sp : Sp) : Prop where
  cnt : ∀ vs H Q E, sp vs H Q E → vs.length = ps.length
  go : ∀ (A : Around) (out : List Env) (s : Shared) (H : Hp) (ar : Args) (us : List Value) (vs : List V) (Q : VK) (E : XK), A.guards = some [] → Room k A → Env0 P w K mg base A out s H →
    BindsTo s fd ar (ps.zip us) → Vals vs us → sp vs H Q E → codeAny (model P w) A (.call (.ref f) ar) (L2.CR CX out P w H s Q E) s
section
variable {P : Program} {w : World} {K : PySem.W.Frag} {mg : Str → Option Value} {base : Heap} {CX : CXT}
theorem FnG.up {j k : Nat} {f : Addr} {fd : FuncData} {ps : List Str} {sp : Sp} (F : FnG P w K mg base CX j f fd ps sp) (h : j ≤ k) : FnG P w K mg base CX k f fd ps sp :=
  ⟨F.cnt, fun A out s H ar us vs Q E g r => F.go A out s H ar us vs Q E g (r.mono h)⟩
theorem Fun.okG {x qual : Str} {st : Stmt} {f : Addr} {fd : FuncData} {N ps : List Str} {k : Nat} {sp : Sp} (F : Fun K x qual st f fd) (Sc : FnScope N ps (defScope st)) (hc : ∀ vs H Q E, sp vs H Q E → vs.length = ps.length)
    (hb : ∀ (cdv : Value) (A : Around) (out : List Env) (s : Shared) (H : Hp) (vs : List V) (Q : VK) (E : XK), A.guards = some [] → Room k (A.deeper (envOfC qual (defScope st) s.heap.objs.size f cdv)) → sp vs H Q E →
      ∃ t, PSs (cxOf CX P w K mg base N qual (defScope st) f cdv A out s H E) (defBody st) t ∧ t { nx := fun _ H' => Q .non H', rt := Q } (L2.start N vs) H) : FnG P w K mg base CX (k + 1) f fd ps sp := by
  obtain ⟨oc, od, kV, doc, pm, an, cdv, ct, osl, rfl, lk, hcd⟩ := F.ex
  refine ⟨hc, ?_⟩
  intro A out s H ar us vs Q E hg hr e0 bi rv hq
  have hlen := hc vs H Q E hq
  have keep : ∀ b o, base.get? b = some o → s.heap.get? b = some o := fun b o e => (e0.bs b o e).1
  have KX := e0.mod.kin.keeps keep
  have names : ∀ y ∈ ps.zip us, (defScope st).names.lookup y.1 = some .local ∨ ((defScope st).names.lookup y.1 = some .cell ∧ ((cellsFrom (s.heap.objs.size + 1) (defScope st).names []).lookup y.1).isSome = true) := by
    rintro ⟨n, u⟩ hy
    cases Sc.par n (List.of_mem_zip hy).1 with
    | inl z => exact Or.inl z
    | inr z => exact Or.inr ⟨z, PySem.W.cellsFrom_some _ _ _ (Or.inl z)⟩
  apply codeAny_call_function hr.depth (KX _ _ lk) rfl Sc.co Sc.gen rfl (PySem.W.codeRec_of KX hcd)
  apply bi
  apply wpAny_newFunctionEnv_cells Sc.kind names
  rintro env rfl s1 x
  refine ⟨(e0.mod.nolimit.keeps keep).keeps x.toInCall.keep, codeAny_func ?_⟩
  obtain ⟨t, ht, hw⟩ := hb cdv A out s H vs Q E hg (hr.deeper _) hq
  have I := inv_start (CX := CX) (E := E) Sc hr.hd e0 hlen rv x
  apply wpAny_mono (ht.run [] s1 _ H _ I hw)
  · intro fl s' h
    match fl, h with
    | .ret u, h => obtain ⟨v, τ, H', J, r, q⟩ := h; exact ⟨v, H', J.os, J.bare, J.base, J.hok, r, q⟩
    | .next, h => obtain ⟨τ, H', J, q⟩ := h; exact ⟨V.non, H', J.os, J.bare, J.base, J.hok, rfl, q⟩
    | .brk, h => obtain ⟨_, _, _, q⟩ := h; exact q.elim
    | .cont, h => obtain ⟨_, _, _, q⟩ := h; exact q.elim
  · intro e s' h
    exact h
end
section
variable {X : Cx} {CX : CXT} {k : Nat} {f : Addr} {fd : FuncData} {ps : List Str} {sp : Sp} {E : L2.St → XK} {x : Str} {p pos : Pos} {e : Expr} {es : List Expr} {t : TA}
theorem run_G {pins : List (Addr × Obj)} {σ : L2.St} {H : Hp} {s : Shared} {Q : VK} {us : List Value} {vs : List V} (F : FnG X.prog X.w X.K X.mg X.base CX k f fd ps sp) (hG : X.A.guards = some []) (hr : Room k X.A) (hb : Binds X.K fd ps []) (hx : PassesAt CX X σ (E σ))
    (I : Inv X pins σ H s) (r : Vals vs us) (h : sp vs H Q (E σ)) : wpAny (model X.prog X.w) X.A (call (.ref f) us) (EP X pins σ Q) X.xe s := by
  have hn : (us ++ []).length = ps.length := by
    rw [List.append_nil, ← r.length]
    exact F.cnt _ _ _ _ h
  have bi := hb s us I.kIn hn
  rw [List.append_nil] at bi
  apply wpAny_call
  apply codeAny_mono (F.go X.A X.stack s H ⟨us, []⟩ us vs Q (E σ) hG hr I.env0 bi r h)
  intro res s' hq
  match res, hq with
  | .error e, hq => exact hx pins H s e s' I hq
  | .ok (.ret u), hq => exact I.after hq
theorem pe_callG (F : FnG X.prog X.w X.K X.mg X.base CX k f fd ps sp) (hG : X.A.guards = some []) (hr : Room k X.A) (hg : Gl X x) (hm : X.mg x = some (.ref f)) (hk : PySem.W.keepIn X.K (.ref f) = true) (hb : Binds X.K fd ps []) (hx : ∀ σ, PassesAt CX X σ (E σ))
    (ha : PA X (e :: es) t) (hdb : (x == ("__debug__" : Str)) = false := by decide) (he : starEach (e :: es) X.env = (false, eval e X.env) :: starEach es X.env := by rfl) (hpl : (backTo pos (starEach es X.env)).any (·.1) = false := by rfl) :
    PE X (.Call (.Name x p) (e :: es) [] pos) (tCallSD sp [] E t) := by
  constructor
  intro pins s σ H Q I h
  refine wpAny_Call_Name_kw (ld_glob I hg hm (PySem.W.callWith_K (h₀ := X.base) I.ok.mod.kin hk ?_ he hpl) hdb)
  refine thn (ha.run pos pins s σ H _ I h) ?_
  rintro us s1 ⟨vs, H1, I1, r, q⟩
  refine ⟨I1.kIn, run_G F hG hr hb (hx σ) I1 r ?_⟩
  rw [List.append_nil] at q
  exact q
end
section
variable {P : Program} {w : World} {K : PySem.W.Frag} {mg : Str → Option Value} {base : Heap}
theorem fn_okG {x qual : Str} {st : Stmt} {f : Addr} {fd : FuncData} {N ps : List Str} {k : Nat} {m : M Fl} (F : Fun K x qual st f fd) (Sc : FnScope N ps (defScope st))
    (hb : ∀ (cdv : Value) (A : Around) (out : List Env) (s : Shared) (H : Hp) (E : XK), (A.deeper (envOfC qual (defScope st) s.heap.objs.size f cdv)).guards = some [] → Room k (A.deeper (envOfC qual (defScope st) s.heap.objs.size f cdv)) →
      DSs (cxOf CX0 P w K mg base N qual (defScope st) f cdv A out s H E).nox W0 (defBody st) m) (he : ∀ η S x η' S', m η S ≠ some (.ex x η' S')) : FnG P w K mg base CX0 (k + 1) f fd ps (spF (K, w) mg ps.length (bodyFn ps.length N.length m)) := by
  refine Fun.okG F Sc (fun vs H Q E ⟨F, P, β, S, ds, r, hl, e, ra, _⟩ => ra.length.trans hl) fun cdv A out s H vs Q E hg hr h => ?_
  refine ⟨_, dss_nox (hb cdv A out s H E hg hr), ?_⟩
  obtain ⟨F, P, β, S, ds, r, hl, e, ra, st, rp⟩ := h
  unfold bodyFn at e
  rw [if_pos hl] at e
  cases q : m (frame N.length ds) S with
  | none => rw [q] at e; cases e
  | some r1 =>
    rw [q] at e
    refine ⟨F, P, β, frame N.length ds, S, r1, q, st.begin ra N, ?_⟩
    cases r1 with
    | ex x η1 S1 => exact absurd q (he _ _ _ _ _)
    | ok fl η1 S1 =>
      cases fl with
      | nx => cases e; exact fun F' β' σ' H' e1 b1 s1 => rp F' β' H' _ e1 b1 s1.bare .non
      | rt d => cases e; exact fun F' β' σ' H' v e1 b1 s1 rv => rp F' β' H' v e1 b1 s1.bare rv
      | bk => cases e
      | ct => cases e
end
/-- the law's call, by its promise -/
theorem law_goes {P : Program} {w : World} {K : PySem.W.Frag} {mg mb : Str → Option Value} {k : Nat} {fa a : Addr} {fd : FuncData} {x : Str} {fn : Fn} {s : Shared} {vs : List Value} {ns : List Int}
    (KX : K.In s.heap) (nsM : s.heap.Ns mainGlobals mg) (nsB : s.heap.Ns builtinsNs mb) (boot : ∀ x : Str, x ≠ "__name__" → mb x = bootBuiltins x) (lim : s.heap.NoLimit) (gens : s.gens = #[])
    (ha : s.heap.get? a = some { cls := .type "list", data := .seq vs.toArray }) (hi : IntsAre vs ns) (hl : ns.length ≤ sizeLine) (hr : Room k callerA)
    (F : ∀ base : Heap, K.In base → base.Ns mainGlobals mg → FnG P w K mg base CX0 k fa fd [x] (spF (K, w) mg 1 fn)) (bind : ∀ (s : Shared) (u : Value), BindsTo s fd ⟨[u], []⟩ [(x, u)])
    (hfn : ∃ S', fn [.scr ns] Store.emp = some (.ok (.bl true) S')) :
    codeAny (model P w) callerA (.call (.ref fa) ⟨[.ref a], []⟩) (fun r s' => r = .ok (.ret (.bool true)) ∧ OldK s.heap s'.heap ∧ s'.os = s.os ∧ AllBare s'.gens) s := by
  have rv := vals_ints hi
  have hz := hi.length
  generalize hob : ({ cls := .type "list", data := .seq vs.toArray } : Obj) = ob at ha
  -- the script is tracked, frozen, unless it is a written object
  let H : Hp := fun b => if b = a ∧ K.lookup a = none then some (.frz ob (.lst (ns.map V.int))) else none
  have hH : ∀ b u, H b = some u → b = a ∧ K.lookup a = none ∧ u = .frz ob (.lst (ns.map V.int)) := by
    intro b u z
    by_cases q : b = a ∧ K.lookup a = none
    · have z' := (if_pos q).symm.trans z
      cases z'
      exact ⟨q.1, q.2, rfl⟩
    · exact absurd ((if_neg q).symm.trans z) (by intro z; cases z)
  have lay : ObjOk P w H s.heap a (.lst (ns.map V.int)) := by
    refine ⟨?_, vs, _, rv, ha.trans (congrArg some hob.symm)⟩
    rw [List.length_map]; exact hl
  have hok : HOk P w H s.heap := by
    intro b u z
    obtain ⟨rfl, _, rfl⟩ := hH b u z
    exact ⟨ha, lay⟩
  have seq : SqL K H a (ns.map V.int) := by
    cases q : K.lookup a with
    | none => exact Or.inl (Or.inr ⟨ob, if_pos ⟨rfl, q⟩⟩)
    | some o =>
      have e := KX a o q
      rw [ha] at e
      cases e
      subst hob
      exact Or.inr ⟨_, vs.toArray, _, q, rfl, rfl, rfl, by rw [List.size_toArray, hz]; exact hl, by simpa using rv⟩
  have bare : ∀ b o, s.heap.get? b = some o → H b = none → (hidT s.heap H).get? b = some o := fun b o e n => hidT_get e n
  have dictFree : ∀ b o es ep, s.heap.get? b = some o → o.data = .dict es ep → H b = none := by
    intro b o es ep e d
    cases q : H b with
    | none => rfl
    | some u =>
      obtain ⟨rfl, _⟩ := hH b u q
      rw [ha] at e
      cases e
      rw [← hob] at d
      cases d
  have nsH : ∀ b m, s.heap.Ns b m → (hidT s.heap H).Ns b m := by
    rintro b m ⟨o, es, ep, e, d, r⟩
    exact ⟨o, es, ep, bare b o e (dictFree b o es ep e d), d, r⟩
  have kH : K.In (hidT s.heap H) := by
    intro b o e
    refine bare b o (KX b o e) ?_
    cases q : H b with
    | none => rfl
    | some u =>
      obtain ⟨rfl, n, _⟩ := hH b u q
      rw [n] at e; cases e
  have hlim : (hidT s.heap H).NoLimit := by
    obtain ⟨mc, l1, l2⟩ := lim
    exact ⟨mc, nsH _ _ l1, l2⟩
  have e0 : Env0 P w K mg (hidT s.heap H) callerA [] s H :=
    ⟨rfl, ⟨kH, nsH _ _ nsM, ⟨mb, nsH _ _ nsB, boot⟩, hlim⟩, fun b o e => of_hidT e, Nat.le_of_eq (hidT_size _ _), trivial, fun b z => (by have z' : b ∈ ([] : List Addr) := z; cases z'), hok, AllBare.of_eq gens⟩
  obtain ⟨S', hfn⟩ := hfn
  have start : spF (K, w) mg 1 fn [.ref a] H (fun v _ => v = .bl true) fun _ _ _ => False := by
    refine ⟨H, fun _ => none, fun _ => none, Store.emp, [.scr ns], _, rfl, hfn, .cons (.scr seq hl) .nil, ?_, ?_⟩
    · refine ⟨Ex.refl _, ?_, fun _ _ _ => rfl, rfl, ?_, ?_, ?_, fun _ _ => rfl, ?_, ?_⟩
      · intro b o z; cases z
      · intro i d z; simp at z
      · intro i c z; simp at z
      · intro n o z; rw [Store.get_emp] at z; cases z
      · intro p b z
        cases p with
        | sl i => obtain ⟨c, z, _⟩ := z; simp at z
        | ob n => obtain ⟨_, z⟩ := z; cases z
        | fd n f => obtain ⟨b, _, _, _, _, _, _, z, _⟩ := z; cases z
      · intro p q b z
        cases p with
        | sl i => obtain ⟨c, z, _⟩ := z; simp at z
        | ob n => obtain ⟨_, z⟩ := z; cases z
        | fd n f => obtain ⟨b, _, _, _, _, _, _, z, _⟩ := z; cases z
    · intro F' β' H' v _ _ _ r
      cases r
      rfl
  apply codeAny_mono ((F _ kH (nsH _ _ nsM)).go callerA [] s H ⟨[.ref a], []⟩ [.ref a] [.ref a] _ _ rfl hr e0 (bind s (.ref a)) (.cons rfl .nil) start)
  intro r s' h
  match r, h with
  | .error e, h => exact h.elim
  | .ok (.ret u), h =>
    obtain ⟨v, H', os, gb, un, hok', r', q⟩ := h
    have q : v = .bl true := q
    subst q
    have r' : u = Value.bool true := r'
    subst r'
    refine ⟨rfl, OldK.of_keep ?_, os, gb⟩
    intro b o e
    cases q : H b with
    | none => exact un.keep b o e q (by intro z; have z' : b ∈ ([] : List Addr) := z; cases z') (by simp)
    | some u =>
      obtain ⟨rfl, _, rfl⟩ := hH b u q
      have z := un.frzs b ob _ q
      obtain ⟨e2, _⟩ := hok' b _ z
      rw [ha] at e
      cases e
      exact e2
theorem walk_G {l : PySem.W.OpenLaw} {n k : Nat} {q : Program} {loose : List Str} {XP : (Str → Option Value) → Heap → Prop} {YP : World → Heap → Prop} {d : DefRec} {K : Params → PySem.W.Frag} {x : Str} {fn : Fn}
    (hn : l.most = some n) (hn2 : n ≤ sizeLine) (hdf : d.params.defaults = []) (hr : Room k callerA) (hY : ∀ (w : World) (h : Heap), YP w h → (K w.params).In h)
    (F : ∀ (w : World) (mg : Str → Option Value) (fa : Addr) (h : Heap), (K w.params).In h → h.Ns mainGlobals mg → mg d.name = some (.ref fa) →
      ∃ fd : FuncData, (∀ (s : Shared) (u : Value), BindsTo s fd ⟨[u], []⟩ [(x, u)]) ∧ ∀ base : Heap, (K w.params).In base → base.Ns mainGlobals mg → FnG l.prog w (K w.params) mg base CX0 k fa fd [x] (spF (K w.params, w) mg 1 fn))
    (hfn : ∀ ns : List Int, ns.length ≤ n → ∃ S', fn [.scr ns] Store.emp = some (.ok (.bl true) S')) : PySem.W.WalkO q loose XP YP l.row.toRowW d [] (fun f vs => PySem.call f vs) := by
  apply Att.attach_call hn hdf
  intro w s₀ s₁ mg mb fa o pm cd doc a vs ns G Y ho hd hcd hmg hobj hints hlen hg
  obtain ⟨fd, bi, hF⟩ := F w mg fa _ (hY w _ Y) G.T.g hmg
  exact law_goes (hY w _ Y) G.T.g G.T.b G.T.builtins G.T.nolimit hg hobj hints (Nat.le_trans hlen hn2) hr hF bi (hfn ns hlen)
end Y
/-! Y10: repr, *, in, list(..). -/
namespace Y
open PySem L2
section
variable {X : Cx} {W : WX}
/-! ### repr -/
def showP (p : PyData) : Option D := if p.showable = true ∧ p.depth ≤ 60 ∧ p.shown.length ≤ sizeLine ∧ PyData.strOk p.shown = true then some (.str p.shown) else none
def reprD (ds : List D) : Option D := match ds with
  | [d] => (d.toP).bind showP
  | _ => none
theorem cd_repr (hG : X.A.guards = some []) (hu : X.A.units + 64 < cLine) : CallR X (.builtin "repr") (AskC X reprD) := by
  intro pins s σ H xs us Q I rx q
  obtain ⟨F, P, β, σ', η, S, ds, c, st, ra, e, k⟩ := q
  unfold reprD at e
  split at e
  · rename_i d
    cases qp : d.toP with
    | none => rw [qp] at e; cases e
    | some p =>
      rw [qp] at e
      have e : showP p = some c := e
      unfold showP at e
      split at e
      · rename_i hp
        obtain ⟨h1, h2, h3, h4⟩ := hp
        cases e
        have hk := fun H' v => k F H' v (Ex.refl F)
        cases ra with
        | cons r1 r2 =>
          cases r2
          cases rx with
          | cons u1 u2 =>
            cases u2
            have dp := r1.dp st.fsub qp
            obtain ⟨as, rd⟩ := Dp.reads I p _ _ dp.1 u1
            have fin : ∀ (s' : Shared) (t : Tok), Inv X pins σ H s' → EP X pins σ Q (.str p.shown t) s' := fun s' t I' => ⟨.str p.shown, H, I', ⟨t, rfl⟩, hk H _ st (.str h4)⟩
            have hnd := PyData.hasDict_of_canLay p dp.2
            cases rd with
            | none => exact PySem.P.repr_of_none (fin _ _ (I.tok _))
            | bool b => exact PySem.P.repr_of_bool (fin _ _ (I.tok _))
            | int i t => exact PySem.P.repr_of_int (of_decide_eq_true h1) (fin _ _ (I.tok _))
            | str x t => exact PySem.P.repr_of_str (fin _ _ (I.tok _)) h3
            | list a1 a2 a3 a4 => exact repr_of_reads' (Reads.list a1 a2 a3 a4) h1 (PyData.noDict_hsm hnd) hG (by omega) (fun _ _ z => z) (fun h' u tk hk' => fin _ _ (I.kept (t' := tk) hk')) h3
            | tuple a1 a2 a3 a4 => exact repr_of_reads' (Reads.tuple a1 a2 a3 a4) h1 (PyData.noDict_hsm hnd) hG (by omega) (fun _ _ z => z) (fun h' u tk hk' => fin _ _ (I.kept (t' := tk) hk')) h3
            | dict a1 a2 a3 a4 a5 => cases hnd
      · cases e
  · cases e
/-! ### * -/
def repL {α : Type} (xs : List α) (k : Int) : List α := (List.replicate k.toNat xs).flatten
def strRep (x : Str) (k : Int) : Str := ⟨(List.replicate k.toNat x.cps).foldl (· ++ ·) #[]⟩
def mulD : D → D → Option D
  | .int i, .int j => if (-(2 ^ 64) < i ∧ i < 2 ^ 64) ∨ (-(2 ^ 64) < j ∧ j < 2 ^ 64) then some (.int (i * j)) else none
  | .lst xs, .int k => if -(2 ^ 63) ≤ k ∧ k < 2 ^ 63 ∧ xs.length * k.toNat ≤ sizeLine then some (.lst (repL xs k)) else none
  | .tup xs, .int k => if xs ≠ [] ∧ 2 ≤ k ∧ k ≤ 1000 ∧ xs.length ≤ 1000 then some (.tup (repL xs k)) else none
  | .str x, .int k => if 1 ≤ k ∧ k ≤ 1000 ∧ 1 ≤ x.length ∧ x.length ≤ 1000 then some (.str (strRep x k)) else none
  | _, _ => none
theorem RAll.rep {K : KW} {F : Hp} {β : Nat → Option Addr} {vs : List V} {ds : List D} (a : RAll K F β vs ds) : ∀ n : Nat, RAll K F β (List.replicate n vs).flatten (List.replicate n ds).flatten
  | 0 => .nil
  | n + 1 => by
    rw [List.replicate_succ, List.replicate_succ, List.flatten_cons, List.flatten_cons]
    exact a.append (RAll.rep a n)
theorem len_rep {α : Type} (xs : List α) : ∀ n : Nat, (List.replicate n xs).flatten.length = xs.length * n
  | 0 => rfl
  | n + 1 => by rw [List.replicate_succ, List.flatten_cons, List.length_append, len_rep xs n, Nat.mul_succ, Nat.add_comm]
theorem foldl_toList (l : List (Array Nat)) : ∀ acc : Array Nat, (l.foldl (· ++ ·) acc).toList = acc.toList ++ (l.map Array.toList).flatten := by
  induction l with
  | nil => intro acc; simp
  | cons x l ih => intro acc; rw [List.foldl_cons, ih]; simp
theorem strRep_list (x : Str) (k : Int) : (strRep x k).cps.toList = repL x.cps.toList k := by
  show ((List.replicate k.toNat x.cps).foldl (· ++ ·) #[]).toList = _
  rw [foldl_toList, List.map_replicate]
  rfl
theorem strRep_len (x : Str) (k : Int) : (strRep x k).length = x.length * k.toNat := by
  have h : (strRep x k).cps.toList.length = x.cps.toList.length * k.toNat := by rw [strRep_list]; exact len_rep _ _
  rw [Array.length_toList, Array.length_toList] at h
  exact h
theorem strOk_list {x : Str} : PyData.strOk x = true ↔ ∀ c ∈ x.cps.toList, c < 0x110000 := by
  unfold PyData.strOk
  rw [← Array.all_toList, List.all_eq_true]
  simp
theorem strRep_ok {x : Str} {k : Int} (h : PyData.strOk x = true) : PyData.strOk (strRep x k) = true := by
  rw [strOk_list] at h ⊢
  intro c hc
  rw [strRep_list] at hc
  unfold repL at hc
  obtain ⟨l, hl, hc⟩ := List.mem_flatten.mp hc
  rw [List.mem_replicate] at hl
  rw [hl.2] at hc
  exact h c hc
theorem strRep_one (x : Str) : strRep x 1 = x := by
  obtain ⟨c⟩ := x
  show Str.mk ((List.replicate 1 c).foldl (· ++ ·) #[]) = _
  simp
theorem op_mulS : OpR X (binaryOp .Mult) (fun x y H Q => ∃ (z : Str) (k : Int), x = .str z ∧ y = .int k ∧ 1 ≤ k ∧ k ≤ 1000 ∧ 1 ≤ z.length ∧ z.length ≤ 1000 ∧ Q (.str (strRep z k)) H) := by
  intro pins s σ H x y v u Q I rx ry h
  obtain ⟨z, k, rfl, rfl, h1, h2, h3, h4, q⟩ := h
  obtain ⟨t, rfl⟩ := rx
  obtain ⟨t', rfl⟩ := ry
  have hlen := strRep_len z k
  have hmul : z.length * k.toNat ≤ 1000 * 1000 := Nat.mul_le_mul h4 (by omega)
  have hsz : sizeLine = 16777216 := by decide
  refine PySem.P.mul_str (by rw [decide_eq_false (by omega), decide_eq_false (by omega)]; rfl) (fun _ _ => ?_) (fun _ _ => ?_) ?_
  · intro hgt
    have hd : (2 ^ 63 - 1 : Int) / k ≥ 1000 := by
      apply Int.le_ediv_of_mul_le (by omega)
      omega
    omega
  · show decide (z.length * k.toNat > sizeLine) = false
    rw [decide_eq_false (by omega)]
  · rw [if_neg (by omega)]
    split
    · rename_i hk
      have : k = 1 := by
        rw [Bool.or_eq_true] at hk
        rcases hk with hk | hk
        · exact eq_of_beq hk
        · have := eq_of_beq hk; omega
      subst this
      rw [strRep_one] at q
      exact ⟨.str z, H, I, ⟨t, rfl⟩, q⟩
    · refine ⟨?_, .str (strRep z k), H, I.tok _, ⟨_, rfl⟩, q⟩
      show (strRep z k).length ≤ sizeLine
      omega
theorem od_mul : OpR X (binaryOp .Mult) (Ask2 X mulD) := by
  refine Y.OpR.imp (Y.OpR.or op_mul (Y.OpR.or op_rep (Y.OpR.or op_repT op_mulS))) fun x y H Q q => ?_
  obtain ⟨F, P, β, σ, η, S, a, b, z, s, ra, rb, e, k⟩ := q
  unfold mulD at e
  split at e
  · split at e
    · rename_i hc
      cases e
      exact .inl ⟨_, _, ra.int_inv, rb.int_inv, hc, k F H _ (Ex.refl _) s (.int _)⟩
    · cases e
  · split at e
    · rename_i hc
      cases e
      cases ra with
      | lst h l a =>
        cases rb
        refine .inr (.inl ⟨_, _, _, rfl, rfl, s.fsub _ _ h, hc.1, hc.2.1, by rw [a.length]; exact hc.2.2, fun p hp => ?_⟩)
        have hf := s.fnone hp
        exact k (upd F p (.lst _)) _ _ (Ex.new hf) (s.new hp) (.lst upd_same (by rw [len_rep, a.length]; exact hc.2.2) ((a.rep _).mono (Ex.new hf) (Bx.refl _)))
    · cases e
  · split at e
    · rename_i xs n hc
      cases e
      cases ra with
      | @tup p0 vs _ h l a =>
        cases rb
        have hl := a.length
        refine .inr (.inr (.inl ⟨_, _, vs, rfl, rfl, s.fsub.t h, ?_, hc.2.1, hc.2.2.1, by rw [hl]; exact hc.2.2.2, fun p hp => ?_⟩))
        · intro z; rw [z] at hl; exact hc.1 (List.length_eq_zero_iff.mp hl.symm)
        · have hf := s.fnone hp
          refine k (upd F p (.tup _)) _ _ (Ex.new hf) (s.new hp) (.tup (SqT.of upd_same) ?_ ((a.rep _).mono (Ex.new hf) (Bx.refl _)))
          rw [len_rep, hl]
          have : xs.length * n.toNat ≤ 1000 * 1000 := Nat.mul_le_mul hc.2.2.2 (by omega)
          exact Nat.le_trans this (by decide)
    · cases e
  · split at e
    · rename_i hc
      cases e
      cases ra with
      | str ok =>
        cases rb
        exact .inr (.inr (.inr ⟨_, _, rfl, rfl, hc.1, hc.2.1, hc.2.2.1, hc.2.2.2, k F H _ (Ex.refl _) s (.str (strRep_ok ok))⟩))
    · cases e
  · cases e
/-! ### in -/
def D.flat : D → Bool
  | .non => true
  | .bl _ => true
  | .int _ => true
  | .str _ => true
  | _ => false
def eqF : D → D → Bool
  | .non, .non => true
  | .bl a, .bl b => a == b
  | .bl a, .int b => (if a then 1 else 0) == b
  | .int a, .bl b => a == (if b then 1 else 0)
  | .int a, .int b => a == b
  | .str a, .str b => a == b
  | _, _ => false
theorem R.flat {K : KW} {F : Hp} {β : Nat → Option Addr} {v : V} {d : D} (r : R K F β v d) (h : d.flat = true) : flatV v = true := by
  cases r <;> first | rfl | cases h
theorem R.eqF {K : KW} {F : Hp} {β : Nat → Option Addr} {v w : V} {d e : D} (r : R K F β v d) (r' : R K F β w e) : eqV v w = Y.eqF d e := by
  cases r <;> cases r' <;> rfl
theorem RAll.flats {K : KW} {F : Hp} {β : Nat → Option Addr} : ∀ {vs : List V} {ds : List D}, RAll K F β vs ds → ds.all D.flat = true → vs.all flatV = true
  | _, _, .nil, _ => rfl
  | _, _, .cons r a, h => by
    rw [List.all_cons, Bool.and_eq_true] at h ⊢
    exact ⟨r.flat h.1, RAll.flats a h.2⟩
theorem RAll.inV {K : KW} {F : Hp} {β : Nat → Option Addr} {x : V} {d : D} (r : R K F β x d) : ∀ {vs : List V} {ds : List D}, RAll K F β vs ds → L2.inV x vs = ds.any fun y => eqF y d
  | _, _, .nil => rfl
  | _, _, .cons q a => by
    show (eqV _ x || L2.inV x _) = (eqF _ d || _)
    rw [q.eqF r, RAll.inV r a]
def inB (a b : D) : Option Bool := match b with
  | .tup xs => if a.flat && xs.all D.flat then some (xs.any fun y => eqF y a) else none
  | .lst xs => if a.flat && xs.all D.flat then some (xs.any fun y => eqF y a) else none
  | .str z => (match a with
    | .str x => (match x.cps.toList with
      | [c] => some (decide (c ∈ z.cps.toList))
      | _ => none)
    | _ => none)
  | _ => none
def inD (a b : D) : Option D := (inB a b).map .bl
def notInD (a b : D) : Option D := (inB a b).map fun t => .bl (!t)
theorem one_sign {x : Str} {c : Nat} (h : x.cps.toList = [c]) : x = ⟨#[c]⟩ := by
  obtain ⟨a⟩ := x
  have : a = #[c] := by rw [← Array.toArray_toList (xs := a)]; show (Str.mk a).cps.toList.toArray = _; rw [h]
  rw [this]
theorem ask_in {neg : Bool} {g : D → D → Option D} (hg : ∀ a b z, g a b = some z → ∃ t, inB a b = some t ∧ z = .bl (if neg then !t else t)) {x y : V} {H : Hp} {Q : VK} (q : Ask2 X g x y H Q) :
    rIn X.K neg x y H Q ∨ ∃ (c : Nat) (z : Str), x = .str ⟨#[c]⟩ ∧ y = .str z ∧ Q (.bl (if neg then !decide (c ∈ z.cps.toList) else decide (c ∈ z.cps.toList))) H := by
  obtain ⟨F, P, β, σ, η, S, a, b, z, s, ra, rb, e, k⟩ := q
  obtain ⟨t, e', rfl⟩ := hg a b z e
  clear e
  rename inB a b = some t => e
  have fin := k F H _ (Ex.refl _) s (.bl (if neg then !t else t))
  unfold inB at e
  split at e
  · split at e
    · rename_i hc
      cases e
      rw [Bool.and_eq_true] at hc
      cases rb with
      | tup h l al =>
        refine .inl ⟨_, _, rfl, .inr (s.fsub.t h), ra.flat hc.1, al.flats hc.2, ?_⟩
        rw [RAll.inV ra al]; exact fin
    · cases e
  · split at e
    · rename_i hc
      cases e
      rw [Bool.and_eq_true] at hc
      cases rb with
      | lst h l al =>
        refine .inl ⟨_, _, rfl, .inl (SqL.of (s.fsub _ _ h)), ra.flat hc.1, al.flats hc.2, ?_⟩
        rw [RAll.inV ra al]; exact fin
    · cases e
  · split at e
    · split at e
      · rename_i hx
        cases e
        cases one_sign hx
        cases ra
        cases rb
        exact .inr ⟨_, _, rfl, rfl, fin⟩
      · cases e
    · cases e
  · cases e
theorem od_in : OpR X (compareOp .In) (Ask2 X inD) := by
  refine Y.OpR.imp (Y.OpR.or op_in_seq op_in_sign) fun x y H Q q => ?_
  refine ask_in (neg := false) (g := inD) (fun a b z h => ?_) q
  unfold inD at h
  cases e : inB a b with
  | none => rw [e] at h; cases h
  | some t => rw [e] at h; cases h; exact ⟨t, rfl, rfl⟩
theorem od_notin : OpR X (compareOp .NotIn) (Ask2 X notInD) := by
  refine Y.OpR.imp (Y.OpR.or op_notIn_seq op_notIn_sign) fun x y H Q q => ?_
  refine ask_in (neg := true) (g := notInD) (fun a b z h => ?_) q
  unfold notInD at h
  cases e : inB a b with
  | none => rw [e] at h; cases h
  | some t => rw [e] at h; cases h; exact ⟨t, rfl, rfl⟩
end
end Y
/-! Y11: lists that a frame's slot owns: made, appended to, popped, frozen. -/
namespace Y
open PySem L2
section
variable {K : KW} {mg : Str → Option Value} {F F' P : Hp} {β β' : Nat → Option Addr} {σ : L2.St} {η : Sls} {S : Store} {H : Hp}
theorem Ste.pnone (s : Ste K mg F P β σ η S H) {p : Addr} (hp : H p = none) : P p = none := by
  cases q : P p with
  | none => rfl
  | some u => rw [s.psub _ _ q] at hp; cases hp
/-- a slot forgotten -/
theorem Ste.forget (s : Ste K mg F P β σ η S H) (i : Nat) (v : Option V) : Ste K mg F P β (σ.set i v) (η.set i .un) S H := by
  have ne : ∀ {j : Nat} {z : Sl}, (η.set i .un)[j]? = some z → z ≠ .un → i ≠ j := by
    rintro j z h n rfl
    rw [List.getElem?_set] at h
    split at h
    · split at h
      · cases h; exact n rfl
      · cases h
    · rename_i q; exact q rfl
  have up : ∀ {q a}, Own (σ.set i v) (η.set i .un) S β H q a → Own σ η S β H q a := by
    intro q a h
    cases q with
    | ob n => exact h
    | fd n f => exact h
    | sl j =>
      obtain ⟨c, h1, h2⟩ := h
      have hj := ne h1 (fun z => by cases z)
      rw [List.getElem?_set_ne hj] at h1 h2
      exact ⟨c, h1, h2⟩
  refine ⟨s.fsub, s.psub, s.fp, by rw [List.length_set, List.length_set]; exact s.len, fun j d h => ?_, fun j c h => ?_, s.obs, s.top, fun p a h => s.free p a (up h), fun p q a h1 h2 => s.inj p q a (up h1) (up h2)⟩
  · have hj := ne h (fun z => by cases z)
    rw [List.getElem?_set_ne hj] at h ⊢
    exact s.vals j d h
  · have hj := ne h (fun z => by cases z)
    rw [List.getElem?_set_ne hj] at h ⊢
    exact s.owns j c h
/-- a slot that holds nothing comes to own the list at p, which nobody owns -/
theorem Ste.give (s : Ste K mg F P β σ η S H) {i : Nat} {p : Addr} {vs : List V} {ds : List D} (hi : i < η.length) (hF : F p = none) (hP : P p = none) (hO : ∀ q, ¬ Own σ η S β H q p) (hH : H p = some (.lst vs)) (hl : vs.length ≤ sizeLine) (ra : RAll K F β vs ds) (hu : η[i]? = some .un) :
    Ste K mg F P β (σ.set i (some (.ref p))) (η.set i (.own (.lst ds))) S H := by
  have hiσ : i < σ.length := by rw [s.len]; exact hi
  have cs : ∀ {q a}, Own (σ.set i (some (.ref p))) (η.set i (.own (.lst ds))) S β H q a → (q = .sl i ∧ a = p) ∨ (q ≠ .sl i ∧ Own σ η S β H q a) := by
    intro q a h
    cases q with
    | ob n => exact .inr ⟨(fun z => by cases z), h⟩
    | fd n f => exact .inr ⟨(fun z => by cases z), h⟩
    | sl j =>
      obtain ⟨c, h1, h2⟩ := h
      by_cases hj : i = j
      · subst hj
        rw [List.getElem?_set_self hiσ] at h2
        cases h2
        exact .inl ⟨rfl, rfl⟩
      · rw [List.getElem?_set_ne hj] at h1 h2
        exact .inr ⟨fun z => hj (by cases z; rfl), c, h1, h2⟩
  refine ⟨s.fsub, s.psub, s.fp, by rw [List.length_set, List.length_set]; exact s.len, fun j d h => ?_, fun j c h => ?_, s.obs, s.top, fun q a h => ?_, fun q r a h1 h2 => ?_⟩
  · by_cases hj : i = j
    · subst hj
      rw [List.getElem?_set_self hi] at h; cases h
    · rw [List.getElem?_set_ne hj] at h ⊢
      exact s.vals j d h
  · by_cases hj : i = j
    · subst hj
      rw [List.getElem?_set_self hi] at h
      cases h
      exact ⟨p, by rw [List.getElem?_set_self hiσ], vs, hH, hl, ra⟩
    · rw [List.getElem?_set_ne hj] at h ⊢
      exact s.owns j c h
  · rcases cs h with ⟨_, rfl⟩ | ⟨_, h⟩
    · exact ⟨hF, hP⟩
    · exact s.free q a h
  · rcases cs h1 with ⟨e1, z1⟩ | ⟨n1, g1⟩
    · rcases cs h2 with ⟨e2, _⟩ | ⟨_, g2⟩
      · rw [e1, e2]
      · exact absurd (z1 ▸ g2) (hO r)
    · rcases cs h2 with ⟨e2, z2⟩ | ⟨_, g2⟩
      · exact absurd (z2 ▸ g1) (hO q)
      · exact s.inj q r a g1 g2
theorem set_set {α : Type} (l : List α) (i : Nat) (a b : α) : (l.set i a).set i b = l.set i b := by
  apply List.ext_getElem?
  intro j
  by_cases h : i = j
  · subst h
    simp [List.getElem?_set]
  · rw [List.getElem?_set_ne h, List.getElem?_set_ne h, List.getElem?_set_ne h]
/-- a new list at a slot -/
theorem Ste.giveNew (s : Ste K mg F P β σ η S H) {i : Nat} {p : Addr} {vs : List V} {ds : List D} (hi : i < η.length) (hp : H p = none) (hl : vs.length ≤ sizeLine) (ra : RAll K F β vs ds) :
    Ste K mg F P β (σ.set i (some (.ref p))) (η.set i (.own (.lst ds))) S (upd H p (.lst vs)) := by
  have s1 := s.forget i none
  have s2 : Ste K mg F P β (σ.set i none) (η.set i .un) S (upd H p (.lst vs)) :=
    Ste.atP s1 (s.fnone hp) (s1.notOwnNew hp) (fun a z => upd_ne z) (fun a z => rfl) fun o z => by rw [s.pnone hp] at z; cases z
  have no : ∀ q, ¬ Own (σ.set i none) (η.set i .un) S β (upd H p (.lst vs)) q p := fun q h => by
    have := Own.of_heap s1 (fun n b o hn hb e => by
      have ne : b ≠ p := fun z => by rw [z, hp] at e; cases e
      rw [upd_ne ne]; exact e) h
    exact s1.notOwnNew hp q this
  have := s2.give (i := i) (ds := ds) (by rw [List.length_set]; exact hi) (s.fnone hp) (s.pnone hp) no upd_same hl ra (by rw [List.getElem?_set_self hi])
  rw [set_set, set_set] at this
  exact this
/-- an owned list changed -/
theorem Ste.turn (s : Ste K mg F P β σ η S H) {i : Nat} {p : Addr} {vs : List V} {ds ds0 : List D} (ho : η[i]? = some (.own (.lst ds0))) (hσ : σ[i]? = some (some (.ref p))) (hl : vs.length ≤ sizeLine) (ra : RAll K F β vs ds) :
    Ste K mg F P β σ (η.set i (.own (.lst ds))) S (upd H p (.lst vs)) := by
  have hi : i < η.length := (List.getElem?_eq_some_iff.mp ho).1
  have own : Own σ η S β H (.sl i) p := ⟨_, ho, hσ⟩
  have fr := s.free _ _ own
  have s1 := s.forget i (some (.ref p))
  have no : ∀ q, ¬ Own (σ.set i (some (.ref p))) (η.set i .un) S β H q p := by
    intro q h
    cases q with
    | sl j =>
      obtain ⟨c, h1, h2⟩ := h
      have hj : i ≠ j := by
        rintro rfl
        rw [List.getElem?_set_self hi] at h1; cases h1
      rw [List.getElem?_set_ne hj] at h1 h2
      have := s.inj (.sl i) (.sl j) p own ⟨c, h1, h2⟩
      cases this; exact hj rfl
    | ob n => have := s.inj (.sl i) (.ob n) p own h; cases this
    | fd n f => have := s.inj (.sl i) (.fd n f) p own h; cases this
  have s2 : Ste K mg F P β (σ.set i (some (.ref p))) (η.set i .un) S (upd H p (.lst vs)) :=
    Ste.atP s1 fr.1 no (fun a z => upd_ne z) (fun a z => rfl) fun o z => by rw [fr.2] at z; cases z
  have no2 : ∀ q, ¬ Own (σ.set i (some (.ref p))) (η.set i .un) S β (upd H p (.lst vs)) q p := fun q h => by
    have := Own.of_heap s1 (fun n b o hn hb e => by
      have ne : b ≠ p := fun z => no (.ob n) ⟨hn, by rw [hb, z]⟩
      rw [upd_ne ne]; exact e) h
    exact no q this
  have := s2.give (i := i) (ds := ds) (by rw [List.length_set]; exact hi) fr.1 fr.2 no2 upd_same hl ra (by rw [List.getElem?_set_self hi])
  rw [set_set, set_set] at this
  have e : σ.set i (some (.ref p)) = σ := by
    apply List.ext_getElem?
    intro j
    by_cases hj : i = j
    · subst hj
      rw [List.getElem?_set_self (by rw [s.len]; exact hi), hσ]
    · rw [List.getElem?_set_ne hj]
  rw [e] at this
  exact this
/-- an owned list frozen -/
theorem Ste.freeze (s : Ste K mg F P β σ η S H) {i : Nat} {ds : List D} (ho : η[i]? = some (.own (.lst ds))) : ∃ F', Ex F F' ∧ Ste K mg F' P β σ (η.set i (.val (.lst ds))) S H := by
  obtain ⟨p, hσ, vs, hH, hl, ra⟩ := s.owns i _ ho
  have hi : i < η.length := (List.getElem?_eq_some_iff.mp ho).1
  have own : Own σ η S β H (.sl i) p := ⟨_, ho, hσ⟩
  have fr := s.free _ _ own
  have ef : Ex F (upd F p (.lst vs)) := Ex.new fr.1
  have cs : ∀ {q a}, Own σ (η.set i (.val (.lst ds))) S β H q a → q ≠ .sl i ∧ Own σ η S β H q a := by
    intro q a h
    cases q with
    | ob n => exact ⟨(fun z => by cases z), h⟩
    | fd n f => exact ⟨(fun z => by cases z), h⟩
    | sl j =>
      obtain ⟨c, h1, h2⟩ := h
      by_cases hj : i = j
      · subst hj
        rw [List.getElem?_set_self hi] at h1; cases h1
      · rw [List.getElem?_set_ne hj] at h1
        exact ⟨fun z => hj (by cases z; rfl), c, h1, h2⟩
  refine ⟨upd F p (.lst vs), ef, ?_, s.psub, ?_, by rw [List.length_set]; exact s.len, fun j d h => ?_, fun j c h => ?_, fun n o h => ?_, s.top, fun q a h => ?_, fun q r a h1 h2 => s.inj q r a (cs h1).2 (cs h2).2⟩
  · intro a o e
    by_cases z : a = p
    · subst z; rw [upd_same] at e; cases e; exact hH
    · rw [upd_ne z] at e; exact s.fsub a o e
  · intro a o e
    by_cases z : a = p
    · subst z; exact fr.2
    · rw [upd_ne z] at e; exact s.fp a o e
  · by_cases hj : i = j
    · subst hj
      rw [List.getElem?_set_self hi] at h
      cases h
      exact ⟨.ref p, hσ, .lst upd_same hl (ra.mono ef (Bx.refl _))⟩
    · rw [List.getElem?_set_ne hj] at h
      obtain ⟨v, h1, h2⟩ := s.vals j d h
      exact ⟨v, h1, h2.mono ef (Bx.refl _)⟩
  · by_cases hj : i = j
    · subst hj
      rw [List.getElem?_set_self hi] at h; cases h
    · rw [List.getElem?_set_ne hj] at h
      obtain ⟨a, h1, h2⟩ := s.owns j c h
      exact ⟨a, h1, h2.mono ef (Bx.refl _)⟩
  · obtain ⟨a, h1, h2⟩ := s.obs n o h
    exact ⟨a, h1, h2.mono (mg := mg) ef (Bx.refl _)⟩
  · obtain ⟨n, h⟩ := cs h
    have := s.free q a h
    refine ⟨?_, this.2⟩
    have ne : a ≠ p := fun z => n (s.inj q (.sl i) a h (z ▸ own))
    rw [upd_ne ne]; exact this.1
end
section
variable {X : Cx} {W : WX}
def putOwn (i : Nat) (ds : List D) : M Fl := fun η S => if i < η.length then some (.ok .nx (η.set i (.own (.lst ds))) S) else none
/-- x = [..], x to be changed later -/
def setO (i : Nat) (r : M (List D)) : M Fl := r.bind fun ds => putOwn i ds
theorem ds_own {i : Nat} {st : Stmt} {e : Expr} {r : M (List D)} (h : ∀ {te : TE}, PE X e te → PS X st (tAsg te (gName i))) (he : DN X W e r) : DS X W st (setO i r) :=
  PS.imp (h he) fun Dn σ H ⟨F, P, β, η, S, q⟩ => ⟨F, P, β, η, S, (Run.bindS q).imp fun ds η1 S1 F1 β1 H1 s1 ⟨e1, b1, r, e, s, p⟩ a vs ha hl ra => by
    unfold putOwn at e
    split at e
    · rename_i hi
      cases e
      exact p F1 β1 _ _ (Ex.refl _) (Bx.refl _) (s.giveNew hi ha hl ra)
    · cases e⟩
/-- x = [.. for ..] -/
theorem ds_setLc {st : Stmt} {i : Nat} {vs js : List Nat} {m : M (List D)} {g : D → Sls → Option Sls} {t : M Bool} {el : M D} (hs : ∀ j ∈ js, j ∈ vs) (h : PS X st (tAsg (tLc (rdI X W m) (rdG X js g) (rdT X W0 t) (rdE X W0 el) vs) (gName i))) : DS X W st (setV i (frz (lc m vs g t el))) := by
  refine PS.imp h fun Dn σ H ⟨F, P, β, η, S, q⟩ => ?_
  refine run_lc (W := W) hs ?_
  have q := Run.bindS q
  refine ⟨F, P, β, η, S, (Run.bind q).imp fun ds η1 S1 F1 β1 H1 s1 ⟨e1, b1, h1⟩ p vs hp hl ra => ?_⟩
  obtain ⟨r, er, s, k⟩ := h1
  cases er
  have hf := s.fnone hp
  obtain ⟨_, _, h2⟩ := k (upd F1 p (.lst vs)) β1 _ (Ex.new hf) (Bx.refl _) (s.new hp)
  exact run_set h2 (.lst upd_same hl (ra.mono (Ex.new hf) (Bx.refl _)))
theorem ds_ownLc {st : Stmt} {i : Nat} {vs js : List Nat} {m : M (List D)} {g : D → Sls → Option Sls} {t : M Bool} {el : M D} (hs : ∀ j ∈ js, j ∈ vs) (h : PS X st (tAsg (tLc (rdI X W m) (rdG X js g) (rdT X W0 t) (rdE X W0 el) vs) (gName i))) : DS X W st (setO i (lc m vs g t el)) := by
  refine PS.imp h fun Dn σ H ⟨F, P, β, η, S, q⟩ => ?_
  refine run_lc (W := W) hs ?_
  refine ⟨F, P, β, η, S, (Run.bindS q).imp fun ds η1 S1 F1 β1 H1 s1 ⟨e1, b1, r, e, s, p⟩ a vs ha hl ra => ?_⟩
  unfold putOwn at e
  split at e
  · rename_i hi
    cases e
    exact p F1 β1 _ _ (Ex.refl _) (Bx.refl _) (s.giveNew hi ha hl ra)
  · cases e
/-- a ghost: slot i's list is frozen from here on -/
def freezeS (i : Nat) (n : M Fl) : M Fl := fun η S => match η[i]? with
  | some (.own (.lst ds)) => n (η.set i (.val (.lst ds))) S
  | _ => none
theorem dss_freeze {i : Nat} {st : List Stmt} {n : M Fl} (h : DSs X W st n) : DSs X W st (freezeS i n) := PSs.imp h fun Dn σ H ⟨F, P, β, η, S, r, e, s, p⟩ => by
  unfold freezeS at e
  split at e
  · rename_i ds ho
    obtain ⟨F', e1, s1⟩ := s.freeze ho
    exact ⟨F', P, β, _, S, r, e, s1, p.mono e1 (Bx.refl _)⟩
  · cases e
def ownL (i : Nat) (η : Sls) : Option (List D) := match η[i]? with
  | some (.own (.lst ds)) => some ds
  | _ => none
theorem ownL_some {i : Nat} {η : Sls} {ds : List D} (h : ownL i η = some ds) : η[i]? = some (.own (.lst ds)) := by
  unfold ownL at h
  split at h
  · cases h; assumption
  · cases h
def appD (ds xs : List D) : Option (D × List D) := match ds with
  | [d] => if xs.length < sizeLine then some (.non, xs ++ [d]) else none
  | _ => none
def popD (ds xs : List D) : Option (D × List D) := match ds with
  | [.int j] => if 0 ≤ j ∧ j < xs.length then (xs[j.toNat]?).map fun y => (y, xs.eraseIdx j.toNat) else none
  | _ => none
/-- a method that changes the list of slot i -/
def methO (f : List D → List D → Option (D × List D)) (i : Nat) (r : M (List D)) : M D := fun η S => match ownL i η with
  | none => none
  | some _ => r.bind (fun ds η1 S1 => match ownL i η1 with
    | none => none
    | some xs => match f ds xs with
      | none => none
      | some (y, ys) => some (.ok y (η1.set i (.own (.lst ys))) S1)) η S
theorem de_methO {f : List D → List D → Option (D × List D)} {rr : V → List V → Hp → VK → Prop} {e : Expr} {es : List Expr} {i : Nat} {r : M (List D)} (h : ∀ {t : TA}, PA X es t → PE X e (tBM X.K "list" rr (tVar i) t)) (ha : DA X W es r)
    (hf : ∀ {F : Hp} {β : Nat → Option Addr} {H : Hp} {a : Addr} {vs ws : List V} {ds xs ys : List D} {y : D} {Q : VK}, f ds xs = some (y, ys) → H a = some (.lst vs) → vs.length ≤ sizeLine → RAll X.kw F β vs xs → RAll X.kw F β ws ds →
      (∀ v vs', vs'.length ≤ sizeLine → RAll X.kw F β vs' ys → R X.kw F β v y → Q v (upd H a (.lst vs'))) → rr (.ref a) ws H Q) : DE X W e (methO f i r) := by
  refine PE.imp (h ha) fun σ H Q ⟨F, P, β, η, S, r0, e, s, p⟩ => ?_
  unfold methO at e
  cases q0 : ownL i η with
  | none => simp only [q0] at e; cases e
  | some ds0 =>
    simp only [q0] at e
    obtain ⟨a, hσ, vs, hH, hl, ra⟩ := s.owns i _ (ownL_some q0)
    refine ⟨_, hσ, .inl ⟨rfl, vs, SqL.of hH⟩, F, P, β, η, S, ?_⟩
    refine (Run.bind (ok := okE X Q) ⟨r0, e, s, p⟩).imp fun ds η1 S1 F1 β1 H1 s1 ⟨e1, b1, r1, er, s2, p2⟩ ws rw' => ?_
    cases q1 : ownL i η1 with
    | none => simp only [q1] at er; cases er
    | some xs =>
      simp only [q1] at er
      cases q2 : f ds xs with
      | none => simp only [q2] at er; cases er
      | some yy =>
        obtain ⟨y, ys⟩ := yy
        simp only [q2] at er
        cases er
        obtain ⟨a', hσ', vs', hH', hl', ra'⟩ := s1.owns i _ (ownL_some q1)
        rw [hσ] at hσ'
        cases hσ'
        refine hf q2 hH' hl' ra' rw' fun v vs'' hl2 ra2 rv => ?_
        exact p2 F1 β1 _ (Ex.refl _) (Bx.refl _) (s2.turn (ownL_some q1) hσ hl2 ra2) _ rv
theorem de_app {e : Expr} {es : List Expr} {i : Nat} {r : M (List D)} (h : ∀ {t : TA}, PA X es t → PE X e (tBM X.K "list" rAppend (tVar i) t)) (ha : DA X W es r) : DE X W e (methO appD i r) := by
  refine de_methO h ha fun {F β H a vs ws ds xs ys y Q} q hH hl ra rw' k => ?_
  unfold appD at q
  split at q
  · split at q
    · rename_i hlt
      cases q
      cases rw' with
      | cons rd rn =>
        cases rn
        have hz := ra.length
        exact ⟨_, _, _, rfl, rfl, hH, by omega, k _ _ (by rw [List.length_append]; show vs.length + 1 ≤ sizeLine; omega) (ra.append (.cons rd .nil)) .non⟩
    · cases q
  · cases q
theorem de_pop {e : Expr} {es : List Expr} {i : Nat} {r : M (List D)} (h : ∀ {t : TA}, PA X es t → PE X e (tBM X.K "list" rPopAt (tVar i) t)) (ha : DA X W es r) : DE X W e (methO popD i r) := by
  refine de_methO h ha fun {F β H a vs ws ds xs ys y Q} q hH hl ra rw' k => ?_
  unfold popD at q
  split at q
  · rename_i j
    split at q
    · rename_i hlt
      cases qy : xs[j.toNat]? with
      | none => rw [qy] at q; cases q
      | some y0 =>
        rw [qy] at q
        cases q
        cases rw' with
        | cons rd rn =>
          cases rn
          cases rd
          have hz := ra.length
          obtain ⟨v, hv, rv⟩ := ra.get qy
          have hsl : sizeLine = 16777216 := by decide
          refine ⟨_, _, j, j.toNat, v, rfl, rfl, hH, by omega, by omega, ?_, hv, k _ _ (Nat.le_trans (List.length_eraseIdx_le _ _) hl) (ra.eraseIdx j.toNat) rv⟩
          unfold seqIndex?
          simp only []
          rw [if_neg (show ¬ j < 0 by omega)]
          have h0 : (decide (0 ≤ j) && decide (j < (vs.length : Int))) = true := by
            rw [decide_eq_true (show 0 ≤ j by omega), decide_eq_true (show j < (vs.length : Int) by omega)]; rfl
          rw [if_pos h0]
    · cases q
  · cases q
/-- len(x) of an owned list -/
def lenO (i : Nat) : M D := fun η S => match ownL i η with
  | some xs => some (.ok (.int xs.length) η S)
  | none => none
theorem de_lenO {e : Expr} {i : Nat} (h : PE X e (tCB (fun xs H Q => ∃ p ys, xs = [.ref p] ∧ (SqL X.K H p ys ∨ SqT X.K H p ys) ∧ Q (.int ys.length) H) (tCons (tVar i) tNil))) : DE X W e (lenO i) := by
  refine PE.imp h fun σ H Q ⟨F, P, β, η, S, rr, e, s, p⟩ => ?_
  unfold lenO at e
  cases q0 : ownL i η with
  | none => simp only [q0] at e; cases e
  | some ds0 =>
    simp only [q0] at e
    cases e
    obtain ⟨a, hσ, vs, hH, hl, ra⟩ := s.owns i _ (ownL_some q0)
    refine ⟨_, hσ, a, vs, rfl, .inl (SqL.of hH), ?_⟩
    rw [ra.length]
    exact p F β H (Ex.refl _) (Bx.refl _) s _ (.int _)
end
end Y
/-! Y12: short words for printed derivations. -/
namespace Y
open PySem L2 PySem.Spec PyProof.Rows
def toRet0 : Option (Res Fl) → Option Ret
  | some (.ok (.rt d) _ S') => some (.ok d S')
  | some (.ok .nx _ S') => some (.ok .non S')
  | _ => none
/-- a def that lets no exception out -/
def fn0 (n N : Nat) (m : M Fl) : Fn := fun ds S => if ds.length = n then toRet0 (m (frame N ds) S) else none
/-- a def of the text at an address -/
structure FnAt (K : PySem.W.Frag) (mg : Str → Option Value) (x : Str) (st : Stmt) (ps : List Str) (f : Addr) (fd : FuncData) : Prop where
  mgf : mg x = some (.ref f)
  fn : Fun K x x st f fd
  kp : PySem.W.keepIn K (.ref f) = true
  bi : Binds K fd ps []
section
variable {P : Program} {w : World} {K : PySem.W.Frag} {mg : Str → Option Value} {base : Heap}
theorem fn_ok0 {x qual : Str} {st : Stmt} {f : Addr} {fd : FuncData} {N ps : List Str} {k : Nat} {m : M Fl} (F : Fun K x qual st f fd) (Sc : FnScope N ps (defScope st))
    (hb : ∀ (cdv : Value) (A : Around) (out : List Env) (s : Shared) (H : Hp) (E : XK), (A.deeper (envOfC qual (defScope st) s.heap.objs.size f cdv)).guards = some [] → Room k (A.deeper (envOfC qual (defScope st) s.heap.objs.size f cdv)) →
      DSs (cxOf CX0 P w K mg base N qual (defScope st) f cdv A out s H E).nox W0 (defBody st) m) : FnG P w K mg base CX0 (k + 1) f fd ps (spF (K, w) mg ps.length (fn0 ps.length N.length m)) := by
  refine Fun.okG F Sc (fun vs H Q E ⟨F, P, β, S, ds, r, hl, e, ra, _⟩ => ra.length.trans hl) fun cdv A out s H vs Q E hg hr h => ?_
  refine ⟨_, dss_nox (hb cdv A out s H E hg hr), ?_⟩
  obtain ⟨F, P, β, S, ds, r, hl, e, ra, st, rp⟩ := h
  unfold fn0 at e
  rw [if_pos hl] at e
  cases q : m (frame N.length ds) S with
  | none => rw [q] at e; cases e
  | some r1 =>
    rw [q] at e
    refine ⟨F, P, β, frame N.length ds, S, r1, q, st.begin ra N, ?_⟩
    cases r1 with
    | ex x η1 S1 => cases e
    | ok fl η1 S1 =>
      cases fl with
      | nx => cases e; exact fun F' β' σ' H' e1 b1 s1 => rp F' β' H' _ e1 b1 s1.bare .non
      | rt d => cases e; exact fun F' β' σ' H' v e1 b1 s1 rv => rp F' β' H' v e1 b1 s1.bare rv
      | bk => cases e
      | ct => cases e
theorem fn0_len {n N : Nat} {m : M Fl} : ∀ ds S, ds.length ≠ n → fn0 n N m ds S = none := fun ds S h => by unfold fn0; rw [if_neg h]
theorem hu64 {k : Nat} {A : Around} (hr : Room k A) : A.units + 64 < cLine := by have := hr.un; omega
theorem passW {X : Cx} {W : WX} : ∀ σ, PassesAt CX0 X σ (fun cls d H => W cls d σ H) := fun _ _ _ _ _ _ _ h => h.elim
end
section
variable {X : Cx} {W : WX}
/-- a call of an own def -/
theorem de_fn {x : Str} {p pos : Pos} {e : Expr} {es : List Expr} {k n N : Nat} {f : Addr} {fd : FuncData} {ps : List Str} {st : Stmt} {m : M Fl} {r : M (List D)} (A : FnAt X.K X.mg x st ps f fd) (G : FnG X.prog X.w X.K X.mg X.base CX0 k f fd ps (spF X.kw X.mg n (fn0 n N m)))
    (hG : X.A.guards = some []) (hr : Room k X.A) (hg : Gl X x) (ha : DA X W (e :: es) r) (hdb : (x == ("__debug__" : Str)) = false := by decide) (he : starEach (e :: es) X.env = (false, eval e X.env) :: starEach es X.env := by rfl) (hpl : (backTo pos (starEach es X.env)).any (·.1) = false := by rfl) :
    DE X W (.Call (.Name x p) (e :: es) [] pos) (callF (fn0 n N m) r) :=
  de_call (fun ha => pe_callG G hG hr hg A.mgf A.kp A.bi passW ha hdb he hpl) ha fn0_len
/-- a built-in function, a built-in class, called -/
theorem de_bf {x : Str} {id : String} {p pos : Pos} {e : Expr} {es : List Expr} {g : List D → Option D} {r : M (List D)} (hc : CallR X (.builtin id) (AskC X g)) (hg : Gl X x) (hm : X.mg x = none) (hv : bootBuiltins x = some (.builtin id)) (ha : DA X W (e :: es) r) (hn : x ≠ "__name__" := by decide) (hdb : (x == ("__debug__" : Str)) = false := by decide)
    (he : starEach (e :: es) X.env = (false, eval e X.env) :: starEach es X.env := by rfl) (hpl : (backTo pos (starEach es X.env)).any (·.1) = false := by rfl) : DE X W (.Call (.Name x p) (e :: es) [] pos) (opC g r) :=
  PE.imp (pe_callB hc hg hm hv ha hn hdb he hpl) fun _ _ _ h => run_opC h
theorem de_bc {x : Str} {T : String} {p pos : Pos} {e : Expr} {es : List Expr} {g : List D → Option D} {r : M (List D)} (hc : CallR X (.type T) (AskC X g)) (hg : Gl X x) (hm : X.mg x = none) (hv : bootBuiltins x = some (.type T)) (ha : DA X W (e :: es) r) (hn : x ≠ "__name__" := by decide) (hdb : (x == ("__debug__" : Str)) = false := by decide)
    (he : starEach (e :: es) X.env = (false, eval e X.env) :: starEach es X.env := by rfl) (hpl : (backTo pos (starEach es X.env)).any (·.1) = false := by rfl) : DE X W (.Call (.Name x p) (e :: es) [] pos) (opC g r) :=
  PE.imp (pe_callTy hc hg hm hv ha hn hdb he hpl) fun _ _ _ h => run_opC h
/-- a built-in class as a value -/
theorem de_ty {x : Str} {T : String} {pos : Pos} (hg : Gl X x) (hm : X.mg x = none) (hv : bootBuiltins x = some (.type T)) (hn : x ≠ "__name__" := by decide) (hd : (x == ("__debug__" : Str)) = false := by decide) : DE X W (.Name x pos) (const (.ty T)) :=
  de_glob (pe_bltn (v := .ty T) hg hm hv rfl hn hd) fun _ _ => .ty T
theorem de_gint {x : Str} {i : Int} {pos : Pos} (hg : Gl X x) (hm : ∃ t, X.mg x = some (.int i t)) (hd : (x == ("__debug__" : Str)) = false := by decide) : DE X W (.Name x pos) (const (.int i)) := by
  obtain ⟨t, hm⟩ := hm
  exact de_glob (pe_glob (v := .int i) hg hm ⟨t, rfl⟩ hd) fun _ _ => .int i
theorem de_gstr {x y : Str} {pos : Pos} (hg : Gl X x) (hm : ∃ t, X.mg x = some (.str y t)) (hy : PyData.strOk y = true) (hd : (x == ("__debug__" : Str)) = false := by decide) : DE X W (.Name x pos) (const (.str y)) := by
  obtain ⟨t, hm⟩ := hm
  exact de_glob (pe_glob (v := .str y) hg hm ⟨t, rfl⟩ hd) fun _ _ => .str hy
theorem boot_all' : bootBuiltins "all" = some (.builtin "all") := by decide +kernel
theorem boot_any' : bootBuiltins "any" = some (.builtin "any") := by decide +kernel
theorem boot_len' : bootBuiltins "len" = some (.builtin "len") := by decide +kernel
theorem boot_max' : bootBuiltins "max" = some (.builtin "max") := by decide +kernel
theorem boot_repr' : bootBuiltins "repr" = some (.builtin "repr") := by decide +kernel
theorem boot_isinstance' : bootBuiltins "isinstance" = some (.builtin "isinstance") := by decide +kernel
theorem boot_sorted' : bootBuiltins "sorted" = some (.builtin "sorted") := by decide +kernel
theorem boot_int' : bootBuiltins "int" = some (.type "int") := by decide +kernel
theorem boot_bool' : bootBuiltins "bool" = some (.type "bool") := by decide +kernel
theorem boot_str' : bootBuiltins "str" = some (.type "str") := by decide +kernel
theorem boot_tuple' : bootBuiltins "tuple" = some (.type "tuple") := by decide +kernel
theorem boot_list' : bootBuiltins "list" = some (.type "list") := by decide +kernel
theorem boot_dict' : bootBuiltins "dict" = some (.type "dict") := by decide +kernel
theorem boot_set' : bootBuiltins "set" = some (.type "set") := by decide +kernel
end
end Y
/-! Y13: -x, {}, a, b = x, y; list(..). -/
namespace Y
open PySem L2 PySem.Spec PyProof.Rows
section
variable {X : Cx} {W : WX}
def negD (d : D) : Option D := match d with
  | .int i => some (.int (-i))
  | _ => none
def negV (m : M D) : M D := m.bind fun d => M.lift (negD d)
theorem de_neg {a : Expr} {pos : Pos} {m : M D} (h : DE X W a m) : DE X W (.UnaryOp .USub a pos) (negV m) := by
  refine PE.imp (pe_un un_neg h) fun σ H Q ⟨F, P, β, η, S, q⟩ => ?_
  refine ⟨F, P, β, η, S, (Run.bind q).imp fun d η1 S1 F1 β1 H1 s1 ⟨e1, b1, h1⟩ v r1 => ?_⟩
  obtain ⟨c, ec, s, p⟩ := Run.lift h1
  cases d with
  | int i => cases ec; cases r1; exact ⟨i, rfl, p F1 H1 (Ex.refl _) s _ (.int _)⟩
  | _ => cases ec
def dict0 : M D := M.ret (.dd [])
theorem de_dict0 {pos : Pos} : DE X W (.Dict [] [] pos) dict0 := by
  refine PE.imp pe_dnewK fun σ H Q ⟨F, P, β, η, S, r, e, s, p⟩ => ?_
  cases e
  intro a ha
  have hf := s.fnone ha
  exact p (upd F a (.dK [])) β _ (Ex.new hf) (Bx.refl _) (s.new ha) _ (.d0 upd_same)
def par2 (i j : Nat) (r : M (List D)) : M Fl := r.bind fun ds => match ds with
  | [a, b] => seqS (put i a) (put j b)
  | _ => M.fail
theorem ds_par2 {st : Stmt} {es : List Expr} {i j : Nat} {r : M (List D)} (h : ∀ {ta : TA}, PA X es ta → PS X st (tPar i j ta)) (ha : DA X W es r) : DS X W st (par2 i j r) := by
  refine PS.imp (h ha) fun Dn σ H ⟨F, P, β, η, S, q⟩ => ?_
  refine ⟨F, P, β, η, S, (Run.bindS q).imp fun ds η1 S1 F1 β1 H1 s1 ⟨e1, b1, r1, e, s, p⟩ vs ra => ?_⟩
  split at e
  · cases ra with
    | cons ra rb => cases rb with
      | cons rb rn =>
        cases rn
        refine ⟨_, _, rfl, ?_⟩
        unfold seqS M.bind put at e
        split at e
        · cases e
        · rename_i q1
          split at q1
          · rename_i hi
            cases q1
            simp only at e
            split at e
            · rename_i hj
              cases e
              exact p F1 β1 _ H1 (Ex.refl _) (Bx.refl _) ((s.set ra hi).set rb hj)
            · cases e
          · cases q1
        · rename_i q1
          split at q1 <;> cases q1
  · cases e
/-! ### list(x) -/
def listD (ds : List D) : Option (List D) := match ds with
  | [.lst xs] => some xs
  | [.tup xs] => some xs
  | [.scr ns] => some (ns.map .int)
  | [.str x] => if x.length ≤ sizeLine then some (signs x) else none
  | _ => none
def listN (r : M (List D)) : M (List D) := r.bind fun ds => M.lift (listD ds)
theorem vals_of : ∀ (xs : List V) (us : List Value), xs.length = us.length → (∀ (i : Nat) (x : V) (u : Value), xs[i]? = some x → us[i]? = some u → RelV x u) → Vals xs us
  | [], [], _, _ => .nil
  | x :: xs, u :: us, hl, h => .cons (h 0 x u rfl rfl) (vals_of xs us (by simpa using hl) fun i y v h1 h2 => h (i + 1) y v (by simpa using h1) (by simpa using h2))
theorem call_listStr (hc : X.calm = true) : CallR X (.type "list") (fun xs H Q => ∃ x, xs = [.str x] ∧ x.length ≤ sizeLine ∧ ∀ p, H p = none → Q (.ref p) (upd H p (.lst (x.cps.toList.map fun c => V.str ⟨#[c]⟩)))) := by
  intro pins s σ H xs us Q I rx q
  obtain ⟨x, rfl, hl, q⟩ := q
  cases rx with
  | cons u1 u2 =>
    cases u2
    obtain ⟨t, rfl⟩ := u1
    refine call_list_str (I.ok.hd hc) x t (fun h' tk acc c hk hS hacc => ?_) hl
    have hp := I.hok.fresh (Nat.le_refl s.heap.objs.size)
    refine ⟨.ref s.heap.objs.size, _, ?_, rfl, q s.heap.objs.size hp⟩
    have hn : acc.toList.length = x.cps.size := by
      have := hacc.1
      rw [Array.length_toList]; exact this
    refine I.laid (t' := tk) hk (Nat.le_refl _) ⟨?_, acc.toList, c, ?_, ?_⟩
    · rw [List.length_map, Array.length_toList]; exact hl
    · refine vals_of _ _ (by rw [List.length_map, Array.length_toList, hn]) fun i y u h1 h2 => ?_
      rw [List.getElem?_map] at h1
      have h2' : acc[i]? = some u := by rw [← Array.getElem?_toList]; exact h2
      obtain ⟨c', t', e1, e2⟩ := hacc.2 i u h2'
      have e3 : x.cps.toList[i]? = some c' := by rw [Array.getElem?_toList]; exact e1
      rw [e3] at h1
      cases h1
      exact ⟨t', e2⟩
    · rw [hS]
def AskN (X : Cx) (g : List D → Option (List D)) : List V → Hp → VK → Prop := fun vs H Q => ∃ F P β σ η S ds cs, Ste X.kw X.mg F P β σ η S H ∧ RAll X.kw F β vs ds ∧ g ds = some cs ∧
    ∀ p vs', H p = none → vs'.length ≤ sizeLine → RAll X.kw F β vs' cs → Q (.ref p) (upd H p (.lst vs'))
theorem run_opN {g : List D → Option (List D)} {r : M (List D)} {σ : L2.St} {H : Hp} {Q : VK} (h : rdN X W (r.bind fun ds => M.lift (g ds)) σ H Q) : tCB (AskN X g) (rdA X W r) σ H Q := by
  obtain ⟨F, P, β, η, S, h⟩ := h
  refine ⟨F, P, β, η, S, (Run.bind h).imp fun ds η1 S1 F1 β1 H1 s1 ⟨e1, b1, h1⟩ vs r1 => ?_⟩
  obtain ⟨c, ec, s, p⟩ := Run.lift h1
  exact ⟨F1, P, β1, σ, η1, S1, ds, c, s, r1, ec, fun a vs' ha hl ra => p F1 H1 (Ex.refl _) s a vs' ha hl ra⟩
theorem RAll.signs {K : KW} {F : Hp} {β : Nat → Option Addr} {x : Str} (h : PyData.strOk x = true) : RAll K F β (x.cps.toList.map fun c => V.str ⟨#[c]⟩) (Y.signs x) := by
  rw [strOk_list] at h
  unfold Y.signs
  have : ∀ l : List Nat, (∀ c ∈ l, c < 0x110000) → RAll K F β (l.map fun c => V.str ⟨#[c]⟩) (l.map fun c => D.str ⟨#[c]⟩) := by
    intro l
    induction l with
    | nil => intro _; exact .nil
    | cons c l ih => intro hl; exact .cons (.str (by rw [strOk_list]; intro d hd; simp at hd; subst hd; exact hl d (by simp))) (ih fun d hd => hl d (by simp [hd]))
  exact this _ h
theorem cn_list (hc : X.calm = true) : CallR X (.type "list") (AskN X listD) := Y.CallR.imp (Y.CallR.or call_list_of (call_listStr hc)) fun vs H Q q => by
  obtain ⟨F, P, β, σ, η, S, ds, c, s, ra, e, k⟩ := q
  unfold listD at e
  split at e
  · cases e
    cases ra with
    | cons r1 r2 =>
      cases r2
      cases r1 with
      | lst h l a => exact .inl ⟨_, _, rfl, .inl (SqL.of (s.fsub _ _ h)), fun p hp => k p _ hp l a⟩
  · cases e
    cases ra with
    | cons r1 r2 =>
      cases r2
      cases r1 with
      | tup h l a => exact .inl ⟨_, _, rfl, .inr (s.fsub.t h), fun p hp => k p _ hp l a⟩
  · cases e
    cases ra with
    | cons r1 r2 =>
      cases r2
      cases r1 with
      | scr h l => exact .inl ⟨_, _, rfl, .inl (s.fsub.l h), fun p hp => k p _ hp (by rw [List.length_map]; exact l) (RAll.ints _)⟩
  · split at e
    · rename_i hl
      cases e
      cases ra with
      | cons r1 r2 =>
        cases r2
        cases r1 with
        | str ok => exact .inr ⟨_, rfl, hl, fun p hp => k p _ hp (by rw [List.length_map, Array.length_toList]; exact hl) (RAll.signs ok)⟩
    · cases e
  · cases e
theorem dn_list {x : Str} {p pos : Pos} {e : Expr} {es : List Expr} {r : M (List D)} (hc : X.calm = true) (hg : Gl X x) (hm : X.mg x = none) (hv : bootBuiltins x = some (.type "list")) (ha : DA X W (e :: es) r) (hn : x ≠ "__name__" := by decide) (hdb : (x == ("__debug__" : Str)) = false := by decide)
    (he : starEach (e :: es) X.env = (false, eval e X.env) :: starEach es X.env := by rfl) (hpl : (backTo pos (starEach es X.env)).any (·.1) = false := by rfl) : DN X W (.Call (.Name x p) (e :: es) [] pos) (listN r) :=
  PE.imp (pe_callTy (cn_list hc) hg hm hv ha hn hdb he hpl) fun _ _ _ h => run_opN h
end
end Y
/-! Y14: enumerate of tuples and texts. -/
namespace Y
open PySem L2 PySem.Spec PyProof.Rows PySem.W
section
theorem enum_new1 {v : Value} {ob : Obj} {Hh : Heap → Prop} (B : Begins v ob Hh) :
    Meets (Builtin.«enumerate.__new__» ⟨[.type "enumerate", v], []⟩) (fun _ R st => Hh st.heap ∧ R (.ok (.ret (.ref (st.heap.push ob).objs.size)))
      { st with heap := (st.heap.push ob).push { cls := .type "enumerate", data := .fields #[.none, .bool false, .ref st.heap.objs.size, rawInt 0, .none, .none] } }) := by
  refine .of_wp fun prog w A R st hh => ?_
  obtain ⟨hp, gs, dr, tk, os⟩ := st
  obtain ⟨hb, hR⟩ := hh
  have hsub := sub_enumerate
  have go : ∀ {A' : Around} {E : Value → Shared → Prop} {Q : Value → Shared → Prop}, Q (.ref hp.objs.size) ⟨hp.push ob, gs, dr, tk, os⟩ → wpAny (model prog w) A' (pyIter v) Q E ⟨hp, gs, dr, tk, os⟩ :=
    fun k => B.iter prog w _ _ ⟨hp, gs, dr, tk, os⟩ _ hb k
  wp_walk using go
  refine wpAny_stack_any fun stk => wpAny_pure ?_
  split
  · rename_i kl _ _ _ _ _
    cases (kl == Value.type "enumerate") <;> (wp_walk using go; exact ⟨_, rfl, hR⟩)
  · wp_walk using go
    exact ⟨_, rfl, hR⟩
end
section
variable {prog : Program} {w : World} {A : Around} {E : Value → Shared → Prop} {s : Shared}
theorem enum_call1 {v : Value} {ob : Obj} {Hh : Heap → Prop} {Q : Value → Shared → Prop} (B : Begins v ob Hh) (hb : Hh s.heap)
    (k : ∀ h', IsEnum h' (s.heap.objs.size + 1) s.heap.objs.size 0 .none → h'.get? s.heap.objs.size = some ob → (∀ b o, s.heap.get? b = some o → h'.get? b = some o) → Q (.ref (s.heap.objs.size + 1)) { s with heap := h' }) :
    wpAny (model prog w) A (call (.type "enumerate") [v]) Q E s := by
  have hz : (s.heap.push ob).objs.size = s.heap.objs.size + 1 := Heap.size_push ..
  have there := Heap.get?_push_size (s.heap.push ob) (o := { cls := .type "enumerate", data := .fields #[.none, .bool false, .ref s.heap.objs.size, rawInt 0, .none, .none] }) rfl
  rw [hz] at there
  apply callType_new F.called_enumerate (by decide) (F.typeCall_enumerate_1 _) (F.newCall_enumerate_1 _) (fun o => F.args_object_init_2 o _) F.entry_enumerate_new (enum_new1 B)
  refine ⟨hb, ?_⟩
  rw [hz]
  exact ⟨⟨_, there, rfl⟩, k _ there (Heap.get?_push_of_some _ (Heap.get?_push_size _ B.free)) fun b o x => Heap.get?_push_of_some _ (Heap.get?_push_of_some _ x)⟩
end
/-- the tuple at a, each item in a new pair -/
def IteT (K : PySem.W.Frag) (a : Addr) : It where
  go := fun i H => ∃ (xs : List V) (x : V), SqT K H a xs ∧ xs[i]? = some x
  yld := fun i H v H' => ∃ T x, v = .ref T ∧ H T = none ∧ H' = upd H T (.tup [.int (i : Nat), x]) ∧ ∀ xs, SqT K H a xs → xs[i]? = some x
  stop := fun i H => ∃ xs : List V, SqT K H a xs ∧ xs.length = i
/-- the signs of a text, each in a new pair -/
def IteS (z : Str) : It where
  go := fun i _ => i < z.cps.size
  yld := fun i H v H' => ∃ T c, v = .ref T ∧ H T = none ∧ H' = upd H T (.tup [.int (i : Nat), .str ⟨#[c]⟩]) ∧ z.cps[i]? = some c
  stop := fun i _ => i = z.cps.size
/-- one turn of an enumerate, over what its inner iterator draws -/
theorem enum_turn {X : Cx} {pins : List (Addr × Obj)} {σ : L2.St} {H : Hp} {s : Shared} {E : Value → Shared → Prop} {elts : List Expr} {kk : Nat} {tpos : Pos} {e it : Addr} {fp : List Addr} {n i : Nat} {Pv : Nat → Value → Prop} {Sv : Nat → Heap → Prop} {old : Value} {x : V}
    (I : Inv X pins σ H s) (hf : ∀ b ∈ [e, it], FpOk X pins H b) (Dr : Draws X.prog X.w X.A.in1 it fp n Pv Sv) (he : IsEnum s.heap e it (i : Nat) old) (hs : Sv i s.heap) (hi : i < n) (ne : e ≠ it) (nf : e ∉ fp) (hx : ∀ u, Pv i u → RelV x u) {Z : Nat → Heap → Prop} (hZ : ∀ h', Sv (i + 1) h' → Z (i + 1) h')
    (hZk : ∀ h' h'', Z (i + 1) h' → (∀ o, h'.get? it = some o → h''.get? it = some o) → Z (i + 1) h'') (hlt : it < s.heap.objs.size) :
    wpAny (model X.prog X.w) X.A (pyNext (.ref e)) (fun r s1 => ∃ u, r = some u ∧ wpAny (model X.prog X.w) X.A (letOwnedTupleGo (.Tuple elts kk tpos) (.ref e) u) (fun _ s2 => ∃ v H', Inv X pins σ H' s2 ∧ RelV v u ∧
      (∃ T, v = .ref T ∧ H T = none ∧ H' = upd H T (.tup [.int (i : Nat), x])) ∧ ((∃ old, IsEnum s2.heap e it ((i + 1 : Nat) : Int) old) ∧ Z (i + 1) s2.heap) ∧ ∀ b ∈ [e, it], H' b = none) E s1) E s := by
  have hel : e < s.heap.objs.size := Heap.lt_size he
  refine wpAny_pyNext_enum_itemD Dr he hs hi ne nf fun u h' tk pu ho hs' hT hsz hk => ?_
  refine ⟨_, rfl, wpAny_letOwnedTupleGo_enum (s := { s with heap := h', toks := tk + 1 }) ho fun h2 he2 sb => ?_⟩
  have hT2 : h2.get? s.heap.objs.size = some { cls := .type "tuple", data := .seq #[.int i tk, u] } := (sb.2 _ (Nat.ne_of_gt hel)).trans hT
  have mk : ObjOk X.prog X.w (upd H s.heap.objs.size (.tup [.int (i : Nat), x])) h2 s.heap.objs.size (.tup [.int (i : Nat), x]) :=
    ⟨by show 2 ≤ sizeLine; decide, [.int i tk, u], .cons ⟨_, rfl⟩ (.cons (hx u pu) .nil), _, hT2, rfl, _, rfl⟩
  have I1 := I.turnedNew (t' := tk + 1) (ch := [e, it]) (fun b ob hb q => (sb.2 b (fun z => hb (by simp [z]))).trans (hk b ob (fun z => hb (by simp [z])) (fun z => hb (by simp [z])) q)) hf (Nat.le_refl _) mk
  refine ⟨.ref s.heap.objs.size, _, I1, rfl, ⟨_, rfl, I.hok.fresh (Nat.le_refl _), rfl⟩, ⟨⟨u, ?_⟩, hZk h' h2 (hZ h' hs') fun o q => (sb.2 it (Ne.symm ne)).trans q⟩, fun b hb => ?_⟩
  · have e1 : ((i + 1 : Nat) : Int) = (i : Int) + 1 := by omega
    rw [e1]; exact he2
  · have hb' : b < s.heap.objs.size := by
      rcases List.mem_cons.mp hb with z | z
      · rw [z]; exact hel
      · rw [List.mem_singleton.mp z]; exact hlt
    rw [upd_ne (Nat.ne_of_lt hb')]
    exact (hf b hb).1
theorem turn_enumT {P : Program} {w : World} {K : PySem.W.Frag} {elts : List Expr} {kk : Nat} {tpos : Pos} (a e it : Addr) :
    Turn P w K (.Tuple elts kk tpos) (IteT K a) [e, it] e (fun i h => (∃ old, IsEnum h e it ((i : Nat) : Int) old) ∧ (h.IsTupleIter it a i ∧ e ≠ it ∧ a ≠ it ∧ a ≠ e)) where
  mem := List.mem_cons_self
  obj := by
    rintro i h ⟨⟨old, he⟩, ⟨o, ho, hc, hd⟩, _⟩ b hb
    rcases List.mem_cons.mp hb with z | z
    · subst z; exact ⟨_, he, fun v q => nomatch q⟩
    · cases List.mem_singleton.mp z; exact ⟨o, ho, fun v q => by rw [hd] at q; cases q⟩
  keep := by
    rintro i h h' ⟨⟨old, he⟩, hi, ne⟩ k
    exact ⟨⟨old, k e (by simp) _ he⟩, hi.at fun o q => k it (by simp) o q, ne⟩
  item := by
    intro X hP hw hK hc i pins s σ H E I hf st hg
    subst hP hw hK
    obtain ⟨⟨old, he⟩, hit, ne, na, nb⟩ := st
    obtain ⟨xs, x, hq, hx⟩ := hg
    obtain ⟨its, rv, ⟨o, ho, hco, n, hd⟩, hz⟩ := I.tuple hq
    obtain ⟨u, hu, ru⟩ := rv.get hx
    have hT : s.heap.IsTuple a its.toArray := ⟨o, ho, hco, n, hd⟩
    have hil : it < s.heap.objs.size := by obtain ⟨_, q, _⟩ := hit; exact Heap.lt_size q
    have hlt : i < its.toArray.size := by rw [List.size_toArray]; exact (List.getElem?_eq_some_iff.mp hu).1
    have hu' : its.toArray[i]? = some u := by simpa using hu
    refine thn (enum_turn (elts := elts) (kk := kk) (tpos := tpos) (x := x) (Z := fun i h => h.IsTupleIter it a i ∧ e ≠ it ∧ a ≠ it ∧ a ≠ e) I hf (Draws.tuple (A := X.A.in1) (I.ok.hd hc) it a na its.toArray) he ⟨hit, hT⟩ hlt ne (by simp [ne, Ne.symm nb]) (fun y hy => ?_) (fun h' q => ⟨q.1, ne, na, nb⟩) (fun h' h'' q k => ⟨q.1.at fun o z => k o z, q.2⟩) hil) ?_
    · rw [hu'] at hy; cases hy; exact ru
    · rintro r s1 ⟨y, rfl, h1⟩
      refine ⟨y, rfl, thn h1 ?_⟩
      rintro _ s2 ⟨v, H', I', rv', ⟨T, rfl, hT0, rfl⟩, q1, q2⟩
      exact ⟨_, _, I', rv', ⟨T, x, rfl, hT0, rfl, fun ys hy => by rw [I.tuple_inj hy hq]; exact hx⟩, q1, q2⟩
  done := by
    intro X hP hw hK hc i pins s σ H E I hf st hg
    subst hP hw hK
    obtain ⟨⟨old, he⟩, hit, ne, na, nb⟩ := st
    obtain ⟨xs, hq, hx⟩ := hg
    obtain ⟨its, rv, ⟨o, ho, hco, n, hd⟩, hz⟩ := I.tuple hq
    have hT : s.heap.IsTuple a its.toArray := ⟨o, ho, hco, n, hd⟩
    obtain ⟨f0, f1, f2, f3, f4, f5⟩ := hf it (by simp)
    have hl := rv.length
    have hi : i = its.toArray.size := by rw [List.size_toArray]; omega
    subst hi
    exact wpAny_pyNext_enum_endD (Draws.tuple (A := X.A.in1) (I.ok.hd hc) it a na its.toArray) he ⟨hit, hT⟩ fun h' eb => ⟨rfl, I.turned (t' := s.toks) (fun b o hb q => eb b o hb q) f0 f1 f3 f4 f5⟩
  self := by
    rintro A i s Q E ⟨⟨_, he⟩, _⟩ h
    exact wpAny_pyIter_enum he h
theorem turn_enumS {P : Program} {w : World} {K : PySem.W.Frag} {elts : List Expr} {kk : Nat} {tpos : Pos} (z : Str) (tz : Tok) (e it : Addr) :
    Turn P w K (.Tuple elts kk tpos) (IteS z) [e, it] e (fun i h => (∃ old, IsEnum h e it ((i : Nat) : Int) old) ∧ (h.IsStrIter it (strIterType z) z tz i ∧ e ≠ it)) where
  mem := List.mem_cons_self
  obj := by
    rintro i h ⟨⟨old, he⟩, ⟨o, ho, hc, hd⟩, _⟩ b hb
    rcases List.mem_cons.mp hb with q | q
    · subst q; exact ⟨_, he, fun v q => nomatch q⟩
    · cases List.mem_singleton.mp q; exact ⟨o, ho, fun v q => by rw [hd] at q; cases q⟩
  keep := by
    rintro i h h' ⟨⟨old, he⟩, hi, ne⟩ k
    obtain ⟨o, h1, h2⟩ := hi
    exact ⟨⟨old, k e (by simp) _ he⟩, ⟨o, k it (by simp) o h1, h2⟩, ne⟩
  item := by
    intro X hP hw hK hc i pins s σ H E I hf st hg
    subst hP hw hK
    obtain ⟨⟨old, he⟩, hit, ne⟩ := st
    have hg : i < z.cps.size := hg
    have hil : it < s.heap.objs.size := by obtain ⟨_, q, _⟩ := hit; exact Heap.lt_size q
    have hcz : z.cps[i]? = some z.cps[i] := Array.getElem?_eq_getElem hg
    refine thn (enum_turn (elts := elts) (kk := kk) (tpos := tpos) (x := V.str ⟨#[z.cps[i]]⟩) (Z := fun i h => h.IsStrIter it (strIterType z) z tz i ∧ e ≠ it) I hf (Draws.text (A := X.A.in1) (I.ok.hd hc) it z tz) he hit hg ne (by simp [ne]) (fun y hy => ?_) (fun h' q => ⟨q, ne⟩) (fun h' h'' q k => ⟨let ⟨o, h1, h2⟩ := q.1; ⟨o, k o h1, h2⟩, q.2⟩) hil) ?_
    · obtain ⟨c, u, e1, e2⟩ := hy
      rw [hcz] at e1; cases e1
      exact ⟨u, e2⟩
    · rintro r s1 ⟨y, rfl, h1⟩
      refine ⟨y, rfl, thn h1 ?_⟩
      rintro _ s2 ⟨v, H', I', rv', ⟨T, rfl, hT0, rfl⟩, q1, q2⟩
      exact ⟨_, _, I', rv', ⟨T, z.cps[i], rfl, hT0, rfl, hcz⟩, q1, q2⟩
  done := by
    intro X hP hw hK hc i pins s σ H E I hf st hg
    subst hP hw hK
    obtain ⟨⟨old, he⟩, hit, ne⟩ := st
    have hg : i = z.cps.size := hg
    subst hg
    obtain ⟨f0, f1, f2, f3, f4, f5⟩ := hf it (by simp)
    exact wpAny_pyNext_enum_endD (Draws.text (A := X.A.in1) (I.ok.hd hc) it z tz) he hit fun h' eb => ⟨rfl, I.turned (t' := s.toks) (fun b o hb q => eb b o hb q) f0 f1 f3 f4 f5⟩
  self := by
    rintro A i s Q E ⟨⟨_, he⟩, _⟩ h
    exact wpAny_pyIter_enum he h
section
variable {X : Cx} {W : WX} {e : Expr} {ta : TA} {p pos tpos : Pos} {elts : List Expr} {kk : Nat}
def iEnumA (K : PySem.W.Frag) (ta : TA) : TI := fun σ H R => ta σ H fun vs H1 => (∃ a xs, vs = [.ref a] ∧ SqT K H1 a xs ∧ R (IteT K a) H1) ∨ (∃ z, vs = [.str z] ∧ R (IteS z) H1)
theorem pi_enumA (hg : Gl X "enumerate") (hm : X.mg "enumerate" = none) (ha : PA X [e] ta) (hs : starEach [e] X.env = [(false, eval e X.env)] := by rfl) : PI X (.Tuple elts kk tpos) (.Call (.Name "enumerate" p) [e] [] pos) (iEnumA X.K ta) := by
  constructor
  intro pins s σ H R I h
  refine Call_ (ld_blt I hg hm boot_enumerate (PyProof.Rows.callWith_type1 (thn (ha.run pos pins s σ H _ I h) ?_) hs rfl))
  rintro us s1 ⟨vs, H1, I1, r1, q1⟩
  have fresh : ∀ b, b = s1.heap.objs.size + 1 ∨ b = s1.heap.objs.size → s1.heap.objs.size ≤ b := by
    rintro b (z | z) <;> omega
  rcases q1 with ⟨a, xs, rfl, hq, q⟩ | ⟨z, rfl, q⟩
  · cases r1 with
    | cons r rr =>
      cases rr
      cases r
      obtain ⟨its, rv, ⟨o, ho, hco, n, hd⟩, hz⟩ := I1.tuple hq
      have hal : a < s1.heap.objs.size := Heap.lt_size ho
      refine enum_call1 (begins_tuple a its.toArray) ⟨o, ho, hco, n, hd⟩ fun h' he hit hk => wpAny_pyIter_enum he ?_
      have I2 : L2.Inv X pins σ H1 { s1 with heap := h' } := I1.kept (t' := s1.toks) hk
      refine ⟨s1.heap.objs.size + 1, [s1.heap.objs.size + 1, s1.heap.objs.size], _, _, H1, rfl, I2, turn_enumT a (s1.heap.objs.size + 1) s1.heap.objs.size, ⟨⟨.none, he⟩, ⟨_, hit, rfl, rfl⟩, Nat.succ_ne_self _, Nat.ne_of_lt hal, Nat.ne_of_lt (Nat.lt_succ_of_lt hal)⟩, fun b hb => ?_, q⟩
      have hle := fresh b (by simpa using hb)
      exact I1.fpOk hle (I1.hok.fresh hle)
  · cases r1 with
    | cons r rr =>
      cases rr
      obtain ⟨t, rfl⟩ := r
      refine enum_call1 (begins_text z t) trivial fun h' he hit hk => wpAny_pyIter_enum he ?_
      have I2 : L2.Inv X pins σ H1 { s1 with heap := h' } := I1.kept (t' := s1.toks) hk
      refine ⟨s1.heap.objs.size + 1, [s1.heap.objs.size + 1, s1.heap.objs.size], _, _, H1, rfl, I2, turn_enumS z t (s1.heap.objs.size + 1) s1.heap.objs.size, ⟨⟨.none, he⟩, ⟨_, hit, rfl, rfl⟩, Nat.succ_ne_self _⟩, fun b hb => ?_, q⟩
      have hle := fresh b (by simpa using hb)
      exact I1.fpOk hle (I1.hok.fresh hle)
theorem it_enumT {F : Hp} {β : Nat → Option Addr} {a : Addr} {xs : List V} {ds : List D} (h : SqT X.K F a xs) (ra : RAll X.kw F β xs ds) : ItOk X F β (IteT X.K a) (enumL ds) := by
  intro F1 P β1 σ η S H i ee b s
  have hs := s.fsub.t (ee.t h)
  refine ⟨fun d hd => ?_, fun hi => ⟨xs, hs, by rw [ra.length]; rw [enumL_length] at hi; omega⟩⟩
  rw [enumL_get] at hd
  cases q : ds[i]? with
  | none => rw [q] at hd; cases hd
  | some d0 =>
    rw [q] at hd
    cases hd
    obtain ⟨v, hv, rv⟩ := ra.get q
    refine ⟨⟨xs, v, hs, hv⟩, fun x H' ⟨T, y, e1, e2, e3, e4⟩ => ?_⟩
    subst e1 e3
    have := e4 xs hs
    rw [hv] at this
    cases this
    have hf := s.fnone e2
    exact ⟨upd F1 T (.tup [.int (i : Nat), v]), Ex.new hf, s.new e2, .tup (SqT.of upd_same) (by show 2 ≤ sizeLine; decide) (.cons (.int _) (.cons ((rv.mono ee b).mono (Ex.new hf) (Bx.refl _)) .nil))⟩
theorem it_enumS {F : Hp} {β : Nat → Option Addr} {z : Str} (ok : PyData.strOk z = true) : ItOk X F β (IteS z) (enumL (signs z)) := by
  intro F1 P β1 σ η S H i ee b s
  have hl : (signs z).length = z.cps.size := by unfold signs; rw [List.length_map, Array.length_toList]
  refine ⟨fun d hd => ?_, fun hi => by rw [enumL_length, hl] at hi; exact hi⟩
  rw [enumL_get] at hd
  cases q : (signs z)[i]? with
  | none => rw [q] at hd; cases hd
  | some d0 =>
    rw [q] at hd
    cases hd
    have hi : i < z.cps.size := by rw [← hl]; exact (List.getElem?_eq_some_iff.mp q).1
    refine ⟨hi, fun x H' ⟨T, c, e1, e2, e3, e4⟩ => ?_⟩
    subst e1 e3
    have hf := s.fnone e2
    have hc : z.cps.toList[i]? = some c := by rw [Array.getElem?_toList]; exact e4
    unfold signs at q
    rw [List.getElem?_map, hc] at q
    cases q
    refine ⟨upd F1 T (.tup [.int (i : Nat), .str ⟨#[c]⟩]), Ex.new hf, s.new e2, .tup (SqT.of upd_same) (by show 2 ≤ sizeLine; decide) (.cons (.int _) (.cons (.str ?_) .nil))⟩
    rw [strOk_list] at ok ⊢
    intro k hk
    simp at hk
    subst hk
    exact ok k (List.mem_of_getElem? hc)
def enumA (ds : List D) : Option (List D) := match ds with
  | [.lst xs] => some (enumL xs)
  | [.tup xs] => some (enumL xs)
  | [.str z] => some (enumL (signs z))
  | _ => none
def enumV (r : M (List D)) : M (List D) := rngV enumA r
theorem di_enumA {r : M (List D)} (hg : Gl X "enumerate") (hm : X.mg "enumerate" = none) (ha : DA X W [e] r) (hs : starEach [e] X.env = [(false, eval e X.env)] := by rfl) : DI X W (.Tuple elts kk tpos) (.Call (.Name "enumerate" p) [e] [] pos) (enumV r) := by
  refine Y.PI.imp (Y.PI.or (L2.pi_enum (X := X) (elts := elts) (kk := kk) (tpos := tpos) (p := p) (pos := pos) hg hm ha hs) (pi_enumA (elts := elts) (kk := kk) (tpos := tpos) (p := p) (pos := pos) hg hm ha hs)) fun σ H Rk ⟨F, P, β, η, S, q⟩ => ?_
  obtain ⟨r0, e0, s0, p0⟩ := Run.bind q
  cases r0 with
  | ex x η1 S1 => exact .inl ⟨F, P, β, η, S, _, e0, s0, p0⟩
  | ok ds η1 S1 =>
    cases qe : enumA ds with
    | none =>
      refine .inl ⟨F, P, β, η, S, _, e0, s0, fun F1 β1 H1 e1 b1 s1 vs ra => ?_⟩
      obtain ⟨_, _, h2⟩ := p0 F1 β1 H1 e1 b1 s1
      obtain ⟨c, ec, _⟩ := Run.lift h2
      rw [qe] at ec; cases ec
    | some es =>
      unfold enumA at qe
      split at qe
      · cases qe
        refine .inl ⟨F, P, β, η, S, _, e0, s0, fun F1 β1 H1 e1 b1 s1 vs ra => ?_⟩
        obtain ⟨_, _, h2⟩ := p0 F1 β1 H1 e1 b1 s1
        obtain ⟨c, ec, s2, p2⟩ := Run.lift h2
        cases ec
        cases ra with
        | cons r1 r2 =>
          cases r2
          cases r1 with
          | lst hl ll ra => exact ⟨_, _, rfl, SqL.of (s1.fsub _ _ hl), p2 F1 H1 (Ex.refl _) s2 _ (it_enum (SqL.of hl) ra)⟩
      · cases qe
        refine .inr ⟨F, P, β, η, S, _, e0, s0, fun F1 β1 H1 e1 b1 s1 vs ra => ?_⟩
        obtain ⟨_, _, h2⟩ := p0 F1 β1 H1 e1 b1 s1
        obtain ⟨c, ec, s2, p2⟩ := Run.lift h2
        cases ec
        cases ra with
        | cons r1 r2 =>
          cases r2
          cases r1 with
          | tup hl ll ra => exact .inl ⟨_, _, rfl, s1.fsub.t hl, p2 F1 H1 (Ex.refl _) s2 _ (it_enumT hl ra)⟩
      · cases qe
        refine .inr ⟨F, P, β, η, S, _, e0, s0, fun F1 β1 H1 e1 b1 s1 vs ra => ?_⟩
        obtain ⟨_, _, h2⟩ := p0 F1 β1 H1 e1 b1 s1
        obtain ⟨c, ec, s2, p2⟩ := Run.lift h2
        cases ec
        cases ra with
        | cons r1 r2 =>
          cases r2
          cases r1 with
          | str ok => exact .inr ⟨_, rfl, p2 F1 H1 (Ex.refl _) s2 _ (it_enumS ok)⟩
      · cases qe
end
end Y
/-! Y15: x[::-1] of lists and tuples; list(range(..)). -/
namespace Y
open PySem L2 PySem.Spec PyProof.Rows
theorem back_aux (xs : List Value) : ∀ k : Nat, k ≤ xs.length → ((List.range k).filterMap fun (m : Nat) => xs[xs.length - 1 - m]?) = (xs.drop (xs.length - k)).reverse
  | 0, _ => by simp
  | k + 1, h => by
    rw [List.range_succ, List.filterMap_append, back_aux xs k (by omega)]
    have hlt : xs.length - (k + 1) < xs.length := by omega
    have e : xs.length - 1 - k = xs.length - (k + 1) := by omega
    have e2 : xs.length - k = xs.length - (k + 1) + 1 := by omega
    simp only [List.filterMap_cons, List.filterMap_nil]
    rw [e, List.getElem?_eq_getElem hlt, List.drop_eq_getElem_cons hlt, List.reverse_cons, e2]
theorem back_pick (xs : Array Value) : ((List.range xs.size).filterMap fun (m : Nat) => xs[(((xs.size : Int) - 1) + (m : Int) * (-1)).toNat]?) = xs.toList.reverse := by
  have h := back_aux xs.toList xs.size (by rw [Array.length_toList]; exact Nat.le_refl _)
  rw [Array.length_toList, Nat.sub_self, List.drop_zero] at h
  rw [← h]
  congr 1
  funext m
  have e : (((xs.size : Int) - 1) + (m : Int) * (-1)).toNat = xs.size - 1 - m := by omega
  rw [e, Array.getElem?_toList]
section
variable {prog : Program} {w : World} {A : Around} {E : Value → Shared → Prop} {s : Shared}
theorem applied_back {sl : Addr} {vl vu vk : Value} {n : Nat} {Q : Int × Int × Nat → Shared → Prop} (hs : s.heap.IsSliceOf sl vl vu vk) (pl : IsPart vl none) (pu : IsPart vu none) (pk : IsPart vk (some (-1)))
    (k : Q ((n : Int) - 1, -1, n) s) : wpAny (model prog w) A (Builtin.Slice.sliceApplied (.ref sl) (pure (n : Int))) Q E s := by
  obtain ⟨os, hos, hcs, hds⟩ := id hs
  unfold Builtin.Slice.sliceApplied Builtin.Slice.sliceFields
  apply wpAny_bind
  apply wpAny_bind
  apply wpAny_field hos hds (x := vl) rfl
  apply wpAny_bind
  apply wpAny_field hos hds (x := vu) rfl
  apply wpAny_bind
  apply wpAny_field hos hds (x := vk) rfl
  apply wpAny_pure
  apply wpAny_bind
  apply HT.slicePart_ pk
  show wpAny _ _ (if ((-1 : Int) == 0) = true then _ else _) _ _ s
  rw [if_neg (by decide)]
  apply wpAny_bind
  apply HT.slicePart_ pl
  apply wpAny_bind
  apply HT.slicePart_ pu
  apply wpAny_bind
  apply wpAny_pure
  have adj : Builtin.Slice.sliceAdjust none none (-1) (n : Int) = ((n : Int) - 1, -1) := by
    unfold Builtin.Slice.sliceAdjust
    simp
  have pl : Builtin.Slice.slicePlaces ((n : Int) - 1) (-1) (-1) = n := by
    unfold Builtin.Slice.slicePlaces
    simp only [show ¬ ((-1 : Int) > 0) by omega, if_false, Int.neg_neg, Int.ediv_one]
    split <;> omega
  show wpAny _ _ (match Builtin.Slice.sliceAdjust none none (-1) (n : Int) with | (lo, hi) => pure (lo, (-1 : Int), Builtin.Slice.slicePlaces lo hi (-1))) _ _ s
  rw [adj]
  show wpAny _ _ (pure ((n : Int) - 1, (-1 : Int), Builtin.Slice.slicePlaces ((n : Int) - 1) (-1) (-1))) _ _ s
  rw [pl]
  exact wpAny_pure k
theorem tuple_back {t sl : Addr} {items : Array Value} {vl vu vk : Value} {Q : Value → Shared → Prop} (ht : IsTup s.heap t items) (hs : s.heap.IsSliceOf sl vl vu vk) (pl : IsPart vl none) (pu : IsPart vu none) (pk : IsPart vk (some (-1)))
    (k : Q (.ref s.heap.objs.size) { s with heap := s.heap.push { cls := .type "tuple", data := .seq items.toList.reverse.toArray } }) (hsz : items.size ≤ sizeLine) : wpAny (model prog w) A (getItem (.ref t) (.ref sl)) Q E s := by
  obtain ⟨os, hos, hcs, hds⟩ := id hs
  have small : sizeOk (.seq items.toList.reverse.toArray) := by
    show items.toList.reverse.toArray.size ≤ sizeLine
    rw [List.size_toArray, List.length_reverse, Array.length_toList]
    exact hsz
  unfold getItem
  try with_reducible refine wpAny_holding ?_
  first | refine wpAny_bind (wpAny_pure ?_) | skip
  apply wpAny_bind
  apply wpAny_sequenceKey ht.typeIs (by decide)
  apply wpAny_bind
  apply wpAny_callSpecial?_slot (name := Str.ofString "__getitem__") ht.typeIs PyProof.Rows.slot_tuple_getitem
  apply wpAny_call_entry PyProof.Rows.slot_tuple_getitem ht.typeIs entry_tuple_getitem ?_ (args_tuple_getitem _ _)
  show wpAny _ _ (Builtin.Tuple.tupleItemsOf (.ref t) >>= _) _ _ s
  apply wpAny_bind
  apply tupleItemsOf_ ht
  apply wpAny_bind
  apply wpAny_typeOf (show s.TypeIs (.ref sl) "slice" from ⟨os, hos, hcs⟩)
  rw [if_pos (by decide)]
  apply wpAny_bind
  apply applied_back hs pl pu pk
  show wpAny _ _ (if (((items.size : Int) - 1) == 0 && (-1 : Int) == 1 && items.size == items.size) = true then _ else _) _ _ s
  rw [if_neg (by simp), back_pick]
  first
    | exact wpAny_bind (m := Builtin.Tuple.tupleExact _) (wpAny_newObj_type (wpAny_pure ⟨_, rfl, wpAny_pure k⟩) small)
    | exact wpAny_bind (m := Builtin.Tuple.tupleExact _) (wpAny_newObj_type (wpAny_bind (wpAny_pure (wpAny_pure ⟨_, rfl, wpAny_pure k⟩))) small)
    | exact wpAny_bind (wpAny_bind (m := Builtin.Tuple.tupleExact _) (wpAny_newObj_type (wpAny_pure (wpAny_pure ⟨_, rfl, wpAny_pure k⟩)) small))
    | exact wpAny_bind (wpAny_bind (m := Builtin.Tuple.tupleExact _) (wpAny_newObj_type (wpAny_pure ⟨_, rfl, wpAny_pure k⟩) small))
end
section
variable {X : Cx} {W : WX}
def tRevT (K : PySem.W.Frag) (te : TE) : TE := fun σ H Q => te σ H fun x H1 => ∃ a xs, x = .ref a ∧ SqT K H1 a xs ∧ ∀ p, H1 p = none → Q (.ref p) (upd H1 p (.tup xs.reverse))
theorem pe_revT {e : Expr} {te : TE} {k : Nat} {p1 p2 p3 pos : Pos} (he : PE X e te) : PE X (.Subscript e (.Slice none none (some (.UnaryOp .USub (.Constant (.int 1) k p1) p2)) p3) pos) (tRevT X.K te) := by
  constructor
  intro pins s σ H Q I h
  refine Subscript_ (thn (he.run pins s σ H _ I h) ?_)
  rintro v s1 ⟨x, H1, I1, r1, a, xs, rfl, hx, q⟩
  cases r1
  have stp : PO X (some (.UnaryOp .USub (.Constant (.int 1) k p1) p2)) (tPart (tUn (rU fun i => .int (-i)) (tC (.int 1)))) := po_some (pe_un un_neg pe_int)
  refine wpAny_Slice (thn (po_none.run pins s1 σ H1 (fun o H2 => o = none ∧ H2 = H1) I1 ⟨rfl, rfl⟩) ?_)
  rintro vl s2 ⟨_, _, I2, pl, rfl, rfl⟩
  refine thn (po_none.run pins s2 σ _ (fun o H3 => o = none ∧ H3 = _) I2 ⟨rfl, rfl⟩) ?_
  rintro vu s3 ⟨_, _, I3, pu, rfl, rfl⟩
  refine thn (stp.run pins s3 σ _ (fun o H4 => o = some (-1) ∧ H4 = _) I3 ⟨1, rfl, -1, rfl, rfl, rfl⟩) ?_
  rintro vk s4 ⟨_, _, I4, pk, rfl, rfl⟩
  have I5 := I4.kept (t' := s4.toks) (h' := s4.heap.push { cls := .type "slice", data := .fields #[vl, vu, vk] }) fun b ob q => Heap.get?_push_of_some _ q
  obtain ⟨its, r, ht, hz⟩ := I5.tuple hx
  have hl := r.length
  refine tail_any (T := "tuple") (ops := [.ref a, .ref s4.heap.objs.size]) ht.typeIs PyProof.Rows.slot_tuple_getitem.lookup ?_ (by with_unfolding_all rfl)
  refine tuple_back ht (Heap.IsSliceOf.new _ vl vu vk) pl pu pk ?_ (by rw [List.size_toArray]; omega)
  refine ⟨.ref _, _, I5.laid (t' := s4.toks) (o := .tup xs.reverse) (fun b ob q => Heap.get?_push_of_some _ q) (Nat.le_refl _) ?_, rfl, q _ (I5.hok.fresh (Nat.le_refl _))⟩
  exact ⟨by rw [List.length_reverse]; exact hz, _, r.reverse, _, Heap.get?_push_size _ rfl, rfl, _, rfl⟩
def revD (d : D) : Option D := match d with
  | .tup xs => some (.tup xs.reverse)
  | .lst xs => some (.lst xs.reverse)
  | _ => none
def revV (m : M D) : M D := m.bind fun d => M.lift (revD d)
theorem de_rev {e : Expr} {k : Nat} {p1 p2 p3 pos : Pos} {m : M D} (he : DE X W e m) : DE X W (.Subscript e (.Slice none none (some (.UnaryOp .USub (.Constant (.int 1) k p1) p2)) p3) pos) (revV m) := by
  refine Y.PE.imp (Y.PE.or (pe_revL he) (pe_revT he)) fun σ H Q ⟨F, P, β, η, S, q⟩ => ?_
  obtain ⟨r0, e0, s0, p0⟩ := Run.bind q
  cases r0 with
  | ex x η1 S1 => exact .inl ⟨F, P, β, η, S, _, e0, s0, p0⟩
  | ok d η1 S1 =>
    cases d with
    | tup ds =>
      refine .inr ⟨F, P, β, η, S, _, e0, s0, fun F1 β1 H1 e1 b1 s1 v rv => ?_⟩
      obtain ⟨_, _, h2⟩ := p0 F1 β1 H1 e1 b1 s1
      obtain ⟨c, ec, s2, p2⟩ := Run.lift h2
      cases ec
      cases rv with
      | tup hl ll ra =>
        refine ⟨_, _, rfl, s1.fsub.t hl, fun p hp => ?_⟩
        have hf := s1.fnone hp
        exact p2 (upd F1 p (.tup _)) _ (Ex.new hf) (s2.new hp) _ (.tup (SqT.of upd_same) (by rw [List.length_reverse]; exact ll) (ra.reverse.mono (Ex.new hf) (Bx.refl _)))
    | lst ds =>
      refine .inl ⟨F, P, β, η, S, _, e0, s0, fun F1 β1 H1 e1 b1 s1 v rv => ?_⟩
      obtain ⟨_, _, h2⟩ := p0 F1 β1 H1 e1 b1 s1
      obtain ⟨c, ec, s2, p2⟩ := Run.lift h2
      cases ec
      cases rv with
      | lst hl ll ra =>
        refine ⟨_, _, rfl, SqL.of (s1.fsub _ _ hl), fun p hp => ?_⟩
        have hf := s1.fnone hp
        exact p2 (upd F1 p (.lst _)) _ (Ex.new hf) (s2.new hp) _ (.lst upd_same (by rw [List.length_reverse]; exact ll) (ra.reverse.mono (Ex.new hf) (Bx.refl _)))
    | _ =>
      refine .inl ⟨F, P, β, η, S, _, e0, s0, fun F1 β1 H1 e1 b1 s1 v rv => ?_⟩
      obtain ⟨_, _, h2⟩ := p0 F1 β1 H1 e1 b1 s1
      obtain ⟨c, ec, _⟩ := Run.lift h2
      cases ec
end
end Y
/-! Y16: sets of texts, by the list of their texts (as they came). -/
namespace Y
open PySem L2 PySem.Spec PyProof.Rows
section
variable {P : Program} {w : World} {h h' : Heap} {a : Addr} {l : List Str}
theorem SetS.at (r : SetS w h a l) (k : ∀ o, h.get? a = some o → h'.get? a = some o) : SetS w h' a l := by
  obtain ⟨ob, es, ep, t, ho, q⟩ := r
  exact ⟨ob, es, ep, t, k ob ho, q⟩
theorem strIs (k : Str) (u : Tok) : (strKind P w).is k (.str k u) = true := by
  show Value.isStrOf k (.str k u) = true
  simp [Value.isStrOf]
theorem txt_is {e : Int × Value} (g : TxtE w e) (k : Str) : (strKind P w).is k e.2 = true ↔ txt e = k := by
  obtain ⟨k0, u, rfl⟩ := g
  show Value.isStrOf k (.str k0 u) = true ↔ k0 = k
  simp [Value.isStrOf]
theorem txt_elems {es : List (Int × Value)} (g : ∀ e ∈ es, TxtE w e) : ElemsOf (strKind P w) es := by
  intro e he
  obtain ⟨k, u, rfl⟩ := g e he
  exact ⟨⟨k, strIs k u, rfl⟩, rfl⟩
theorem txt_mem {es : List (Int × Value)} (g : ∀ e ∈ es, TxtE w e) (k : Str) : k ∈ es.map txt ↔ ∃ e ∈ es, (strKind P w).is k e.2 = true := by
  rw [List.mem_map]
  exact ⟨fun ⟨e, he, q⟩ => ⟨e, he, (txt_is (g e he) k).2 q⟩, fun ⟨e, he, q⟩ => ⟨e, he, (txt_is (g e he) k).1 q⟩⟩
theorem SetS.setOf (r : SetS w h a l) : h.SetOf (strKind P w) a (fun k => decide (k ∈ l)) l.length := by
  obtain ⟨ob, es, ep, t, ho, hx, hd, g, pm, nd, hb, hf, _⟩ := r
  have hz : es.size = l.length := by rw [← Array.length_toList, ← pm.length_eq, List.length_map]
  refine ⟨ob, es, ep, t, ho, hx, hd, txt_elems g, fun k => ?_, by rw [hz]; exact hb, hf, hz⟩
  rw [decide_eq_true_eq, ← pm.mem_iff]
  exact txt_mem g k
end
section
variable {P : Program} {w : World} {A : Around} {E : Value → Shared → Prop} {s : Shared} {a : Addr} {l : List Str}
def addS (l : List Str) (k : Str) : List Str := if k ∈ l then l else l ++ [k]
theorem put_at {h : Heap} {ob : Obj} {es es' : Array (Int × Value)} {ep : Nat} {t t' : SetTable} (ho : h.get? a = some ob) (hd : ob.data = .set es ep t) : (h.update a (Obj.putSet es' t')).get? a = some { ob with data := .set es' (ep + 1) t' } := by
  have e := putSet_of es' t' hd
  have q := Heap.get?_update_self (Obj.putSet es' t') ho (by rw [e]; rfl)
  exact q.trans (congrArg some e)
theorem addS_tail {g : Bool → PySem.Sem Unit} (hg : ∀ (b : Bool) (s' : Shared) (Q' : Unit → Shared → Prop), Q' () s' → wpAny (model P w) A (g b) Q' E s') {ob : Obj} {es : Array (Int × Value)} {ep : Nat} {t : SetTable} (ho : s.heap.get? a = some ob) (hx : ob.ExactSet) (hd : ob.data = .set es ep t)
    {en : Array (Int × Value)} {tn : SetTable} {ln : List Str} (gn : ∀ e ∈ en.toList, TxtE w e) (pn : (en.toList.map txt).Perm ln) (nn : ln.Nodup) (bn : ln.length < scanBound) (fn : tn.fits en.size = true) (rn : Ris tn.place.toList) (led : w.params.followText "set-order" = true ∨ tn.led = true)
    {dum : Bool} {R : Option Bool → Shared → Prop} (k : ∀ h', Heap.SameBut a s.heap h' → SetS w h' a ln → R (some true) { s with heap := h' }) :
    wpAny (model P w) A (do
      storeSet a en tn
      if (!dum && tn.tooFull) = true then do
          g (relayAll tn en (SetTable.grown en.size)).2.2
          storeSet a (relayAll tn en (SetTable.grown en.size)).1 (relayAll tn en (SetTable.grown en.size)).2.1
          pure (some true)
        else pure (some true)) R E s := by
  have zn : en.size = ln.length := by rw [← Array.length_toList, ← pn.length_eq, List.length_map]
  have o1 := put_at (es' := en) (t' := tn) ho hd
  have b1 := Heap.SameBut.update s.heap a (Obj.putSet en tn)
  apply wpAny_bind
  apply wpAny_storeSet_of ho hd ?_ (fits_of_scanBound (by rw [zn]; exact bn))
  split
  · have p2 := relayAll_perm tn en (SetTable.grown en.size)
    have f2 := relayAll_fits tn en (SetTable.grown en.size)
    have r2 := relayAll_ris tn en (SetTable.grown en.size)
    have l2 := relayAll_led tn en (SetTable.grown en.size)
    generalize relayAll tn en (SetTable.grown en.size) = Z at p2 f2 r2 l2 ⊢
    obtain ⟨em, tm, gave⟩ := Z
    dsimp only at p2 f2 r2 l2 ⊢
    have zm : em.size = ln.length := by rw [← zn, ← Array.length_toList, p2.length_eq, Array.length_toList]
    apply wpAny_bind
    apply hg
    apply wpAny_bind
    apply wpAny_storeSet_of o1 rfl ?_ (fits_of_scanBound (by rw [zm]; exact bn))
    apply wpAny_pure
    apply k _ (b1.trans (Heap.SameBut.update _ a _))
    exact ⟨_, em, _, tm, put_at o1 rfl, hx, rfl, fun e he => gn e (p2.mem_iff.mp he), (p2.map txt).trans pn, nn, bn, f2, r2, led.imp id fun z => by rw [l2]; exact z⟩
  · exact wpAny_pure (k _ b1 ⟨_, en, _, tn, o1, hx, rfl, gn, pn, nn, bn, fn, rn, led⟩)
theorem addS_hashed {k : Str} {u : Tok} {Q : Bool → Shared → Prop} (r : SetS w s.heap a l) (room : l.length + 1 < scanBound) (hQ : ∀ h' b, Heap.SameBut a s.heap h' → SetS w h' a (addS l k) → Q b { s with heap := h' }) :
    wpAny (model P w) A (setAddHashed a (.str k u) (hashStr w k)) Q E s := by
  obtain ⟨ob, es, ep, t, ho, hx, hd, g, pm, nd, hb, hf, hr, hl⟩ := r
  have zn : es.size = l.length := by rw [← Array.length_toList, ← pm.length_eq, List.length_map]
  have hb' : es.size < scanBound := by rw [zn]; exact hb
  have hk : (strKind P w).is k (.str k u) = true := strIs k u
  have sc : (Value.str k u).scannable = true := rfl
  have hel : ElemsOf (strKind P w) es.toList := txt_elems g
  unfold setAddHashed setAddHashedIn
  apply wpAny_holding
  apply wpAny_bind
  apply wpAny_setState_of ho hd hf
  dsimp only
  rw [byScan_of sc hb' hel]
  simp only [↓reduceIte]
  unfold setAddByScan
  apply wpAny_bind
  apply wpAny_bind
  apply wpAny_rule
  apply wpAny_bind
  apply wpAny_setScan_of hk ho hd hf hel
  cases hfi : List.findIdx? (fun e => (strKind P w).is k e.2) es.toList with
  | some j =>
    dsimp only
    obtain ⟨hj, pj, _⟩ := List.findIdx?_eq_some_iff_getElem.mp hfi
    have hin : k ∈ l := pm.mem_iff.mp ((txt_mem (P := P) g k).2 ⟨es.toList[j], List.getElem_mem hj, pj⟩)
    apply wpAny_pure
    apply wpAny_pure
    apply hQ s.heap _ (Heap.SameBut.refl a s.heap)
    unfold addS
    rw [if_pos hin]
    exact ⟨ob, es, ep, t, ho, hx, hd, g, pm, nd, hb, hf, hr, hl⟩
  | none =>
    dsimp only
    have nin : k ∉ l := fun z => by
      obtain ⟨e, he, q⟩ := (txt_mem (P := P) g k).1 (pm.mem_iff.mpr z)
      have c := List.findIdx?_eq_none_iff.mp hfi e he
      rw [q] at c
      cases c
    have way : ∀ (b : Bool) {s' : Shared} {Q' : Unit → Shared → Prop}, Q' () s' → wpAny (model P w) A (match b with | true => rule "set.scan.the-table-gave-way" | false => pure ()) Q' E s' := by
      intro b s' Q' q
      cases b
      · exact wpAny_pure q
      · exact wpAny_rule q
    have p1 := layNew_perm t es (hashStr w k) (.str k u)
    have f1 := layNew_fits t es (hashStr w k) (.str k u)
    have r1 := layNew_ris t es (hashStr w k) (.str k u) hr
    have l1 := layNew_led t es (hashStr w k) (.str k u)
    generalize layNew t es (hashStr w k) (.str k u) = Z at p1 f1 r1 l1 ⊢
    obtain ⟨en, tn, dum, gave⟩ := Z
    dsimp only at p1 f1 r1 l1 ⊢
    rw [Array.toList_push] at p1
    have gn : ∀ e ∈ en.toList, TxtE w e := by
      intro e he
      rcases List.mem_append.mp (p1.mem_iff.mp he) with z | z
      · exact g e z
      · rw [List.mem_singleton.mp z]; exact ⟨k, u, rfl⟩
    have pn : (en.toList.map txt).Perm (addS l k) := by
      unfold addS
      rw [if_neg nin]
      have := p1.map txt
      rw [List.map_append] at this
      exact this.trans (pm.append_right _)
    have nn : (addS l k).Nodup := by
      unfold addS
      rw [if_neg nin, List.nodup_append]
      exact ⟨nd, by simp, by intro x hx y hy; rw [List.mem_singleton.mp hy]; rintro rfl; exact nin hx⟩
    have bn : (addS l k).length < scanBound := by
      unfold addS
      rw [if_neg nin, List.length_append]
      exact room
    have led : w.params.followText "set-order" = true ∨ tn.led = true := hl.imp id fun z => by rw [l1]; exact z
    apply wpAny_bind
    apply way
    split
    · apply wpAny_bind
      rw [hashByValue_scannable 8 sc]
      apply wpAny_pure
      refine addS_tail ?_ ho hx hd gn pn nn bn ?_ ?_ ?_ ?_
      · intro b s' Q' q; cases b <;> first | exact wpAny_pure q | exact wpAny_rule q
      · first | (split <;> first | exact f1 | exact SetTable.fits_plain_off f1) | exact f1
      · first | (split <;> exact r1) | exact r1
      · first | (split <;> exact led) | exact led
      · intro h' sb q; dsimp only; exact wpAny_pure (hQ h' _ sb q)
    · apply wpAny_bind
      apply wpAny_pure
      simp only [↓reduceIte]
      refine addS_tail ?_ ho hx hd gn pn nn bn f1 r1 led ?_
      · intro b s' Q' q; cases b <;> first | exact wpAny_pure q | exact wpAny_rule q
      · intro h' sb q; dsimp only; exact wpAny_pure (hQ h' _ sb q)
theorem addS_call {k : Str} {u : Tok} {Q : Value → Shared → Prop} (r : SetS w s.heap a l) (room : l.length + 1 < scanBound) (hQ : ∀ h', Heap.SameBut a s.heap h' → SetS w h' a (addS l k) → Q .none { s with heap := h', toks := s.toks + 1 }) :
    wpAny (model P w) A (call (.builtin "set.add") [.ref a, .str k u]) Q E s := by
  have hS := r.setOf (P := P)
  refine wpAny_call_entry F.slot_set_add hS.typeIs F.entry_set_add ?_ (F.args_set_add_2 _ _)
  unfold Builtin.«set.add» Builtin.Frozenset.oneOther
  simp only [List.isEmpty_nil, bind_assoc]
  unfold Builtin.Frozenset.addrOf setAdd
  apply wpAny_bind
  apply wpAny_pure
  try dsimp only
  apply wpAny_bind
  apply wpAny_pure
  try dsimp only
  apply wpAny_bind
  apply wpAny_holding
  apply wpAny_bind
  apply (strKind P w).pyHash (strIs k u)
  refine addS_hashed (s := { s with toks := s.toks + 1 }) r room fun h' b sb q => ?_
  show wpAny _ _ (ret Value.none) _ _ _
  exact wpAny_pure ⟨_, rfl, hQ h' sb q⟩
end
end Y
/-! Y17: set comprehensions of texts. -/
namespace Y
open PySem L2 PySem.Spec PyProof.Rows PpSet
theorem setSO_ok {P : Program} {w : World} {H : Hp} {h : Heap} {a : Addr} {l : List Str} (r : SetS w h a l) : ObjOk P w H h a (SetSO w a l) := by
  obtain ⟨ob, _, _, _, ho, _⟩ := id r
  exact ⟨r, ⟨ob, ho⟩, fun _ _ p k => p.at k⟩
theorem fresh_set {h : Heap} (w : World) : SetS w (h.push { cls := .type "set", dict := none, data := .set #[] 0 (.fresh 0 0 (!w.params.followText "set-order")) }) h.objs.size [] := by
  refine ⟨_, #[], 0, _, Heap.get?_push_size _ rfl, ⟨rfl, rfl, rfl⟩, rfl, fun e he => by simp at he, List.Perm.nil, List.nodup_nil, by decide, rfl, List.Pairwise.nil, ?_⟩
  show _ ∨ (!w.params.followText "set-order") = true
  cases w.params.followText "set-order" <;> simp
section
variable {X : Cx}
theorem setS_get {pins : List (Addr × Obj)} {σ : L2.St} {H : Hp} {s : Shared} {a : Addr} {l : List Str} (I : L2.Inv X pins σ H s) (ha : H a = some (SetSO X.w a l)) : SetS X.w s.heap a l := (I.hok a _ ha).1
theorem addS_ok {pins : List (Addr × Obj)} {σ : L2.St} {H : Hp} {s : Shared} {E : Value → Shared → Prop} {a : Addr} {l : List Str} {k : Str} {u : Tok} {Q : Value → Shared → Prop} (I : L2.Inv X pins σ H s) (ha : H a = some (SetSO X.w a l)) (room : l.length + 1 < scanBound)
    (hQ : ∀ s', L2.Inv X pins σ (upd H a (SetSO X.w a (addS l k))) s' → Q .none s') : wpAny (model X.prog X.w) X.A (call (.builtin "set.add") [.ref a, .str k u]) Q E s := by
  apply addS_call (setS_get I ha) room
  intro h' sb new
  obtain ⟨ob, _, _, _, ho, _⟩ := id new
  exact hQ _ (I.write (e := a) (t' := s.toks + 1) (by rw [ha]; trivial) (.inl rfl) (fun b z hb hz => (sb.2 b hb).trans hz) ⟨ob, ho⟩ (setSO_ok new))
/-- {e for t in it if ..}, e a text -/
def tScS (w : World) (wi : TI) (g : TG) (tt : TT) (te : TE) (vs : List Nat) : TE := fun σ H Q => wi σ H fun J H1 => ∀ A, H1 A = none → ∃ Iv : Nat → Nat → Hp → Prop, (∃ m, Iv 0 m (upd H1 A (SetSO w A []))) ∧ ∀ i m H, Iv i m H →
  (J.stop i H ∧ Q (.ref A) H) ∨ (J.go i H ∧ ∃ Nx : Hp → Prop, (∀ H', Nx H' → ∃ m', m' < m ∧ Iv (i + 1) m' H') ∧ ∀ x H', J.yld i H x H' → g x (wipe σ vs) H' fun σ2 H2 => wipe σ2 vs = wipe σ vs ∧ tt σ2 H2 fun b H3 =>
    if b = true then te σ2 H3 fun y H4 => ∃ (c : Str) (l : List Str), y = .str c ∧ H4 A = some (SetSO w A l) ∧ l.length + 1 < scanBound ∧ Nx (upd H4 A (SetSO w A (addS l c))) else Nx H3)
theorem pe_scS {elt tg iter : Expr} {ifs : List Expr} {scope : Scope} {own : List (PySem.Str × Nat)} {pos : Pos} {wi : TI} {g : TG} {tt : TT} {te : TE} (hc : X.calm = true) (hN : X.N.Nodup) (hi : PI X tg iter wi) (bk : BlkOk X.N X.env.scope scope own)
    (hg : ∀ (s : Shared) (H : Hp) (C : Addr) (cl : List (PySem.Str × Addr)) (fp : List Addr), PG (X.blk s H scope (compEnvC scope cl C X.env) fp) tg g) (ht : ∀ (s : Shared) (H : Hp) (C : Addr) (cl : List (PySem.Str × Addr)) (fp : List Addr), PTs (X.blk s H scope (compEnvC scope cl C X.env) fp) ifs tt)
    (he : ∀ (s : Shared) (H : Hp) (C : Addr) (cl : List (PySem.Str × Addr)) (fp : List Addr), PE (X.blk s H scope (compEnvC scope cl C X.env) fp) elt te) (hs : ∀ x, foldedSetIterable iter X.env x = pure x := by intro _; rfl) :
    PE X (.SetComp elt [⟨tg, iter, ifs, 0⟩] scope pos) (tScS X.w wi g tt te (own.map (·.2))) := by
  constructor
  intro pins s σ H Q I h
  rw [eval_SetComp]
  have frees : ∀ y ∈ scope.names, y.2 = .free → ∃ c, X.env.cells.lookup y.1 = some c := by
    intro y hy e
    cases bk.free y hy e with
    | inl k => exact I.ok.has _ (.inl k)
    | inr k => exact I.ok.has _ (.inr k)
  refine wpAny_comprehension_free rfl hs (closure_ok frees) bk.kind (fun y hy e => by rw [bk.uniq y hy, e]) (thn (hi.run pins s σ H _ I h) ?_)
  intro xv s1 hx
  refine thn hx ?_
  rintro _ s2 ⟨it, fp, tn, J, H2, rfl, I2, T, st2, f2, q⟩
  apply newSet_ok
  apply newEnv_comp
  -- the new set, at N
  obtain ⟨N, hN0⟩ : ∃ N, N = s2.heap.objs.size := ⟨_, rfl⟩
  rw [← hN0]
  have nH : H2 N = none := I2.hok.fresh (Nat.le_of_eq hN0.symm)
  obtain ⟨Iv, ⟨m0, i0⟩, turn⟩ := q N nH
  obtain ⟨sA, hsA⟩ : ∃ sA : Shared, sA = { s2 with heap := s2.heap.push { cls := .type "set", dict := none, data := .set #[] 0 (.fresh 0 0 (!X.w.params.followText "set-order")) } } := ⟨_, rfl⟩
  have hpA : sA.heap = s2.heap.push { cls := .type "set", dict := none, data := .set #[] 0 (.fresh 0 0 (!X.w.params.followText "set-order")) } := by rw [hsA]
  obtain ⟨HA, hHA⟩ : ∃ HA : Hp, HA = upd H2 N (SetSO X.w N []) := ⟨_, rfl⟩
  rw [← hHA] at i0
  have IA : L2.Inv X pins σ HA sA := by
    rw [hsA, hHA]
    apply I2.laid (t' := s2.toks) (fun b o e => Heap.get?_push_of_some _ e) (Nat.le_of_eq hN0.symm)
    rw [hN0]
    exact setSO_ok (fresh_set X.w)
  have small : ∀ b ∈ fp, b < s2.heap.objs.size := by
    intro b hb
    obtain ⟨o, e, _⟩ := T.obj _ _ st2 b hb
    exact Heap.lt_size e
  have fA : ∀ b ∈ fp, FpOk X pins HA b ∧ b < sA.heap.objs.size := by
    intro b hb
    have lt := small b hb
    constructor
    · refine ⟨?_, (f2 b hb).2⟩
      rw [hHA, upd_ne (by rw [hN0]; exact Nat.ne_of_lt lt)]
      exact (f2 b hb).1
    · rw [hpA, Heap.size_push]
      exact Nat.lt_succ_of_lt lt
  have stA : tn 0 sA.heap := T.keep _ _ _ st2 (by
    intro b _ o e
    rw [hpA]
    exact Heap.get?_push_of_some _ e)
  have IB := block_start IA bk hN fA
  have pg := hg sA HA sA.heap.objs.size (cellsFrom (sA.heap.objs.size + 1) scope.names (cloFrom X.env.cells scope.names [])) fp
  have pt := ht sA HA sA.heap.objs.size (cellsFrom (sA.heap.objs.size + 1) scope.names (cloFrom X.env.cells scope.names [])) fp
  have pe := he sA HA sA.heap.objs.size (cellsFrom (sA.heap.objs.size + 1) scope.names (cloFrom X.env.cells scope.names [])) fp
  have nf : ∀ b ∈ fp, HA b = none := fun b hb => (fA b hb).1.1
  rw [← hsA]
  show codeAny _ _ (.compStart _ 0 (.ref it) (.ref N) (compEnvC scope (cellsFrom (sA.heap.objs.size + 1) scope.names (cloFrom X.env.cells scope.names [])) sA.heap.objs.size X.env))
    (compPost (model X.prog X.w) X.A X.xe none (EP X pins σ Q) (.ref N) sA.heap.objs.size)
    { sA with heap := pushCells (sA.heap.push { cls := .type "dict", data := .dict #[] }) scope.names }
  obtain ⟨ce, hce⟩ : ∃ ce, ce = compEnvC scope (cellsFrom (sA.heap.objs.size + 1) scope.names (cloFrom X.env.cells scope.names [])) sA.heap.objs.size X.env := ⟨_, rfl⟩
  rw [← hce] at IB pg pt pe ⊢
  have lc : ce.locals = sA.heap.objs.size := by rw [hce]; rfl
  obtain ⟨sB, hsB⟩ : ∃ sB : Shared, sB = { sA with heap := pushCells (sA.heap.push { cls := .type "dict", data := .dict #[] }) scope.names } := ⟨_, rfl⟩
  rw [← hsB] at IB ⊢
  have stB : tn 0 sB.heap := T.keep _ _ _ stA (by
    intro b _ o e
    rw [hsB]
    exact pushCells_keeps _ _ _ _ (Heap.get?_push_of_some _ e))
  have ours : ∀ {τ : L2.St} {H' : Hp} {s' : Shared}, L2.Inv (X.blk sA HA scope ce fp) [] τ H' s' → (∀ b ∈ fp, H' b = none) → ∀ b ∈ fp, FpOk (X.blk sA HA scope ce fp) [] H' b := by
    intro τ H' s' I' hn b hb
    refine ⟨hn b hb, (I'.ok.exf b hb).1, I'.ok.exfs b hb, .inl hb, fun x c e => (I'.ok.exf b hb).2 x c e, fun p hp => ?_⟩
    have hp : p ∈ ([] : List (Addr × Obj)) ++ [] := hp
    simp at hp
  have loop : ∀ {Rr : Result → Shared → Prop}, (∀ H5 s6, L2.Inv X pins σ H5 s6 → Q (.ref N) H5 → (∃ m, s6.heap.Ns sA.heap.objs.size m) → FpOk X pins H5 sA.heap.objs.size → Rr (.ok .next) s6) →
      codeAny (model X.prog X.w) X.A (.compLoop (.SetComp elt [⟨tg, iter, ifs, 0⟩] scope pos) 0 (.ref it) (.ref N) ce) Rr sB := by
    intro Rr hR
    refine compLoopS_any (fun n s' => ∃ i H', L2.Inv (X.blk sA HA scope ce fp) [] (wipe σ (own.map (·.2))) H' s' ∧ tn i s'.heap ∧ (∀ b ∈ fp, H' b = none) ∧ Iv i n H') ?_ m0 ⟨0, HA, IB, stB, nf, i0⟩
    rintro n s5 ⟨i, H5, I5, st5, n5, w5⟩
    rcases turn i n H5 w5 with ⟨stop, fin⟩ | ⟨go, Nx, hNx, step⟩
    · refine thnF (T.done (X.blk sA HA scope ce fp) rfl rfl rfl hc i [] s5 _ H5 (fun _ _ => False) I5 (ours I5 n5) st5 stop) ?_
      rintro r s6 ⟨rfl, I6⟩
      have I7 : L2.Inv X pins σ H5 s6 := IA.call' (ch := fp) I6.os I6.base I6.hok I6.bare (by
        intro b hb
        have z := (fA b hb).1
        exact ⟨z.2.2.2.1, z.2.1, z.2.2.2.2.1, z.2.2.2.2.2⟩)
      have nC : H5 sA.heap.objs.size = none := by
        have z : H5 ce.locals = none := I6.free
        rw [lc] at z; exact z
      obtain ⟨m, hn, _⟩ := I6.loc
      have hn : s6.heap.Ns ce.locals m := hn
      rw [lc] at hn
      exact hR H5 s6 I7 fin ⟨m, hn⟩ (IA.fpOk (Nat.le_refl _) nC)
    · refine thnF (T.item (X.blk sA HA scope ce fp) rfl rfl rfl hc i [] s5 _ H5 (fun _ _ => False) I5 (ours I5 n5) st5 go) ?_
      rintro _ s6 ⟨u, rfl, h6⟩
      refine thnF h6 ?_
      rintro _ s7 ⟨x, H7, I7, r7, y7, st7, n7⟩
      refine thnF (pg.run _ s7 _ H7 x u _ (I7.pinned (ours I7 n7) (T.obj _ _ st7)) r7 (step x H7 y7)) ?_
      rintro _ s8 ⟨σ8, H8, I8, w8, q8⟩
      refine thnF (pt.run _ s8 σ8 H8 _ I8 q8) ?_
      rintro b s9 ⟨H9, I9, q9⟩
      have again : ∀ {s' : Shared} {H' : Hp}, L2.Inv (X.blk sA HA scope ce fp) ([] ++ pinsAt fp s7.heap) σ8 H' s' → Nx H' → ∃ m, m < n ∧ ∃ i H', L2.Inv (X.blk sA HA scope ce fp) [] (wipe σ (own.map (·.2))) H' s' ∧ tn i s'.heap ∧ (∀ b ∈ fp, H' b = none) ∧ Iv i m H' := by
        intro s' H' I' nx
        obtain ⟨m', hm, w'⟩ := hNx H' nx
        have held : ∀ b ∈ fp, ∀ o, s7.heap.get? b = some o → s'.heap.get? b = some o ∧ H' b = none := by
          intro b hb o e
          have z := I'.pin (b, o) (List.mem_append_right _ (List.mem_append_right _ (mem_pinsAt hb e)))
          exact ⟨z.1, z.2.1⟩
        refine ⟨m', hm, i + 1, H', (I'.unpinned (pins := [])).weak (by rw [← w8, wipe_length]) (fun j v e => ?_), T.keep _ _ _ st7 fun b hb o e => (held b hb o e).1, fun b hb => ?_, w'⟩
        · rw [← w8] at e
          exact (wipe_some e).1
        · obtain ⟨o, e, _⟩ := T.obj _ _ st7 b hb
          exact (held b hb o e).2
      cases b with
      | false =>
        simp only [Bool.false_eq_true, if_false] at q9 ⊢
        exact again I9 q9
      | true =>
        simp only [if_true] at q9 ⊢
        refine thnF (pe.run _ s9 σ8 H9 _ I9 q9) ?_
        rintro z s10 ⟨yv, H10, I10, r10, c, l, rfl, hl10, room, nx⟩
        obtain ⟨tz, rfl⟩ := r10
        exact addS_ok (X := X.blk sA HA scope ce fp) I10 hl10 room fun s11 I11 => again I11 nx
  have last := loop (Rr := compPost (model X.prog X.w) X.A X.xe none (EP X pins σ Q) (.ref N) sA.heap.objs.size) (by
    rintro H5 s6 I7 fin ⟨m, hn⟩ f
    refine ⟨m, hn, fun h'' sb => ?_⟩
    obtain ⟨f0, f1, f2, f3, f4, f5⟩ := f
    exact ⟨.ref N, H5, I7.turned (t' := s6.toks) (fun b o hb e => (sb.2 b hb).trans e) f0 f1 f3 f4 f5, rfl, fin⟩)
  exact codeAny_compStart_set last (T.self X.A 0 _ _ _ stB last)
end
end Y
/-! Y18: sets of texts as data: {..}, set(..), len. -/
namespace Y
open PySem L2 PySem.Spec PyProof.Rows PpSet
def strsOf : List D → Option (List Str)
  | [] => some []
  | .str x :: r => (strsOf r).map (x :: ·)
  | _ => none
def uniq (xs : List Str) : List Str := xs.foldl addS []
theorem strsOf_append : ∀ {a b : List D} {xs : List Str}, strsOf (a ++ b) = some xs → ∃ ys zs, strsOf a = some ys ∧ strsOf b = some zs ∧ xs = ys ++ zs
  | [], b, xs, h => ⟨[], xs, rfl, h, rfl⟩
  | d :: a, b, xs, h => by
    cases d with
    | str x =>
      simp only [List.cons_append, strsOf] at h
      cases q : strsOf (a ++ b) with
      | none => rw [q] at h; cases h
      | some us =>
        rw [q] at h
        cases h
        obtain ⟨ys, zs, h1, h2, rfl⟩ := strsOf_append q
        exact ⟨x :: ys, zs, by simp only [strsOf, h1]; rfl, h2, rfl⟩
    | _ => simp [strsOf] at h
theorem strsOf_snoc {a : List D} {ys : List Str} {x : Str} (h : strsOf a = some ys) : strsOf (a ++ [.str x]) = some (ys ++ [x]) := by
  induction a generalizing ys with
  | nil => cases h; rfl
  | cons d a ih =>
    cases d with
    | str y =>
      simp only [strsOf] at h
      cases q : strsOf a with
      | none => rw [q] at h; cases h
      | some us => rw [q] at h; cases h; simp only [List.cons_append, strsOf, ih q]; rfl
    | _ => simp [strsOf] at h
theorem strsOf_len {a : List D} {ys : List Str} (h : strsOf a = some ys) : ys.length = a.length := by
  induction a generalizing ys with
  | nil => cases h; rfl
  | cons d a ih =>
    cases d with
    | str y =>
      simp only [strsOf] at h
      cases q : strsOf a with
      | none => rw [q] at h; cases h
      | some us => rw [q] at h; cases h; simp [ih q]
    | _ => simp [strsOf] at h
theorem addS_len (l : List Str) (k : Str) : (addS l k).length ≤ l.length + 1 := by
  unfold addS
  split
  · omega
  · rw [List.length_append]; exact Nat.le_refl _
theorem uniq_snoc (xs : List Str) (x : Str) : uniq (xs ++ [x]) = addS (uniq xs) x := by unfold uniq; rw [List.foldl_append]; rfl
theorem uniq_len (xs : List Str) : (uniq xs).length ≤ xs.length := by
  have : ∀ (xs l : List Str), (xs.foldl addS l).length ≤ l.length + xs.length := by
    intro xs
    induction xs with
    | nil => intro l; exact Nat.le_refl _
    | cons x xs ih => intro l; have := ih (addS l x); have := addS_len l x; simp only [List.foldl_cons, List.length_cons] at *; omega
  have := this xs []
  simpa [uniq] using this
theorem uniq_mem {xs : List Str} {x : Str} : x ∈ uniq xs ↔ x ∈ xs := by
  have : ∀ (xs l : List Str), x ∈ xs.foldl addS l ↔ x ∈ l ∨ x ∈ xs := by
    intro xs
    induction xs with
    | nil => intro l; simp
    | cons y xs ih =>
      intro l
      rw [List.foldl_cons, ih]
      unfold addS
      split
      · rename_i hy
        constructor
        · rintro (h | h)
          · exact .inl h
          · exact .inr (List.mem_cons_of_mem _ h)
        · rintro (h | h)
          · exact .inl h
          · rcases List.mem_cons.mp h with rfl | h
            · exact .inl hy
            · exact .inr h
      · simp only [List.mem_append, List.mem_cons, List.mem_singleton, List.not_mem_nil, or_false]
        exact or_assoc
  have := this xs []
  simpa [uniq] using this
theorem uniq_nodup (xs : List Str) : (uniq xs).Nodup := by
  have : ∀ (xs l : List Str), l.Nodup → (xs.foldl addS l).Nodup := by
    intro xs
    induction xs with
    | nil => intro l h; exact h
    | cons y xs ih =>
      intro l h
      rw [List.foldl_cons]
      apply ih
      unfold addS
      split
      · exact h
      · rename_i hy
        rw [List.nodup_append]
        exact ⟨h, by simp, by intro a ha b hb; rw [List.mem_singleton.mp hb]; rintro rfl; exact hy ha⟩
  exact this xs [] List.nodup_nil
theorem wipe_twice (σ : L2.St) (vs : List Nat) : L2.wipe (L2.wipe σ vs) vs = L2.wipe σ vs := wipe_eq (js := vs) (wipe_length σ vs) (fun j hj => wipe_get hj) fun j hj => hj
theorem lcL_pre {vs : List Nat} {g : D → Sls → Option Sls} {t : M Bool} {e : M D} : ∀ (ds acc : List D) (η : Sls) (S : Store) (fin : List D) (η' : Sls) (S' : Store), lcL vs g t e ds acc η S = some (.ok fin η' S') → ∃ r, fin = acc ++ r
  | [], acc, η, S, fin, η', S', h => by cases h; exact ⟨[], by simp⟩
  | d :: ds, acc, η, S, fin, η', S', h => by
    unfold lcL at h
    split at h
    · cases h
    · split at h
      · split at h
        · split at h
          · obtain ⟨r, hr⟩ := lcL_pre ds _ _ _ _ _ _ h
            exact ⟨_ :: r, by rw [hr, List.append_assoc]; rfl⟩
          · cases h
        · cases h
      · exact lcL_pre ds _ _ _ _ _ _ h
      · cases h
/-- the set of a list of texts -/
def ssOf (xs : List D) : Option D := (strsOf xs).bind fun ys => if xs.length + 1 < scanBound then some (.ss (uniq ys)) else none
def sc (m : M (List D)) (vs : List Nat) (g : D → Sls → Option Sls) (t : M Bool) (e : M D) : M D := m.bind fun ds η S => match lcL vs g t e ds [] η S with
  | some (.ok acc η' S') => (match ssOf acc with
    | some d => some (.ok d (restore η vs η') S')
    | none => none)
  | _ => none
section
variable {X : Cx} {W : WX}
theorem run_sc {W' : WX} {m : M (List D)} {js vs : List Nat} {g : D → Sls → Option Sls} {t : M Bool} {el : M D} {σ : L2.St} {H : Hp} {Q : VK} (hs : ∀ j ∈ js, j ∈ vs) (h : rdE X W (sc m vs g t el) σ H Q) :
    tScS X.w (rdI X W m) (rdG X js g) (rdT X W' t) (rdE X W' el) vs σ H Q := by
  obtain ⟨F, P, β, η, S, h⟩ := h
  refine ⟨F, P, β, η, S, (Run.bind h).imp fun ds η1 S1 F1 β1 H1 s1 ⟨e1, b1, r, e, s, p⟩ J hJ => ?_⟩
  intro A hA
  cases qc : lcL vs g t el ds [] η1 S1 with
  | none => simp only [qc] at e; cases e
  | some rc =>
    cases rc with
    | ex x η' S' => simp only [qc] at e; cases e
    | ok final ηf Sf =>
      simp only [qc] at e
      cases qs : ssOf final with
      | none => simp only [qs] at e; cases e
      | some dset =>
        simp only [qs] at e
        cases e
        unfold ssOf at qs
        cases qf : strsOf final with
        | none => rw [qf] at qs; cases qs
        | some fs =>
          rw [qf] at qs
          have qs : (if final.length + 1 < scanBound then some (D.ss (uniq fs)) else none) = some dset := qs
          split at qs
          · rename_i hroom
            cases qs
            have hFA := s.fnone hA
            have hPA := s.pnone hA
            have start0 : Ste X.kw X.mg F1 (upd P A (SetSO X.w A [])) β1 (L2.wipe σ vs) (wipeS η1 vs) S1 (upd H1 A (SetSO X.w A [])) := by
              refine Ste.atP (s.wipe vs) hFA ((s.wipe vs).notOwnNew hA) (fun a z => upd_ne z) (fun a z => upd_ne z) fun o z => ?_
              rw [upd_same] at z ⊢; exact z
            refine ⟨fun i m H => m = ds.length - i ∧ i ≤ ds.length ∧ ∃ F2 β2 η2 S2 acc ys, Ex F1 F2 ∧ Bx β1 β2 ∧ strsOf acc = some ys ∧ (∀ x ∈ ys, PyData.strOk x = true) ∧ lcL vs g t el (ds.drop i) acc η2 S2 = some (.ok final ηf Sf) ∧
              Ste X.kw X.mg F2 (upd P A (SetSO X.w A (uniq ys))) β2 (L2.wipe σ vs) (wipeS η2 vs) S2 H, ⟨_, rfl, Nat.zero_le _, F1, β1, η1, S1, [], [], Ex.refl _, Bx.refl _, rfl, fun x hx => by simp at hx, qc, start0⟩, ?_⟩
            rintro i m H2 ⟨rfl, hi, F2, β2, η2, S2, acc, ys, e2, b2, hys, hok, el2, s2⟩
            have it := hJ F2 _ β2 _ _ S2 H2 i e2 b2 s2
            by_cases hlt : i < ds.length
            · refine .inr ?_
              have hd : ds[i]? = some ds[i] := List.getElem?_eq_getElem hlt
              obtain ⟨go, yld⟩ := it.1 _ hd
              rw [List.drop_eq_getElem_cons hlt] at el2
              unfold lcL at el2
              cases qg : g ds[i] (wipeS η2 vs) with
              | none => simp only [qg] at el2; cases el2
              | some η3 =>
                simp only [qg] at el2
                refine ⟨go, fun H' => ∃ F4 β4 η4 S4 acc' ys', Ex F1 F4 ∧ Bx β1 β4 ∧ strsOf acc' = some ys' ∧ (∀ x ∈ ys', PyData.strOk x = true) ∧ lcL vs g t el (ds.drop (i + 1)) acc' η4 S4 = some (.ok final ηf Sf) ∧
                  Ste X.kw X.mg F4 (upd P A (SetSO X.w A (uniq ys'))) β4 (L2.wipe σ vs) (wipeS η4 vs) S4 H', fun H' q => ⟨_, by omega, rfl, hlt, q⟩, fun x H' y => ?_⟩
                obtain ⟨F3, e3, s3, r3⟩ := yld x H' y
                refine ⟨F3, _, β2, _, S2, _, η3, s3, r3, qg, fun σ3 s4 l4 k4 => ?_⟩
                have hw : L2.wipe σ3 vs = L2.wipe σ vs := by rw [wipe_eq l4 k4 hs, wipe_twice]
                refine ⟨hw.trans (wipe_twice σ vs).symm ▸ hw, ?_⟩
                cases qt : t η3 S2 with
                | none => simp only [qt] at el2; cases el2
                | some rt =>
                  cases rt with
                  | ex x ηx Sx => simp only [qt] at el2; cases el2
                  | ok bt ηt St =>
                    refine ⟨F3, upd P A (SetSO X.w A (uniq ys)), β2, η3, S2, _, qt, s4, fun F5 β5 H5 e5 b5 s5 => ?_⟩
                    cases bt with
                    | false =>
                      simp only [qt] at el2
                      refine iteF ⟨F5, β5, ηt, St, acc, ys, (e2.trans e3).trans e5, b2.trans b5, hys, hok, el2, ?_⟩
                      have := s5.wipe vs
                      rw [hw] at this
                      exact this
                    | true =>
                      simp only [qt] at el2
                      refine iteT ?_
                      cases qe : el ηt St with
                      | none => simp only [qe] at el2; cases el2
                      | some re =>
                        cases re with
                        | ex x ηx Sx => simp only [qe] at el2; cases el2
                        | ok y ηy Sy =>
                          simp only [qe] at el2
                          split at el2
                          · refine ⟨F5, upd P A (SetSO X.w A (uniq ys)), β5, ηt, St, _, qe, s5, fun F6 β6 H6 e6 b6 s6 v6 r6 => ?_⟩
                            obtain ⟨rest, hrest⟩ := lcL_pre _ _ _ _ _ _ _ el2
                            have hqf := qf
                            rw [hrest] at hqf
                            obtain ⟨us, zs, q1, _, _⟩ := strsOf_append hqf
                            obtain ⟨us1, us2, q2, q3, _⟩ := strsOf_append q1
                            cases y with
                            | str c =>
                              cases r6 with
                              | str okc =>
                                have hlen : ys.length = acc.length := strsOf_len hys
                                have hfl : acc.length + 1 ≤ final.length := by rw [hrest]; simp
                                refine ⟨c, uniq ys, rfl, s6.psub A _ upd_same, by have := uniq_len ys; omega, F6, β6, ηy, Sy, acc ++ [.str c], ys ++ [c], ((e2.trans e3).trans e5).trans e6, (b2.trans b5).trans b6, strsOf_snoc hys, ?_, el2, ?_⟩
                                · intro x hx
                                  rcases List.mem_append.mp hx with z | z
                                  · exact hok x z
                                  · rw [List.mem_singleton.mp z]; exact okc
                                · have s7 := s6.wipe vs
                                  rw [hw] at s7
                                  have hF6 : F6 A = none := by
                                    cases q : F6 A with
                                    | none => rfl
                                    | some u => have := s7.fp A u q; rw [upd_same] at this; cases this
                                  rw [uniq_snoc]
                                  refine Ste.atP s7 hF6 (s7.notOwn (o := SetSO X.w A (uniq ys)) upd_same) (fun a z => upd_ne z) (fun a z => by rw [upd_ne z, upd_ne z]) fun o z => ?_
                                  rw [upd_same] at z ⊢; exact z
                            | _ => simp [strsOf] at q3
                          · cases el2
            · have hz : i = ds.length := by omega
              refine .inl ⟨it.2 hz, ?_⟩
              rw [List.drop_eq_nil_of_le (by omega)] at el2
              cases el2
              rw [qf] at hys
              cases hys
              have hA2 : H2 A = some (SetSO X.w A (uniq fs)) := s2.psub A _ upd_same
              have hF2 : F2 A = none := by
                cases q : F2 A with
                | none => rfl
                | some u => have := s2.fp A u q; rw [upd_same] at this; cases this
              have s3 : Ste X.kw X.mg F2 P β2 (L2.wipe σ vs) (wipeS ηf vs) Sf (fun b => if b = A then none else H2 b) := by
                refine Ste.atP s2 hF2 (s2.notOwn (o := SetSO X.w A (uniq fs)) upd_same) (fun a z => by simp [z]) (fun a z => by rw [upd_ne z]) fun o z => ?_
                rw [hPA] at z; cases z
              have s4 := (Ste.restore s s3 e2 b2).new (p := A) (o := SetSO X.w A (uniq fs)) (by simp)
              have hh : upd (fun b => if b = A then none else H2 b) A (SetSO X.w A (uniq fs)) = H2 := by
                funext b
                unfold upd
                by_cases z : b = A
                · subst z; simp [hA2]
                · simp [z]
              rw [hh] at s4
              exact p _ β2 H2 (e2.trans (Ex.new hF2)) b2 s4 _ (.ss upd_same fun x hx => hok x (uniq_mem.mp hx))
          · cases qs
theorem de_sc {e : Expr} {vs js : List Nat} {m : M (List D)} {g : D → Sls → Option Sls} {t : M Bool} {el : M D} (hs : ∀ j ∈ js, j ∈ vs) (h : PE X e (tScS X.w (rdI X W m) (rdG X js g) (rdT X W0 t) (rdE X W0 el) vs)) : DE X W e (sc m vs g t el) :=
  Y.PE.imp h fun _ _ _ q => run_sc hs q
end
end Y
/-! Y19: set(list of texts), len and sorted of sets of texts. -/
namespace Y
open PySem L2 PySem.Spec PyProof.Rows
/-! ### the order of texts -/
abbrev ltS (a b : Str) : Bool := ltCps a.cps.toList b.cps.toList
def insS (x : Str) : List Str → List Str
  | [] => [x]
  | y :: r => if ltS x y = true then x :: y :: r else y :: insS x r
def srtS : List Str → List Str
  | [] => []
  | x :: r => insS x (srtS r)
theorem insS_perm (x : Str) : ∀ l, (insS x l).Perm (x :: l)
  | [] => List.Perm.refl _
  | y :: r => by
    unfold insS
    split
    · exact List.Perm.refl _
    · exact ((insS_perm x r).cons y).trans (List.Perm.swap x y r)
theorem srtS_perm : ∀ l, (srtS l).Perm l
  | [] => List.Perm.refl _
  | x :: r => (insS_perm x (srtS r)).trans ((srtS_perm r).cons x)
theorem ltS_dec (a b : Str) : ltS a b = decide (a.cps.toList < b.cps.toList) := ltCps_eq _ _
theorem nlt_trans {a b c : Str} (h1 : ltS b a = false) (h2 : ltS c b = false) : ltS c a = false := by
  rw [ltS_dec, decide_eq_false_iff_not] at *
  have q1 : a.cps.toList ≤ b.cps.toList := List.not_lt.mp h1
  have q2 : b.cps.toList ≤ c.cps.toList := List.not_lt.mp h2
  exact List.not_lt.mpr (List.le_trans q1 q2)
theorem lt_nlt {a b : Str} (h : ltS a b = true) : ltS b a = false := by
  rw [ltS_dec] at *
  rw [decide_eq_false_iff_not]
  exact List.not_lt.mpr (List.le_of_lt (of_decide_eq_true h))
theorem nlt_anti {a b : Str} (h1 : ltS b a = false) (h2 : ltS a b = false) : a = b := by
  rw [ltS_dec, decide_eq_false_iff_not] at *
  have q := List.le_antisymm (List.not_lt.mp h1) (List.not_lt.mp h2)
  cases a; cases b
  congr 1
  exact Array.toList_inj.mp q
abbrev PwS (l : List Str) : Prop := l.Pairwise fun a b => ltS b a = false
theorem insS_pw (x : Str) : ∀ l, PwS l → PwS (insS x l)
  | [], _ => List.pairwise_singleton _ _
  | y :: r, h => by
    unfold insS
    obtain ⟨h1, h2⟩ := List.pairwise_cons.mp h
    split
    · rename_i q
      refine List.pairwise_cons.mpr ⟨fun z hz => ?_, h⟩
      rcases List.mem_cons.mp hz with rfl | hz
      · exact lt_nlt q
      · exact nlt_trans (lt_nlt q) (h1 z hz)
    · rename_i q
      refine List.pairwise_cons.mpr ⟨fun z hz => ?_, insS_pw x r h2⟩
      rcases List.mem_cons.mp ((insS_perm x r).mem_iff.mp hz) with rfl | hz
      · exact Bool.not_eq_true _ ▸ q
      · exact h1 z hz
theorem srtS_pw : ∀ l, PwS (srtS l)
  | [] => List.Pairwise.nil
  | x :: r => insS_pw x _ (srtS_pw r)
theorem pw_unique : ∀ {a b : List Str}, a.Perm b → PwS a → PwS b → a = b
  | [], b, p, _, _ => (List.Perm.nil_eq p)
  | x :: a, [], p, _, _ => by have := p.length_eq; cases this
  | x :: a, y :: b, p, h, k => by
    obtain ⟨h1, h2⟩ := List.pairwise_cons.mp h
    obtain ⟨k1, k2⟩ := List.pairwise_cons.mp k
    have e : x = y := by
      rcases List.mem_cons.mp (p.mem_iff.mp (List.mem_cons_self (a := x))) with e | hx
      · exact e
      · rcases List.mem_cons.mp (p.mem_iff.mpr (List.mem_cons_self (a := y))) with e | hy
        · exact e.symm
        · exact nlt_anti (h1 y hy) (k1 x hx)
    subst e
    rw [pw_unique (List.Perm.cons_inv p) h2 k2]
theorem risingS_pw : ∀ (p : Str) (l : List Str), risingS p l = true → PwS (p :: l)
  | p, [], _ => List.pairwise_singleton _ _
  | p, x :: r, h => by
    have h : (!ltCps x.cps.toList p.cps.toList && risingS x r) = true := h
    simp only [Bool.and_eq_true, Bool.not_eq_true'] at h
    have ih := risingS_pw x r h.2
    refine List.pairwise_cons.mpr ⟨fun z hz => ?_, ih⟩
    rcases List.mem_cons.mp hz with rfl | hz
    · exact h.1
    · exact nlt_trans h.1 ((List.pairwise_cons.mp ih).1 z hz)
theorem sortedS_pw : ∀ (l : List Str), sortedS l = true → PwS l
  | [], _ => List.Pairwise.nil
  | x :: r, h => risingS_pw x r h
theorem sorted_is {ys xs : List Str} (p : ys.Perm xs) (h : sortedS ys = true) : ys = srtS xs := pw_unique (p.trans (srtS_perm xs).symm) (sortedS_pw ys h) (srtS_pw xs)
/-! ### sorted(set) -/
section
variable {P : Program} {w : World} {A : Around} {E : Value → Shared → Prop} {s : Shared} {a : Addr} {l : List Str}
theorem strs_of : ∀ (es : List Value) , (∀ v ∈ es, ∃ k u, v = Value.str k u) → StrsAre es (es.map fun v => txt (0, v))
  | [], _ => .nil
  | v :: es, h => by
    obtain ⟨k, u, rfl⟩ := h v List.mem_cons_self
    exact .cons k u (strs_of es fun v hv => h v (List.mem_cons_of_mem _ hv))
theorem sorted_setS {Q : Value → Shared → Prop} (r : SetS w s.heap a l) (hh : A.handled = none) (h64 : l.length < 64)
    (hQ : ∀ s' p (out : Array Value) (c : Nat), (∀ b o, s.heap.get? b = some o → s'.heap.get? b = some o) → s'.gens = s.gens → s'.os = s.os → s.heap.objs.size ≤ p →
      s'.heap.get? p = some (seqObj "list" out c) → StrsAre out.toList (srtS l) → Q (.ref p) s') :
    wpAny (model P w) A (call (.builtin "sorted") [.ref a]) Q E s := by
  obtain ⟨ob, es, ep, t, ho, hx, hd, g, pm, nd, hb, hf, hr, hl⟩ := r
  have hz : es.size = l.length := by rw [← Array.length_toList, ← pm.length_eq, List.length_map]
  apply Calls.call_function_entry kind_sorted plain_sorted entry_sorted (args_sorted1 _)
  unfold Builtin.«sorted»; refine wpAny_bind (m := checkCount "sorted" 1 1 _) (wpAny_pure ?_)
  refine wpAny_bind (collect_set (A := A.in1) hh ⟨ob, ho, hx.1, hd⟩ hf (by rw [hz]; exact hb) hr hl fun s1 vs k1 hz1 g1 o1 pv => ?_)
  have hvl : vs.length = l.length := by rw [pv.length_eq, List.length_map, Array.length_toList]; exact hz
  have hS : StrsAre vs (vs.map fun v => txt (0, v)) := strs_of vs fun v hv => by
    obtain ⟨e, he, q⟩ := List.mem_map.mp (pv.mem_iff.mp hv)
    obtain ⟨k, u, rfl⟩ := g e he
    exact ⟨k, u, q.symm⟩
  have pk : (vs.map fun v => txt (0, v)).Perm l := by
    have q := pv.map fun v => txt (0, v)
    rw [List.map_map] at q
    exact q.trans pm
  refine wpAny_bind (wpAny_newList ?_ (by rw [hvl, sizeLine_eq]; omega))
  have hoL : (s1.heap.push (seqObj "list" vs.toArray 0)).get? s1.heap.objs.size = some (seqObj "list" vs.toArray 0) := Heap.get?_push_size _ rfl
  refine wpAny_bind (wpAny_holding (wpAny_call_entry slot_list_sort ⟨_, hoL, rfl⟩ entry_list_sort (list_sort_treeK strKind_oneLt hoL hS.keysOf (fun v₁ v₂ rest e => keyKind_strs (by rw [← e]; exact hS)) (by rw [hvl]; exact h64) fun st' hp hs => ⟨_, rfl, ?_⟩) (args_list_sort _)))
  obtain ⟨ss', q1, q2, q3⟩ := sorted_out_str hS hp hs
  obtain ⟨c, hc⟩ := sortedHeap_at (vs := vs) (out := (arrOf st').map (·.2)) hoL
  rw [sorted_is (q2.trans pk) q3] at q1
  refine wpAny_pure ⟨_, rfl, hQ _ s1.heap.objs.size _ c (fun b u e => ?_) g1 o1 hz1 hc q1⟩
  have q := k1 b u e
  have hlt := Heap.lt_size q
  show (sortedHeap (s1.heap.push (seqObj "list" vs.toArray 0)) s1.heap.objs.size vs _).get? b = some u
  rw [sortedHeap_old (Nat.ne_of_lt hlt) (by rw [size_push']; exact Nat.lt_succ_of_lt hlt)]; exact Heap.get?_push_of_some _ q
end
end Y
/-! Y20: set(list or tuple of texts). (printed by mkY20.py) -/
namespace Y
open PySem L2 PySem.Spec PyProof.Rows
/-- a new set -/
abbrev newS (w : World) : Obj := { cls := .type "set", dict := none, data := .set #[] 0 (.fresh 0 0 (!w.params.followText "set-order")) }
theorem setS_new {w : World} {h : Heap} {a : Addr} (ho : h.get? a = some (newS w)) : SetS w h a [] :=
  ⟨_, #[], 0, _, ho, ⟨rfl, rfl, rfl⟩, rfl, (fun e he => by simp at he), (by simp), (by simp), (by decide), (by rfl), List.Pairwise.nil, by
    show _ ∨ (!w.params.followText "set-order") = true
    cases w.params.followText "set-order"
    · exact .inr rfl
    · exact .inl rfl⟩
theorem uniq_take {xs : List Str} {i : Nat} {k : Str} (h : xs[i]? = some k) : uniq (xs.take (i + 1)) = addS (uniq (xs.take i)) k := by
  rw [List.take_add_one, h]
  exact uniq_snoc _ _
section
variable {P : Program} {w : World} {A : Around} {E : Value → Shared → Prop} {s : Shared}
theorem set_update_txt {I : Addr} {fp wr : List Addr} {G : Array GenState → Array GenState → Prop} {n : Nat} {Pv : Nat → Value → Prop} {St : Nat → Shared → Prop} {R : Result → Shared → Prop}
    (W : WalksS P w A.in1 I fp wr G n Pv St) (S : Addr) (hSf : S ∉ fp) (ns : List Str) (hn : n = ns.length) (hb : ns.length + 1 < scanBound) (hval : ∀ i v, Pv i v → ∃ k t, ns[i]? = some k ∧ v = .str k t) :
    ∀ (k i : Nat) (s : Shared), n - i = k → i ≤ n → St i s → SetS w s.heap S (uniq (ns.take i)) →
      (∀ s', Moved (S :: wr) G s s' → SetS w s'.heap S (uniq ns) → R (.ok (.ret .none)) s') →
      codeAny (model P w) A (.builtin "set.update.loop" ⟨[.ref S, .ref I], []⟩) R s := by
  have hSw : S ∉ wr := fun h => hSf (W.sub _ h)
  have hup : ∀ b ∈ wr, b ∈ S :: wr := fun b hb => List.mem_cons_of_mem _ hb
  intro k
  induction k with
  | zero =>
    intro i s hk' hi hst hS hR
    have hin : i = n := by omega
    subst hin
    refine codeAny_builtin F.entry_set_update_loop ?_
    rw [Around.under_plainId F.plain_set_update_loop _]; show wpAny _ A.in1 (pyNext (.ref I) >>= _) _ _ s
    refine wpAny_bind (W.done s _ _ hst fun s' hm => ?_)
    show wpAny _ A.in1 (ret Value.none) _ _ s'
    rw [show ns.take i = ns from List.take_of_length_le (by omega)] at hS
    exact wpAny_pure (hR s' (hm.mono hup) (hS.at fun o e => hm.heap S o hSw e))
  | succ k ih =>
    intro i s hk' hi hst hS hR
    have hlt : i < n := by omega
    refine codeAny_builtin F.entry_set_update_loop ?_
    rw [Around.under_plainId F.plain_set_update_loop _]; show wpAny _ A.in1 (pyNext (.ref I) >>= _) _ _ s
    refine wpAny_bind (W.item i s _ _ hlt hst fun v s' hP hst' hm => ?_)
    obtain ⟨z, t, hz, rfl⟩ := hval i v hP
    have hS' : SetS w s'.heap S (uniq (ns.take i)) := hS.at fun o e => hm.heap S o hSw e
    show wpAny _ A.in1 (holding [Value.str z t] (setAdd S (.str z t)) >>= _) _ _ s'
    refine wpAny_bind (wpAny_holding ?_)
    unfold setAdd
    refine wpAny_holding ?_
    refine wpAny_bind ((strKind P w).pyHash (k := z) (strIs z t) ?_)
    have hlen := uniq_len (ns.take i)
    rw [List.length_take] at hlen
    refine addS_hashed (s := { s' with toks := s'.toks + 1 }) hS' (by omega) fun h' b hsb hS2 => ?_
    rw [← uniq_take hz] at hS2
    refine wpAny_pure ⟨plainId_quiet F.plain_set_update_loop _, ih (i + 1) _ (by omega) hlt (W.frame _ s' _ _ hst' (Nat.le_succ _) fun b hb o e => ?_) hS2 fun s'' hm'' hS'' => ?_⟩
    · exact (hsb.2 b (fun h : b = S => hSf (by rw [← h]; exact hb))).trans e
    · refine hR s'' (Moved.trans W.gtrans ((hm.mono hup).then_heap (Nat.le_succ _) fun b o hb e => ?_) hm'') hS''
      exact (hsb.2 b (fun h : b = S => hb (by rw [h]; exact List.mem_cons_self))).trans e
theorem strs_at : ∀ {vs : List Value} {ns : List Str}, StrsAre vs ns → ∀ (i : Nat) (v : Value), vs[i]? = some v → ∃ k t, ns[i]? = some k ∧ v = .str k t
  | _, _, .nil, i, v, h => by simp at h
  | _, _, .cons k u r, 0, v, h => ⟨k, u, rfl, by simpa using h.symm⟩
  | _, _, .cons k u r, i + 1, v, h => by
    obtain ⟨k, t, h1, h2⟩ := strs_at r i v (by simpa using h)
    exact ⟨k, t, by simpa using h1, h2⟩
theorem call_set_list {l : Addr} {items : Array Value} (ns : List Str) {Q : Value → Shared → Prop} (hh : A.handled = none) (hl : s.heap.IsList l items) (hit : StrsAre items.toList ns) (hb : ns.length + 1 < scanBound)
    (h : ∀ (h' : Heap) (tk : Nat), SetS w h' s.heap.objs.size (uniq ns) → (∀ b o, s.heap.get? b = some o → h'.get? b = some o) → Q (.ref s.heap.objs.size) { s with heap := h', toks := tk }) :
    wpAny (model P w) A (call (.type "set") [.ref l]) Q E s := by
  have hisz : items.size = ns.length := by
    have q := StrsAre.length hit
    rw [Array.length_toList] at q
    omega
  obtain ⟨c, tl, hmro⟩ := F.called_set.mro; have hmade := F.called_set.made; have hsub := F.called_set.sub
  refine wpAny_call (codeAny_of_tree ?_)
  show wpAny _ _ (callAny (.type "set") _) _ _ _
  apply wpAny_pure; refine ⟨Code.quiet_builtin _ (by decide +kernel), codeAny_builtin F.entry_type_call ?_⟩
  rw [Around.under_plain (weight_type_call_type "set" [.ref l] []) rfl]
  have h1 := F.called_set.notType
  have h2 := F.called_set.canCreate
  have hct := F.typeCall_set_1 (.ref l)
  repeat (any_goals (first | assumption | wp_step))
  refine codeAny_mono (code_set_led1 (.ref l) (E := E) (Q₁ := fun obj s₁ => obj = .ref s.heap.objs.size ∧ s₁ = { s with heap := s.heap.push (newS w) }) ⟨rfl, rfl⟩) fun r s₁ hr => ?_
  cases r with
  | error e => exact hr
  | ok fl =>
    cases fl with
    | ret obj =>
      obtain ⟨rfl, rfl⟩ := hr
      have hS : (s.heap.push (newS w)).get? s.heap.objs.size = some (newS w) := Heap.get?_push_size _ rfl
      have hT : Shared.TypeIs { s with heap := s.heap.push (newS w) } (.ref s.heap.objs.size) "set" := ⟨_, hS, rfl⟩
      have hli := F.called_set.init.lookup; have hbi := F.called_set.init.bind (.ref s.heap.objs.size)
      repeat (any_goals (first | assumption | wp_step))
      refine codeAny_mono (codeAny_call_builtin (R := wants (fun r s₂ => r = .none ∧ ∃ h' tk, s₂ = { s with heap := h', toks := tk } ∧ SetS w h' s.heap.objs.size (uniq ns) ∧
          (∀ b o, s.heap.get? b = some o → h'.get? b = some o)) E) F.called_set.init.plain F.entry_set_init (check_set_init_1 hT ?_)) fun r₂ s₂ hr₂ => ?_
      · obtain ⟨ol, hol, hcl, nl, hdl⟩ := hl
        obtain ⟨ocls, odict, odata, oslots⟩ := ol
        simp only at hcl hdl
        subst hcl; subst hdl
        have hol' : (s.heap.push (newS w)).get? l = some { cls := .type "list", dict := odict, data := .seq items nl, slots := oslots } := Heap.get?_push_of_some _ hol
        have hsls := F.sub_list_set; have hslf := F.sub_list_frozenset
        have hne : (Value.type "list" == Value.type "dict") = false := by decide
        have hl1 : (s.heap.push (newS w)).IsList l items := ⟨_, hol', rfl, nl, rfl⟩
        unfold Builtin.«set.__init__» noKeywords Builtin.Frozenset.updateFrom; generalize hPI : pyIter = PI
        wp_walk
        subst hPI
        refine wpAny_pyIter_list hl1 ?_
        apply wpAny_bind; apply wpAny_runValue
        have hlS : l < s.heap.objs.size := Heap.lt_size hol
        have hh3 : A.in1.in1.in1.handled = none := by simp [hh]
        have hneI : l ≠ (s.heap.push (newS w)).objs.size := by
          rw [Heap.size_push]; exact Nat.ne_of_lt (Nat.lt_succ_of_lt hlS)
        have hSf : s.heap.objs.size ∉ [(s.heap.push (newS w)).objs.size, l] := by
          rw [Heap.size_push]; simp only [List.mem_cons, List.mem_singleton, List.not_mem_nil, or_false, not_or]; exact ⟨Nat.ne_of_lt (Nat.lt_succ_self _), Nat.ne_of_gt hlS⟩
        refine set_update_txt ((Walks.list hh3 _ l hneI items).toS) s.heap.objs.size
          hSf ns hisz hb (fun i v hv => strs_at hit i v (by rw [Array.getElem?_toList]; exact hv)) (items.size - 0) 0 _ (by omega) (Nat.zero_le _)
          ⟨⟨_, Heap.get?_push_size _ rfl, rfl, rfl⟩, (hl1.push _)⟩ ?hS0 ?hR
        case hS0 =>
          exact setS_new (Heap.get?_push_of_some _ hS)
        case hR =>
          intro s' hm hS'
          obtain ⟨h', g2, d', tk', os'⟩ := s'
          have eg : g2 = s.gens := hm.gens
          have ed : d' = s.drawn := hm.drawn
          have eo : os' = s.os := hm.os
          subst eg; subst ed; subst eo
          show wpAny _ _ _ _ _ _
          refine wpAny_pure ?_
          show wpAny _ _ (ret Value.none) _ _ _
          refine wpAny_pure ⟨rfl, h', tk', rfl, hS', fun b o e => ?_⟩
          have hb0 : b < s.heap.objs.size := Heap.lt_size e
          have hb1 : b ≠ s.heap.objs.size := Nat.ne_of_lt hb0
          have hb2 : b ≠ (s.heap.push (newS w)).objs.size := by
            rw [Heap.size_push]; exact Nat.ne_of_lt (Nat.lt_succ_of_lt hb0)
          refine hm.heap b o ?_ (Heap.get?_push_of_some _ (Heap.get?_push_of_some _ e))
          simp only [List.mem_cons, List.mem_singleton, List.not_mem_nil, or_false, not_or]; exact ⟨hb1, hb2⟩
      · cases r₂ with
        | error e => exact hr₂
        | ok fl₂ =>
          cases fl₂ with
          | ret r =>
            obtain ⟨rfl, h', tk, rfl, hS', hk'⟩ := hr₂
            repeat (any_goals (first | assumption | wp_step))
            exact h _ _ hS' hk'
          | _ => exact hr₂.elim
    | _ => exact hr.elim
theorem call_set_tuple {l : Addr} {items : Array Value} (ns : List Str) {Q : Value → Shared → Prop} (hh : A.handled = none) (hl : s.heap.IsTuple l items) (hit : StrsAre items.toList ns) (hb : ns.length + 1 < scanBound)
    (h : ∀ (h' : Heap) (tk : Nat), SetS w h' s.heap.objs.size (uniq ns) → (∀ b o, s.heap.get? b = some o → h'.get? b = some o) → Q (.ref s.heap.objs.size) { s with heap := h', toks := tk }) :
    wpAny (model P w) A (call (.type "set") [.ref l]) Q E s := by
  have hisz : items.size = ns.length := by
    have q := StrsAre.length hit
    rw [Array.length_toList] at q
    omega
  obtain ⟨c, tl, hmro⟩ := F.called_set.mro; have hmade := F.called_set.made; have hsub := F.called_set.sub
  refine wpAny_call (codeAny_of_tree ?_)
  show wpAny _ _ (callAny (.type "set") _) _ _ _
  apply wpAny_pure; refine ⟨Code.quiet_builtin _ (by decide +kernel), codeAny_builtin F.entry_type_call ?_⟩
  rw [Around.under_plain (weight_type_call_type "set" [.ref l] []) rfl]
  have h1 := F.called_set.notType
  have h2 := F.called_set.canCreate
  have hct := F.typeCall_set_1 (.ref l)
  repeat (any_goals (first | assumption | wp_step))
  refine codeAny_mono (code_set_led1 (.ref l) (E := E) (Q₁ := fun obj s₁ => obj = .ref s.heap.objs.size ∧ s₁ = { s with heap := s.heap.push (newS w) }) ⟨rfl, rfl⟩) fun r s₁ hr => ?_
  cases r with
  | error e => exact hr
  | ok fl =>
    cases fl with
    | ret obj =>
      obtain ⟨rfl, rfl⟩ := hr
      have hS : (s.heap.push (newS w)).get? s.heap.objs.size = some (newS w) := Heap.get?_push_size _ rfl
      have hT : Shared.TypeIs { s with heap := s.heap.push (newS w) } (.ref s.heap.objs.size) "set" := ⟨_, hS, rfl⟩
      have hli := F.called_set.init.lookup; have hbi := F.called_set.init.bind (.ref s.heap.objs.size)
      repeat (any_goals (first | assumption | wp_step))
      refine codeAny_mono (codeAny_call_builtin (R := wants (fun r s₂ => r = .none ∧ ∃ h' tk, s₂ = { s with heap := h', toks := tk } ∧ SetS w h' s.heap.objs.size (uniq ns) ∧
          (∀ b o, s.heap.get? b = some o → h'.get? b = some o)) E) F.called_set.init.plain F.entry_set_init (check_set_init_1 hT ?_)) fun r₂ s₂ hr₂ => ?_
      · obtain ⟨ol, hol, hcl, nl, hdl⟩ := hl
        obtain ⟨ocls, odict, odata, oslots⟩ := ol
        simp only at hcl hdl
        subst hcl; subst hdl
        have hol' : (s.heap.push (newS w)).get? l = some { cls := .type "tuple", dict := odict, data := .seq items nl, slots := oslots } := Heap.get?_push_of_some _ hol
        have hsls := F.sub_tuple_set; have hslf := F.sub_tuple_frozenset
        have hne : (Value.type "tuple" == Value.type "dict") = false := by decide
        have hl1 : (s.heap.push (newS w)).IsTuple l items := ⟨_, hol', rfl, nl, rfl⟩
        unfold Builtin.«set.__init__» noKeywords Builtin.Frozenset.updateFrom; generalize hPI : pyIter = PI
        wp_walk
        subst hPI
        refine wpAny_pyIter_tuple hl1 ?_
        apply wpAny_bind; apply wpAny_runValue
        have hlS : l < s.heap.objs.size := Heap.lt_size hol
        have hh3 : A.in1.in1.in1.handled = none := by simp [hh]
        have hneI : l ≠ (s.heap.push (newS w)).objs.size := by
          rw [Heap.size_push]; exact Nat.ne_of_lt (Nat.lt_succ_of_lt hlS)
        have hSf : s.heap.objs.size ∉ [(s.heap.push (newS w)).objs.size, l] := by
          rw [Heap.size_push]; simp only [List.mem_cons, List.mem_singleton, List.not_mem_nil, or_false, not_or]; exact ⟨Nat.ne_of_lt (Nat.lt_succ_self _), Nat.ne_of_gt hlS⟩
        refine set_update_txt ((Walks.tuple hh3 _ l hneI items).toS) s.heap.objs.size
          hSf ns hisz hb (fun i v hv => strs_at hit i v (by rw [Array.getElem?_toList]; exact hv)) (items.size - 0) 0 _ (by omega) (Nat.zero_le _)
          ⟨⟨_, Heap.get?_push_size _ rfl, rfl, rfl⟩, (hl1.push _)⟩ ?hS0 ?hR
        case hS0 =>
          exact setS_new (Heap.get?_push_of_some _ hS)
        case hR =>
          intro s' hm hS'
          obtain ⟨h', g2, d', tk', os'⟩ := s'
          have eg : g2 = s.gens := hm.gens
          have ed : d' = s.drawn := hm.drawn
          have eo : os' = s.os := hm.os
          subst eg; subst ed; subst eo
          show wpAny _ _ _ _ _ _
          refine wpAny_pure ?_
          show wpAny _ _ (ret Value.none) _ _ _
          refine wpAny_pure ⟨rfl, h', tk', rfl, hS', fun b o e => ?_⟩
          have hb0 : b < s.heap.objs.size := Heap.lt_size e
          have hb1 : b ≠ s.heap.objs.size := Nat.ne_of_lt hb0
          have hb2 : b ≠ (s.heap.push (newS w)).objs.size := by
            rw [Heap.size_push]; exact Nat.ne_of_lt (Nat.lt_succ_of_lt hb0)
          refine hm.heap b o ?_ (Heap.get?_push_of_some _ (Heap.get?_push_of_some _ e))
          simp only [List.mem_cons, List.mem_singleton, List.not_mem_nil, or_false, not_or]; exact ⟨hb1, hb2⟩
      · cases r₂ with
        | error e => exact hr₂
        | ok fl₂ =>
          cases fl₂ with
          | ret r =>
            obtain ⟨rfl, h', tk, rfl, hS', hk'⟩ := hr₂
            repeat (any_goals (first | assumption | wp_step))
            exact h _ _ hS' hk'
          | _ => exact hr₂.elim
    | _ => exact hr.elim
end
end Y
/-! Y21: data rules: set(..), sorted(..), len of sets, list(range(..)), tuple * 0 and 1. -/
namespace Y
open PySem L2 PySem.Spec PyProof.Rows
section
theorem tup_same (l : Addr) (items : Array Value) (n : Nat) (dd : Option Addr) (sl : Array (Option Value)) (u : Tok) :
    Meets (Builtin.«tuple.__mul__» ⟨[.ref l, .int 1 u], []⟩) (fun _ R s => s.heap.get? l = some { cls := .type "tuple", dict := dd, data := .seq items n, slots := sl } ∧ R (.ok (.ret (Value.ref l))) s) :=
  .of_wp fun prog w A R s h => by
    obtain ⟨hp, g, d, tk, os⟩ := s
    obtain ⟨hl, h⟩ := h
    have f1 := AutoSeq1.idx_int
    have c1 : (items.isEmpty || (1 : Int) == 1) = true := by simp
    wp_walk using wpAny_loadPart' hl
    exact ⟨_, rfl, h⟩
theorem tup_none (l : Addr) (items : Array Value) (n : Nat) (dd : Option Addr) (sl : Array (Option Value)) (u : Tok) (hi : items.isEmpty = false) :
    Meets (Builtin.«tuple.__mul__» ⟨[.ref l, .int 0 u], []⟩) (fun _ R s => s.heap.get? l = some { cls := .type "tuple", dict := dd, data := .seq items n, slots := sl } ∧
      R (.ok (.ret (Value.ref s.heap.objs.size))) { s with heap := s.heap.push { cls := Value.type "tuple", data := Data.seq #[] }, toks := s.toks }) :=
  .of_wp fun prog w A R s h => by
    obtain ⟨hp, g, d, tk, os⟩ := s
    obtain ⟨hl, h⟩ := h
    have f1 := AutoSeq1.idx_int
    have c1 : (items.isEmpty || (0 : Int) == 1) = false := by rw [hi]; rfl
    have c2 : (decide ((0 : Int) ≤ 0) || items.isEmpty) = true := by simp
    wp_walk using wpAny_loadPart' hl
    exact ⟨_, rfl, h⟩
end
section
variable {X : Cx} {W : WX}
/-! ### tuple * 0, tuple * 1 -/
def rTup01 (K : PySem.W.Frag) : R2 := fun x y H Q => ∃ l k xs, x = .ref l ∧ y = .int k ∧ SqT K H l xs ∧ xs ≠ [] ∧ ((k = 1 ∧ Q (.ref l) H) ∨ (k = 0 ∧ ∀ p, H p = none → Q (.ref p) (upd H p (.tup []))))
theorem op_tup01 : OpR X (binaryOp .Mult) (rTup01 X.K) := by
  intro pins s σ H x y v u Q I rx ry h
  obtain ⟨l, k, xs, rfl, rfl, hT, hne, q⟩ := h
  cases rx
  obtain ⟨t, rfl⟩ := ry
  obtain ⟨its, r, ⟨⟨cls, dd, data, sl⟩, ho, hc, n, hd⟩, hs⟩ := I.tuple hT
  simp only at hc hd
  subst hc hd
  have hi : its.toArray.isEmpty = false := by
    cases its with
    | nil => cases r; exact absurd rfl hne
    | cons a b => rfl
  have way : ∀ {Rk : Result → Shared → Prop} {sp}, Meets (Builtin.«tuple.__mul__» ⟨[.ref l, .int k t], []⟩) sp → (∀ A, sp A (wants (EP X pins σ Q) X.xe) s) → wpAny (model X.prog X.w) X.A (binaryOp .Mult (.ref l) (.int k t)) (EP X pins σ Q) X.xe s := fun M hM =>
    wpAny_binaryOp_repeat_ref (T := "tuple") (U := "int") (by decide) ⟨_, ho, rfl⟩ (fun s' => typeIs_int s' k t) noFill_tuple_mul F.fills_int_mul F.slot_int_rmul repeat_tuple F.slot_int_index.lookup
      (call_meets F.slot_int_rmul (typeIs_int s k t) F.entry_int_rmul (F.args_int_rmul_2 _ _) (int_rmul_tuple k t l its.toArray n dd sl)
        ⟨ho, rfl, ⟨_, ho, rfl⟩, call_meets F.slot_tuple_mul ⟨_, ho, rfl⟩ F.entry_tuple_mul (F.args_tuple_mul_2 _ _) M (hM _)⟩)
  rcases q with ⟨rfl, q⟩ | ⟨rfl, q⟩
  · exact way (Rk := fun _ _ => True) (tup_same l its.toArray n dd sl t) fun A => ⟨ho, .ref l, H, I, rfl, q⟩
  · refine way (Rk := fun _ _ => True) (tup_none l its.toArray n dd sl t hi) fun A => ⟨ho, .ref s.heap.objs.size, _, I.laid (t' := s.toks) (o := .tup []) (fun b ob q => Heap.get?_push_of_some _ q) (Nat.le_refl _) ?_, rfl, q _ (I.hok.fresh (Nat.le_refl _))⟩
    exact ⟨Nat.zero_le _, [], .nil, IsTup.new _ _⟩
def mulA : D → D → Option D
  | .tup xs, .int k => if xs ≠ [] ∧ k = 1 then some (.tup xs) else if xs ≠ [] ∧ k = 0 then some (.tup []) else mulD (.tup xs) (.int k)
  | a, b => mulD a b
theorem od_mulA : OpR X (binaryOp .Mult) (Ask2 X mulA) := by
  refine Y.OpR.imp (Y.OpR.or op_tup01 od_mul) fun x y H Q q => ?_
  obtain ⟨F, P, β, σ, η, S, a, b, z, s, ra, rb, e, k⟩ := q
  unfold mulA at e
  split at e
  · rename_i xs n
    split at e
    · rename_i hc
      cases e
      cases rb
      cases ra with
      | @tup p0 vs _ h l a =>
        exact .inl ⟨_, _, vs, rfl, rfl, s.fsub.t h, fun z => by rw [z] at a; cases a; exact hc.1 rfl, .inl ⟨hc.2, k F H _ (Ex.refl _) s (.tup h l a)⟩⟩
    · split at e
      · rename_i hc
        cases e
        cases rb
        cases ra with
        | @tup p0 vs _ h l a =>
          refine .inl ⟨_, _, vs, rfl, rfl, s.fsub.t h, fun z => by rw [z] at a; cases a; exact hc.1 rfl, .inr ⟨hc.2, fun p hp => ?_⟩⟩
          have hf := s.fnone hp
          exact k (upd F p (.tup [])) _ _ (Ex.new hf) (s.new hp) (.tup (SqT.of upd_same) (Nat.zero_le _) .nil)
      · exact .inr ⟨F, P, β, σ, η, S, _, _, z, s, ra, rb, e, k⟩
  · exact .inr ⟨F, P, β, σ, η, S, _, _, z, s, ra, rb, e, k⟩
/-! ### sets -/
theorem call_lenS : CallR X (.builtin "len") (fun xs H Q => ∃ a l, xs = [V.ref a] ∧ H a = some (SetSO X.w a l) ∧ Q (.int l.length) H) := by
  intro pins s σ H xs us Q I rx q
  obtain ⟨a, l, rfl, ha, q⟩ := q
  have r := setS_get I ha
  rw [Vals.ref1 rx]
  have hb : l.length < scanBound := by obtain ⟨_, _, _, _, _, _, _, _, _, _, hb, _⟩ := r; exact hb
  obtain ⟨o, es, ep, t, ho, hex, hd, _, _, _, hf, hn⟩ := r.setOf (P := X.prog)
  exact call_len_set ho hex hd hf (by rw [hn]; unfold scanBound at hb; omega) ⟨.int l.length, H, I.tok _, ⟨_, by rw [hn]⟩, q⟩
def lenA (ds : List D) : Option D := match ds with
  | [.ss xs] => some (.int xs.length)
  | _ => lenD ds
theorem cd_lenA : CallR X (.builtin "len") (AskC X lenA) := Y.CallR.imp (Y.CallR.or call_lenS cd_len) fun vs H Q q => by
  obtain ⟨F, P, β, σ, η, S, ds, c, s, ra, e, k⟩ := q
  unfold lenA at e
  split at e
  · cases e
    cases ra with
    | cons r1 r2 =>
      cases r2
      cases r1 with
      | ss h o => exact .inl ⟨_, _, rfl, s.fsub _ _ h, k F H _ (Ex.refl _) s (.int _)⟩
  · exact .inr ⟨F, P, β, σ, η, S, ds, c, s, ra, e, k⟩
theorem RAll.strs {K : KW} {F : Hp} {β : Nat → Option Addr} : ∀ {vs : List V} {ds : List D} {xs : List Str}, RAll K F β vs ds → strsOf ds = some xs → vs = xs.map V.str ∧ ∀ x ∈ xs, PyData.strOk x = true
  | _, _, xs, .nil, h => by cases h; exact ⟨rfl, fun x hx => by simp at hx⟩
  | _, _, xs, .cons (d := d) (ds := ds) r rs, h => by
    cases d with
    | str y =>
      simp only [strsOf] at h
      cases q : strsOf ds with
      | none => rw [q] at h; cases h
      | some us =>
        rw [q] at h
        cases h
        obtain ⟨h1, h2⟩ := RAll.strs rs q
        cases r with
        | str ok =>
          refine ⟨by rw [h1]; rfl, fun x hx => ?_⟩
          rcases List.mem_cons.mp hx with rfl | hx
          · exact ok
          · exact h2 x hx
    | _ => simp [strsOf] at h
theorem RAll.ofStrs {K : KW} {F : Hp} {β : Nat → Option Addr} : ∀ {xs : List Str}, (∀ x ∈ xs, PyData.strOk x = true) → RAll K F β (xs.map V.str) (xs.map D.str)
  | [], _ => .nil
  | x :: xs, h => .cons (.str (h x List.mem_cons_self)) (RAll.ofStrs fun y hy => h y (List.mem_cons_of_mem _ hy))
def rSetOf (X : Cx) : List V → Hp → VK → Prop := fun vs H Q => ∃ (a : Addr) (xs : List Str), vs = [V.ref a] ∧ (SqL X.K H a (xs.map V.str) ∨ SqT X.K H a (xs.map V.str)) ∧ xs.length + 1 < scanBound ∧
  ∀ p, H p = none → Q (.ref p) (upd H p (SetSO X.w p (uniq xs)))
theorem call_setOf (hc : X.calm = true) : CallR X (.type "set") (rSetOf X) := by
  intro pins s σ H vs us Q I r h
  obtain ⟨a, xs, rfl, hq, hb, q⟩ := h
  rw [Vals.ref1 r]
  have fin : ∀ (h' : Heap) (tk : Nat), SetS X.w h' s.heap.objs.size (uniq xs) → (∀ b o, s.heap.get? b = some o → h'.get? b = some o) → EP X pins σ Q (.ref s.heap.objs.size) { s with heap := h', toks := tk } := fun h' tk hS hk => by
    refine ⟨.ref s.heap.objs.size, _, I.laid (t' := tk) hk (Nat.le_refl _) (o := SetSO X.w s.heap.objs.size (uniq xs)) ?_, rfl, q _ (I.hok.fresh (Nat.le_refl _))⟩
    exact ⟨hS, ⟨_, hS.choose_spec.choose_spec.choose_spec.choose_spec.1⟩, fun h1 h2 r k => SetS.at r k⟩
  rcases hq with hq | hq
  · obtain ⟨its, rv, pl, hz⟩ := I.list hq
    exact call_set_list xs (I.ok.hd hc) pl.isList (by simpa using rv.strs) hb fin
  · obtain ⟨its, rv, pl, hz⟩ := I.tuple hq
    exact call_set_tuple xs (I.ok.hd hc) pl (by simpa using rv.strs) hb fin
def setD (ds : List D) : Option D := match ds with
  | [.lst xs] => ssOf xs
  | [.tup xs] => ssOf xs
  | _ => none
theorem ssOf_some {xs : List D} {d : D} (h : ssOf xs = some d) : ∃ ys, strsOf xs = some ys ∧ ys.length + 1 < scanBound ∧ d = .ss (uniq ys) := by
  unfold ssOf at h
  cases q : strsOf xs with
  | none => rw [q] at h; cases h
  | some ys =>
    rw [q] at h
    have h : (if xs.length + 1 < scanBound then some (D.ss (uniq ys)) else none) = some d := h
    split at h
    · cases h; exact ⟨ys, rfl, by rw [strsOf_len q]; assumption, rfl⟩
    · cases h
theorem cd_set (hc : X.calm = true) : CallR X (.type "set") (AskC X setD) := Y.CallR.imp (call_setOf hc) fun vs H Q q => by
  obtain ⟨F, P, β, σ, η, S, ds, c, s, ra, e, k⟩ := q
  unfold setD at e
  split at e
  · obtain ⟨ys, q1, q2, rfl⟩ := ssOf_some e
    cases ra with
    | cons r1 r2 =>
      cases r2
      cases r1 with
      | lst h l a =>
        obtain ⟨rfl, ok⟩ := a.strs q1
        refine ⟨_, ys, rfl, .inl (SqL.of (s.fsub _ _ h)), q2, fun p hp => ?_⟩
        exact k (upd F p (SetSO X.w p (uniq ys))) _ _ (Ex.new (s.fnone hp)) (s.new hp) (.ss upd_same fun x hx => ok x (uniq_mem.mp hx))
  · obtain ⟨ys, q1, q2, rfl⟩ := ssOf_some e
    cases ra with
    | cons r1 r2 =>
      cases r2
      cases r1 with
      | tup h l a =>
        obtain ⟨rfl, ok⟩ := a.strs q1
        refine ⟨_, ys, rfl, .inr (s.fsub.t h), q2, fun p hp => ?_⟩
        exact k (upd F p (SetSO X.w p (uniq ys))) _ _ (Ex.new (s.fnone hp)) (s.new hp) (.ss upd_same fun x hx => ok x (uniq_mem.mp hx))
  · cases e
/-! ### sorted -/
def rSortSetS (X : Cx) : List V → Hp → VK → Prop := fun vs H Q => ∃ (a : Addr) (l : List Str), vs = [V.ref a] ∧ H a = some (SetSO X.w a l) ∧ l.length < 64 ∧ ∀ p, H p = none → Q (.ref p) (upd H p (.lst ((srtS l).map V.str)))
theorem cr_sortSetS (hc : X.calm = true) : CallR X (.builtin "sorted") (rSortSetS X) := by
  intro pins s σ H vs us Q I r h
  obtain ⟨a, l, rfl, ha, h64, q⟩ := h
  have rs := setS_get I ha
  rw [Vals.ref1 r]
  refine sorted_setS rs (I.ok.hd hc) h64 fun s' p out c k g o hp hg hi => ?_
  have hlen : ((srtS l).map V.str).length ≤ sizeLine := by rw [List.length_map, (srtS_perm l).length_eq, sizeLine_eq]; omega
  have hn : H p = none := I.hok.fresh hp
  have J : Inv X pins σ (upd H p (.lst ((srtS l).map V.str))) { s with heap := s'.heap, gens := s'.gens, drawn := s'.drawn, toks := s'.toks } :=
    I.call (ch := []) (Un.laid k hp hn) (I.hok.laid k hp ⟨hlen, out.toList, c, vals_of_strs hi, hg⟩) (by rw [g]; exact I.bare) (fun _ z => nomatch z)
  have e : s' = { s with heap := s'.heap, gens := s'.gens, drawn := s'.drawn, toks := s'.toks } := by
    cases s'; cases s; cases o; rfl
  rw [e]
  exact ⟨.ref p, _, J, rfl, q p hn⟩
def sortL (ys : List Str) : Option (List D) := if ys.length < 64 then some ((srtS ys).map .str) else none
def sortD (ds : List D) : Option (List D) := match ds with
  | [.ss ys] => sortL ys
  | [.lst xs] => (strsOf xs).bind sortL
  | _ => none
theorem cn_sort (hc : X.calm = true) : CallR X (.builtin "sorted") (AskN X sortD) := Y.CallR.imp (Y.CallR.or (cr_sortSetS hc) cr_sortedS) fun vs H Q q => by
  obtain ⟨F, P, β, σ, η, S, ds, c, s, ra, e, k⟩ := q
  have room : ∀ ys : List Str, ys.length < 64 → ((srtS ys).map V.str).length ≤ sizeLine := fun ys h => by rw [List.length_map, (srtS_perm ys).length_eq, sizeLine_eq]; omega
  unfold sortD at e
  split at e
  · unfold sortL at e
    split at e
    · rename_i h64
      cases e
      cases ra with
      | cons r1 r2 =>
        cases r2
        cases r1 with
        | ss h o => exact .inl ⟨_, _, rfl, s.fsub _ _ h, h64, fun p hp => k p _ hp (room _ h64) (RAll.ofStrs fun x hx => o x ((srtS_perm _).mem_iff.mp hx))⟩
    · cases e
  · rename_i xs
    cases qs : strsOf xs with
    | none => rw [qs] at e; cases e
    | some ys =>
      rw [qs] at e
      have e : sortL ys = some c := e
      unfold sortL at e
      split at e
      · rename_i h64
        cases e
        cases ra with
        | cons r1 r2 =>
          cases r2
          cases r1 with
          | lst h l a =>
            obtain ⟨rfl, ok⟩ := a.strs qs
            refine .inr ⟨_, ys, rfl, SqL.of (s.fsub _ _ h), h64, fun zs p pm sd hp => ?_⟩
            rw [sorted_is pm sd]
            exact k p _ hp (room _ h64) (RAll.ofStrs fun x hx => ok x ((srtS_perm _).mem_iff.mp hx))
      · cases e
  · cases e
def sortN (r : M (List D)) : M (List D) := r.bind fun ds => M.lift (sortD ds)
/-! ### list(range(..)) -/
def rgI (lo : Int) (d : D) : Option (List D) := match d with
  | .int j => if -(2 ^ 62) ≤ lo ∧ lo < 2 ^ 62 ∧ -(2 ^ 62) ≤ j ∧ j < 2 ^ 62 ∧ (j - lo).toNat ≤ 2 ^ 24 then some (rngL lo j) else none
  | _ => none
def rgN1 (m : M D) : M (List D) := m.bind fun d => M.lift (rgI 0 d)
theorem RAll.rg {K : KW} {F : Hp} {β : Nat → Option Addr} (a b : Int) : RAll K F β (rgV a b) (rngL a b) := by
  unfold rgV rngL
  generalize (b - a).toNat = n
  have : ∀ l : List Nat, RAll K F β (l.map fun i => V.int (a + (i : Nat))) (l.map fun (i : Nat) => D.int (a + i)) := by
    intro l
    induction l with
    | nil => exact .nil
    | cons x l ih => exact .cons (.int _) ih
  exact this _
theorem dn_listRg1 {a : Expr} {p pos p' pos' : Pos} {m : M D} (hc : X.calm = true) (hg : Gl X "list") (hm : X.mg "list" = none) (hg' : Gl X "range") (hm' : X.mg "range" = none) (ha : DE X W a m)
    (na : starEach [a] X.env = (false, eval a X.env) :: starEach [] X.env := by rfl) : DN X W (.Call (.Name "list" p) [.Call (.Name "range" p') [a] [] pos'] [] pos) (rgN1 m) :=
  PE.imp (pe_listRg hc hg hm (prg_1 hg' hm' ha na)) fun σ H Q h => by
    obtain ⟨F, P, β, η, S, h⟩ := h
    refine ⟨F, P, β, η, S, (Run.bind h).imp fun d η1 S1 F1 β1 H1 s1 ⟨e1, b1, h1⟩ v r1 => ?_⟩
    obtain ⟨c, ec, s, q⟩ := Run.lift h1
    unfold rgI at ec
    split at ec
    · split at ec
      · rename_i hj
        cases ec
        cases r1 with
        | int _ =>
        refine ⟨_, rfl, ⟨hj.1, hj.2.1, hj.2.2.1, hj.2.2.2.1, hj.2.2.2.2⟩, fun p hp => q F1 H1 (Ex.refl _) s p _ hp ?_ (RAll.rg 0 _)⟩
        rw [rgV_length, sizeLine_eq]
        have := hj.2.2.2.2
        omega
      · cases ec
    · cases ec
theorem dn_sort {x : Str} {p pos : Pos} {e : Expr} {es : List Expr} {r : M (List D)} (hc : X.calm = true) (hg : Gl X x) (hm : X.mg x = none) (hv : bootBuiltins x = some (.builtin "sorted")) (ha : DA X W (e :: es) r) (hn : x ≠ "__name__" := by decide) (hdb : (x == ("__debug__" : Str)) = false := by decide)
    (he : starEach (e :: es) X.env = (false, eval e X.env) :: starEach es X.env := by rfl) (hpl : (backTo pos (starEach es X.env)).any (·.1) = false := by rfl) : DN X W (.Call (.Name x p) (e :: es) [] pos) (sortN r) :=
  PE.imp (pe_callB (cn_sort hc) hg hm hv ha hn hdb he hpl) fun _ _ _ h => run_opN h
end
end Y
/-! Y22: what a run comes to (plain: no program in sight). -/
namespace Y
open PySem L2
def ev {A : Type} (m : M A) (η : Sls) (S : Store) (Q : A → Sls → Store → Prop) : Prop := ∃ a η' S', m η S = some (.ok a η' S') ∧ Q a η' S'
section
variable {A B : Type} {η : Sls} {S : Store}
theorem ev.mono {m : M A} {Q R : A → Sls → Store → Prop} (h : ev m η S Q) (k : ∀ a η' S', Q a η' S' → R a η' S') : ev m η S R := by
  obtain ⟨a, η', S', e, q⟩ := h
  exact ⟨a, η', S', e, k _ _ _ q⟩
theorem ev_ret {a : A} {Q : A → Sls → Store → Prop} : ev (M.ret a) η S Q ↔ Q a η S :=
  ⟨fun ⟨_, _, _, e, q⟩ => by cases e; exact q, fun q => ⟨_, _, _, rfl, q⟩⟩
theorem ev_bind {m : M A} {f : A → M B} {Q : B → Sls → Store → Prop} : ev (m.bind f) η S Q ↔ ev m η S fun a η' S' => ev (f a) η' S' Q := by
  constructor
  · rintro ⟨b, η', S', e, q⟩
    unfold M.bind at e
    cases h : m η S with
    | none => rw [h] at e; cases e
    | some r =>
      rw [h] at e
      cases r with
      | ok a η1 S1 => exact ⟨a, η1, S1, h, b, η', S', e, q⟩
      | ex x η1 S1 => cases e
  · rintro ⟨a, η1, S1, h, b, η', S', e, q⟩
    refine ⟨b, η', S', ?_, q⟩
    unfold M.bind
    rw [h]
    exact e
theorem ev_lift {o : Option A} {Q : A → Sls → Store → Prop} : ev (M.lift o) η S Q ↔ ∃ a, o = some a ∧ Q a η S := by
  constructor
  · rintro ⟨a, η', S', e, q⟩
    unfold M.lift at e
    split at e
    · cases e
    · cases e; exact ⟨_, rfl, q⟩
  · rintro ⟨a, rfl, q⟩
    exact ⟨_, _, _, rfl, q⟩
theorem ev_ite {c : Prop} [Decidable c] {a b : M A} {Q : A → Sls → Store → Prop} : ev (if c then a else b) η S Q ↔ if c then ev a η S Q else ev b η S Q := by split <;> rfl
def slD : Option Sl → Option D
  | some (.val d) => some d
  | _ => none
theorem ev_var {i : Nat} {Q : D → Sls → Store → Prop} : ev (var i) η S Q ↔ ∃ d, slD η[i]? = some d ∧ Q d η S := by
  unfold ev var
  cases h : η[i]? with
  | none => simp [slD]
  | some s =>
    cases s with
    | val d => exact ⟨fun ⟨_, _, _, e, q⟩ => by cases e; exact ⟨d, rfl, q⟩, fun ⟨_, e, q⟩ => by cases e; exact ⟨_, _, _, rfl, q⟩⟩
    | un => simp [slD]
    | own c => simp [slD]
theorem ev_const {d : D} {Q : D → Sls → Store → Prop} : ev (const d) η S Q ↔ Q d η S := ev_ret
theorem ev_op2 {g : D → D → Option D} {a b : M D} {Q : D → Sls → Store → Prop} : ev (op2 g a b) η S Q ↔ ev a η S fun x η S => ev b η S fun y η S => ∃ z, g x y = some z ∧ Q z η S := by
  unfold op2; simp only [ev_bind, ev_lift]
theorem ev_test {m : M D} {Q : Bool → Sls → Store → Prop} : ev (test m) η S Q ↔ ev m η S fun d η S => ∃ b, toB d = some b ∧ Q b η S := by
  unfold test; simp only [ev_bind, ev_lift]
theorem ev_opC {g : List D → Option D} {r : M (List D)} {Q : D → Sls → Store → Prop} : ev (opC g r) η S Q ↔ ev r η S fun ds η S => ∃ d, g ds = some d ∧ Q d η S := by
  unfold opC; simp only [ev_bind, ev_lift]
theorem ev_rngV {g : List D → Option (List D)} {r : M (List D)} {Q : List D → Sls → Store → Prop} : ev (rngV g r) η S Q ↔ ev r η S fun ds η S => ∃ d, g ds = some d ∧ Q d η S := by
  unfold rngV; simp only [ev_bind, ev_lift]
theorem ev_args0 {Q : List D → Sls → Store → Prop} : ev args0 η S Q ↔ Q [] η S := ev_ret
theorem ev_args {a : M D} {r : M (List D)} {Q : List D → Sls → Store → Prop} : ev (args a r) η S Q ↔ ev a η S fun x η S => ev r η S fun xs η S => Q (x :: xs) η S := by
  unfold args; simp only [ev_bind, ev_ret]
theorem ev_frz {r : M (List D)} {Q : D → Sls → Store → Prop} : ev (frz r) η S Q ↔ ev r η S fun ds η S => Q (.lst ds) η S := by
  unfold frz; simp only [ev_bind, ev_ret]
theorem ev_callF {f : Fn} {r : M (List D)} {Q : D → Sls → Store → Prop} : ev (callF f r) η S Q ↔ ev r η S fun ds η S => ∃ d S', f ds S = some (.ok d S') ∧ Q d η S' := by
  unfold callF
  refine ev_bind.trans ?_
  apply iff_of_eq
  congr 1
  funext ds η S
  apply propext
  constructor
  · rintro ⟨a, η', S', e, q⟩
    cases h : f ds S with
    | none => simp only [h] at e; cases e
    | some r =>
      simp only [h] at e
      cases r with
      | ok d S1 => cases e; exact ⟨_, _, rfl, q⟩
      | ex x S1 => cases e
  · rintro ⟨d, S', h, q⟩
    exact ⟨d, η, S', by simp only [h], q⟩
/-- after a statement -/
def nxt (f : Fl) (P : Prop) (Q : Fl → Prop) : Prop := match f with
  | .nx => P
  | f => Q f
theorem ev_seq {m n : M Fl} {Q : Fl → Sls → Store → Prop} : ev (seqS m n) η S Q ↔ ev m η S fun f η S => nxt f (ev n η S Q) fun f => Q f η S := by
  unfold seqS
  refine ev_bind.trans ?_
  apply iff_of_eq
  congr 1
  funext f η S
  cases f with
  | nx => rfl
  | _ => exact propext ev_ret
theorem nxt_nx {P : Prop} {Q : Fl → Prop} : nxt .nx P Q ↔ P := Iff.rfl
theorem nxt_rt {d : D} {P : Prop} {Q : Fl → Prop} : nxt (.rt d) P Q ↔ Q (.rt d) := Iff.rfl
theorem nxt_bk {P : Prop} {Q : Fl → Prop} : nxt .bk P Q ↔ Q .bk := Iff.rfl
theorem nxt_ct {P : Prop} {Q : Fl → Prop} : nxt .ct P Q ↔ Q .ct := Iff.rfl
theorem ev_nop {Q : Fl → Sls → Store → Prop} : ev nop η S Q ↔ Q .nx η S := ev_ret
theorem ev_retV {m : M D} {Q : Fl → Sls → Store → Prop} : ev (retV m) η S Q ↔ ev m η S fun d η S => Q (.rt d) η S := by
  unfold retV; simp only [ev_bind, ev_ret]
theorem ev_dropV {m : M D} {Q : Fl → Sls → Store → Prop} : ev (dropV m) η S Q ↔ ev m η S fun d η S => Q .nx η S := by
  unfold dropV; simp only [ev_bind, ev_ret]
theorem ev_ifS {t : M Bool} {a b : M Fl} {Q : Fl → Sls → Store → Prop} : ev (ifS t a b) η S Q ↔ ev t η S fun c η S => if c = true then ev a η S Q else ev b η S Q := by
  unfold ifS; simp only [ev_bind, ev_ite]
theorem ev_iteV {t : M Bool} {a b : M D} {Q : D → Sls → Store → Prop} : ev (iteV t a b) η S Q ↔ ev t η S fun c η S => if c = true then ev a η S Q else ev b η S Q := by
  unfold iteV; simp only [ev_bind, ev_ite]
theorem ev_andT {a b : M Bool} {Q : Bool → Sls → Store → Prop} : ev (andT a b) η S Q ↔ ev a η S fun c η S => if c = true then ev b η S Q else Q false η S := by
  unfold andT; simp only [ev_bind, ev_ite, ev_ret]
theorem ev_orT {a b : M Bool} {Q : Bool → Sls → Store → Prop} : ev (orT a b) η S Q ↔ ev a η S fun c η S => if c = true then Q true η S else ev b η S Q := by
  unfold orT; simp only [ev_bind, ev_ite, ev_ret]
theorem ev_notT {a : M Bool} {Q : Bool → Sls → Store → Prop} : ev (notT a) η S Q ↔ ev a η S fun c η S => Q (!c) η S := by
  unfold notT; simp only [ev_bind, ev_ret]
theorem ev_andV {a b : M D} {Q : D → Sls → Store → Prop} : ev (andV a b) η S Q ↔ ev a η S fun d η S => ∃ c, toB d = some c ∧ if c = true then ev b η S Q else Q (.bl false) η S := by
  unfold andV; simp only [ev_bind, ev_ite, ev_ret, ev_lift]
theorem ev_orV {a b : M D} {Q : D → Sls → Store → Prop} : ev (orV a b) η S Q ↔ ev a η S fun d η S => ∃ c, toB d = some c ∧ if c = true then Q (.bl true) η S else ev b η S Q := by
  unfold orV; simp only [ev_bind, ev_ite, ev_ret, ev_lift]
theorem ev_notV {a : M D} {Q : D → Sls → Store → Prop} : ev (notV a) η S Q ↔ ev a η S fun d η S => ∃ c, toB d = some c ∧ Q (.bl (!c)) η S := by
  unfold notV; simp only [ev_bind, ev_ret, ev_lift]
theorem ev_chain {g g' : D → D → Option D} {a b c : M D} {Q : D → Sls → Store → Prop} : ev (chain g g' a b c) η S Q ↔ ev a η S fun x η S => ev b η S fun y η S => ∃ z, g x y = some z ∧ ∃ k, toB z = some k ∧ if k = true then ev c η S fun w η S => ∃ u, g' y w = some u ∧ Q u η S else Q (.bl false) η S := by
  unfold chain; simp only [ev_bind, ev_ite, ev_ret, ev_lift]
theorem ev_tupV {r : M (List D)} {Q : D → Sls → Store → Prop} : ev (tupV r) η S Q ↔ ev r η S fun ds η S => ds.length ≤ sizeLine ∧ Q (.tup ds) η S := by
  unfold tupV
  simp only [ev_bind, ev_lift]
  apply iff_of_eq; congr 1; funext ds η S; apply propext
  constructor
  · rintro ⟨a, e, q⟩; split at e
    · cases e; exact ⟨by assumption, q⟩
    · cases e
  · rintro ⟨h, q⟩; exact ⟨_, if_pos h, q⟩
theorem ev_lstN {r : M (List D)} {Q : List D → Sls → Store → Prop} : ev (lstN r) η S Q ↔ ev r η S fun ds η S => ds.length ≤ sizeLine ∧ Q ds η S := by
  unfold lstN
  simp only [ev_bind, ev_lift]
  apply iff_of_eq; congr 1; funext ds η S; apply propext
  constructor
  · rintro ⟨a, e, q⟩; split at e
    · cases e; exact ⟨by assumption, q⟩
    · cases e
  · rintro ⟨h, q⟩; exact ⟨_, if_pos h, q⟩
theorem ev_put {i : Nat} {d : D} {Q : Fl → Sls → Store → Prop} : ev (put i d) η S Q ↔ i < η.length ∧ Q .nx (η.set i (.val d)) S := by
  unfold ev put
  constructor
  · rintro ⟨a, η', S', e, q⟩; split at e
    · cases e; exact ⟨by assumption, q⟩
    · cases e
  · rintro ⟨h, q⟩; exact ⟨_, _, _, if_pos h, q⟩
theorem ev_setV {i : Nat} {m : M D} {Q : Fl → Sls → Store → Prop} : ev (setV i m) η S Q ↔ ev m η S fun d η S => i < η.length ∧ Q .nx (η.set i (.val d)) S := by
  unfold setV; simp only [ev_bind, ev_put]
theorem ev_setO {i : Nat} {m : M (List D)} {Q : Fl → Sls → Store → Prop} : ev (setO i m) η S Q ↔ ev m η S fun ds η S => i < η.length ∧ Q .nx (η.set i (.own (.lst ds))) S := by
  unfold setO; refine ev_bind.trans ?_
  apply iff_of_eq; congr 1; funext ds η S; apply propext
  unfold ev putOwn
  constructor
  · rintro ⟨a, η', S', e, q⟩; split at e
    · cases e; exact ⟨by assumption, q⟩
    · cases e
  · rintro ⟨h, q⟩; exact ⟨_, _, _, if_pos h, q⟩
theorem ev_iterV {m : M D} {Q : List D → Sls → Store → Prop} : ev (iterV m) η S Q ↔ ev m η S fun d η S => ∃ ds, itemsD d = some ds ∧ Q ds η S := by
  unfold iterV; simp only [ev_bind, ev_lift]
theorem ev_negV {m : M D} {Q : D → Sls → Store → Prop} : ev (negV m) η S Q ↔ ev m η S fun d η S => ∃ e, negD d = some e ∧ Q e η S := by
  unfold negV; simp only [ev_bind, ev_lift]
theorem ev_revV {m : M D} {Q : D → Sls → Store → Prop} : ev (revV m) η S Q ↔ ev m η S fun d η S => ∃ e, revD d = some e ∧ Q e η S := by
  unfold revV; simp only [ev_bind, ev_lift]
theorem ev_listN {m : M (List D)} {Q : List D → Sls → Store → Prop} : ev (listN m) η S Q ↔ ev m η S fun d η S => ∃ e, listD d = some e ∧ Q e η S := by
  unfold listN; simp only [ev_bind, ev_lift]
theorem ev_sortN {m : M (List D)} {Q : List D → Sls → Store → Prop} : ev (sortN m) η S Q ↔ ev m η S fun d η S => ∃ e, sortD d = some e ∧ Q e η S := by
  unfold sortN; simp only [ev_bind, ev_lift]
theorem ev_rgN1 {m : M D} {Q : List D → Sls → Store → Prop} : ev (rgN1 m) η S Q ↔ ev m η S fun d η S => ∃ e, rgI 0 d = some e ∧ Q e η S := by
  unfold rgN1; simp only [ev_bind, ev_lift]
theorem ev_enumV {m : M (List D)} {Q : List D → Sls → Store → Prop} : ev (enumV m) η S Q ↔ ev m η S fun d η S => ∃ e, enumA d = some e ∧ Q e η S := by
  unfold enumV; exact ev_rngV
theorem ev_noPart {Q : Option Int → Sls → Store → Prop} : ev noPart η S Q ↔ Q none η S := ev_ret
theorem ev_part {m : M D} {Q : Option Int → Sls → Store → Prop} : ev (part m) η S Q ↔ ev m η S fun d η S => ∃ i, partD d = some i ∧ Q (some i) η S := by
  unfold part; simp only [ev_bind, ev_lift]
  apply iff_of_eq; congr 1; funext d η S; apply propext
  cases partD d <;> simp
theorem ev_sliceV {m : M D} {lo hi : M (Option Int)} {Q : D → Sls → Store → Prop} : ev (sliceV m lo hi) η S Q ↔ ev m η S fun d η S => ev lo η S fun l η S => ev hi η S fun h η S => ∃ e, cutD d l h = some e ∧ Q e η S := by
  unfold sliceV; simp only [ev_bind, ev_lift]
theorem ev_par2 {i j : Nat} {r : M (List D)} {Q : Fl → Sls → Store → Prop} : ev (par2 i j r) η S Q ↔ ev r η S fun ds η S => ∃ a b, ds = [a, b] ∧ i < η.length ∧ j < η.length ∧ Q .nx ((η.set i (.val a)).set j (.val b)) S := by
  unfold par2; refine ev_bind.trans ?_
  apply iff_of_eq; congr 1; funext ds η S; apply propext
  rcases ds with _ | ⟨a, _ | ⟨b, _ | ⟨c, r⟩⟩⟩
  · constructor
    · rintro ⟨_, _, _, e, _⟩; cases e
    · rintro ⟨_, _, e, _⟩; cases e
  · constructor
    · rintro ⟨_, _, _, e, _⟩; cases e
    · rintro ⟨_, _, e, _⟩; cases e
  · show ev (seqS (put i a) (put j b)) η S Q ↔ _
    simp only [ev_seq, ev_put, nxt_nx, List.length_set]
    constructor
    · rintro ⟨h1, h2, q⟩; exact ⟨a, b, rfl, h1, h2, q⟩
    · rintro ⟨a', b', e, h1, h2, q⟩; cases e; exact ⟨h1, h2, q⟩
  · constructor
    · rintro ⟨_, _, _, e, _⟩; cases e
    · rintro ⟨_, _, e, _⟩; cases e
theorem ev_freeze {i : Nat} {n : M Fl} {Q : Fl → Sls → Store → Prop} : ev (freezeS i n) η S Q ↔ ∃ ds, ownL i η = some ds ∧ ev n (η.set i (.val (.lst ds))) S Q := by
  unfold freezeS ownL ev
  cases hη : η[i]? with
  | none => exact ⟨fun ⟨_, _, _, e, _⟩ => (by simp only [hη] at e; cases e), fun ⟨_, e, _⟩ => (by cases e)⟩
  | some s =>
    cases s with
    | val d => exact ⟨fun ⟨_, _, _, e, _⟩ => (by simp only [hη] at e; cases e), fun ⟨_, e, _⟩ => (by cases e)⟩
    | un => exact ⟨fun ⟨_, _, _, e, _⟩ => (by simp only [hη] at e; cases e), fun ⟨_, e, _⟩ => (by cases e)⟩
    | own c =>
      cases c with
      | dct kvs => exact ⟨fun ⟨_, _, _, e, _⟩ => (by simp only [hη] at e; cases e), fun ⟨_, e, _⟩ => (by cases e)⟩
      | lst ds => exact ⟨fun ⟨a, η', S', e, q⟩ => ⟨ds, rfl, a, η', S', by simp only [hη] at e; exact e, q⟩, fun ⟨_, h, a, η', S', e, q⟩ => by cases h; exact ⟨a, η', S', by simp only [hη]; exact e, q⟩⟩
theorem ev_lenO {i : Nat} {Q : D → Sls → Store → Prop} : ev (lenO i) η S Q ↔ ∃ ds, ownL i η = some ds ∧ Q (.int ds.length) η S := by
  unfold lenO ev
  cases ho : ownL i η with
  | none => exact ⟨fun ⟨_, _, _, e, _⟩ => (by simp only [ho] at e; cases e), fun ⟨_, e, _⟩ => (by cases e)⟩
  | some ds => exact ⟨fun ⟨_, _, _, e, q⟩ => (by simp only [ho] at e; cases e; exact ⟨_, rfl, q⟩), fun ⟨_, e, q⟩ => (by cases e; exact ⟨_, _, _, (by simp only [ho]), q⟩)⟩
theorem ev_methO {f : List D → List D → Option (D × List D)} {i : Nat} {r : M (List D)} {Q : D → Sls → Store → Prop} (h : ev r η S fun ds η1 S1 => ∃ xs y ys, ownL i η1 = some xs ∧ f ds xs = some (y, ys) ∧ Q y (η1.set i (.own (.lst ys))) S1) (ho : ∃ zs, ownL i η = some zs) : ev (methO f i r) η S Q := by
  obtain ⟨zs, ho⟩ := ho
  have : ev (r.bind (fun ds η1 S1 => match ownL i η1 with
    | none => none
    | some xs => match f ds xs with
      | none => none
      | some (y, ys) => some (.ok y (η1.set i (.own (.lst ys))) S1))) η S Q := by
    refine ev_bind.mpr ?_
    refine h.mono fun ds η1 S1 ⟨xs, y, ys, h1, h2, q⟩ => ⟨y, _, S1, ?_, q⟩
    simp only [h1, h2]
  obtain ⟨a, η', S', e, q⟩ := this
  refine ⟨a, η', S', ?_, q⟩
  unfold methO
  rw [ho]
  exact e
theorem ev_forS {m : M (List D)} {g : D → Sls → Option Sls} {body : M Fl} {Q : Fl → Sls → Store → Prop} : ev (forS m g body) η S Q ↔ ev m η S fun ds η S => ev (forL g body ds) η S Q := ev_bind
end
/-- a loop by its invariant -/
theorem ev_forL {g : D → Sls → Option Sls} {body : M Fl} {Q : Fl → Sls → Store → Prop} (I : List D → Sls → Store → Prop) : ∀ (ds : List D) (η : Sls) (S : Store), I ds η S →
    (∀ d r η S, I (d :: r) η S → ∃ η1, g d η = some η1 ∧ ev body η1 S fun f η2 S2 => match f with
      | .nx => I r η2 S2
      | .ct => I r η2 S2
      | .bk => Q .nx η2 S2
      | .rt d => Q (.rt d) η2 S2) → (∀ η S, I [] η S → Q .nx η S) → ev (forL g body ds) η S Q
  | [], η, S, h0, _, he => ⟨_, _, _, rfl, he η S h0⟩
  | d :: ds, η, S, h0, hs, he => by
    obtain ⟨η1, hg, f, η2, S2, hb, q⟩ := hs d ds η S h0
    cases f with
    | nx =>
      obtain ⟨a, η', S', e, q'⟩ := ev_forL I ds η2 S2 q hs he
      exact ⟨a, η', S', by unfold forL; simp only [hg, hb]; exact e, q'⟩
    | ct =>
      obtain ⟨a, η', S', e, q'⟩ := ev_forL I ds η2 S2 q hs he
      exact ⟨a, η', S', by unfold forL; simp only [hg, hb]; exact e, q'⟩
    | bk => exact ⟨_, _, _, by unfold forL; simp only [hg, hb], q⟩
    | rt d => exact ⟨_, _, _, by unfold forL; simp only [hg, hb], q⟩
/-- a comprehension by its invariant -/
theorem ev_lcL {vs : List Nat} {g : D → Sls → Option Sls} {t : M Bool} {e : M D} {Q : List D → Sls → Store → Prop} (I : List D → List D → Sls → Store → Prop) : ∀ (ds acc : List D) (η : Sls) (S : Store), I ds acc η S → acc.length + ds.length ≤ sizeLine →
    (∀ d r acc η S, I (d :: r) acc η S → ∃ η1, g d (wipeS η vs) = some η1 ∧ ev t η1 S fun b η2 S2 => if b = true then ev e η2 S2 fun y η3 S3 => I r (acc ++ [y]) η3 S3 else I r acc η2 S2) →
    (∀ acc η S, I [] acc η S → Q acc η S) → ev (lcL vs g t e ds acc) η S Q
  | [], acc, η, S, h0, _, _, he => ⟨_, _, _, rfl, he _ _ _ h0⟩
  | d :: ds, acc, η, S, h0, hl, hs, he => by
    obtain ⟨η1, hg, b, η2, S2, hb, q⟩ := hs d ds acc η S h0
    cases b with
    | true =>
      rw [if_pos rfl] at q
      obtain ⟨y, η3, S3, hy, q⟩ := q
      obtain ⟨a, η', S', e', q'⟩ := ev_lcL I ds (acc ++ [y]) η3 S3 q (by simp only [List.length_append, List.length_cons, List.length_nil] at *; omega) hs he
      refine ⟨a, η', S', ?_, q'⟩
      unfold lcL
      simp only [hg, hb, hy]
      rw [if_pos (by simp only [List.length_cons] at hl; omega)]
      exact e'
    | false =>
      rw [if_neg (by simp)] at q
      obtain ⟨a, η', S', e', q'⟩ := ev_lcL I ds acc η2 S2 q (by simp only [List.length_cons] at hl; omega) hs he
      exact ⟨a, η', S', by unfold lcL; simp only [hg, hb]; exact e', q'⟩
theorem ev_lc {m : M (List D)} {vs : List Nat} {g : D → Sls → Option Sls} {t : M Bool} {e : M D} {η : Sls} {S : Store} {Q : List D → Sls → Store → Prop} :
    ev (lc m vs g t e) η S Q ↔ ev m η S fun ds η S => ev (lcL vs g t e ds []) η S fun acc η' S' => Q acc (restore η vs η') S' := by
  unfold lc
  refine ev_bind.trans ?_
  apply iff_of_eq; congr 1; funext ds η S; apply propext
  constructor
  · rintro ⟨a, η', S', h, q⟩
    cases hl : lcL vs g t e ds [] η S with
    | none => simp only [hl] at h; cases h
    | some r => cases r with
      | ok a1 η1 S1 => simp only [hl] at h; cases h; exact ⟨_, _, _, hl, q⟩
      | ex x η1 S1 => simp only [hl] at h; cases h
  · rintro ⟨a, η', S', h, q⟩
    exact ⟨_, _, _, by simp only [h], q⟩
theorem ev_sc {m : M (List D)} {vs : List Nat} {g : D → Sls → Option Sls} {t : M Bool} {e : M D} {η : Sls} {S : Store} {Q : D → Sls → Store → Prop} :
    ev (sc m vs g t e) η S Q ↔ ev m η S fun ds η S => ev (lcL vs g t e ds []) η S fun acc η' S' => ∃ d, ssOf acc = some d ∧ Q d (restore η vs η') S' := by
  unfold sc
  refine ev_bind.trans ?_
  apply iff_of_eq; congr 1; funext ds η S; apply propext
  constructor
  · rintro ⟨a, η', S', h, q⟩
    cases hl : lcL vs g t e ds [] η S with
    | none => simp only [hl] at h; cases h
    | some r => cases r with
      | ok a1 η1 S1 =>
        simp only [hl] at h
        cases hs : ssOf a1 with
        | none => simp only [hs] at h; cases h
        | some d => simp only [hs] at h; cases h; exact ⟨_, _, _, hl, _, hs, q⟩
      | ex x η1 S1 => simp only [hl] at h; cases h
  · rintro ⟨a, η', S', h, d, hs, q⟩
    exact ⟨_, _, _, by simp only [h, hs], q⟩
theorem ev_yes {η : Sls} {S : Store} {Q : Bool → Sls → Store → Prop} : ev yes η S Q ↔ Q true η S := ev_ret
/-- a def -/
theorem fn0_of {n N : Nat} {m : M Fl} {ds : List D} {S S' : Store} {d : D} (hl : ds.length = n) (h : ev m (frame N ds) S fun f _ S1 => f = .rt d ∧ S1 = S') : fn0 n N m ds S = some (.ok d S') := by
  obtain ⟨a, η', S1, e, rfl, rfl⟩ := h
  unfold fn0
  rw [if_pos hl, e]
  rfl
end Y
/-! Y23: comprehensions whose element is a plain function. -/
namespace Y
open PySem L2
def noOwn (vs : List Nat) (η : Sls) : Prop := ∀ v ∈ vs, ∀ c, η[v]? ≠ some (.own c)
theorem restore_back {η η' : Sls} {vs : List Nat} (h : wipeS η' vs = wipeS η vs) (ho : noOwn vs η) : restore η vs η' = η := by
  have hl : η'.length = η.length := by rw [← wipeS_length η' vs, h, wipeS_length]
  apply List.ext_getElem?
  intro j
  by_cases hj : j ∈ vs
  · cases q : (restore η vs η')[j]? with
    | none =>
      have := List.getElem?_eq_none_iff.mp q
      rw [restore_length, hl] at this
      exact (List.getElem?_eq_none_iff.mpr this).symm
    | some s =>
      have hs := restore_in hj q
      have hlt : j < η.length := by
        have := (List.getElem?_eq_some_iff.mp q).1
        rw [restore_length, hl] at this
        exact this
      cases e : η[j]? with
      | none => exact absurd (List.getElem?_eq_none_iff.mp e) (by omega)
      | some t =>
        rw [e] at hs
        cases t with
        | un => rw [hs]; rfl
        | val d => rw [hs]; rfl
        | own c => exact absurd e (ho j hj c)
  · rw [restore_get hj, ← wipeS_get (η := η') hj, h, wipeS_get hj]
theorem wipeS_idem (η : Sls) (vs : List Nat) : wipeS (wipeS η vs) vs = wipeS η vs := by
  apply List.ext_getElem?
  intro j
  by_cases hj : j ∈ vs
  · cases q : (wipeS (wipeS η vs) vs)[j]? with
    | none =>
      have := List.getElem?_eq_none_iff.mp q
      rw [wipeS_length] at this
      exact (List.getElem?_eq_none_iff.mpr this).symm
    | some s =>
      have hs := wipeS_in hj q
      cases e : (wipeS η vs)[j]? with
      | none =>
        have h1 := List.getElem?_eq_none_iff.mp e
        have h2 := (List.getElem?_eq_some_iff.mp q).1
        rw [wipeS_length] at h2
        omega
      | some t => rw [hs, wipeS_in hj e]
  · exact wipeS_get hj
/-- [f d for d in ds if p d] -/
theorem ev_lcL_filter {vs : List Nat} {g : D → Sls → Option Sls} {t : M Bool} {e : M D} {Q : List D → Sls → Store → Prop} (p : D → Bool) (f : D → D) {ds : List D} {η : Sls} {S : Store} (hl : ds.length ≤ sizeLine)
    (h : ∀ d ∈ ds, ∃ η1, g d (wipeS η vs) = some η1 ∧ ev t η1 S fun b η2 S2 => b = p d ∧ S2 = S ∧ wipeS η2 vs = wipeS η vs ∧ (p d = true → ev e η2 S fun y η3 S3 => y = f d ∧ S3 = S ∧ wipeS η3 vs = wipeS η vs))
    (hQ : ∀ η', wipeS η' vs = wipeS η vs → Q ((ds.filter p).map f) η' S) : ev (lcL vs g t e ds []) η S Q := by
  refine ev_lcL (fun r acc η' S' => ∃ done, ds = done ++ r ∧ acc = (done.filter p).map f ∧ S' = S ∧ wipeS η' vs = wipeS η vs) ds [] η S ⟨[], rfl, rfl, rfl, rfl⟩ (by simpa using hl) ?_ ?_
  · rintro d r acc η' S' ⟨done, hd, rfl, rfl, hw⟩
    obtain ⟨η1, hg, ht⟩ := h d (by rw [hd]; simp)
    refine ⟨η1, by rw [hw]; exact hg, ht.mono fun b η2 S2 ⟨hb, hS, hw2, he⟩ => ?_⟩
    subst hb hS
    cases hp : p d with
    | true =>
      rw [if_pos rfl]
      refine (he hp).mono fun y η3 S3 ⟨hy, hS3, hw3⟩ => ?_
      exact ⟨done ++ [d], by rw [hd]; simp, by subst hy; simp [hp], hS3, hw3⟩
    | false =>
      rw [if_neg (by simp)]
      exact ⟨done ++ [d], by rw [hd]; simp, by simp [hp], rfl, hw2⟩
  · rintro acc η' S' ⟨done, hd, rfl, rfl, hw⟩
    rw [List.append_nil] at hd
    rw [← hd]
    exact hQ η' hw
/-- [f d for d in ds] -/
theorem ev_lcL_map {vs : List Nat} {g : D → Sls → Option Sls} {e : M D} {Q : List D → Sls → Store → Prop} (f : D → D) {ds : List D} {η : Sls} {S : Store} (hl : ds.length ≤ sizeLine)
    (h : ∀ d ∈ ds, ∃ η1, g d (wipeS η vs) = some η1 ∧ ev e η1 S fun y η3 S3 => y = f d ∧ S3 = S ∧ wipeS η3 vs = wipeS η vs)
    (hw : ∀ d ∈ ds, ∀ η1, g d (wipeS η vs) = some η1 → wipeS η1 vs = wipeS η vs)
    (hQ : ∀ η', wipeS η' vs = wipeS η vs → Q (ds.map f) η' S) : ev (lcL vs g yes e ds []) η S Q := by
  refine ev_lcL_filter (fun _ => true) f hl (fun d hd => ?_) ?_
  · obtain ⟨η1, hg, he⟩ := h d hd
    exact ⟨η1, hg, ev_yes.mpr ⟨rfl, rfl, hw d hd η1 hg, fun _ => he⟩⟩
  · intro η' hw'
    rw [List.filter_eq_self.mpr fun _ _ => rfl]
    exact hQ η' hw'
theorem ex_ret {a : D} {s : Store} {P : D → Store → Prop} : (∃ d S', some (Ret.ok a s) = some (Ret.ok d S') ∧ P d S') ↔ P a s :=
  ⟨fun ⟨_, _, e, q⟩ => by cases e; exact q, fun q => ⟨_, _, rfl, q⟩⟩
theorem ex_some {α : Type} {a : α} {P : α → Prop} : (∃ z, some a = some z ∧ P z) ↔ P a :=
  ⟨fun ⟨_, e, q⟩ => by cases e; exact q, fun q => ⟨_, rfl, q⟩⟩
theorem toB_bl {b : Bool} {P : Bool → Prop} : (∃ c, toB (.bl b) = some c ∧ P c) ↔ P b := ex_some
theorem isi_eq {d : D} {T a : String} {b : Bool} {P : D → Prop} (h1 : d.tyN = some a) (h2 : isTy a T = some b) : (∃ z, isiD [d, .ty T] = some z ∧ P z) ↔ P (.bl b) := by
  have : isiD [d, .ty T] = some (.bl b) := by simp only [isiD, h1, Option.bind_some, h2, Option.map_some]
  rw [this]
  exact ex_some
end Y
/-! Y24: equality of flat data. -/
namespace Y
open PySem L2
theorem flat_toP {d : D} (h : d.flat = true) : ∃ p, d.toP = some p ∧ p.depth = 0 ∧ PyData.eqv p p = true := by
  cases d <;> first | cases h | skip
  · exact ⟨.none, by simp only [D.toP], rfl, rfl⟩
  · rename_i b; exact ⟨.bool b, by simp only [D.toP], rfl, by simp [PyData.eqv]⟩
  · rename_i b; exact ⟨.int b, by simp only [D.toP], rfl, by simp [PyData.eqv]⟩
  · rename_i b; exact ⟨.str b, by simp only [D.toP], rfl, by simp [PyData.eqv]⟩
theorem flats_toPs : ∀ {xs : List D}, xs.all D.flat = true → ∃ ps, toPs xs = some ps ∧ PyData.depthAll ps = 0 ∧ PyData.eqvAll ps ps = true ∧ ps.length = xs.length
  | [], _ => ⟨[], by simp only [toPs], rfl, rfl, rfl⟩
  | x :: xs, h => by
    rw [List.all_cons, Bool.and_eq_true] at h
    obtain ⟨p, h1, h2, h3⟩ := flat_toP h.1
    obtain ⟨ps, k1, k2, k3, k4⟩ := flats_toPs h.2
    refine ⟨p :: ps, by simp only [toPs, h1, k1], ?_, ?_, by simp [k4]⟩
    · simp only [PyData.depthAll, h2, k2]; rfl
    · simp only [PyData.eqvAll, h3, k3]; rfl
theorem eqP_tup {xs : List D} (h : xs.all D.flat = true) : eqP (.tup xs) (.tup xs) = some true := by
  obtain ⟨ps, k1, k2, k3, _⟩ := flats_toPs h
  unfold eqP
  simp only [D.toP, k1, Option.map_some, PyData.depth, k2, PyData.eqv, k3]
  rfl
theorem neD_tup {xs : List D} (h : xs.all D.flat = true) : neD (.tup xs) (.tup xs) = some (.bl false) := by unfold neD; rw [eqP_tup h]; rfl
theorem eqD_tup {xs : List D} (h : xs.all D.flat = true) : eqD (.tup xs) (.tup xs) = some (.bl true) := by unfold eqD; rw [eqP_tup h]; rfl
theorem eqD_nil {xs : List D} (h : xs.all D.flat = true) : eqD (.lst xs) (.lst []) = some (.bl xs.isEmpty) := by
  obtain ⟨ps, k1, k2, k3, k4⟩ := flats_toPs h
  unfold eqD eqP
  simp only [D.toP, k1, toPs, Option.map_some, PyData.depth, k2, PyData.depthAll, PyData.eqv]
  cases xs with
  | nil => cases ps with
    | nil => rfl
    | cons _ _ => cases k4
  | cons _ _ => cases ps with
    | nil => cases k4
    | cons _ _ => rfl
theorem signs_flat (l : List Nat) : (l.map fun c => D.str ⟨#[c]⟩).all D.flat = true := by
  rw [List.all_map]; exact List.all_eq_true.mpr fun _ _ => rfl
theorem atI_at {α : Type} {l : List α} {i : Nat} {x : α} (h : l[i]? = some x) : L2.atI l (i : Int) = some x := by
  have hi := (List.getElem?_eq_some_iff.mp h).1
  unfold L2.atI L2.ixN
  simp [hi, (List.getElem?_eq_some_iff.mp h).2]
theorem cut_from {α : Type} {l : List α} {n : Nat} : cutL l (some (n : Int)) none = l.drop n := by
  unfold cutL
  rw [HT.sIx_nat, HT.sIx_none]
  by_cases h : n ≤ l.length
  · rw [Nat.min_eq_left h]; exact List.take_of_length_le (by rw [List.length_drop]; exact Nat.le_refl _)
  · rw [Nat.min_eq_right (by omega), List.drop_eq_nil_of_le (Nat.le_refl _), List.drop_eq_nil_of_le (by omega), List.take_nil]
theorem cut_to {α : Type} {l : List α} {n : Nat} : cutL l none (some (n : Int)) = l.take n := by
  unfold cutL
  rw [HT.sIx_nat, HT.sIx_none, List.drop_zero, Nat.sub_zero]
  by_cases h : n ≤ l.length
  · rw [Nat.min_eq_left h]
  · rw [Nat.min_eq_right (by omega), List.take_of_length_le (Nat.le_refl _), List.take_of_length_le (by omega)]
theorem cut_mid {α : Type} {l : List α} {a b : Nat} (h : b ≤ l.length) (h' : a ≤ b) : cutL l (some (a : Int)) (some (b : Int)) = (l.drop a).take (b - a) := by
  unfold cutL
  rw [HT.sIx_nat, HT.sIx_nat, Nat.min_eq_left h, Nat.min_eq_left (Nat.le_trans h' h)]
end Y
/-! Y25: more of the plain calculus. -/
namespace Y
open PySem L2
theorem ev_methI {f : List D → List D → Option (D × List D)} {i : Nat} {r : M (List D)} {η : Sls} {S : Store} {Q : D → Sls → Store → Prop} :
    ev (methO f i r) η S Q ↔ ∃ zs, ownL i η = some zs ∧ ev r η S fun ds η1 S1 => ∃ xs, ownL i η1 = some xs ∧ ∃ p, f ds xs = some p ∧ Q p.1 (η1.set i (.own (.lst p.2))) S1 := by
  constructor
  · rintro ⟨a, η', S', e, q⟩
    unfold methO at e
    cases ho : ownL i η with
    | none => rw [ho] at e; cases e
    | some zs =>
      rw [ho] at e
      refine ⟨zs, rfl, ?_⟩
      have hb : ev (r.bind (fun ds η1 S1 => match ownL i η1 with
        | none => none
        | some xs => match f ds xs with
          | none => none
          | some (y, ys) => some (.ok y (η1.set i (.own (.lst ys))) S1))) η S Q := ⟨a, η', S', e, q⟩
      refine (ev_bind.mp hb).mono fun ds η1 S1 h => ?_
      obtain ⟨a1, η2, S2, e2, q2⟩ := h
      cases h1 : ownL i η1 with
      | none => simp only [h1] at e2; cases e2
      | some xs =>
        simp only [h1] at e2
        cases h2 : f ds xs with
        | none => simp only [h2] at e2; cases e2
        | some p =>
          obtain ⟨y, ys⟩ := p
          simp only [h2] at e2
          cases e2
          exact ⟨xs, rfl, _, h2, q2⟩
  · rintro ⟨zs, ho, h⟩
    exact ev_methO (h.mono fun ds η1 S1 ⟨xs, h1, p, h2, q⟩ => ⟨xs, p.1, p.2, h1, h2, q⟩) ⟨zs, ho⟩
/-- a def, by what is told of its answer -/
theorem fn0_ex {n N : Nat} {m : M Fl} {ds : List D} {S : Store} {P : D → Prop} (hl : ds.length = n) (h : ev m (frame N ds) S fun f _ S1 => ∃ d, f = .rt d ∧ S1 = S ∧ P d) : ∃ d, fn0 n N m ds S = some (.ok d S) ∧ P d := by
  obtain ⟨a, η', S1, e, d, rfl, rfl, p⟩ := h
  refine ⟨d, ?_, p⟩
  unfold fn0
  rw [if_pos hl, e]
  rfl
theorem ex_int {k : Int → D} {P : D → Prop} {i : Int} : (∃ z, some (k i) = some z ∧ P z) ↔ P (k i) := ex_some
theorem rng_drop {n i : Nat} (h : i < n) : (rngL 0 n).drop i = .int (i : Int) :: (rngL 0 n).drop (i + 1) := by
  have hl : (rngL 0 n).length = n := by unfold rngL; simp
  rw [List.drop_eq_getElem_cons (by omega)]
  congr 1
  unfold rngL
  simp
theorem rng_len {n : Nat} : (rngL 0 n).length = n := by unfold rngL; simp
theorem atI_rep {α : Type} {n i : Nat} {x : α} (h : i < n) : L2.atI (List.replicate n x) (i : Int) = some x := atI_at (by rw [List.getElem?_replicate, if_pos h])
end Y
/-! Z1: the store: a new object, a changed one. -/
namespace Y
open PySem L2
def bput (β : Nat → Option Addr) (n : Nat) (p : Addr) : Nat → Option Addr := fun m => if m = n then some p else β m
theorem bput_same {β : Nat → Option Addr} {n : Nat} {p : Addr} : bput β n p n = some p := if_pos rfl
theorem bput_ne {β : Nat → Option Addr} {n m : Nat} {p : Addr} (h : m ≠ n) : bput β n p m = β m := if_neg h
theorem bput_ext {β : Nat → Option Addr} {n : Nat} {p : Addr} (h : β n = none) : Bx β (bput β n p) := fun m a e => by
  by_cases q : m = n
  · subst q; rw [h] at e; cases e
  · rw [bput_ne q]; exact e
/-- fields that own nothing -/
def Ob.plain : Ob → Prop
  | .ins _ fs => ∀ f c, fs.lookup f ≠ some (.own c)
  | _ => True
section
variable {K : KW} {mg : Str → Option Value} {F F' P : Hp} {β β' : Nat → Option Addr} {σ : L2.St} {η : Sls} {S S' : Store} {H H' : Hp}
theorem FR.heap {v : V} {s : Sl} (e : Ex H H') (h : FR K F β H v s) : FR K F β H' v s := by
  cases s with
  | un => trivial
  | val d => exact h
  | own c => obtain ⟨b, r, h⟩ := h; exact ⟨b, r, h.heap fun u q => e b u q⟩
theorem OR.heap {o : Ob} {a : Addr} (e : Ex H H') (h : OR K mg F β H a o) : OR K mg F β H' a o := by
  cases o with
  | box c => exact CR.heap (fun u q => e a u q) h
  | lck c => exact CRz.heap (fun u q => e a u q) h
  | ins cls fs =>
    obtain ⟨C, dx, vs, h1, h2, h3, h4, h5⟩ := h
    exact ⟨C, dx, vs, h1, e _ _ h2, h3, h4, fun f s q => let ⟨v, q1, q2⟩ := h5 f s q; ⟨v, q1, FR.heap e q2⟩⟩
theorem Ste.grow (s : Ste K mg F P β σ η S H) (e : Ex H H') : Ste K mg F P β σ η S H' := by
  have back : ∀ {q a}, Own σ η S β H' q a → Own σ η S β H q a := fun h => Own.of_heap s (fun _ b u _ _ q => e b u q) h
  exact ⟨fun a o q => e a o (s.fsub a o q), fun a o q => e a o (s.psub a o q), s.fp, s.len, s.vals, fun i c q => let ⟨a, h1, h2⟩ := s.owns i c q; ⟨a, h1, h2.heap fun u r => e a u r⟩,
    fun n o q => let ⟨a, h1, h2⟩ := s.obs n o q; ⟨a, h1, h2.heap e⟩, s.top, fun p a h => s.free p a (back h), fun p q a h1 h2 => s.inj p q a (back h1) (back h2)⟩
/-- a thing that stands apart becomes an object of the store -/
theorem Ste.push (s : Ste K mg F P β σ η S H) {p : Addr} {o : Ob} (hF : F p = none) (hP : P p = none) (hO : ∀ q, ¬ Own σ η S β H q p) (hp : o.plain) (hor : OR K mg F (bput β S.size p) H p o) :
    Ste K mg F P (bput β S.size p) σ η (S.push o) H := by
  have bn : β S.size = none := s.top _ (Nat.le_refl _)
  have bx : Bx β (bput β S.size p) := bput_ext bn
  have back : ∀ {q a}, Own σ η (S.push o) (bput β S.size p) H q a → (Own σ η S β H q a) ∨ (q = .ob S.size ∧ a = p) := by
    intro q a h
    cases q with
    | sl i => exact .inl h
    | ob n =>
      obtain ⟨⟨u, h1⟩, h2⟩ := h
      by_cases e : n = S.size
      · subst e; rw [bput_same] at h2; cases h2; exact .inr ⟨rfl, rfl⟩
      · rw [Store.get_push, if_neg e] at h1; rw [bput_ne e] at h2; exact .inl ⟨⟨u, h1⟩, h2⟩
    | fd n f =>
      obtain ⟨b, cls, fs, C, dx, vs, c, h1, h2, h3, h4, h5⟩ := h
      by_cases e : n = S.size
      · subst e
        rw [Store.get_push, if_pos rfl] at h2
        cases h2
        exact absurd h4 (hp f c)
      · rw [Store.get_push, if_neg e] at h2; rw [bput_ne e] at h1; exact .inl ⟨b, cls, fs, C, dx, vs, c, h1, h2, h3, h4, h5⟩
  refine ⟨s.fsub, s.psub, s.fp, s.len, fun i d h => ?_, fun i c h => ?_, fun n u h => ?_, fun n h => ?_, fun q a h => ?_, fun q r a h1 h2 => ?_⟩
  · obtain ⟨v, h1, h2⟩ := s.vals i d h; exact ⟨v, h1, h2.mono (Ex.refl _) bx⟩
  · obtain ⟨a, h1, h2⟩ := s.owns i c h; exact ⟨a, h1, h2.mono (Ex.refl _) bx⟩
  · by_cases e : n = S.size
    · subst e; rw [Store.get_push, if_pos rfl] at h; cases h; exact ⟨p, bput_same, hor⟩
    · rw [Store.get_push, if_neg e] at h
      obtain ⟨a, h1, h2⟩ := s.obs n u h
      exact ⟨a, by rw [bput_ne e]; exact h1, h2.mono (Ex.refl _) bx⟩
  · rw [Store.size_push] at h
    rw [bput_ne (by omega)]
    exact s.top n (by omega)
  · rcases back h with h | ⟨_, rfl⟩
    · exact s.free q a h
    · exact ⟨hF, hP⟩
  · rcases back h1 with k1 | ⟨e1, z1⟩
    · rcases back h2 with k2 | ⟨e2, z2⟩
      · exact s.inj q r a k1 k2
      · rw [z2] at k1; exact absurd k1 (hO q)
    · rcases back h2 with k2 | ⟨e2, z2⟩
      · rw [z1] at k2; exact absurd k2 (hO r)
      · rw [e1, e2]
/-- a new list of the store -/
theorem Ste.newBox (s : Ste K mg F P β σ η S H) {p : Addr} {u : HO} {c : C} (hp : H p = none) (hc : CR K F (bput β S.size p) (upd H p u) p c) : Ste K mg F P (bput β S.size p) σ η (S.push (.box c)) (upd H p u) := by
  have eh : Ex H (upd H p u) := Ex.new hp
  have s1 := s.grow eh
  refine s1.push (s.fnone hp) ?_ ?_ trivial hc
  · cases q : P p with
    | none => rfl
    | some z => rw [s.psub _ _ q] at hp; cases hp
  · intro q h
    have h' : Own σ η S β H q p := Own.of_heap s (fun _ b z _ _ e => eh b z e) h
    exact Own.ne s h' hp rfl
/-- an object of the store is changed -/
theorem Ste.put (s : Ste K mg F P β σ η S H) {n : Nat} {a : Addr} {o o' : Ob} {u : HO} (hg : S.get n = some o) (hb : β n = some a) (hp : o.plain) (hp' : o'.plain) (hor : OR K mg F β (upd H a u) a o') :
    Ste K mg F P β σ η (S.put n o') (upd H a u) := by
  have oa : Own σ η S β H (.ob n) a := ⟨⟨o, hg⟩, hb⟩
  have fa := s.free _ _ oa
  have ne : ∀ {q b}, Own σ η S β H q b → q ≠ .ob n → b ≠ a := fun h h' z => by subst z; exact h' (s.inj _ _ _ h oa)
  have hn : ∀ {m b u'}, S.get m = some u' → β m = some b → m ≠ n → b ≠ a := fun h1 h2 h3 => ne (q := .ob _) ⟨⟨_, h1⟩, h2⟩ (by intro z; cases z; exact h3 rfl)
  have back : ∀ {q b}, Own σ η (S.put n o') β (upd H a u) q b → Own σ η S β H q b := by
    intro q b h
    cases q with
    | sl i => exact h
    | ob m =>
      obtain ⟨⟨u', h1⟩, h2⟩ := h
      by_cases e : m = n
      · subst e; exact ⟨⟨o, hg⟩, h2⟩
      · rw [Store.get_put, if_neg e] at h1; exact ⟨⟨u', h1⟩, h2⟩
    | fd m f =>
      obtain ⟨b', cls, fs, C, dx, vs, c, h1, h2, h3, h4, h5⟩ := h
      by_cases e : m = n
      · subst e
        rw [Store.get_put, if_pos rfl] at h2
        cases h2
        exact absurd h4 (hp' f c)
      · rw [Store.get_put, if_neg e] at h2
        rw [upd_ne (hn h2 h1 e)] at h3
        exact ⟨b', cls, fs, C, dx, vs, c, h1, h2, h3, h4, h5⟩
  refine ⟨fun b z h => ?_, fun b z h => ?_, s.fp, s.len, s.vals, fun i c h => ?_, fun m z h => ?_, s.top, fun q b h => s.free q b (back h), fun q r b h1 h2 => s.inj q r b (back h1) (back h2)⟩
  · rw [upd_ne (by intro z; subst z; rw [fa.1] at h; cases h)]; exact s.fsub b z h
  · rw [upd_ne (by intro z; subst z; rw [fa.2] at h; cases h)]; exact s.psub b z h
  · obtain ⟨b, h1, h2⟩ := s.owns i c h
    have nb : b ≠ a := ne (q := .sl i) ⟨c, h, h1⟩ (by intro z; cases z)
    exact ⟨b, h1, h2.heap fun z q => by rw [upd_ne nb]; exact q⟩
  · by_cases e : m = n
    · subst e; rw [Store.get_put, if_pos rfl] at h; cases h; exact ⟨a, hb, hor⟩
    · rw [Store.get_put, if_neg e] at h
      obtain ⟨b, h1, h2⟩ := s.obs m z h
      have nb : b ≠ a := hn h h1 e
      refine ⟨b, h1, ?_⟩
      cases z with
      | box c => exact CR.heap (fun z q => by rw [upd_ne nb]; exact q) h2
      | lck c => exact CRz.heap (fun z q => by rw [upd_ne nb]; exact q) h2
      | ins cls fs =>
        obtain ⟨C, dx, vs, g1, g2, g3, g4, g5⟩ := h2
        refine ⟨C, dx, vs, g1, by rw [upd_ne nb]; exact g2, g3, g4, fun f s' q => ?_⟩
        obtain ⟨v, q1, q2⟩ := g5 f s' q
        refine ⟨v, q1, ?_⟩
        cases s' with
        | un => trivial
        | val d => exact q2
        | own c =>
          obtain ⟨b', r, q3⟩ := q2
          subst r
          have ne' : b' ≠ a := ne (q := .fd m f) ⟨b, cls, fs, C, dx, vs, c, h1, h, g2, q, q1⟩ (by intro z; cases z)
          exact ⟨b', rfl, q3.heap fun z q => by rw [upd_ne ne']; exact q⟩
end
/-! ### a new list of the store -/
def pushB (c : C) : M D := fun η S => some (.ok (.ob S.size) η (S.push (.box c)))
def boxL (r : M (List D)) : M D := r.bind fun ds => pushB (.lst ds)
section
variable {X : Cx} {W : WX}
theorem de_box {e : Expr} {r : M (List D)} (h : DN X W e r) : DE X W e (boxL r) := by
  refine PE.imp h fun σ H Q ⟨F, P, β, η, S, q⟩ => ?_
  refine ⟨F, P, β, η, S, (Run.bind q).imp fun ds η1 S1 F1 β1 H1 s1 ⟨e1, b1, r, e, s, p⟩ a vs ha hl ra => ?_⟩
  cases e
  have bn : β1 S1.size = none := s.top _ (Nat.le_refl _)
  have bx : Bx β1 (bput β1 S1.size a) := bput_ext bn
  exact p F1 (bput β1 S1.size a) _ (Ex.refl _) bx (s.newBox ha ⟨vs, upd_same, hl, ra.mono (Ex.refl _) bx⟩) _ (.ob bput_same)
end
end Y
/-! Z2: calls with keywords, methods, new instances, by promises FnG. -/
namespace Y
open PySem L2 PySem.Spec PyProof.Rows
/-- arguments in the order of the parameters -/
def pickL {α : Type} (ix : List Nat) (l : List α) : List α := ix.filterMap (l[·]?)
section
variable {K : KW} {F : Hp} {β : Nat → Option Addr}
theorem RAll.pick {vs : List V} {ds : List D} (r : RAll K F β vs ds) : ∀ ix : List Nat, RAll K F β (pickL ix vs) (pickL ix ds)
  | [] => .nil
  | i :: ix => by
    have ih := RAll.pick r ix
    unfold pickL at *
    cases h : ds[i]? with
    | none =>
      have : vs[i]? = none := List.getElem?_eq_none_iff.mpr (by rw [r.length]; exact List.getElem?_eq_none_iff.mp h)
      rw [List.filterMap_cons_none h, List.filterMap_cons_none this]
      exact ih
    | some d =>
      obtain ⟨v, h1, h2⟩ := r.get h
      rw [List.filterMap_cons_some h, List.filterMap_cons_some h1]
      exact .cons h2 ih
end
theorem Vals.pick {vs : List V} {us : List Value} (r : Vals vs us) : ∀ ix : List Nat, Vals (pickL ix vs) (pickL ix us)
  | [] => .nil
  | i :: ix => by
    have ih := Vals.pick r ix
    unfold pickL at *
    cases h : vs[i]? with
    | none => rw [List.filterMap_cons_none h, List.filterMap_cons_none (Vals.none_of r h)]; exact ih
    | some d =>
      obtain ⟨u, h1, h2⟩ := Vals.get r h
      rw [List.filterMap_cons_some h, List.filterMap_cons_some h1]
      exact .cons h2 ih
/-- how a call of n values and the keywords ks binds: by their places, dv: the defaults' values -/
structure KB (K : PySem.W.Frag) (fd : FuncData) (ps : List Str) (n : Nat) (ks : List Str) (ix : List Nat) (dvs : List V) : Prop where
  ex : ∃ ds : List Value, Vals dvs ds ∧ ∀ (s : Shared) (us ws : List Value), K.In s.heap → us.length = n → ws.length = ks.length → BindsTo s fd ⟨us, ks.zip ws⟩ (ps.zip (pickL ix (us ++ ws ++ ds)))
/-- no defaults are used -/
theorem KB.all {K : PySem.W.Frag} {fd : FuncData} {ps : List Str} {n : Nat} {ks : List Str} {ix : List Nat} (h : ∀ us ws : List Value, us.length = n → ws.length = ks.length → bindArgs fd ⟨us, ks.zip ws⟩ = pure (ps.zip (pickL ix (us ++ ws ++ [])))) : KB K fd ps n ks ix [] :=
  ⟨[], .nil, fun _ us ws _ h1 h2 => .of_eq (h us ws h1 h2)⟩
/-- keyword-only defaults -/
theorem KB.only {K : PySem.W.Frag} {x qual : Str} {params : Arguments} {body : List Stmt} {scope : Scope} {kws : List (Str × V)} {f : Addr} {fd : FuncData} {ps : List Str} (F : FunD K x qual params body scope [] kws f fd) {n : Nat} {ks : List Str} {ix : List Nat} (ms : List (Str × V)) (hk : kws ≠ []) (hms : ∀ q ∈ ms, q ∈ kws)
    (h : ∀ (D : Addr) (doc pm : Value) (an : Option Addr) (cdv ct : Value) (us mv ws : List Value), us.length = n → mv.length = ms.length → ws.length = ks.length →
      KwChain D ((ms.map (·.1)).zip mv) (bindArgs (PySem.W.fnOf x qual params body scope .none (.ref D) doc pm an cdv ct) ⟨us, ks.zip ws⟩) (ps.zip (pickL ix (us ++ ws ++ mv)))) : KB K fd ps n ks ix (ms.map (·.2)) := by
  obtain ⟨oc, od, dV, kV, doc, pm, an, cdv, ct, osl, rfl, lk, hcd, hD, hK⟩ := F.ex
  rcases hD with ⟨_, rfl⟩ | ⟨e, _⟩
  · rcases hK with e | ⟨D, rfl, hq⟩
    · exact absurd e hk
    · obtain ⟨mv, hl, rk, hks⟩ := kwd_vals (ms := ms) fun q hm => hq q (hms q hm)
      refine ⟨mv, rk, fun s us ws X l1 l2 => ?_⟩
      exact BindsTo.of_looks fun M => KwChain.looks X hks (h D doc pm an cdv ct us mv ws l1 hl l2)
  · exact absurd rfl e
section
variable {X : Cx} {CX : CXT} {k n : Nat} {f C : Addr} {fd : FuncData} {ps ks : List Str} {ix : List Nat} {dvs : List V} {sp : Sp} {E : L2.St → XK} {x m : Str} {p pos apos : Pos} {e o : Expr} {es : List Expr} {kws : List Keyword} {t tk : TA} {ta : TE}
theorem run_K {pins : List (Addr × Obj)} {σ : L2.St} {H : Hp} {s : Shared} {Q : VK} {us ws : List Value} {vs zs : List V} (F : FnG X.prog X.w X.K X.mg X.base CX k f fd ps sp) (hG : X.A.guards = some []) (hr : Room k X.A) (hb : KB X.K fd ps n ks ix dvs) (hx : PassesAt CX X σ (E σ))
    (I : Inv X pins σ H s) (r : Vals vs us) (rz : Vals zs ws) (l1 : vs.length = n) (l2 : zs.length = ks.length) (h : sp (pickL ix (vs ++ zs ++ dvs)) H Q (E σ)) : wpAny (model X.prog X.w) X.A (call (.ref f) us (ks.zip ws)) (EP X pins σ Q) X.xe s := by
  obtain ⟨ds, rd, bi⟩ := hb.ex
  have rall : Vals (pickL ix (vs ++ zs ++ dvs)) (pickL ix (us ++ ws ++ ds)) := Vals.pick ((Vals.append (Vals.append r rz) rd)) ix
  have go := F.go X.A X.stack s H ⟨us, ks.zip ws⟩ _ _ Q (E σ) hG hr I.env0 (bi s us ws I.kIn (by rw [← r.length]; exact l1) (by rw [← rz.length]; exact l2)) rall h
  apply wpAny_call
  apply codeAny_mono go
  intro res s' hq
  match res, hq with
  | .error e, hq => exact hx pins H s e s' I hq
  | .ok (.ret u), hq => exact I.after hq
/-- what a call asks: n values, the keywords' values -/
def tCK (n m : Nat) (ix : List Nat) (dvs : List V) (sp : Sp) (E : L2.St → XK) (t tk : TA) : TE := fun σ H Q => t σ H fun vs H1 => tk σ H1 fun zs H2 => vs.length = n ∧ zs.length = m ∧ sp (pickL ix (vs ++ zs ++ dvs)) H2 Q (E σ)
/-- f(e, .., k = v, ..) -/
theorem pe_cK (F : FnG X.prog X.w X.K X.mg X.base CX k f fd ps sp) (hG : X.A.guards = some []) (hr : Room k X.A) (hg : Gl X x) (hm : X.mg x = some (.ref f)) (hk : PySem.W.keepIn X.K (.ref f) = true) (hb : KB X.K fd ps n ks ix dvs) (hx : ∀ σ, PassesAt CX X σ (E σ)) (ha : PA X (e :: es) t) (hkw : PK X kws tk)
    (hall : (backToKw pos (keywordEach kws X.env)).all (·.1.isSome) = true := by rfl) (hks : (backToKw pos (keywordEach kws X.env)).filterMap (·.1) = ks := by rfl) (hdb : (x == ("__debug__" : Str)) = false := by decide) (he : starEach (e :: es) X.env = (false, eval e X.env) :: starEach es X.env := by rfl)
    (hpl : ((backTo pos (starEach (e :: es) X.env)).any (·.1) || (backToKw pos (keywordEach kws X.env)).any (·.1.isNone)) = false := by rfl) : PE X (.Call (.Name x p) (e :: es) kws pos) (tCK n ks.length ix dvs sp E t tk) := by
  constructor
  intro pins s σ H Q I h
  refine wpAny_Call_Name_kw (ld_glob I hg hm (PySem.W.callWith_KW (h₀ := X.base) I.ok.mod.kin hk hall ?_ hpl he) hdb)
  refine thn (ha.run pos pins s σ H _ I h) ?_
  rintro us s1 ⟨vs, H1, I1, r, q⟩
  refine thn (hkw.run pos pins s1 σ H1 _ I1 q) ?_
  rintro ws s2 ⟨zs, H2, I2, rz, l1, l2, q2⟩
  refine ⟨I2.kIn, ?_⟩
  rw [hks]
  exact run_K F hG hr hb (hx σ) I2 r rz l1 l2 q2
/-- f(k = v, ..), f() -/
theorem pe_cK0 (F : FnG X.prog X.w X.K X.mg X.base CX k f fd ps sp) (hG : X.A.guards = some []) (hr : Room k X.A) (hg : Gl X x) (hm : X.mg x = some (.ref f)) (hk : PySem.W.keepIn X.K (.ref f) = true) (hb : KB X.K fd ps 0 ks ix dvs) (hx : ∀ σ, PassesAt CX X σ (E σ)) (hkw : PK X kws tk)
    (hall : (backToKw pos (keywordEach kws X.env)).all (·.1.isSome) = true := by rfl) (hks : (backToKw pos (keywordEach kws X.env)).filterMap (·.1) = ks := by rfl) (hdb : (x == ("__debug__" : Str)) = false := by decide)
    (hpl : ((backTo pos (starEach [] X.env)).any (·.1) || (backToKw pos (keywordEach kws X.env)).any (·.1.isNone)) = false := by rfl) : PE X (.Call (.Name x p) [] kws pos) (tCK 0 ks.length ix dvs sp E tNil tk) := by
  constructor
  intro pins s σ H Q I h
  refine wpAny_Call_Name_kw (ld_glob I hg hm (PySem.W.callWith_KW0 (h₀ := X.base) I.ok.mod.kin hk hall ?_ hpl) hdb)
  refine thn (hkw.run pos pins s σ H _ I h) ?_
  rintro ws s2 ⟨zs, H2, I2, rz, l1, l2, q2⟩
  refine ⟨I2.kIn, ?_⟩
  rw [hks]
  exact run_K (us := []) (vs := []) F hG hr hb (hx σ) I2 .nil rz l1 l2 q2
/-- o.m(e, .., k = v, ..) of an instance of the class at C -/
def tMK (C : Addr) (m : Str) (n j : Nat) (ix : List Nat) (dvs : List V) (sp : Sp) (E : L2.St → XK) (ta : TE) (t tk : TA) : TE := fun σ H Q => ta σ H fun x H1 => ∃ a dx fs, x = .ref a ∧ H1 a = some (.ins C dx fs) ∧ fs.lookup m = none ∧
  t σ H1 fun vs H2 => tk σ H2 fun zs H3 => (x :: vs).length = n ∧ zs.length = j ∧ sp (pickL ix ((x :: vs) ++ zs ++ dvs)) H3 Q (E σ)
theorem pe_mK {pl : Sem Bool} (ho : PE X o ta) (c : Cls X.K C) (hm : Meth X.K C m f) (F : FnG X.prog X.w X.K X.mg X.base CX k f fd ps sp) (hG : X.A.guards = some []) (hr : Room k X.A) (hb : KB X.K fd ps n ks ix dvs) (hx : ∀ σ, PassesAt CX X σ (E σ)) (ha : PA X (e :: es) t) (hkw : PK X kws tk)
    (hall : (backToKw pos (keywordEach kws X.env)).all (·.1.isSome) = true := by rfl) (hks : (backToKw pos (keywordEach kws X.env)).filterMap (·.1) = ks := by rfl) (he : starEach (e :: es) X.env = (false, eval e X.env) :: starEach es X.env := by rfl)
    (hpl : ((backTo pos (starEach (e :: es) X.env)).any (·.1) || (backToKw pos (keywordEach kws X.env)).any (·.1.isNone)) = false := by rfl)
    (ht : eval (.Call (.Attribute o m apos) (e :: es) kws pos) X.env = (do
      let ov ← eval o X.env
      standAt apos.atName
      let (g, first) ← holding [ov] (getMethod ov m pl)
      callWith pos g first (backTo pos (starEach (e :: es) X.env)) (backToKw pos (keywordEach kws X.env))) := by rfl) :
    PE X (.Call (.Attribute o m apos) (e :: es) kws pos) (tMK C m n ks.length ix dvs sp E ta t tk) := by
  constructor
  intro pins s σ H Q I h
  refine PySem.W.methodCall_KW (pl := pl) ?_ ht
  refine thn (ho.run pins s σ H _ I h) ?_
  rintro u s1 ⟨x, H1, I1, rx, a, dx, fs, rfl, ea, l, q⟩
  have hu : u = Value.ref a := rx
  subst hu
  refine getmeth_ok I1 ea c hm l ?_
  refine PySem.W.callWith_KW (first := [.ref a]) (h₀ := X.base) I.ok.mod.kin hm.kp hall ?_ hpl he
  refine thn (ha.run pos pins s1 σ H1 _ I1 q) ?_
  rintro us s2 ⟨vs, H2, I2, r, q2⟩
  refine thn (hkw.run pos pins s2 σ H2 _ I2 q2) ?_
  rintro ws s3 ⟨zs, H3, I3, rz, l1, l2, q3⟩
  refine ⟨I3.kIn, ?_⟩
  rw [hks]
  exact run_K (us := .ref a :: us) (vs := .ref a :: vs) F hG hr hb (hx σ) I3 (.cons rfl r) rz l1 l2 q3
theorem pe_mK0 {pl : Sem Bool} (ho : PE X o ta) (c : Cls X.K C) (hm : Meth X.K C m f) (F : FnG X.prog X.w X.K X.mg X.base CX k f fd ps sp) (hG : X.A.guards = some []) (hr : Room k X.A) (hb : KB X.K fd ps n ks ix dvs) (hx : ∀ σ, PassesAt CX X σ (E σ)) (hkw : PK X kws tk)
    (hall : (backToKw pos (keywordEach kws X.env)).all (·.1.isSome) = true := by rfl) (hks : (backToKw pos (keywordEach kws X.env)).filterMap (·.1) = ks := by rfl)
    (hpl : ((backTo pos (starEach [] X.env)).any (·.1) || (backToKw pos (keywordEach kws X.env)).any (·.1.isNone)) = false := by rfl)
    (ht : eval (.Call (.Attribute o m apos) [] kws pos) X.env = (do
      let ov ← eval o X.env
      standAt apos.atName
      let (g, first) ← holding [ov] (getMethod ov m pl)
      callWith pos g first (backTo pos (starEach [] X.env)) (backToKw pos (keywordEach kws X.env))) := by rfl) :
    PE X (.Call (.Attribute o m apos) [] kws pos) (tMK C m n ks.length ix dvs sp E ta tNil tk) := by
  constructor
  intro pins s σ H Q I h
  refine PySem.W.methodCall_KW (pl := pl) ?_ ht
  refine thn (ho.run pins s σ H _ I h) ?_
  rintro u s1 ⟨x, H1, I1, rx, a, dx, fs, rfl, ea, l, q⟩
  have hu : u = Value.ref a := rx
  subst hu
  refine getmeth_ok I1 ea c hm l ?_
  refine PySem.W.callWith_KW0 (first := [.ref a]) (h₀ := X.base) I.ok.mod.kin hm.kp hall ?_ hpl
  refine thn (hkw.run pos pins s1 σ H1 _ I1 q) ?_
  rintro ws s3 ⟨zs, H3, I3, rz, l1, l2, q3⟩
  refine ⟨I3.kIn, ?_⟩
  rw [hks]
  exact run_K (us := [.ref a]) (vs := [.ref a]) F hG hr hb (hx σ) I3 (.cons rfl .nil) rz l1 l2 q3
end
end Y
/-! Z3: new instances; calls, methods, fields over data. -/
namespace Y
open PySem L2 PySem.Spec PyProof.Rows
section
variable {X : Cx} {CX : CXT} {k n : Nat} {f C : Addr} {fd : FuncData} {ps ks : List Str} {ix : List Nat} {dvs : List V} {sp : Sp} {E : L2.St → XK} {x m : Str} {p pos apos : Pos} {e o : Expr} {es : List Expr} {kws : List Keyword} {t tk : TA} {ta : TE}
theorem run_mk {pins : List (Addr × Obj)} {σ : L2.St} {H : Hp} {s : Shared} {Q : VK} {us ws : List Value} {vs zs : List V} (M : Mk X.K C f) (F : FnG X.prog X.w X.K X.mg X.base CX k f fd ps sp) (hG : X.A.guards = some []) (hr : Room (k + 1) X.A) (hb : KB X.K fd ps n ks ix dvs) (hx : PassesAt CX X σ (E σ))
    (I : Inv X pins σ H s) (r : Vals vs us) (rz : Vals zs ws) (l1 : vs.length + 1 = n) (l2 : zs.length = ks.length)
    (h : ∀ x dx, H x = none → H dx = none → dx ≠ x → sp (pickL ix ((V.ref x :: vs) ++ zs ++ dvs)) (upd (upd H dx (.own x)) x (.ins C dx [])) (fun v H2 => v = .non ∧ Q (.ref x) H2) (E σ)) :
    wpAny (model X.prog X.w) X.A (call (.ref C) us (ks.zip ws)) (EP X pins σ Q) X.xe s := by
  obtain ⟨ds, rd, bi⟩ := hb.ex
  generalize hsz : s.heap.objs.size = z at *
  have hq := h (z + 1) z (I.hok.fresh (by rw [hsz]; exact Nat.le_succ _)) (I.hok.fresh (by rw [hsz]; exact Nat.le_refl _)) (Nat.ne_of_lt (Nat.lt_succ_self _))
  have J := Inv.made (C := C) I
  rw [hsz] at J
  have ra : Vals (V.ref (z + 1) :: vs) (Value.ref (z + 1) :: us) := .cons rfl r
  have rall : Vals (pickL ix ((V.ref (z + 1) :: vs) ++ zs ++ dvs)) (pickL ix ((Value.ref (z + 1) :: us) ++ ws ++ ds)) := Vals.pick ((Vals.append (Vals.append ra rz) rd)) ix
  apply wpAny_call
  refine make_map (f := f) I.kIn M.makes M.init (beq_iff_eq.mp M.fn) ?_
  rw [hsz]
  refine codeAny_mono (F.go _ X.stack _ _ ⟨Value.ref (z + 1) :: us, ks.zip ws⟩ _ _ _ (E σ) hG (hr.make C us (ks.zip ws)) (J.env0.make C us (ks.zip ws)) (bi _ _ ws J.kIn ?_ ?_) rall hq) ?_
  · rw [← ra.length, List.length_cons]; exact l1
  · rw [← rz.length]; exact l2
  · intro res s' hq'
    match res, hq' with
    | .error e, hq' => exact hx pins _ _ e s' J hq'
    | .ok (.ret u), hq' =>
      obtain ⟨v, H', I3, rv, ev, q3⟩ := J.after hq'
      subst ev
      exact ⟨rv, V.ref (z + 1), H', I3, rfl, q3⟩
/-- C(e, .., k = v, ..) -/
def tNK (C : Addr) (n m : Nat) (ix : List Nat) (dvs : List V) (sp : Sp) (E : L2.St → XK) (t tk : TA) : TE := fun σ H Q => t σ H fun vs H1 => tk σ H1 fun zs H2 => vs.length + 1 = n ∧ zs.length = m ∧
  ∀ x dx, H2 x = none → H2 dx = none → dx ≠ x → sp (pickL ix ((V.ref x :: vs) ++ zs ++ dvs)) (upd (upd H2 dx (.own x)) x (.ins C dx [])) (fun v H3 => v = .non ∧ Q (.ref x) H3) (E σ)
theorem pe_nK (M : Mk X.K C f) (F : FnG X.prog X.w X.K X.mg X.base CX k f fd ps sp) (hG : X.A.guards = some []) (hr : Room (k + 1) X.A) (hg : Gl X x) (hm : X.mg x = some (.ref C)) (hb : KB X.K fd ps n ks ix dvs) (hx : ∀ σ, PassesAt CX X σ (E σ)) (ha : PA X (e :: es) t) (hkw : PK X kws tk)
    (hall : (backToKw pos (keywordEach kws X.env)).all (·.1.isSome) = true := by rfl) (hks : (backToKw pos (keywordEach kws X.env)).filterMap (·.1) = ks := by rfl) (hdb : (x == ("__debug__" : Str)) = false := by decide) (he : starEach (e :: es) X.env = (false, eval e X.env) :: starEach es X.env := by rfl)
    (hpl : ((backTo pos (starEach (e :: es) X.env)).any (·.1) || (backToKw pos (keywordEach kws X.env)).any (·.1.isNone)) = false := by rfl) : PE X (.Call (.Name x p) (e :: es) kws pos) (tNK C n ks.length ix dvs sp E t tk) := by
  constructor
  intro pins s σ H Q I h
  refine wpAny_Call_Name_kw (ld_glob I hg hm (PySem.W.callWith_KW (h₀ := X.base) I.ok.mod.kin M.kp hall ?_ hpl he) hdb)
  refine thn (ha.run pos pins s σ H _ I h) ?_
  rintro us s1 ⟨vs, H1, I1, r, q⟩
  refine thn (hkw.run pos pins s1 σ H1 _ I1 q) ?_
  rintro ws s2 ⟨zs, H2, I2, rz, l1, l2, q2⟩
  refine ⟨I2.kIn, ?_⟩
  rw [hks]
  exact run_mk M F hG hr hb (hx σ) I2 r rz l1 l2 q2
theorem pe_nK0 (M : Mk X.K C f) (F : FnG X.prog X.w X.K X.mg X.base CX k f fd ps sp) (hG : X.A.guards = some []) (hr : Room (k + 1) X.A) (hg : Gl X x) (hm : X.mg x = some (.ref C)) (hb : KB X.K fd ps n ks ix dvs) (hx : ∀ σ, PassesAt CX X σ (E σ)) (hkw : PK X kws tk)
    (hall : (backToKw pos (keywordEach kws X.env)).all (·.1.isSome) = true := by rfl) (hks : (backToKw pos (keywordEach kws X.env)).filterMap (·.1) = ks := by rfl) (hdb : (x == ("__debug__" : Str)) = false := by decide)
    (hpl : ((backTo pos (starEach [] X.env)).any (·.1) || (backToKw pos (keywordEach kws X.env)).any (·.1.isNone)) = false := by rfl) : PE X (.Call (.Name x p) [] kws pos) (tNK C n ks.length ix dvs sp E tNil tk) := by
  constructor
  intro pins s σ H Q I h
  refine wpAny_Call_Name_kw (ld_glob I hg hm (PySem.W.callWith_KW0 (h₀ := X.base) I.ok.mod.kin M.kp hall ?_ hpl) hdb)
  refine thn (hkw.run pos pins s σ H _ I h) ?_
  rintro ws s2 ⟨zs, H2, I2, rz, l1, l2, q2⟩
  refine ⟨I2.kIn, ?_⟩
  rw [hks]
  exact run_mk (us := []) (vs := []) M F hG hr hb (hx σ) I2 .nil rz l1 l2 q2
end
/-! ### keywords -/
def DK (X : Cx) (W : WX) (kws : List Keyword) (m : M (List D)) : Prop := PK X kws (rdA X W m)
theorem PK.imp {X : Cx} {kws : List Keyword} {t u : TA} (h : PK X kws t) (k : ∀ σ H Q, u σ H Q → t σ H Q) : PK X kws u := ⟨fun pos pins s σ H Q I q => h.run pos pins s σ H Q I (k σ H Q q)⟩
section
variable {X : Cx} {W : WX}
theorem dk_nil : DK X W [] args0 := PK.imp pk_nil fun σ H Q ⟨F, P, β, η, S, h⟩ => Run.ret rfl h _ .nil
theorem dk_cons {e : Expr} {kws : List Keyword} {nm : Option Str} {kpos : Pos} {a : M D} {r : M (List D)} (ha : DE X W e a) (hr : DK X W kws r) : DK X W (⟨nm, e, kpos⟩ :: kws) (args a r) := by
  refine PK.imp (pk_cons ha hr) fun σ H Q ⟨F, P, β, η, S, h⟩ => ?_
  refine ⟨F, P, β, η, S, (Run.bind h).imp fun d η1 S1 F1 β1 H1 s1 ⟨e1, b1, h1⟩ v r1 => ?_⟩
  refine ⟨F1, P, β1, η1, S1, (Run.bind h1).imp fun ds η2 S2 F2 β2 H2 s2 ⟨e2, b2, h2⟩ vs r2 => ?_⟩
  exact Run.ret rfl h2 _ (.cons (r1.mono e2 b2) r2)
/-- a call by data: values, keywords' values, defaults dd -/
def runFn (fn : Fn) (ds : List D) : M D := fun η S => match fn ds S with
  | some (.ok d S') => some (.ok d η S')
  | some (.ex x S') => some (.ex x η S')
  | none => none
def callK (fn : Fn) (ix : List Nat) (dd : List D) (n m : Nat) (r rk : M (List D)) : M D := r.bind fun ds => rk.bind fun es => if ds.length = n ∧ es.length = m then runFn fn (pickL ix (ds ++ es ++ dd)) else M.fail
/-- defaults: known data -/
def DfD (dvs : List V) (dd : List D) : Prop := ∀ K F β, RAll K F β dvs dd
theorem dfd_nil : DfD [] [] := fun _ _ _ => .nil
theorem dfd_non {vs : List V} {ds : List D} (h : DfD vs ds) : DfD (.non :: vs) (.non :: ds) := fun K F β => .cons .non (h K F β)
theorem dfd_bl {b : Bool} {vs : List V} {ds : List D} (h : DfD vs ds) : DfD (.bl b :: vs) (.bl b :: ds) := fun K F β => .cons (.bl b) (h K F β)
theorem dfd_int {b : Int} {vs : List V} {ds : List D} (h : DfD vs ds) : DfD (.int b :: vs) (.int b :: ds) := fun K F β => .cons (.int b) (h K F β)
theorem de_cK_run {n j np : Nat} {ix : List Nat} {dvs : List V} {dd : List D} {fn : Fn} {r rk : M (List D)} (hd : DfD dvs dd) (hn : ∀ ds S, ds.length ≠ np → fn ds S = none) {σ : L2.St} {H : Hp} {Q : VK} (q : rdE X W (callK fn ix dd n j r rk) σ H Q) :
    tCK n j ix dvs (spF X.kw X.mg np fn) (fun σ cls d H => W cls d σ H) (rdA X W r) (rdA X W rk) σ H Q := by
  obtain ⟨F, P, β, η, S, q⟩ := q
  refine ⟨F, P, β, η, S, (Run.bind q).imp fun ds η1 S1 F1 β1 H1 s1 ⟨e1, b1, q1⟩ vs rv => ?_⟩
  refine ⟨F1, P, β1, η1, S1, (Run.bind q1).imp fun es η2 S2 F2 β2 H2 s2 ⟨e2, b2, r, e, s, p⟩ zs rz => ?_⟩
  by_cases hc : ds.length = n ∧ es.length = j
  case neg => rw [if_neg hc] at e; cases e
  rw [if_pos hc] at e
  unfold runFn at e
  refine ⟨by rw [rv.length]; exact hc.1, by rw [rz.length]; exact hc.2, ?_⟩
  have rall : RAll X.kw F2 β2 (pickL ix (vs ++ zs ++ dvs)) (pickL ix (ds ++ es ++ dd)) := RAll.pick (((rv.mono e2 b2).append rz).append (hd _ _ _)) ix
  have hl : (pickL ix (ds ++ es ++ dd)).length = np := by
    by_cases z : (pickL ix (ds ++ es ++ dd)).length = np
    · exact z
    · simp only [hn _ S2 z] at e; cases e
  cases qf : fn (pickL ix (ds ++ es ++ dd)) S2 with
  | none => simp only [qf] at e; cases e
  | some rr =>
    refine ⟨F2, Pc σ η2 H2 P, β2, S2, _, rr, hl, qf, rall, s.enter, ?_⟩
    cases rr with
    | ok d S3 =>
      simp only [qf] at e
      cases e
      exact fun F' β' H' v e3 b3 s3 r3 => p F' β' H' e3 b3 (s.leave s3 e3 b3) v r3
    | ex x S3 =>
      simp only [qf] at e
      cases e
      exact fun F' β' H' cls dct e3 b3 s3 r3 => p F' β' H' cls dct e3 b3 (s.leave s3 e3 b3) r3
theorem de_cK {e : Expr} {es : List Expr} {kws : List Keyword} {n j np : Nat} {ix : List Nat} {dvs : List V} {dd : List D} {fn : Fn} {r rk : M (List D)} (h : ∀ {t tk : TA}, PA X es t → PK X kws tk → PE X e (tCK n j ix dvs (spF X.kw X.mg np fn) (fun σ cls d H => W cls d σ H) t tk)) (ha : DA X W es r) (hk : DK X W kws rk) (hd : DfD dvs dd)
    (hn : ∀ ds S, ds.length ≠ np → fn ds S = none) : DE X W e (callK fn ix dd n j r rk) := PE.imp (h ha hk) fun _ _ _ q => de_cK_run hd hn q
theorem run_nil {σ : L2.St} {H : Hp} {Q : List V → Hp → Prop} (q : rdA X W args0 σ H Q) : tNil σ H Q := by
  obtain ⟨F, P, β, η, S, h⟩ := q
  exact Run.ret rfl h _ .nil
/-- a method of an object of the store, of the class cn -/
def isIns (cn mt : Str) (x : D) : M Unit := fun η S => match x with
  | .ob i => match S.get i with
    | some (.ins c fs) => if c = cn ∧ fs.lookup mt = none then some (.ok () η S) else none
    | _ => none
  | _ => none
def methK (cn mt : Str) (fn : Fn) (ix : List Nat) (dd : List D) (n m : Nat) (o : M D) (r rk : M (List D)) : M D := o.bind fun x => (isIns cn mt x).bind fun _ => callK fn ix dd n m (r.bind fun ds => M.ret (x :: ds)) rk
theorem de_mK_run {C : Addr} {cn mt : Str} {n j np : Nat} {ix : List Nat} {dvs : List V} {dd : List D} {fn : Fn} {mo : M D} {r rk : M (List D)} (hc : X.mg cn = some (.ref C)) (hd : DfD dvs dd) (hn : ∀ ds S, ds.length ≠ np → fn ds S = none) {σ : L2.St} {H : Hp} {Q : VK} (q : rdE X W (methK cn mt fn ix dd n j mo r rk) σ H Q) :
    tMK C mt n j ix dvs (spF X.kw X.mg np fn) (fun σ cls d H => W cls d σ H) (rdE X W mo) (rdA X W r) (rdA X W rk) σ H Q := by
  obtain ⟨F, P, β, η, S, q⟩ := q
  refine ⟨F, P, β, η, S, (Run.bind q).imp fun xd η0 S0 F0 β0 H0 s0 ⟨e0, b0, q0⟩ xv rx => ?_⟩
  have q1 := Run.bind q0
  obtain ⟨r1, e1, s1, p1⟩ := q1
  unfold isIns at e1
  cases xd with
  | ob i =>
    simp only at e1
    cases hg : S0.get i with
    | none => simp only [hg] at e1; cases e1
    | some ob =>
      cases ob with
      | box c => simp only [hg] at e1; cases e1
      | lck c => simp only [hg] at e1; cases e1
      | ins c fs =>
        simp only [hg] at e1
        split at e1
        · rename_i hcc
          cases e1
          obtain ⟨hcn, hlk⟩ := hcc
          subst hcn
          obtain ⟨_, _, q2⟩ := p1 F0 β0 H0 (Ex.refl _) (Bx.refl _) s1
          obtain ⟨a, ha1, C', dx, vs, g1, g2, g3, g4, g5⟩ := s1.obs i _ hg
          cases rx with
          | @ob a' _ hb =>
            rw [ha1] at hb; cases hb
            rw [hc] at g1; cases g1
            refine ⟨a, dx, vs, rfl, g2, g4 _ hlk, ?_⟩
            have q3 := Run.bind q2
            have q4 := Run.bind q3
            refine ⟨F0, P, β0, η0, S0, q4.imp fun ds η1 S1 F1 β1 H1 s1 ⟨e1, b1, q1⟩ ws rv => ?_⟩
            have q5 := Run.ret rfl q1
            obtain ⟨_, _, q5⟩ := q5
            refine ⟨F1, P, β1, η1, S1, (Run.bind q5).imp fun es η2 S2 F2 β2 H2 s2 ⟨e2, b2, r, e, s, p⟩ zs rz => ?_⟩
            by_cases hc : (D.ob i :: ds).length = n ∧ es.length = j
            case neg => rw [if_neg hc] at e; cases e
            rw [if_pos hc] at e
            unfold runFn at e
            have rvx : RAll X.kw F2 β2 (V.ref a :: ws) (D.ob i :: ds) := .cons (.ob (b2 _ _ (b1 _ _ ha1))) (rv.mono e2 b2)
            refine ⟨by rw [rvx.length]; exact hc.1, by rw [rz.length]; exact hc.2, ?_⟩
            have rall : RAll X.kw F2 β2 (pickL ix ((V.ref a :: ws) ++ zs ++ dvs)) (pickL ix ((D.ob i :: ds) ++ es ++ dd)) := RAll.pick ((rvx.append rz).append (hd _ _ _)) ix
            have hl : (pickL ix ((D.ob i :: ds) ++ es ++ dd)).length = np := by
              by_cases z : (pickL ix ((D.ob i :: ds) ++ es ++ dd)).length = np
              · exact z
              · simp only [hn _ S2 z] at e; cases e
            cases qf : fn (pickL ix ((D.ob i :: ds) ++ es ++ dd)) S2 with
            | none => simp only [qf] at e; cases e
            | some rr =>
              refine ⟨F2, Pc σ η2 H2 P, β2, S2, _, rr, hl, qf, rall, s.enter, ?_⟩
              cases rr with
              | ok d S3 =>
                simp only [qf] at e
                cases e
                exact fun F' β' H' v e3 b3 s3 r3 => p F' β' H' e3 b3 (s.leave s3 e3 b3) v r3
              | ex x S3 =>
                simp only [qf] at e
                cases e
                exact fun F' β' H' cls dct e3 b3 s3 r3 => p F' β' H' cls dct e3 b3 (s.leave s3 e3 b3) r3
        · cases e1
  | _ => cases e1
theorem de_mK {e o : Expr} {es : List Expr} {kws : List Keyword} {C : Addr} {cn mt : Str} {n j np : Nat} {ix : List Nat} {dvs : List V} {dd : List D} {fn : Fn} {mo : M D} {r rk : M (List D)} (h : ∀ {ta : TE} {t tk : TA}, PE X o ta → PA X es t → PK X kws tk → PE X e (tMK C mt n j ix dvs (spF X.kw X.mg np fn) (fun σ cls d H => W cls d σ H) ta t tk))
    (hc : X.mg cn = some (.ref C)) (ho : DE X W o mo) (ha : DA X W es r) (hk : DK X W kws rk) (hd : DfD dvs dd) (hn : ∀ ds S, ds.length ≠ np → fn ds S = none) : DE X W e (methK cn mt fn ix dd n j mo r rk) := PE.imp (h ho ha hk) fun _ _ _ q => de_mK_run hc hd hn q
end
end Y
/-! Z4: new instances and fields over data. -/
namespace Y
open PySem L2 PySem.Spec PyProof.Rows
def putG {α : Type} (f : Str) (v : α) : List (Str × α) → List (Str × α)
  | [] => [(f, v)]
  | p :: r => if p.1 = f then (p.1, v) :: r else p :: putG f v r
theorem putF_eq {f : Str} {v : V} : ∀ fs : List (Str × V), L2.putF f v fs = putG f v fs
  | [] => rfl
  | (g, x) :: r => by
    unfold L2.putF putG
    rw [putF_eq r]
theorem lookup_putG {α : Type} {f g : Str} {v : α} : ∀ fs : List (Str × α), (putG f v fs).lookup g = if g = f then some v else fs.lookup g
  | [] => by
    unfold putG
    by_cases h : g = f
    · subst h; simp
    · have hb : (g == f) = false := by simpa using h
      simp [h, List.lookup_cons, hb]
  | (k, x) :: r => by
    have ih := lookup_putG (f := f) (g := g) (v := v) r
    unfold putG
    by_cases hk : k = f
    · subst hk
      by_cases h : g = k
      · subst h; simp
      · have hb : (g == k) = false := by simpa using h
        simp [h, List.lookup_cons, hb]
    · simp only [hk, if_false]
      by_cases h : g = k
      · subst h; simp [hk, List.lookup_cons]
      · have hb : (g == k) = false := by simpa using h
        simp only [List.lookup_cons, hb, ih]
theorem length_putG {α : Type} {f : Str} {v : α} : ∀ fs : List (Str × α), (putG f v fs).length = if (fs.lookup f).isSome then fs.length else fs.length + 1
  | [] => by unfold putG; simp
  | (k, x) :: r => by
    have ih := length_putG (f := f) (v := v) r
    unfold putG
    by_cases hk : k = f
    · subst hk; simp
    · have hb : (f == k) = false := by simpa using Ne.symm hk
      simp only [hk, if_false, List.length_cons, ih, List.lookup_cons, hb]
      split <;> rfl
section
variable {X : Cx} {W : WX}
/-- a new instance of the class cn, then its __init__ -/
def newFn (cn : Str) (fn : Fn) (g : D → List D) : M D := fun η S => match fn (g (.ob S.size)) (S.push (.ins cn [])) with
  | some (.ok .non S') => some (.ok (.ob S.size) η S')
  | some (.ex x S') => some (.ex x η S')
  | _ => none
def makeK (cn : Str) (fn : Fn) (ix : List Nat) (dd : List D) (n m : Nat) (r rk : M (List D)) : M D := r.bind fun ds => rk.bind fun es => if ds.length + 1 = n ∧ es.length = m then newFn cn fn (fun x => pickL ix ((x :: ds) ++ es ++ dd)) else M.fail
theorem de_nK_run {C : Addr} {cn : Str} {n j np : Nat} {ix : List Nat} {dvs : List V} {dd : List D} {fn : Fn} {r rk : M (List D)} (hc : X.mg cn = some (.ref C)) (hd : DfD dvs dd) (hn : ∀ ds S, ds.length ≠ np → fn ds S = none) {σ : L2.St} {H : Hp} {Q : VK} (q : rdE X W (makeK cn fn ix dd n j r rk) σ H Q) :
    tNK C n j ix dvs (spF X.kw X.mg np fn) (fun σ cls d H => W cls d σ H) (rdA X W r) (rdA X W rk) σ H Q := by
  obtain ⟨F, P, β, η, S, q⟩ := q
  refine ⟨F, P, β, η, S, (Run.bind q).imp fun ds η1 S1 F1 β1 H1 s1 ⟨e1, b1, q1⟩ vs rv => ?_⟩
  refine ⟨F1, P, β1, η1, S1, (Run.bind q1).imp fun es η2 S2 F2 β2 H2 s2 ⟨e2, b2, r, e, s, p⟩ zs rz => ?_⟩
  by_cases hcc : ds.length + 1 = n ∧ es.length = j
  case neg => rw [if_neg hcc] at e; cases e
  rw [if_pos hcc] at e
  unfold newFn at e
  refine ⟨by rw [rv.length]; exact hcc.1, by rw [rz.length]; exact hcc.2, ?_⟩
  intro x dx hx hdx hne
  have eh : Ex H2 (upd (upd H2 dx (.own x)) x (.ins C dx [])) := (Ex.new hdx).trans (Ex.new (by rw [upd_ne (Ne.symm hne)]; exact hx))
  have sg := s.grow eh
  have bn : β2 S2.size = none := s.top _ (Nat.le_refl _)
  have bx : Bx β2 (bput β2 S2.size x) := bput_ext bn
  have sp : Ste X.kw X.mg F2 P (bput β2 S2.size x) σ η2 (S2.push (.ins cn [])) (upd (upd H2 dx (.own x)) x (.ins C dx [])) := by
    refine sg.push (s.fnone hx) ?_ ?_ (fun f c z => by simp at z) ?_
    · cases q : P x with
      | none => rfl
      | some z => rw [s.psub _ _ q] at hx; cases hx
    · intro q hq
      have h' : Own σ η2 S2 β2 H2 q x := Own.of_heap s (fun _ b z _ _ e => eh b z e) hq
      exact Own.ne s h' hx rfl
    · exact ⟨C, dx, [], hc, upd_same, rfl, fun f _ => by simp, fun f s z => by simp at z⟩
  have rvx : RAll X.kw F2 (bput β2 S2.size x) (V.ref x :: vs) (D.ob S2.size :: ds) := .cons (.ob bput_same) ((rv.mono e2 b2).mono (Ex.refl _) bx)
  have rall : RAll X.kw F2 (bput β2 S2.size x) (pickL ix ((V.ref x :: vs) ++ zs ++ dvs)) (pickL ix ((D.ob S2.size :: ds) ++ es ++ dd)) := RAll.pick ((rvx.append (rz.mono (Ex.refl _) bx)).append (hd _ _ _)) ix
  have hl : (pickL ix ((D.ob S2.size :: ds) ++ es ++ dd)).length = np := by
    by_cases z : (pickL ix ((D.ob S2.size :: ds) ++ es ++ dd)).length = np
    · exact z
    · simp only [hn _ _ z] at e; cases e
  cases qf : fn (pickL ix ((D.ob S2.size :: ds) ++ es ++ dd)) (S2.push (.ins cn [])) with
  | none => simp only [qf] at e; cases e
  | some rr =>
    refine ⟨F2, Pc σ η2 _ P, bput β2 S2.size x, _, _, rr, hl, qf, rall, sp.enter, ?_⟩
    cases rr with
    | ok d S3 =>
      have hdn : d = .non := by cases d <;> simp only [qf] at e <;> first | rfl | cases e
      subst hdn
      simp only [qf] at e
      cases e
      intro F' β' H' v e3 b3 s3 r3
      cases r3
      exact ⟨rfl, p F' β' H' e3 (bx.trans b3) (sp.leave s3 e3 b3) _ (.ob (b3 _ _ bput_same))⟩
    | ex y S3 =>
      simp only [qf] at e
      cases e
      exact fun F' β' H' cls dct e3 b3 s3 r3 => p F' β' H' cls dct e3 (bx.trans b3) (sp.leave s3 e3 b3) r3
theorem de_nK {e : Expr} {es : List Expr} {kws : List Keyword} {C : Addr} {cn : Str} {n j np : Nat} {ix : List Nat} {dvs : List V} {dd : List D} {fn : Fn} {r rk : M (List D)} (h : ∀ {t tk : TA}, PA X es t → PK X kws tk → PE X e (tNK C n j ix dvs (spF X.kw X.mg np fn) (fun σ cls d H => W cls d σ H) t tk))
    (hc : X.mg cn = some (.ref C)) (ha : DA X W es r) (hk : DK X W kws rk) (hd : DfD dvs dd) (hn : ∀ ds S, ds.length ≠ np → fn ds S = none) : DE X W e (makeK cn fn ix dd n j r rk) := PE.imp (h ha hk) fun _ _ _ q => de_nK_run hc hd hn q
/-- a field of an object -/
def getF (cn f : Str) (x : D) : M D := fun η S => match x with
  | .ob i => match S.get i with
    | some (.ins c fs) => if c = cn then match fs.lookup f with
      | some (.val d) => some (.ok d η S)
      | _ => none
      else none
    | _ => none
  | _ => none
theorem getF_some {cn f : Str} {x : D} {η : Sls} {S : Store} {r : Res D} (h : getF cn f x η S = some r) : ∃ i fs d, x = .ob i ∧ S.get i = some (.ins cn fs) ∧ fs.lookup f = some (.val d) ∧ r = .ok d η S := by
  unfold getF at h
  split at h
  · rename_i i
    split at h
    · rename_i c fs hg
      split at h
      · rename_i hc
        subst hc
        split at h
        · rename_i d hl; cases h; exact ⟨i, fs, d, rfl, hg, hl, rfl⟩
        · cases h
      · cases h
    · cases h
  · cases h
def fldV (cn f : Str) (m : M D) : M D := m.bind fun x => getF cn f x
theorem de_fld {o : Expr} {cn f : Str} {pos : Pos} {C : Addr} {m : M D} (hc : X.mg cn = some (.ref C)) (cl : Cls X.K C) (na : NoAttr X.K C f) (h : ∀ {ta : TE}, PE X o ta → PE X (.Attribute o f pos) (tFld X.K ta f)) (ho : DE X W o m) : DE X W (.Attribute o f pos) (fldV cn f m) := by
  refine PE.imp (h ho) fun σ H Q ⟨F, P, β, η, S, q⟩ => ?_
  refine ⟨F, P, β, η, S, (Run.bind q).imp fun x η1 S1 F1 β1 H1 s1 ⟨e1, b1, r, e, s, p⟩ v rv => ?_⟩
  obtain ⟨i, fs, d, rfl, hg, hl, rfl⟩ := getF_some e
  obtain ⟨a, ha, C', dx, vs, g1, g2, g3, g4, g5⟩ := s.obs i _ hg
  rw [hc] at g1; cases g1
  cases rv with
  | @ob a' _ hb =>
    rw [ha] at hb; cases hb
    obtain ⟨v, hv, rv⟩ := g5 f _ hl
    exact ⟨a, C, dx, vs, v, rfl, g2, cl, na, hv, p F1 β1 H1 (Ex.refl _) (Bx.refl _) s v rv⟩
/-- no field owns a thing -/
def ownless (fs : List (Str × Sl)) : Bool := fs.all fun p => match p.2 with
  | .own _ => false
  | _ => true
/-- o.f = e -/
def putFld (cn f : Str) (x d : D) : M Fl := fun η S => match x with
  | .ob i => match S.get i with
    | some (.ins c fs) => if c = cn ∧ fs.length < 1000 ∧ ownless fs = true then some (.ok .nx η (S.put i (.ins c (putG f (.val d) fs)))) else none
    | _ => none
  | _ => none
def setFld (cn f : Str) (mo mv : M D) : M Fl := mv.bind fun d => mo.bind fun x => putFld cn f x d
theorem plain_of {cn : Str} {fs : List (Str × Sl)} (h : ownless fs = true) : (Ob.ins cn fs).plain := by
  intro f c hl
  have : (f, Sl.own c) ∈ fs := by
    clear h
    induction fs with
    | nil => simp at hl
    | cons p r ih =>
      obtain ⟨k, x⟩ := p
      by_cases hk : f = k
      · subst hk; simp at hl; subst hl; simp
      · have hb : (f == k) = false := by simpa using hk
        simp only [List.lookup_cons, hb] at hl
        exact List.mem_cons_of_mem _ (ih hl)
  have := List.all_eq_true.mp h _ this
  cases this
theorem putFld_some {cn f : Str} {x d : D} {η : Sls} {S : Store} {r : Res Fl} (h : putFld cn f x d η S = some r) : ∃ i fs, x = .ob i ∧ S.get i = some (.ins cn fs) ∧ fs.length < 1000 ∧ ownless fs = true ∧ r = .ok .nx η (S.put i (.ins cn (putG f (.val d) fs))) := by
  unfold putFld at h
  split at h
  · rename_i i
    split at h
    · rename_i c fs hg
      split at h
      · rename_i hc
        obtain ⟨rfl, hlen, hall⟩ := hc
        cases h
        exact ⟨i, fs, rfl, hg, hlen, hall, rfl⟩
      · cases h
    · cases h
  · cases h
theorem ds_fld {o e : Expr} {cn f : Str} {pos pos' : Pos} {C : Addr} {mo mv : M D} (hc : X.mg cn = some (.ref C)) (cl : Cls X.K C) (na : NoAttr X.K C f) (h : ∀ {ta tv : TE}, PE X o ta → PE X e tv → PS X (.Assign [.Attribute o f pos'] e pos) (sFld X.K ta tv f)) (ho : DE X W o mo) (he : DE X W e mv) : DS X W (.Assign [.Attribute o f pos'] e pos) (setFld cn f mo mv) := by
  refine PS.imp (h ho he) fun Dn σ H ⟨F, P, β, η, S, q⟩ => ?_
  refine ⟨F, P, β, η, S, (Run.bindS q).imp fun d η1 S1 F1 β1 H1 s1 ⟨e1, b1, q1⟩ y ry => ?_⟩
  refine ⟨F1, P, β1, η1, S1, (Run.bindS q1).imp fun x η2 S2 F2 β2 H2 s2 ⟨e2, b2, r, e, s, p⟩ v rv => ?_⟩
  obtain ⟨i, fs, rfl, hg, hlen, hall, rfl⟩ := putFld_some e
  obtain ⟨a, ha, C', dx, vs, g1, g2, g3, g4, g5⟩ := s.obs i _ hg
  rw [hc] at g1; cases g1
  cases rv with
  | @ob a' _ hb =>
    rw [ha] at hb; cases hb
    refine ⟨a, C, dx, vs, rfl, g2, cl, na, by omega, ?_⟩
    have pl := plain_of (cn := cn) hall
    have lk : ∀ g, (vs.lookup g).isSome = (fs.lookup g).isSome := fun g => by
      cases hq : fs.lookup g with
      | none => rw [g4 g hq]; rfl
      | some z => obtain ⟨v, h1, _⟩ := g5 g z hq; rw [h1]; rfl
    refine p F2 β2 σ _ (Ex.refl _) (Bx.refl _) (s.put hg ha pl ?_ ?_)
    · intro g cc hl
      rw [lookup_putG] at hl
      split at hl
      · cases hl
      · exact pl g cc hl
    · refine ⟨C, dx, L2.putF f y vs, hc, upd_same, ?_, fun g hl => ?_, fun g sl hl => ?_⟩
      · rw [putF_eq, length_putG, length_putG, lk, g3]
      · rw [lookup_putG] at hl
        rw [putF_eq, lookup_putG]
        split at hl
        · cases hl
        · rename_i hgf; rw [if_neg hgf]; exact g4 g hl
      · rw [lookup_putG] at hl
        rw [putF_eq, lookup_putG]
        split at hl
        · rename_i hgf; cases hl; rw [if_pos hgf]; exact ⟨y, rfl, ry.mono e2 b2⟩
        · rename_i hgf
          rw [if_neg hgf]
          obtain ⟨v, h1, h2⟩ := g5 g sl hl
          refine ⟨v, h1, ?_⟩
          cases sl with
          | un => trivial
          | val d => exact h2
          | own cc => exact absurd hl (pl g cc)
end
end Y
/-! Z5: lists of the store: read, walked, changed. -/
namespace Y
open PySem L2
/-- the items of a list, frozen or of the store -/
def lstV (S : Store) (d : D) : Option (List D) := match d with
  | .lst xs => some xs
  | .scr ns => some (ns.map .int)
  | .ob n => match S.get n with
    | some (.box (.lst xs)) => some xs
    | some (.lck (.lst xs)) => some xs
    | _ => none
  | _ => none
section
variable {K : KW} {mg : Str → Option Value} {F P : Hp} {β : Nat → Option Addr} {σ : L2.St} {η : Sls} {S : Store} {H : Hp}
theorem lstV_ob {n : Nat} {xs : List D} (h : lstV S (.ob n) = some xs) : S.get n = some (.box (.lst xs)) ∨ S.get n = some (.lck (.lst xs)) := by
  simp only [lstV] at h
  split at h
  · rename_i ys e; cases h; exact .inl e
  · rename_i ys e; cases h; exact .inr e
  · cases h
theorem R.lstV (s : Ste K mg F P β σ η S H) {v : V} {d : D} {xs : List D} (r : R K F β v d) (h : lstV S d = some xs) : ∃ a vs, v = .ref a ∧ SqL K.1 H a vs ∧ vs.length ≤ sizeLine ∧ RAll K F β vs xs := by
  cases r with
  | lst f l a => cases h; exact ⟨_, _, rfl, SqL.of (s.fsub _ _ f), l, a⟩
  | scr f l => cases h; exact ⟨_, _, rfl, s.fsub.l f, by rw [List.length_map]; exact l, RAll.ints _⟩
  | ob hb =>
    rcases lstV_ob h with h | h
    · obtain ⟨a', h1, vs, h2, h3, h4⟩ := s.obs _ _ h
      rw [hb] at h1; cases h1
      exact ⟨_, vs, rfl, SqL.of h2, h3, h4⟩
    · obtain ⟨a', h1, o, vs, h2, h3, h4⟩ := s.obs _ _ h
      rw [hb] at h1; cases h1
      exact ⟨_, vs, rfl, Or.inl (Or.inr ⟨o, h2⟩), h3, h4⟩
  | _ => cases h
end
/-! ### operations that look at the store -/
def liftS {A : Type} (f : Store → Option A) : M A := fun η S => match f S with
  | none => none
  | some a => some (.ok a η S)
section
variable {X : Cx} {W : WX}
theorem Run.liftS {A : Type} {f : Store → Option A} {F P : Hp} {β : Nat → Option Addr} {η : Sls} {S : Store} {σ : L2.St} {H : Hp} {ok : A → Sls → Store → Hp → (Nat → Option Addr) → Hp → Prop} (h : Run X W (Y.liftS f) F P β η S σ H ok) :
    ∃ c, f S = some c ∧ Ste X.kw X.mg F P β σ η S H ∧ ∀ F' H', Ex F F' → Ste X.kw X.mg F' P β σ η S H' → ok c η S F' β H' := by
  obtain ⟨r, e, s, p⟩ := h
  unfold Y.liftS at e
  cases q : f S with
  | none => simp only [q] at e; cases e
  | some c => simp only [q] at e; cases e; exact ⟨c, rfl, s, fun F' H' e s' => p F' β H' e (Bx.refl _) s'⟩
def Ask2S (X : Cx) (g : Store → D → D → Option D) : R2 := fun x y H Q => ∃ F P β σ η S a b c, Ste X.kw X.mg F P β σ η S H ∧ R X.kw F β x a ∧ R X.kw F β y b ∧ g S a b = some c ∧
    ∀ F' H' v, Ex F F' → Ste X.kw X.mg F' P β σ η S H' → R X.kw F' β v c → Q v H'
def op2S (g : Store → D → D → Option D) (ma mb : M D) : M D := ma.bind fun x => mb.bind fun y => liftS fun S => g S x y
theorem run_op2S {g : Store → D → D → Option D} {ma mb : M D} {σ : L2.St} {H : Hp} {Q : VK} (h : rdE X W (op2S g ma mb) σ H Q) : tOp (Ask2S X g) (rdE X W ma) (rdE X W mb) σ H Q := by
  obtain ⟨F, P, β, η, S, h⟩ := h
  refine ⟨F, P, β, η, S, (Run.bind h).imp fun d η1 S1 F1 β1 H1 s1 ⟨e1, b1, h1⟩ v r1 => ?_⟩
  refine ⟨F1, P, β1, η1, S1, (Run.bind h1).imp fun d2 η2 S2 F2 β2 H2 s2 ⟨e2, b2, h2⟩ w r2 => ?_⟩
  obtain ⟨c, ec, s, p⟩ := Run.liftS h2
  exact ⟨F2, P, β2, σ, η2, S2, d, d2, c, s, r1.mono e2 b2, r2, ec, fun F' H' v e s => p F' H' e s v⟩
theorem de_cmpS {a b : Expr} {pos : Pos} {op : CmpOp} {ma mb : M D} {g : Store → D → D → Option D} (ho : OpR X (compareOp op) (Ask2S X g)) (ha : DE X W a ma) (hb : DE X W b mb) (hm : behindInMarks op b = false) : DE X W (.Compare a [op] [b] pos) (op2S g ma mb) :=
  PE.imp (pe_cmpR ho ha hb hm) fun _ _ _ h => run_op2S h
theorem dt_cmpS {a b : Expr} {pos : Pos} {op : CmpOp} {ma mb : M D} {g : Store → D → D → Option D} (ho : OpR X (compareOp op) (Ask2S X g)) (ha : DE X W a ma) (hb : DE X W b mb) (hm : behindInMarks op b = false) : DT X W (.Compare a [op] [b] pos) (test (op2S g ma mb)) := by
  refine PT.imp (pt_cmpR ho ha hb hm) fun σ H Q h => ?_
  exact run_op2S (run_test h)
/-- x[i] -/
def itemS (S : Store) (a b : D) : Option D := match a, b with
  | .ob n, .int i => (lstV S (.ob n)).bind fun xs => atI xs i
  | a, b => itemD a b
theorem ix_itemS : IxR X (Ask2S X itemS) := by
  have hl : IxR X (fun x y H Q => ∃ p xs i v, x = .ref p ∧ y = .int i ∧ SqL X.K H p xs ∧ L2.atI xs i = some v ∧ Q v H) := ix_list
  have both : IxR X (fun x y H Q => (∃ p xs i v, x = .ref p ∧ y = .int i ∧ SqL X.K H p xs ∧ L2.atI xs i = some v ∧ Q v H) ∨ Ask2 X itemD x y H Q) := fun va sl pins s σ H x y v u Q I rx ry q => q.elim (hl va sl pins s σ H x y v u Q I rx ry) (ix_item va sl pins s σ H x y v u Q I rx ry)
  refine Y.IxR.imp both fun x y H Q q => ?_
  obtain ⟨F, P, β, σ, η, S, a, b, z, s, ra, rb, e, k⟩ := q
  unfold itemS at e
  split at e
  · rename_i n i
    cases hx : lstV S (.ob n) with
    | none => rw [hx] at e; cases e
    | some xs =>
      rw [hx] at e
      obtain ⟨p, vs, rfl, h1, h2, h3⟩ := ra.lstV s hx
      obtain ⟨v, e1, r1⟩ := h3.atI e
      exact .inl ⟨p, vs, i, v, rfl, rb.int_inv, h1, e1, k F H v (Ex.refl _) s r1⟩
  · exact .inr ⟨F, P, β, σ, η, S, _, _, z, s, ra, rb, e, k⟩
theorem de_itemS {a b : Expr} {pos : Pos} {ma mb : M D} (ha : DE X W a ma) (hb : DE X W b mb) (hs : PlainIx b := by intro _ _; rfl) : DE X W (.Subscript a b pos) (op2S itemS ma mb) :=
  PE.imp (pe_ix ix_itemS ha hb hs) fun _ _ _ h => run_op2S h
end
/-! ### deep data -/
def mapO {α β : Type} (f : α → Option β) : List α → Option (List β)
  | [] => some []
  | x :: r => match f x with
    | none => none
    | some y => match mapO f r with
      | none => none
      | some ys => some (y :: ys)
def toPS : Nat → Store → D → Option PyData
  | 0, _, _ => none
  | k + 1, S, d => match d with
    | .non => some .none
    | .bl b => some (.bool b)
    | .int i => some (.int i)
    | .str x => some (.str x)
    | .tup xs => (mapO (toPS k S) xs).map .tuple
    | d => (lstV S d).bind fun xs => (mapO (toPS k S) xs).map .list
section
variable {K : KW} {mg : Str → Option Value} {F P : Hp} {β : Nat → Option Addr} {σ : L2.St} {η : Sls} {S : Store} {H : Hp}
theorem dp_all {f : D → Option PyData} (hf : ∀ {v d p}, R K F β v d → f d = some p → Dp K.1 H v p ∧ p.canLay0 = true) : ∀ {vs : List V} {ds : List D} {ps : List PyData}, RAll K F β vs ds → mapO f ds = some ps → DpAll K.1 H vs ps ∧ PyData.canLayAll0 ps = true
  | _, _, _, .nil, h => by cases h; exact ⟨.nil, rfl⟩
  | _, _, _, .cons (d := d) (ds := ds) r a, h => by
    simp only [mapO] at h
    cases q : f d with
    | none => rw [q] at h; cases h
    | some p =>
      cases q2 : mapO f ds with
      | none => rw [q, q2] at h; cases h
      | some ps =>
        rw [q, q2] at h; cases h
        have h1 := hf r q
        have h2 := dp_all hf a q2
        exact ⟨.cons h1.1 h2.1, by simp only [PyData.canLayAll0, h1.2, h2.2]; rfl⟩
theorem R.dpS (s : Ste K mg F P β σ η S H) : ∀ (k : Nat) {v : V} {d : D} {p : PyData}, R K F β v d → toPS k S d = some p → Dp K.1 H v p ∧ p.canLay0 = true
  | 0, _, _, _, _, h => by cases h
  | k + 1, v, d, p, r, h => by
    have lists : ∀ d, R K F β v d → ((Y.lstV S d).bind fun xs => (mapO (toPS k S) xs).map PyData.list) = some p → Dp K.1 H v p ∧ p.canLay0 = true := fun d r h => by
      cases hx : Y.lstV S d with
      | none => rw [hx] at h; cases h
      | some xs =>
        rw [hx] at h
        cases hm : mapO (toPS k S) xs with
        | none => simp [hm] at h
        | some ps =>
          simp [hm] at h
          subst h
          obtain ⟨a, vs, rfl, h1, h2, h3⟩ := r.lstV s hx
          have := dp_all (fun r h => R.dpS s k r h) h3 hm
          exact ⟨.lst h1 this.1, this.2⟩
    cases d with
    | non => cases h; cases r; exact ⟨.non, rfl⟩
    | bl b => cases h; cases r; exact ⟨.bl b, rfl⟩
    | int b => cases h; cases r; exact ⟨.int b, rfl⟩
    | str b => cases h; cases r with | str o => exact ⟨.str _, o⟩
    | tup xs =>
      simp only [toPS] at h
      cases hm : mapO (toPS k S) xs with
      | none => rw [hm] at h; cases h
      | some ps =>
        rw [hm] at h; cases h
        cases r with
        | tup f l a =>
          have := dp_all (fun r h => R.dpS s k r h) a hm
          exact ⟨.tup (s.fsub.t f) this.1, this.2⟩
    | lst xs => exact lists _ r h
    | scr xs => exact lists _ r h
    | ob n => exact lists _ r h
    | ss xs => exact lists _ r h
    | dd xs => exact lists _ r h
    | ty xs => exact lists _ r h
    | exn c => exact lists _ r h
    | exf c f x => exact lists _ r h
end
def eqPS (S : Store) (a b : D) : Option Bool := match toPS 40 S a, toPS 40 S b with
  | some p, some q => if p.depth ≤ 64 ∧ q.depth ≤ 64 then some (PyData.eqv p q) else none
  | _, _ => none
def eqS (S : Store) (a b : D) : Option D := match eqP a b with
  | some t => some (.bl t)
  | none => (eqPS S a b).map .bl
def neS (S : Store) (a b : D) : Option D := match eqP a b with
  | some t => some (.bl (!t))
  | none => (eqPS S a b).map fun t => .bl (!t)
theorem eqPS_some {S : Store} {a b : D} {t : Bool} (h : eqPS S a b = some t) : ∃ p q, toPS 40 S a = some p ∧ toPS 40 S b = some q ∧ p.depth ≤ 64 ∧ q.depth ≤ 64 ∧ PyData.eqv p q = t := by
  unfold eqPS at h
  split at h
  · rename_i p q e1 e2
    split at h
    · rename_i hd; cases h; exact ⟨p, q, e1, e2, hd.1, hd.2, rfl⟩
    · cases h
  · cases h
section
variable {X : Cx} {W : WX}
theorem od_eqS (hu : X.A.units + 64 < cLine) : OpR X (compareOp .Eq) (Ask2S X eqS) := Y.OpR.imp (Y.OpR.or (od_eq hu) (op_eqD hu)) fun x y H Q h => by
  obtain ⟨F, P, β, σ, η, S, a, b, c, s, ra, rb, g, k⟩ := h
  unfold eqS at g
  split at g
  · rename_i t q
    cases g
    exact .inl ⟨F, P, β, σ, η, S, a, b, _, s, ra, rb, by unfold eqD; rw [q]; rfl, k⟩
  · cases q : eqPS S a b with
    | none => rw [q] at g; cases g
    | some t =>
      rw [q] at g; cases g
      obtain ⟨p1, p2, e1, e2, d1, d2, rfl⟩ := eqPS_some q
      have h1 := ra.dpS s 40 e1
      have h2 := rb.dpS s 40 e2
      exact .inr ⟨p1, p2, h1.1, h2.1, shaped_of h1.2 d1, shaped_of h2.2 d2, k F H _ (Ex.refl _) s (.bl _)⟩
theorem od_neS (hu : X.A.units + 64 < cLine) : OpR X (compareOp .NotEq) (Ask2S X neS) := Y.OpR.imp (Y.OpR.or (od_ne hu) (op_neD hu)) fun x y H Q h => by
  obtain ⟨F, P, β, σ, η, S, a, b, c, s, ra, rb, g, k⟩ := h
  unfold neS at g
  split at g
  · rename_i t q
    cases g
    exact .inl ⟨F, P, β, σ, η, S, a, b, _, s, ra, rb, by unfold neD; rw [q]; rfl, k⟩
  · cases q : eqPS S a b with
    | none => rw [q] at g; cases g
    | some t =>
      rw [q] at g; cases g
      obtain ⟨p1, p2, e1, e2, d1, d2, rfl⟩ := eqPS_some q
      have h1 := ra.dpS s 40 e1
      have h2 := rb.dpS s 40 e2
      exact .inr ⟨p1, p2, h1.1, h2.1, shaped_of h1.2 d1, shaped_of h2.2 d2, k F H _ (Ex.refl _) s (.bl _)⟩
/-! ### list(x) -/
def listS (S : Store) (ds : List D) : Option (List D) := match ds with
  | [.ob n] => lstV S (.ob n)
  | ds => listD ds
def AskNS (X : Cx) (g : Store → List D → Option (List D)) : List V → Hp → VK → Prop := fun vs H Q => ∃ F P β σ η S ds cs, Ste X.kw X.mg F P β σ η S H ∧ RAll X.kw F β vs ds ∧ g S ds = some cs ∧
    ∀ p vs', H p = none → vs'.length ≤ sizeLine → RAll X.kw F β vs' cs → Q (.ref p) (upd H p (.lst vs'))
def newL (g : Store → List D → Option (List D)) (r : M (List D)) : M (List D) := r.bind fun ds => liftS fun S => g S ds
theorem run_newL {g : Store → List D → Option (List D)} {r : M (List D)} {σ : L2.St} {H : Hp} {Q : VK} (h : rdN X W (newL g r) σ H Q) : tCB (AskNS X g) (rdA X W r) σ H Q := by
  obtain ⟨F, P, β, η, S, h⟩ := h
  refine ⟨F, P, β, η, S, (Run.bind h).imp fun ds η1 S1 F1 β1 H1 s1 ⟨e1, b1, h1⟩ vs r1 => ?_⟩
  obtain ⟨c, ec, s, p⟩ := Run.liftS h1
  exact ⟨F1, P, β1, σ, η1, S1, ds, c, s, r1, ec, fun a vs' ha hl ra => p F1 H1 (Ex.refl _) s a vs' ha hl ra⟩
theorem cn_listS (hc : X.calm = true) : CallR X (.type "list") (AskNS X listS) := Y.CallR.imp (Y.CallR.or call_list_of (cn_list hc)) fun vs H Q q => by
  obtain ⟨F, P, β, σ, η, S, ds, c, s, ra, e, k⟩ := q
  unfold listS at e
  split at e
  · cases ra with
    | cons r1 r2 =>
      cases r2
      obtain ⟨p, vs, rfl, h1, h2, h3⟩ := r1.lstV s e
      exact .inl ⟨_, _, rfl, .inl h1, fun p hp => k p _ hp h2 h3⟩
  · exact .inr ⟨F, P, β, σ, η, S, ds, c, s, ra, e, k⟩
/-! ### len(x) -/
def lenSt (S : Store) (ds : List D) : Option D := match ds with
  | [.ob n] => (lstV S (.ob n)).map fun xs => .int xs.length
  | ds => lenA ds
def AskCS (X : Cx) (g : Store → List D → Option D) : List V → Hp → VK → Prop := fun vs H Q => ∃ F P β σ η S ds c, Ste X.kw X.mg F P β σ η S H ∧ RAll X.kw F β vs ds ∧ g S ds = some c ∧
    ∀ F' H' v, Ex F F' → Ste X.kw X.mg F' P β σ η S H' → R X.kw F' β v c → Q v H'
def opCS (g : Store → List D → Option D) (r : M (List D)) : M D := r.bind fun ds => liftS fun S => g S ds
theorem run_opCS {g : Store → List D → Option D} {r : M (List D)} {σ : L2.St} {H : Hp} {Q : VK} (h : rdE X W (opCS g r) σ H Q) : tCB (AskCS X g) (rdA X W r) σ H Q := by
  obtain ⟨F, P, β, η, S, h⟩ := h
  refine ⟨F, P, β, η, S, (Run.bind h).imp fun ds η1 S1 F1 β1 H1 s1 ⟨e1, b1, h1⟩ vs r1 => ?_⟩
  obtain ⟨c, ec, s, p⟩ := Run.liftS h1
  exact ⟨F1, P, β1, σ, η1, S1, ds, c, s, r1, ec, fun F' H' v e s => p F' H' e s v⟩
theorem cd_lenS : CallR X (.builtin "len") (AskCS X lenSt) := Y.CallR.imp (Y.CallR.or call_len_seq cd_lenA) fun vs H Q q => by
  obtain ⟨F, P, β, σ, η, S, ds, c, s, ra, e, k⟩ := q
  unfold lenSt at e
  split at e
  · rename_i n
    cases hx : lstV S (.ob n) with
    | none => rw [hx] at e; cases e
    | some xs =>
      rw [hx] at e; cases e
      cases ra with
      | cons r1 r2 =>
        cases r2
        obtain ⟨p, vs, rfl, h1, h2, h3⟩ := r1.lstV s hx
        exact .inl ⟨p, vs, rfl, .inl h1, by rw [h3.length]; exact k F H _ (Ex.refl _) s (.int _)⟩
  · exact .inr ⟨F, P, β, σ, η, S, ds, c, s, ra, e, k⟩
end
end Y
/-! Z6: append; for over a list of the store. -/
namespace Y
open PySem L2
section
variable {X : Cx} {W : WX}
/-- x is a list of the store that may be changed -/
def isL (x : D) : M Unit := fun η S => match x with
  | .ob n => match S.get n with
    | some (.box (.lst _)) => some (.ok () η S)
    | _ => none
  | _ => none
def pushL (x : D) (ds : List D) : M D := fun η S => match x, ds with
  | .ob n, [d] => match S.get n with
    | some (.box (.lst xs)) => if xs.length < sizeLine then some (.ok .non η (S.put n (.box (.lst (xs ++ [d]))))) else none
    | _ => none
  | _, _ => none
def appB (mo : M D) (r : M (List D)) : M D := mo.bind fun x => (isL x).bind fun _ => r.bind fun ds => pushL x ds
theorem isL_some {x : D} {η : Sls} {S : Store} {r : Res Unit} (h : isL x η S = some r) : ∃ n xs, x = .ob n ∧ S.get n = some (.box (.lst xs)) ∧ r = .ok () η S := by
  unfold isL at h
  split at h
  · rename_i n
    split at h
    · rename_i xs hg; cases h; exact ⟨n, xs, rfl, hg, rfl⟩
    · cases h
  · cases h
theorem pushL_some {x : D} {ds : List D} {η : Sls} {S : Store} {r : Res D} (h : pushL x ds η S = some r) : ∃ n d xs, x = .ob n ∧ ds = [d] ∧ S.get n = some (.box (.lst xs)) ∧ xs.length < sizeLine ∧ r = .ok .non η (S.put n (.box (.lst (xs ++ [d])))) := by
  unfold pushL at h
  split at h
  · rename_i n d
    split at h
    · rename_i xs hg
      split at h
      · rename_i hl; cases h; exact ⟨n, d, xs, rfl, rfl, hg, hl, rfl⟩
      · cases h
    · cases h
  · cases h
theorem de_appB {e o : Expr} {es : List Expr} {mo : M D} {r : M (List D)} (h : ∀ {to : TE} {t : TA}, PE X o to → PA X es t → PE X e (tBM X.K "list" rAppend to t)) (ho : DE X W o mo) (ha : DA X W es r) : DE X W e (appB mo r) := by
  refine PE.imp (h ho ha) fun σ H Q ⟨F, P, β, η, S, q⟩ => ?_
  refine ⟨F, P, β, η, S, (Run.bind q).imp fun x η0 S0 F0 β0 H0 s0 ⟨e0, b0, q0⟩ xv rx => ?_⟩
  obtain ⟨r1, e1, s1, p1⟩ := Run.bind q0
  obtain ⟨n, xs, rfl, hg, rfl⟩ := isL_some e1
  obtain ⟨_, _, q2⟩ := p1 F0 β0 H0 (Ex.refl _) (Bx.refl _) s1
  have hv : lstV S0 (.ob n) = some xs := by simp only [lstV, hg]
  obtain ⟨a, vs, rfl, h1, h2, h3⟩ := rx.lstV s1 hv
  refine ⟨.inl ⟨rfl, vs, h1⟩, F0, P, β0, η0, S0, (Run.bind q2).imp fun ds η1 S1 F1 β1 H1 s2 ⟨e2, b2, r3, e3, s3, p3⟩ ws rw' => ?_⟩
  obtain ⟨m, d, ys, hm, rfl, hg', hl, rfl⟩ := pushL_some e3
  cases hm
  cases rx with
  | ob hb =>
    obtain ⟨a', k1, vs', k2, k3, k4⟩ := s3.obs n _ hg'
    rw [b2 _ _ hb] at k1; cases k1
    cases rw' with
    | cons rd rn =>
      cases rn
      have hz := k4.length
      refine ⟨a, vs', _, rfl, rfl, k2, by omega, ?_⟩
      refine p3 F1 β1 _ (Ex.refl _) (Bx.refl _) (s3.put hg' (b2 _ _ hb) trivial trivial ⟨_, upd_same, ?_, k4.append (.cons rd .nil)⟩) _ .non
      rw [List.length_append]
      show vs'.length + 1 ≤ sizeLine
      omega
/-! ### for -/
/-- a loop over the list n of the store, f turns at most, at its place i -/
def forB (n : Nat) (g : D → Sls → Option Sls) (body : M Fl) : Nat → Nat → M Fl
  | 0, _ => M.fail
  | f + 1, i => fun η S => match lstV S (.ob n) with
    | none => none
    | some xs => match xs[i]? with
      | none => some (.ok .nx η S)
      | some d => match g d η with
        | none => none
        | some η1 => match body η1 S with
          | none => none
          | some (.ok .nx η2 S2) => forB n g body f (i + 1) η2 S2
          | some (.ok .ct η2 S2) => forB n g body f (i + 1) η2 S2
          | some (.ok .bk η2 S2) => some (.ok .nx η2 S2)
          | some (.ok (.rt d) η2 S2) => some (.ok (.rt d) η2 S2)
          | some (.ex x η2 S2) => some (.ex x η2 S2)
def walkX (g : D → Sls → Option Sls) (body : M Fl) (d : D) : M Fl := match d with
  | .ob n => forB n g body 1000000 0
  | d => (M.lift (itemsD d)).bind fun ds => forL g body ds
/-- it can be walked -/
def chkX (d : D) : M D := fun η S => match d with
  | .ob n => match lstV S (.ob n) with
    | some _ => some (.ok (.ob n) η S)
    | none => none
  | d => match itemsD d with
    | some _ => some (.ok d η S)
    | none => none
def seqX (m : M D) : M D := m.bind fun d => chkX d
def forX (m : M D) (g : D → Sls → Option Sls) (body : M Fl) : M Fl := (seqX m).bind fun d => walkX g body d
/-- J walks d -/
def ItX (X : Cx) (F : Hp) (β : Nat → Option Addr) (d : D) (J : It) : Prop := match d with
  | .ob n => ∃ a, β n = some a ∧ J = Itl X.K a
  | d => ∃ ds, itemsD d = some ds ∧ ItOk X F β J ds
def rdX (X : Cx) (W : WX) (m : M D) : TI := fun σ H Rk => ∃ F P β η S, Run X W (seqX m) F P β η S σ H (fun d _ _ F' β' H' => ∀ J, ItX X F' β' d J → Rk J H')
theorem forL_core {g : D → Sls → Option Sls} {js : List Nat} {body : M Fl} {Dn : Ends} {σ : L2.St} {F1 P : Hp} {β1 : Nat → Option Addr} {η1 : Sls} {S1 : Store} {H1 : Hp} {ds : List D} {J : It} (h1 : RunS X W (forL g body ds) F1 P β1 η1 S1 σ H1 Dn) (hJ : ItOk X F1 β1 J ds) :
    ∃ Iv : Nat → Nat → L2.St → Hp → Prop, (∃ m, Iv 0 m σ H1) ∧ ∀ i m σ H, Iv i m σ H →
      (J.stop i H ∧ Dn.nx σ H) ∨ (J.go i H ∧ ∃ N : L2.St → Hp → Prop, (∀ σ' H', N σ' H' → ∃ m', m' < m ∧ Iv (i + 1) m' σ' H') ∧ ∀ x H', J.yld i H x H' → rdG X js g x σ H' fun σ2 H2 => rdS X W body { Dn with nx := N, ct := N, bk := Dn.nx } σ2 H2) := by
  refine ⟨fun i m σ H => m = ds.length - i ∧ i ≤ ds.length ∧ ∃ F2 β2 η2 S2, Ex F1 F2 ∧ Bx β1 β2 ∧ RunS X W (forL g body (ds.drop i)) F2 P β2 η2 S2 σ H Dn, ⟨_, rfl, Nat.zero_le _, F1, β1, η1, S1, Ex.refl _, Bx.refl _, h1⟩, ?_⟩
  rintro i m σ H ⟨rfl, hi, F2, β2, η2, S2, e2, b2, r, e, s, p⟩
  have it := hJ F2 P β2 σ η2 S2 H i e2 b2 s
  by_cases hlt : i < ds.length
  · refine .inr ?_
    have hd : ds[i]? = some ds[i] := List.getElem?_eq_getElem hlt
    obtain ⟨go, yld⟩ := it.1 _ hd
    rw [List.drop_eq_getElem_cons hlt] at e
    unfold forL at e
    cases qg : g ds[i] η2 with
    | none => simp only [qg] at e; cases e
    | some η3 =>
      simp only [qg] at e
      cases qb : body η3 S2 with
      | none => simp only [qb] at e; cases e
      | some rb =>
        simp only [qb] at e
        refine ⟨go, fun σ' H' => ∃ F4 β4 η4 S4, Ex F1 F4 ∧ Bx β1 β4 ∧ RunS X W (forL g body (ds.drop (i + 1))) F4 P β4 η4 S4 σ' H' Dn, fun σ' H' q => ⟨_, by omega, rfl, hlt, q⟩, fun x H' y => ?_⟩
        obtain ⟨F3, e3, s3, r3⟩ := yld x H' y
        refine ⟨F3, P, β2, η2, S2, _, η3, s3, r3, qg, fun σ3 s4 _ _ => ⟨F3, P, β2, η3, S2, rb, qb, s4, ?_⟩⟩
        cases rb with
        | ex x η4 S4 => cases e; exact p.mono e3 (Bx.refl _)
        | ok fl η4 S4 =>
          cases fl with
          | nx => exact fun F' β' σ' H' ea ba sa => ⟨F', β', η4, S4, (e2.trans e3).trans ea, b2.trans ba, r, e, sa, (p.mono e3 (Bx.refl _)).mono ea ba⟩
          | ct => exact fun F' β' σ' H' ea ba sa => ⟨F', β', η4, S4, (e2.trans e3).trans ea, b2.trans ba, r, e, sa, (p.mono e3 (Bx.refl _)).mono ea ba⟩
          | bk => cases e; exact fun F' β' σ' H' ea ba sa => p F' β' σ' H' (e3.trans ea) ba sa
          | rt d => cases e; exact p.mono e3 (Bx.refl _)
  · have hz : i = ds.length := by omega
    refine .inl ⟨it.2 hz, ?_⟩
    rw [List.drop_eq_nil_of_le (by omega)] at e
    cases e
    exact p F2 β2 σ H (Ex.refl _) (Bx.refl _) s
theorem forB_core {g : D → Sls → Option Sls} {js : List Nat} {body : M Fl} {Dn : Ends} {σ : L2.St} {F1 P : Hp} {β1 : Nat → Option Addr} {η1 : Sls} {S1 : Store} {H1 : Hp} {n f : Nat} {a : Addr} (h1 : RunS X W (forB n g body f 0) F1 P β1 η1 S1 σ H1 Dn) (hb : β1 n = some a) :
    ∃ Iv : Nat → Nat → L2.St → Hp → Prop, (∃ m, Iv 0 m σ H1) ∧ ∀ i m σ H, Iv i m σ H →
      ((Itl X.K a).stop i H ∧ Dn.nx σ H) ∨ ((Itl X.K a).go i H ∧ ∃ N : L2.St → Hp → Prop, (∀ σ' H', N σ' H' → ∃ m', m' < m ∧ Iv (i + 1) m' σ' H') ∧ ∀ x H', (Itl X.K a).yld i H x H' → rdG X js g x σ H' fun σ2 H2 => rdS X W body { Dn with nx := N, ct := N, bk := Dn.nx } σ2 H2) := by
  refine ⟨fun i m σ H => ∃ F2 β2 η2 S2, Ex F1 F2 ∧ Bx β1 β2 ∧ RunS X W (forB n g body m i) F2 P β2 η2 S2 σ H Dn, ⟨f, F1, β1, η1, S1, Ex.refl _, Bx.refl _, h1⟩, ?_⟩
  rintro i m σ H ⟨F2, β2, η2, S2, e2, b2, r, e, s, p⟩
  cases m with
  | zero => cases e
  | succ m =>
    unfold forB at e
    cases hx : lstV S2 (.ob n) with
    | none => simp only [hx] at e; cases e
    | some xs =>
      simp only [hx] at e
      have rr : R X.kw F2 β2 (.ref a) (.ob n) := .ob (b2 _ _ hb)
      obtain ⟨a', vs, ea, h1, h2, h3⟩ := rr.lstV s hx
      cases ea
      cases hd : xs[i]? with
      | none =>
        simp only [hd] at e
        cases e
        refine .inl ⟨⟨vs, h1, ?_⟩, p F2 β2 σ H (Ex.refl _) (Bx.refl _) s⟩
        rw [h3.length]
        exact List.getElem?_eq_none_iff.mp hd
      | some d =>
        simp only [hd] at e
        obtain ⟨v, hv, rv⟩ := h3.get hd
        cases qg : g d η2 with
        | none => simp only [qg] at e; cases e
        | some η3 =>
          simp only [qg] at e
          cases qb : body η3 S2 with
          | none => simp only [qb] at e; cases e
          | some rb =>
            simp only [qb] at e
            refine .inr ⟨⟨vs, v, h1, hv⟩, fun σ' H' => ∃ F4 β4 η4 S4, Ex F1 F4 ∧ Bx β1 β4 ∧ RunS X W (forB n g body m (i + 1)) F4 P β4 η4 S4 σ' H' Dn, fun σ' H' q => ⟨m, Nat.lt_succ_self _, q⟩, fun x H' y => ?_⟩
            obtain ⟨y1, y2⟩ := y
            subst y1
            have hxv := y2 vs h1
            rw [hv] at hxv
            cases hxv
            refine ⟨F2, P, β2, η2, S2, _, η3, s, rv, qg, fun σ3 s4 _ _ => ⟨F2, P, β2, η3, S2, rb, qb, s4, ?_⟩⟩
            cases rb with
            | ex x η4 S4 => cases e; exact p
            | ok fl η4 S4 =>
              cases fl with
              | nx => exact fun F' β' σ' H' ea ba sa => ⟨F', β', η4, S4, e2.trans ea, b2.trans ba, r, e, sa, p.mono ea ba⟩
              | ct => exact fun F' β' σ' H' ea ba sa => ⟨F', β', η4, S4, e2.trans ea, b2.trans ba, r, e, sa, p.mono ea ba⟩
              | bk => cases e; exact fun F' β' σ' H' ea ba sa => p F' β' σ' H' ea ba sa
              | rt d => cases e; exact p
theorem run_forX {m : M D} {js : List Nat} {g : D → Sls → Option Sls} {body : M Fl} {Dn : Ends} {σ : L2.St} {H : Hp} (h : rdS X W (forX m g body) Dn σ H) : tFor (rdX X W m) (rdG X js g) (rdS X W body) Dn σ H := by
  obtain ⟨F, P, β, η, S, h⟩ := h
  refine ⟨F, P, β, η, S, (Run.bindS h).imp fun d η1 S1 F1 β1 H1 s1 ⟨e1, b1, h1⟩ J hJ => ?_⟩
  have other : (∀ n, d ≠ .ob n) → ∃ Iv : Nat → Nat → L2.St → Hp → Prop, (∃ m, Iv 0 m σ H1) ∧ ∀ i m σ H, Iv i m σ H →
      (J.stop i H ∧ Dn.nx σ H) ∨ (J.go i H ∧ ∃ N : L2.St → Hp → Prop, (∀ σ' H', N σ' H' → ∃ m', m' < m ∧ Iv (i + 1) m' σ' H') ∧ ∀ x H', J.yld i H x H' → rdG X js g x σ H' fun σ2 H2 => rdS X W body { Dn with nx := N, ct := N, bk := Dn.nx } σ2 H2) := fun hn => by
    obtain ⟨ds, hds, hI⟩ : ∃ ds, itemsD d = some ds ∧ ItOk X F1 β1 J ds := by
      cases d <;> first | exact hJ | exact absurd rfl (hn _)
    have h2 : RunS X W ((M.lift (itemsD d)).bind fun ds => forL g body ds) F1 P β1 η1 S1 σ H1 Dn := by
      cases d <;> first | exact h1 | exact absurd rfl (hn _)
    obtain ⟨c, ec, s3, p3⟩ := Run.lift (Run.bindS h2)
    rw [hds] at ec
    cases ec
    obtain ⟨_, _, h3⟩ := p3 F1 H1 (Ex.refl _) s3
    exact forL_core h3 hI
  cases d with
  | ob n =>
    obtain ⟨a, hb, rfl⟩ := hJ
    exact forB_core h1 hb
  | _ => exact other fun n z => by cases z
theorem dx_val {tg e : Expr} {m : M D} (h : DE X W e m) : PI X tg e (rdX X W m) := by
  refine PI.imp (PI.or (pi_list (tg := tg) h) (PI.or (pi_tup (tg := tg) h) (pi_str (tg := tg) h))) fun σ H Rk ⟨F, P, β, η, S, q⟩ => ?_
  obtain ⟨r, e, s, p⟩ := Run.bind q
  cases r with
  | ex x η1 S1 => exact .inl ⟨F, P, β, η, S, _, e, s, p⟩
  | ok d η1 S1 =>
    cases d with
    | lst ds =>
      refine .inl ⟨F, P, β, η, S, _, e, s, fun F1 β1 H1 e1 b1 s1 v rv => ?_⟩
      obtain ⟨_, _, h2⟩ := p F1 β1 H1 e1 b1 s1
      have h3 := Run.ret (m := chkX (.lst ds)) rfl h2
      cases rv with
      | lst hl ll ra => exact ⟨_, rfl, ⟨_, SqL.of (s1.fsub _ _ hl)⟩, h3 _ ⟨_, rfl, it_list (SqL.of hl) ra⟩⟩
    | scr ns =>
      refine .inl ⟨F, P, β, η, S, _, e, s, fun F1 β1 H1 e1 b1 s1 v rv => ?_⟩
      obtain ⟨_, _, h2⟩ := p F1 β1 H1 e1 b1 s1
      have h3 := Run.ret (m := chkX (.scr ns)) rfl h2
      cases rv with
      | scr hl ll => exact ⟨_, rfl, ⟨_, s1.fsub.l hl⟩, h3 _ ⟨_, rfl, it_list hl (RAll.ints ns)⟩⟩
    | tup ds =>
      refine .inr (.inl ⟨F, P, β, η, S, _, e, s, fun F1 β1 H1 e1 b1 s1 v rv => ?_⟩)
      obtain ⟨_, _, h2⟩ := p F1 β1 H1 e1 b1 s1
      have h3 := Run.ret (m := chkX (.tup ds)) rfl h2
      cases rv with
      | tup hl ll ra => exact ⟨_, rfl, ⟨_, s1.fsub.t hl⟩, h3 _ ⟨_, rfl, it_tup hl ra⟩⟩
    | str x =>
      refine .inr (.inr ⟨F, P, β, η, S, _, e, s, fun F1 β1 H1 e1 b1 s1 v rv => ?_⟩)
      obtain ⟨_, _, h2⟩ := p F1 β1 H1 e1 b1 s1
      have h3 := Run.ret (m := chkX (.str x)) rfl h2
      cases rv with
      | str ok => exact ⟨_, rfl, h3 _ ⟨_, rfl, it_str ok⟩⟩
    | ob n =>
      refine .inl ⟨F, P, β, η, S, _, e, s, fun F1 β1 H1 e1 b1 s1 v rv => ?_⟩
      obtain ⟨_, _, r2, e2, s2, p2⟩ := p F1 β1 H1 e1 b1 s1
      unfold chkX at e2
      cases hx : lstV S1 (.ob n) with
      | none => simp only [hx] at e2; cases e2
      | some xs =>
        simp only [hx] at e2
        cases e2
        obtain ⟨a, vs, rfl, h1, h2, h3⟩ := rv.lstV s2 hx
        cases rv with
        | ob hb => exact ⟨a, rfl, ⟨vs, h1⟩, p2 F1 β1 H1 (Ex.refl _) (Bx.refl _) s2 _ ⟨a, hb, rfl⟩⟩
    | _ =>
      refine .inl ⟨F, P, β, η, S, _, e, s, fun F1 β1 H1 e1 b1 s1 v rv => ?_⟩
      obtain ⟨_, _, r2, e2, s2, p2⟩ := p F1 β1 H1 e1 b1 s1
      cases e2
theorem ds_forX {tg iter : Expr} {body : List Stmt} {pos : Pos} {m : M D} {js : List Nat} {g : D → Sls → Option Sls} {b : M Fl} (h : ∀ {wi : TI} {t : TG} {tb : TS}, PI X tg iter wi → PG X tg t → PSs X body tb → PS X (.For tg iter body [] pos) (tFor wi t tb))
    (hi : DE X W iter m) (hg : DG X tg js g) (hb : DSs X W body b) : DS X W (.For tg iter body [] pos) (forX m g b) := PS.imp (h (dx_val hi) hg hb) fun _ _ _ q => run_forX q
end
end Y
/-! Z7: short words for printed derivations (methods, keywords, instances). -/
namespace Y
open PySem L2 PySem.Spec PyProof.Rows
/-- a class of the text -/
structure ClsAt (K : PySem.W.Frag) (mg : Str → Option Value) (x : Str) (C : Addr) : Prop where
  mgc : mg x = some (.ref C)
  cl : Cls K C
/-- a method of the text -/
structure MtAt (K : PySem.W.Frag) (C : Addr) (x qual : Str) (st : Stmt) (f : Addr) (fd : FuncData) : Prop where
  fn : Fun K x qual st f fd
  me : Meth K C x f
section
variable {X : Cx} {W : WX} {k n N np : Nat} {f C : Addr} {fd : FuncData} {ps ks : List Str} {ix : List Nat} {dvs : List V} {dd : List D} {st : Stmt} {m : M Fl} {r rk : M (List D)} {x cn mt qual : Str} {p pos apos : Pos} {e o : Expr} {es : List Expr} {kws : List Keyword} {mo : M D}
theorem ds_never {s : Stmt} : DS X W s M.fail := PS.imp ps_never fun Dn σ H ⟨F, P, β, η, S, r, e, _⟩ => by cases e
theorem de_fk {j : Nat} (A : FnAt X.K X.mg x st ps f fd) (G : FnG X.prog X.w X.K X.mg X.base CX0 k f fd ps (spF X.kw X.mg np (fn0 np N m))) (kb : KB X.K fd ps n ks ix dvs) (hd : DfD dvs dd) (hG : X.A.guards = some []) (hr : Room k X.A) (hg : Gl X x) (ha : DA X W (e :: es) r) (hk : DK X W kws rk)
    (hall : (backToKw pos (keywordEach kws X.env)).all (·.1.isSome) = true := by rfl) (hks : (backToKw pos (keywordEach kws X.env)).filterMap (·.1) = ks := by rfl) (hj : ks.length = j := by rfl) (hdb : (x == ("__debug__" : Str)) = false := by decide) (he : starEach (e :: es) X.env = (false, eval e X.env) :: starEach es X.env := by rfl)
    (hpl : ((backTo pos (starEach (e :: es) X.env)).any (·.1) || (backToKw pos (keywordEach kws X.env)).any (·.1.isNone)) = false := by rfl) : DE X W (.Call (.Name x p) (e :: es) kws pos) (callK (fn0 np N m) ix dd n j r rk) := by
  subst hj
  exact de_cK (fun ha hk => pe_cK G hG hr hg A.mgf A.kp kb passW ha hk hall hks hdb he hpl) ha hk hd fn0_len
theorem de_fk0 {j : Nat} (A : FnAt X.K X.mg x st ps f fd) (G : FnG X.prog X.w X.K X.mg X.base CX0 k f fd ps (spF X.kw X.mg np (fn0 np N m))) (kb : KB X.K fd ps 0 ks ix dvs) (hd : DfD dvs dd) (hG : X.A.guards = some []) (hr : Room k X.A) (hg : Gl X x) (hk : DK X W kws rk)
    (hall : (backToKw pos (keywordEach kws X.env)).all (·.1.isSome) = true := by rfl) (hks : (backToKw pos (keywordEach kws X.env)).filterMap (·.1) = ks := by rfl) (hj : ks.length = j := by rfl) (hdb : (x == ("__debug__" : Str)) = false := by decide)
    (hpl : ((backTo pos (starEach [] X.env)).any (·.1) || (backToKw pos (keywordEach kws X.env)).any (·.1.isNone)) = false := by rfl) : DE X W (.Call (.Name x p) [] kws pos) (callK (fn0 np N m) ix dd 0 j args0 rk) := by
  subst hj
  refine PE.imp (pe_cK0 G hG hr hg A.mgf A.kp kb (passW (W := W)) hk hall hks hdb hpl) fun σ H Q q => ?_
  exact run_nil (de_cK_run hd fn0_len q)
theorem de_me {j : Nat} {pl : Sem Bool} (A : ClsAt X.K X.mg cn C) (Mt : MtAt X.K C mt qual st f fd) (G : FnG X.prog X.w X.K X.mg X.base CX0 k f fd ps (spF X.kw X.mg np (fn0 np N m))) (kb : KB X.K fd ps n ks ix dvs) (hd : DfD dvs dd) (hG : X.A.guards = some []) (hr : Room k X.A) (ho : DE X W o mo) (ha : DA X W (e :: es) r) (hk : DK X W kws rk)
    (hall : (backToKw pos (keywordEach kws X.env)).all (·.1.isSome) = true := by rfl) (hks : (backToKw pos (keywordEach kws X.env)).filterMap (·.1) = ks := by rfl) (hj : ks.length = j := by rfl) (he : starEach (e :: es) X.env = (false, eval e X.env) :: starEach es X.env := by rfl)
    (hpl : ((backTo pos (starEach (e :: es) X.env)).any (·.1) || (backToKw pos (keywordEach kws X.env)).any (·.1.isNone)) = false := by rfl)
    (ht : eval (.Call (.Attribute o mt apos) (e :: es) kws pos) X.env = (do
      let ov ← eval o X.env
      standAt apos.atName
      let (g, first) ← holding [ov] (getMethod ov mt pl)
      callWith pos g first (backTo pos (starEach (e :: es) X.env)) (backToKw pos (keywordEach kws X.env))) := by rfl) : DE X W (.Call (.Attribute o mt apos) (e :: es) kws pos) (methK cn mt (fn0 np N m) ix dd n j mo r rk) := by
  subst hj
  exact de_mK (fun ho ha hk => pe_mK ho A.cl Mt.me G hG hr kb passW ha hk hall hks he hpl ht) A.mgc ho ha hk hd fn0_len
theorem de_me0 {j : Nat} {pl : Sem Bool} (A : ClsAt X.K X.mg cn C) (Mt : MtAt X.K C mt qual st f fd) (G : FnG X.prog X.w X.K X.mg X.base CX0 k f fd ps (spF X.kw X.mg np (fn0 np N m))) (kb : KB X.K fd ps n ks ix dvs) (hd : DfD dvs dd) (hG : X.A.guards = some []) (hr : Room k X.A) (ho : DE X W o mo) (hk : DK X W kws rk)
    (hall : (backToKw pos (keywordEach kws X.env)).all (·.1.isSome) = true := by rfl) (hks : (backToKw pos (keywordEach kws X.env)).filterMap (·.1) = ks := by rfl) (hj : ks.length = j := by rfl)
    (hpl : ((backTo pos (starEach [] X.env)).any (·.1) || (backToKw pos (keywordEach kws X.env)).any (·.1.isNone)) = false := by rfl)
    (ht : eval (.Call (.Attribute o mt apos) [] kws pos) X.env = (do
      let ov ← eval o X.env
      standAt apos.atName
      let (g, first) ← holding [ov] (getMethod ov mt pl)
      callWith pos g first (backTo pos (starEach [] X.env)) (backToKw pos (keywordEach kws X.env))) := by rfl) : DE X W (.Call (.Attribute o mt apos) [] kws pos) (methK cn mt (fn0 np N m) ix dd n j mo args0 rk) := by
  subst hj
  refine PE.imp (pe_mK0 ho A.cl Mt.me G hG hr kb (passW (W := W)) hk hall hks hpl ht) fun σ H Q q => ?_
  refine rdE.imp (de_mK_run A.mgc hd fn0_len q) fun v H' ⟨a, dx, fs, h1, h2, h3, h4⟩ => ⟨a, dx, fs, h1, h2, h3, run_nil h4⟩
/-- the maker of a class -/
structure MkAt (K : PySem.W.Frag) (C : Addr) (qual : Str) (st : Stmt) (f : Addr) (fd : FuncData) : Prop where
  fn : Fun K "__init__" qual st f fd
  maker : Mk K C f
theorem de_mk {j : Nat} (A : ClsAt X.K X.mg x C) (Mt : MkAt X.K C qual st f fd) (G : FnG X.prog X.w X.K X.mg X.base CX0 k f fd ps (spF X.kw X.mg np (fn0 np N m))) (kb : KB X.K fd ps n ks ix dvs) (hd : DfD dvs dd) (hG : X.A.guards = some []) (hr : Room (k + 1) X.A) (hg : Gl X x) (ha : DA X W (e :: es) r) (hk : DK X W kws rk)
    (hall : (backToKw pos (keywordEach kws X.env)).all (·.1.isSome) = true := by rfl) (hks : (backToKw pos (keywordEach kws X.env)).filterMap (·.1) = ks := by rfl) (hj : ks.length = j := by rfl) (hdb : (x == ("__debug__" : Str)) = false := by decide) (he : starEach (e :: es) X.env = (false, eval e X.env) :: starEach es X.env := by rfl)
    (hpl : ((backTo pos (starEach (e :: es) X.env)).any (·.1) || (backToKw pos (keywordEach kws X.env)).any (·.1.isNone)) = false := by rfl) : DE X W (.Call (.Name x p) (e :: es) kws pos) (makeK x (fn0 np N m) ix dd n j r rk) := by
  subst hj
  exact de_nK (fun ha hk => pe_nK Mt.maker G hG hr hg A.mgc kb passW ha hk hall hks hdb he hpl) A.mgc ha hk hd fn0_len
theorem de_mk0 {j : Nat} (A : ClsAt X.K X.mg x C) (Mt : MkAt X.K C qual st f fd) (G : FnG X.prog X.w X.K X.mg X.base CX0 k f fd ps (spF X.kw X.mg np (fn0 np N m))) (kb : KB X.K fd ps n ks ix dvs) (hd : DfD dvs dd) (hG : X.A.guards = some []) (hr : Room (k + 1) X.A) (hg : Gl X x) (hk : DK X W kws rk)
    (hall : (backToKw pos (keywordEach kws X.env)).all (·.1.isSome) = true := by rfl) (hks : (backToKw pos (keywordEach kws X.env)).filterMap (·.1) = ks := by rfl) (hj : ks.length = j := by rfl) (hdb : (x == ("__debug__" : Str)) = false := by decide)
    (hpl : ((backTo pos (starEach [] X.env)).any (·.1) || (backToKw pos (keywordEach kws X.env)).any (·.1.isNone)) = false := by rfl) : DE X W (.Call (.Name x p) [] kws pos) (makeK x (fn0 np N m) ix dd n j args0 rk) := by
  subst hj
  refine PE.imp (pe_nK0 Mt.maker G hG hr hg A.mgc kb (passW (W := W)) hk hall hks hdb hpl) fun σ H Q q => ?_
  exact run_nil (de_nK_run A.mgc hd fn0_len q)
theorem de_fd {f' : Str} (A : ClsAt X.K X.mg cn C) (na : NoAttr X.K C f') (ho : DE X W o mo) (hb : attributeBase o f' X.env (eval o X.env) = eval o X.env := by rfl) : DE X W (.Attribute o f' pos) (fldV cn f' mo) := de_fld A.mgc A.cl na (fun ho => pe_fld ho hb) ho
theorem ds_fd {f' : Str} {v : Expr} {pos' : Pos} {mv : M D} (A : ClsAt X.K X.mg cn C) (na : NoAttr X.K C f') (ho : DE X W o mo) (hv : DE X W v mv) (hs : swapsWith v (some (.Attribute o f' pos')) pos.line X.env = pure false := by rfl) : DS X W (.Assign [.Attribute o f' pos'] v pos) (setFld cn f' mo mv) := ds_fld A.mgc A.cl na (fun ho hv => ps_fld ho hv hs) ho hv
theorem de_bfS {id : String} {g : Store → List D → Option D} (hc : CallR X (.builtin id) (AskCS X g)) (hg : Gl X x) (hm : X.mg x = none) (hv : bootBuiltins x = some (.builtin id)) (ha : DA X W (e :: es) r) (hn : x ≠ "__name__" := by decide) (hdb : (x == ("__debug__" : Str)) = false := by decide)
    (he : starEach (e :: es) X.env = (false, eval e X.env) :: starEach es X.env := by rfl) (hpl : (backTo pos (starEach es X.env)).any (·.1) = false := by rfl) : DE X W (.Call (.Name x p) (e :: es) [] pos) (opCS g r) :=
  PE.imp (pe_callB hc hg hm hv ha hn hdb he hpl) fun _ _ _ h => run_opCS h
theorem dn_bcS {T : String} {g : Store → List D → Option (List D)} (hc : CallR X (.type T) (AskNS X g)) (hg : Gl X x) (hm : X.mg x = none) (hv : bootBuiltins x = some (.type T)) (ha : DA X W (e :: es) r) (hn : x ≠ "__name__" := by decide) (hdb : (x == ("__debug__" : Str)) = false := by decide)
    (he : starEach (e :: es) X.env = (false, eval e X.env) :: starEach es X.env := by rfl) (hpl : (backTo pos (starEach es X.env)).any (·.1) = false := by rfl) : DN X W (.Call (.Name x p) (e :: es) [] pos) (newL g r) :=
  PE.imp (pe_callTy hc hg hm hv ha hn hdb he hpl) fun _ _ _ h => run_newL h
/-! ### range(a, b, c) -/
def rng3 (ds : List D) : Option (List D) := match ds with
  | [.int i, .int j, .int c] => if 0 < c ∧ c < 1073741824 ∧ -(2 ^ 60) ≤ i ∧ i < 2 ^ 60 ∧ -(2 ^ 60) ≤ j ∧ j < 2 ^ 60 ∧ Builtin.Range.small i j c = true then some ((List.range (Builtin.Range.rangeSize i j c).toNat).map fun (q : Nat) => D.int (i + q * c)) else none
  | _ => none
theorem it_rngC {F : Hp} {β : Nat → Option Addr} {lo c : Int} {n : Nat} : ItOk X F β (Itc lo c n) ((List.range n).map fun (i : Nat) => D.int (lo + i * c)) := by
  intro F1 P β1 σ η S H i e b s
  refine ⟨fun d hd => ?_, fun hi => ?_⟩
  · rw [List.getElem?_map] at hd
    by_cases hlt : i < n
    · rw [List.getElem?_range hlt] at hd
      cases hd
      exact ⟨hlt, fun x H' ⟨e1, e2⟩ => by subst e1 e2; exact ⟨F1, Ex.refl _, s, .int _⟩⟩
    · rw [List.getElem?_eq_none_iff.mpr (by rw [List.length_range]; omega)] at hd
      cases hd
  · rw [List.length_map, List.length_range] at hi
    show n ≤ i
    omega
theorem di_range3 {tg it a b c : Expr} {r : M (List D)} (h : ∀ {ta : TA}, PA X [a, b, c] ta → PI X tg it (iRng3 ta)) (ha : DA X W [a, b, c] r) : DI X W tg it (rngV rng3 r) := by
  refine PI.imp (h ha) fun σ H Rk ⟨F, P, β, η, S, q⟩ => ?_
  refine ⟨F, P, β, η, S, (Run.bind q).imp fun ds η1 S1 F1 β1 H1 s1 ⟨e1, b1, h1⟩ vs ra => ?_⟩
  obtain ⟨z, ec, s2, p2⟩ := Run.lift h1
  unfold rng3 at ec
  split at ec
  · rename_i i j c _
    split at ec
    · rename_i hj
      cases ec
      cases ra with
      | cons r1 r2 =>
        cases r2 with
        | cons r2 r3 =>
          cases r3 with
          | cons r3 r4 =>
            cases r4
            cases r1
            cases r2
            cases r3
            refine ⟨i, j, c, (Builtin.Range.rangeSize i j c).toNat, rfl, ⟨by omega, by omega, hj.2.2.2.2.2.2, ?_⟩, p2 F1 H1 (Ex.refl _) s2 _ it_rngC⟩
            have : 0 ≤ Builtin.Range.rangeSize i j c := by
              unfold Builtin.Range.rangeSize
              rw [if_pos hj.1]
              split
              · rename_i hij
                have := Int.ediv_nonneg (a := j - i - 1) (b := c) (by omega) (by omega)
                omega
              · exact Int.le_refl 0
            omega
    · cases ec
  · cases ec
end
end Y
/-! Z8: the plain calculus for objects and lists of the store. -/
namespace Y
open PySem L2
section
variable {A B : Type} {η : Sls} {S : Store}
theorem ev_liftS {f : Store → Option A} {Q : A → Sls → Store → Prop} : ev (liftS f) η S Q ↔ ∃ a, f S = some a ∧ Q a η S := by
  constructor
  · rintro ⟨a, η', S', e, q⟩
    unfold liftS at e
    cases h : f S with
    | none => simp only [h] at e; cases e
    | some b => simp only [h] at e; cases e; exact ⟨_, rfl, q⟩
  · rintro ⟨a, h, q⟩
    exact ⟨a, η, S, by unfold liftS; simp only [h], q⟩
theorem ev_op2S {g : Store → D → D → Option D} {a b : M D} {Q : D → Sls → Store → Prop} : ev (op2S g a b) η S Q ↔ ev a η S fun x η S => ev b η S fun y η S => ∃ z, g S x y = some z ∧ Q z η S := by
  unfold op2S; simp only [ev_bind, ev_liftS]
theorem ev_opCS {g : Store → List D → Option D} {r : M (List D)} {Q : D → Sls → Store → Prop} : ev (opCS g r) η S Q ↔ ev r η S fun ds η S => ∃ z, g S ds = some z ∧ Q z η S := by
  unfold opCS; simp only [ev_bind, ev_liftS]
theorem ev_newL {g : Store → List D → Option (List D)} {r : M (List D)} {Q : List D → Sls → Store → Prop} : ev (newL g r) η S Q ↔ ev r η S fun ds η S => ∃ z, g S ds = some z ∧ Q z η S := by
  unfold newL; simp only [ev_bind, ev_liftS]
theorem ev_runFn {fn : Fn} {ds : List D} {Q : D → Sls → Store → Prop} : ev (runFn fn ds) η S Q ↔ ∃ d S', fn ds S = some (.ok d S') ∧ Q d η S' := by
  unfold ev runFn
  constructor
  · rintro ⟨a, η', S', e, q⟩
    cases h : fn ds S with
    | none => simp only [h] at e; cases e
    | some r =>
      simp only [h] at e
      cases r with
      | ok d S1 => cases e; exact ⟨_, _, rfl, q⟩
      | ex x S1 => cases e
  · rintro ⟨d, S', h, q⟩
    exact ⟨d, η, S', by simp only [h], q⟩
theorem ev_fail {Q : A → Sls → Store → Prop} : ev (M.fail : M A) η S Q ↔ False := ⟨fun ⟨_, _, _, e, _⟩ => (by cases e), False.elim⟩
theorem ite_and {c : Prop} [Decidable c] {P : Prop} : (if c then P else False) ↔ c ∧ P := by split <;> simp [*]
theorem ev_callK {fn : Fn} {ix : List Nat} {dd : List D} {n m : Nat} {r rk : M (List D)} {Q : D → Sls → Store → Prop} :
    ev (callK fn ix dd n m r rk) η S Q ↔ ev r η S fun ds η S => ev rk η S fun es η S => (ds.length = n ∧ es.length = m) ∧ ∃ d S', fn (pickL ix (ds ++ es ++ dd)) S = some (.ok d S') ∧ Q d η S' := by
  unfold callK; simp only [ev_bind, ev_ite, ev_runFn, ev_fail, ite_and]
def insD (S : Store) (cn mt : Str) (x : D) : Option Unit := match x with
  | .ob i => match S.get i with
    | some (.ins c fs) => if c = cn ∧ fs.lookup mt = none then some () else none
    | _ => none
  | _ => none
theorem isIns_eq {cn mt : Str} {x : D} : isIns cn mt x = liftS fun S => insD S cn mt x := by
  funext η S
  unfold isIns liftS insD
  cases x with
  | ob i =>
    simp only
    cases S.get i with
    | none => rfl
    | some o =>
      cases o with
      | ins c fs =>
        simp only
        by_cases hc : c = cn ∧ fs.lookup mt = none
        · rw [if_pos hc, if_pos hc]
        · rw [if_neg hc, if_neg hc]
      | box c => rfl
      | lck c => rfl
  | _ => rfl
theorem ev_methK {cn mt : Str} {fn : Fn} {ix : List Nat} {dd : List D} {n m : Nat} {o : M D} {r rk : M (List D)} {Q : D → Sls → Store → Prop} :
    ev (methK cn mt fn ix dd n m o r rk) η S Q ↔ ev o η S fun x η S => ∃ u, insD S cn mt x = some u ∧ ev r η S fun ds η S => ev rk η S fun es η S => ((x :: ds).length = n ∧ es.length = m) ∧ ∃ d S', fn (pickL ix ((x :: ds) ++ es ++ dd)) S = some (.ok d S') ∧ Q d η S' := by
  unfold methK; simp only [ev_bind, isIns_eq, ev_liftS, ev_callK, ev_ret]
def newR (r : Option Ret) (P : Store → Prop) : Prop := ∃ S', r = some (.ok .non S') ∧ P S'
theorem ev_newFn {cn : Str} {fn : Fn} {g : D → List D} {Q : D → Sls → Store → Prop} : ev (newFn cn fn g) η S Q ↔ ∃ S', fn (g (.ob S.size)) (S.push (.ins cn [])) = some (.ok .non S') ∧ Q (.ob S.size) η S' := by
  unfold ev newFn
  constructor
  · rintro ⟨a, η', S', e, q⟩
    cases h : fn (g (.ob S.size)) (S.push (.ins cn [])) with
    | none => simp only [h] at e; cases e
    | some r =>
      cases r with
      | ok d S1 => cases d <;> simp only [h] at e <;> first | cases e; done | (cases e; exact ⟨_, rfl, q⟩)
      | ex x S1 => simp only [h] at e; cases e
  · rintro ⟨S', h, q⟩
    exact ⟨_, η, S', by simp only [h], q⟩
theorem ev_makeK {cn : Str} {fn : Fn} {ix : List Nat} {dd : List D} {n m : Nat} {r rk : M (List D)} {Q : D → Sls → Store → Prop} :
    ev (makeK cn fn ix dd n m r rk) η S Q ↔ ev r η S fun ds η S => ev rk η S fun es η S => (ds.length + 1 = n ∧ es.length = m) ∧ ∃ S', fn (pickL ix ((.ob S.size :: ds) ++ es ++ dd)) (S.push (.ins cn [])) = some (.ok .non S') ∧ Q (.ob S.size) η S' := by
  unfold makeK; simp only [ev_bind, ev_ite, ev_newFn, ev_fail, ite_and]
def fldD (S : Store) (cn f : Str) (x : D) : Option D := match x with
  | .ob i => match S.get i with
    | some (.ins c fs) => if c = cn then slD (fs.lookup f) else none
    | _ => none
  | _ => none
theorem getF_eq {cn f : Str} {x : D} : getF cn f x = liftS fun S => fldD S cn f x := by
  funext η S
  unfold getF liftS fldD
  cases x with
  | ob i =>
    simp only
    cases S.get i with
    | none => rfl
    | some o =>
      cases o with
      | ins c fs =>
        simp only
        by_cases hc : c = cn
        · simp only [hc, if_true]
          cases fs.lookup f with
          | none => rfl
          | some s => cases s <;> rfl
        · simp [hc]
      | box c => rfl
      | lck c => rfl
  | _ => rfl
theorem ev_fldV {cn f : Str} {m : M D} {Q : D → Sls → Store → Prop} : ev (fldV cn f m) η S Q ↔ ev m η S fun x η S => ∃ d, fldD S cn f x = some d ∧ Q d η S := by
  unfold fldV; simp only [ev_bind, getF_eq, ev_liftS]
def putD (S : Store) (cn f : Str) (x d : D) : Option Store := match x with
  | .ob i => match S.get i with
    | some (.ins c fs) => if c = cn ∧ fs.length < 1000 ∧ ownless fs = true then some (S.put i (.ins c (putG f (.val d) fs))) else none
    | _ => none
  | _ => none
theorem ev_setFld {cn f : Str} {mo mv : M D} {Q : Fl → Sls → Store → Prop} : ev (setFld cn f mo mv) η S Q ↔ ev mv η S fun d η S => ev mo η S fun x η S => ∃ S', putD S cn f x d = some S' ∧ Q .nx η S' := by
  unfold setFld
  simp only [ev_bind]
  apply iff_of_eq; congr 1; funext d η S; congr 1; funext x η S; apply propext
  unfold ev putFld putD
  cases x with
  | ob i =>
    simp only
    cases S.get i with
    | none => simp
    | some o =>
      cases o with
      | ins c fs =>
        simp only
        by_cases hc : c = cn ∧ fs.length < 1000 ∧ ownless fs = true
        · rw [if_pos hc, if_pos hc]
          exact ⟨fun ⟨_, _, _, e, q⟩ => (by cases e; exact ⟨_, rfl, q⟩), fun ⟨_, e, q⟩ => (by cases e; exact ⟨_, _, _, rfl, q⟩)⟩
        · rw [if_neg hc, if_neg hc]
          exact ⟨fun ⟨_, _, _, e, _⟩ => (by cases e), fun ⟨_, e, _⟩ => (by cases e)⟩
      | box c => exact ⟨fun ⟨_, _, _, e, _⟩ => (by cases e), fun ⟨_, e, _⟩ => (by cases e)⟩
      | lck c => exact ⟨fun ⟨_, _, _, e, _⟩ => (by cases e), fun ⟨_, e, _⟩ => (by cases e)⟩
  | _ => exact ⟨fun ⟨_, _, _, e, _⟩ => (by cases e), fun ⟨_, e, _⟩ => (by cases e)⟩
theorem ev_boxL {r : M (List D)} {Q : D → Sls → Store → Prop} : ev (boxL r) η S Q ↔ ev r η S fun ds η S => Q (.ob S.size) η (S.push (.box (.lst ds))) := by
  unfold boxL
  simp only [ev_bind]
  apply iff_of_eq; congr 1; funext ds η S; apply propext
  exact ⟨fun ⟨_, _, _, e, q⟩ => by cases e; exact q, fun q => ⟨_, _, _, rfl, q⟩⟩
def lstC (S : Store) (x : D) : Option Unit := match x with
  | .ob n => match S.get n with
    | some (.box (.lst _)) => some ()
    | _ => none
  | _ => none
theorem isL_eq {x : D} : isL x = liftS fun S => lstC S x := by
  funext η S
  unfold isL liftS lstC
  cases x with
  | ob i =>
    simp only
    cases S.get i with
    | none => rfl
    | some o =>
      cases o with
      | ins c fs => rfl
      | box c => cases c <;> rfl
      | lck c => rfl
  | _ => rfl
def appS (S : Store) (x : D) (ds : List D) : Option Store := match x, ds with
  | .ob n, [d] => match S.get n with
    | some (.box (.lst xs)) => if xs.length < sizeLine then some (S.put n (.box (.lst (xs ++ [d])))) else none
    | _ => none
  | _, _ => none
theorem ev_appB {mo : M D} {r : M (List D)} {Q : D → Sls → Store → Prop} : ev (appB mo r) η S Q ↔ ev mo η S fun x η S => ∃ u, lstC S x = some u ∧ ev r η S fun ds η S => ∃ S', appS S x ds = some S' ∧ Q .non η S' := by
  unfold appB
  simp only [ev_bind, isL_eq, ev_liftS]
  apply iff_of_eq; congr 1; funext x η S; congr 1; funext u; congr 1; congr 1; funext ds η S; apply propext
  constructor
  · rintro ⟨a, η', S', e, q⟩
    obtain ⟨n, d, xs, rfl, rfl, hg, hl, hr⟩ := pushL_some e
    cases hr
    exact ⟨_, by simp only [appS, hg, if_pos hl], q⟩
  · rintro ⟨S', e, q⟩
    unfold appS at e
    split at e
    · rename_i n d
      split at e
      · rename_i xs hg
        split at e
        · rename_i hl
          cases e
          exact ⟨_, _, _, by simp only [pushL, hg, if_pos hl], q⟩
        · cases e
      · cases e
    · cases e
end
/-- a loop over a list of the store that stays as it is: as over its items -/
theorem ev_forB {g : D → Sls → Option Sls} {body : M Fl} {n : Nat} {xs : List D} {Q : Fl → Sls → Store → Prop} (I : List D → Sls → Store → Prop) (hI : ∀ r η S, I r η S → lstV S (.ob n) = some xs) : ∀ (i f : Nat) (η : Sls) (S : Store), I (xs.drop i) η S → i ≤ xs.length → xs.length < i + f →
    (∀ d r η S, I (d :: r) η S → ∃ η1, g d η = some η1 ∧ ev body η1 S fun f η2 S2 => match f with
      | .nx => I r η2 S2
      | .ct => I r η2 S2
      | .bk => Q .nx η2 S2
      | .rt d => Q (.rt d) η2 S2) → (∀ η S, I [] η S → Q .nx η S) → ev (forB n g body f i) η S Q
  | i, 0, η, S, h0, hi, hf, hs, he => by omega
  | i, f + 1, η, S, h0, hi, hf, hs, he => by
    have hv := hI _ _ _ h0
    by_cases hlt : i < xs.length
    · have hd : xs[i]? = some xs[i] := List.getElem?_eq_getElem hlt
      rw [List.drop_eq_getElem_cons hlt] at h0
      obtain ⟨η1, hg, fl, η2, S2, hb, q⟩ := hs _ _ η S h0
      cases fl with
      | nx =>
        obtain ⟨a, η', S', e, q'⟩ := ev_forB I hI (i + 1) f η2 S2 q (by omega) (by omega) hs he
        exact ⟨a, η', S', by unfold forB; simp only [hv, hd, hg, hb]; exact e, q'⟩
      | ct =>
        obtain ⟨a, η', S', e, q'⟩ := ev_forB I hI (i + 1) f η2 S2 q (by omega) (by omega) hs he
        exact ⟨a, η', S', by unfold forB; simp only [hv, hd, hg, hb]; exact e, q'⟩
      | bk => exact ⟨_, _, _, by unfold forB; simp only [hv, hd, hg, hb], q⟩
      | rt d => exact ⟨_, _, _, by unfold forB; simp only [hv, hd, hg, hb], q⟩
    · have hd : xs[i]? = none := List.getElem?_eq_none_iff.mpr (by omega)
      rw [List.drop_eq_nil_of_le (by omega)] at h0
      exact ⟨_, _, _, by unfold forB; simp only [hv, hd], he η S h0⟩
theorem ev_forX_ob {m : M D} {g : D → Sls → Option Sls} {body : M Fl} {η : Sls} {S : Store} {Q : Fl → Sls → Store → Prop} (h : ev m η S fun x η S => ∃ n xs, x = .ob n ∧ lstV S (.ob n) = some xs ∧ ev (forB n g body 1000000 0) η S Q) : ev (forX m g body) η S Q := by
  unfold forX seqX
  simp only [ev_bind]
  refine h.mono fun x η S ⟨n, xs, hx, hv, q⟩ => ?_
  subst hx
  exact ⟨.ob n, η, S, by simp only [chkX, hv], q⟩
end Y
/-! Z9: is True, is False; in a list of deep things. -/
namespace Y
open PySem L2
section
variable {X : Cx} {W : WX}
def isX (a b : D) : Option D := match a, b with
  | .bl x, .bl y => some (.bl (decide (x = y)))
  | a, b => isND a b
def isnotX (a b : D) : Option D := match a, b with
  | .bl x, .bl y => some (.bl (!decide (x = y)))
  | a, b => notND a b
theorem od_isX : OpR X (compareOp .Is) (Ask2 X isX) := Y.OpR.imp (Y.OpR.or op_is_bl od_is) fun x y H Q q => by
  obtain ⟨F, P, β, σ, η, S, a, b, z, s, ra, rb, e, k⟩ := q
  unfold isX at e
  split at e
  · cases e
    cases ra
    cases rb
    exact .inl ⟨_, _, rfl, rfl, k F H _ (Ex.refl _) s (.bl _)⟩
  · exact .inr ⟨F, P, β, σ, η, S, _, _, z, s, ra, rb, e, k⟩
theorem od_isnotX : OpR X (compareOp .IsNot) (Ask2 X isnotX) := Y.OpR.imp (Y.OpR.or op_isnot_bl od_isnot) fun x y H Q q => by
  obtain ⟨F, P, β, σ, η, S, a, b, z, s, ra, rb, e, k⟩ := q
  unfold isnotX at e
  split at e
  · cases e
    cases ra
    cases rb
    exact .inl ⟨_, _, rfl, rfl, k F H _ (Ex.refl _) s (.bl _)⟩
  · exact .inr ⟨F, P, β, σ, η, S, _, _, z, s, ra, rb, e, k⟩
/-- x in ys, by data at any depth -/
def inPd (a b : D) : Option Bool := match a.toP, b.toP with
  | some p, some (.list qs) => if p.depth ≤ 64 ∧ (PyData.list qs).depth ≤ 64 then some (qs.any fun z => PyData.eqv z p) else none
  | _, _ => none
theorem inPd_some {a b : D} {t : Bool} (h : inPd a b = some t) : ∃ p qs, a.toP = some p ∧ b.toP = some (.list qs) ∧ p.depth ≤ 64 ∧ (PyData.list qs).depth ≤ 64 ∧ (qs.any fun z => PyData.eqv z p) = t := by
  unfold inPd at h
  split at h
  · rename_i p qs e1 e2
    split at h
    · rename_i hd; cases h; exact ⟨p, qs, e1, e2, hd.1, hd.2, rfl⟩
    · cases h
  · cases h
def inX (a b : D) : Option D := match inD a b with
  | some d => some d
  | none => (inPd a b).map .bl
def notInX (a b : D) : Option D := match notInD a b with
  | some d => some d
  | none => (inPd a b).map fun t => .bl (!t)
theorem od_inX (hu : X.A.units + 65 < cLine) : OpR X (compareOp .In) (Ask2 X inX) := Y.OpR.imp (Y.OpR.or od_in (op_inD hu)) fun x y H Q h => by
  obtain ⟨F, P, β, σ, η, S, a, b, c, s, ra, rb, g, k⟩ := h
  unfold inX at g
  split at g
  · rename_i d q
    cases g
    exact .inl ⟨F, P, β, σ, η, S, a, b, _, s, ra, rb, q, k⟩
  · cases q : inPd a b with
    | none => rw [q] at g; cases g
    | some t =>
      rw [q] at g; cases g
      obtain ⟨p, qs, e1, e2, d1, d2, rfl⟩ := inPd_some q
      have h1 := ra.dp s.fsub e1
      have h2 := rb.dp s.fsub e2
      exact .inr ⟨p, qs, h1.1, h2.1, shaped_of h1.2 d1, shaped_of h2.2 d2, k F H _ (Ex.refl _) s (.bl _)⟩
theorem od_notInX (hu : X.A.units + 65 < cLine) : OpR X (compareOp .NotIn) (Ask2 X notInX) := Y.OpR.imp (Y.OpR.or od_notin (op_notInD hu)) fun x y H Q h => by
  obtain ⟨F, P, β, σ, η, S, a, b, c, s, ra, rb, g, k⟩ := h
  unfold notInX at g
  split at g
  · rename_i d q
    cases g
    exact .inl ⟨F, P, β, σ, η, S, a, b, _, s, ra, rb, q, k⟩
  · cases q : inPd a b with
    | none => rw [q] at g; cases g
    | some t =>
      rw [q] at g; cases g
      obtain ⟨p, qs, e1, e2, d1, d2, rfl⟩ := inPd_some q
      have h1 := ra.dp s.fsub e1
      have h2 := rb.dp s.fsub e2
      exact .inr ⟨p, qs, h1.1, h2.1, shaped_of h1.2 d1, shaped_of h2.2 d2, k F H _ (Ex.refl _) s (.bl _)⟩
theorem hu65 {k : Nat} {A : Around} (hr : Room k A) : A.units + 65 < cLine := by have := hr.un; omega
/-! ### isinstance(x, (T, U)) -/
def isi2D (T U : String) (d : D) : Option D := (d.tyN).bind fun a => (isTy a T).bind fun r => (isTy a U).map fun q => .bl (r || q)
def isi2 (T U : String) (m : M D) : M D := m.bind fun d => M.lift (isi2D T U d)
theorem isi2_some {T U : String} {d c : D} (h : isi2D T U d = some c) : ∃ a r q, d.tyN = some a ∧ isTy a T = some r ∧ isTy a U = some q ∧ c = .bl (r || q) := by
  unfold isi2D at h
  cases h1 : d.tyN with
  | none => rw [h1] at h; cases h
  | some a =>
    rw [h1] at h
    cases h2 : isTy a T with
    | none => simp [h2] at h
    | some r =>
      cases h3 : isTy a U with
      | none => simp [h2, h3] at h
      | some q =>
        simp [h2, h3] at h
        exact ⟨a, r, q, rfl, h2, h3, h.symm⟩
theorem de_isi2 {e t1 t2 : Expr} {T U : String} {x1} {m : M D} {p pt pos : Pos} (h1 : PE X t1 (tC (.ty T))) (h2 : PE X t2 (tC (.ty U))) (hg : Gl X "isinstance") (hm : X.mg "isinstance" = none) (hv : bootBuiltins "isinstance" = some (.builtin "isinstance")) (he : DE X W e m)
    (hn : ("isinstance" : Str) ≠ "__name__" := by decide) (hdb : (("isinstance" : Str) == ("__debug__" : Str)) = false := by decide)
    (hst : starEach [e, .Tuple [t1, t2] x1 pt] X.env = (false, eval e X.env) :: starEach [.Tuple [t1, t2] x1 pt] X.env := by rfl) (hs2 : starEach [.Tuple [t1, t2] x1 pt] X.env = (false, eval (.Tuple [t1, t2] x1 pt) X.env) :: starEach [] X.env := by rfl)
    (hs3 : starEach [t1, t2] X.env = (false, eval t1 X.env) :: starEach [t2] X.env := by rfl) (hs4 : starEach [t2] X.env = (false, eval t2 X.env) :: starEach [] X.env := by rfl) (hpl : (backTo pos (starEach [.Tuple [t1, t2] x1 pt] X.env)).any (·.1) = false := by rfl) :
    DE X W (.Call (.Name "isinstance" p) [e, .Tuple [t1, t2] x1 pt] [] pos) (isi2 T U m) := by
  refine PE.imp (pe_callB call_isiT hg hm hv (pa_cons he (pa_cons (pe_tup (pa_cons h1 (pa_cons h2 pa_nil hs4) hs3)) pa_nil hs2) hst) hn hdb hst hpl) fun σ H Q q => ?_
  obtain ⟨F, P, β, η, S, q⟩ := q
  refine ⟨F, P, β, η, S, (Run.bind q).imp fun d η1 S1 F1 β1 H1 s1 ⟨e1, b1, hh⟩ v rv => ?_⟩
  obtain ⟨c, ec, s, k⟩ := Run.lift hh
  obtain ⟨a, r, q, ha, hr, hq, rfl⟩ := isi2_some ec
  show (2 : Nat) ≤ sizeLine ∧ _
  refine ⟨by rw [sizeLine_eq]; decide, fun t ht => ?_⟩
  have hf := s.fnone ht
  have s' : Ste X.kw X.mg (upd F1 t (.tup [.ty T, .ty U])) P β1 σ η1 S1 (upd H1 t (.tup [.ty T, .ty U])) := s.new ht
  refine ⟨v, t, _, _, _, r || q, rfl, upd_same, .cons (.ty T) (.cons (.ty U) .nil), (rv.mono (Ex.new hf) (Bx.refl _)).tyX s'.fsub ha, ?_, k _ _ (Ex.new hf) s' _ (.bl _)⟩
  refine kitAny_cons (kit_ty (isTy_kit ha hr)) (fun hz => ?_) fun hz => by rw [hz]; rfl
  subst hz
  refine kitAny_cons (kit_ty (isTy_kit ha hq)) (fun hz => ?_) fun hz => by rw [hz]; rfl
  subst hz
  rfl
end
end Y
/-! Z10: repr of data that holds {}. -/
namespace Y
open PySem L2 PySem.Spec PyProof.Rows
mutual
def D.toW : D → Option PyData
  | .dd kvs => match kvs with
    | [] => some (.dict [])
    | _ => none
  | .tup xs => (toWs xs).map .tuple
  | .lst xs => (toWs xs).map .list
  | .non => some .none
  | .bl b => some (.bool b)
  | .int i => some (.int i)
  | .str x => some (.str x)
  | .scr ns => some (.list (ns.map .int))
  | _ => none
def toWs : List D → Option (List PyData)
  | [] => some []
  | x :: xs => match D.toW x, toWs xs with
    | some p, some ps => some (p :: ps)
    | _, _ => none
end
section
variable {prog : Program} {w : World} {h₀ : Heap}
mutual
/-- read off a heap; a dict among it is empty, and not sys.modules -/
inductive Rw (h : Heap) : Value → PyData → Prop
  | non : Rw h .none .none
  | bl (b : Bool) : Rw h (.bool b) (.bool b)
  | int (i : Int) (t : Tok) : Rw h (.int i t) (.int i)
  | str (x : Str) (t : Tok) : Rw h (.str x t) (.str x)
  | lst {a : Addr} {o : Obj} {vs : Array Value} {n : Nat} {xs : List PyData} : h.get? a = some o → o.cls = .type "list" → o.data = .seq vs n → RwL h vs.toList xs → Rw h (.ref a) (.list xs)
  | tup {a : Addr} {o : Obj} {vs : Array Value} {n : Nat} {xs : List PyData} : h.get? a = some o → o.cls = .type "tuple" → o.data = .seq vs n → RwL h vs.toList xs → Rw h (.ref a) (.tuple xs)
  | emp {a : Addr} {o : Obj} {es : Array DictEntry} {n : Nat} : h.get? a = some o → o.cls = .type "dict" → o.data = .dict es n → es.toList = [] → (a == sysModules) = false → Rw h (.ref a) (.dict [])
inductive RwL (h : Heap) : List Value → List PyData → Prop
  | nil : RwL h [] []
  | cons {v : Value} {vs : List Value} {d : PyData} {ds : List PyData} : Rw h v d → RwL h vs ds → RwL h (v :: vs) (d :: ds)
end
mutual
theorem Rw.reads : ∀ {v : Value} {d : PyData}, Rw h₀ v d → ∃ as, Reads h₀ v d as
  | _, _, .non => ⟨_, .none⟩
  | _, _, .bl b => ⟨_, .bool b⟩
  | _, _, .int i t => ⟨_, .int i t⟩
  | _, _, .str x t => ⟨_, .str x t⟩
  | _, _, .lst h1 h2 h3 q => let ⟨_, r⟩ := RwL.reads q; ⟨_, .list h1 h2 h3 r⟩
  | _, _, .tup h1 h2 h3 q => let ⟨_, r⟩ := RwL.reads q; ⟨_, .tuple h1 h2 h3 r⟩
  | _, _, .emp h1 h2 h3 e _ => ⟨_, Reads.dict (kvs := []) (as := []) (bs := []) h1 h2 h3 (by rw [e]; exact .nil) (by rw [e]; exact .nil)⟩
theorem RwL.reads : ∀ {vs : List Value} {ds : List PyData}, RwL h₀ vs ds → ∃ as, ReadsAll h₀ vs ds as
  | _, _, .nil => ⟨_, .nil⟩
  | _, _, .cons a b => let ⟨_, r⟩ := Rw.reads a; let ⟨_, q⟩ := RwL.reads b; ⟨_, .cons r q⟩
end
theorem Rw.away {a : Addr} {d : PyData} {n : Nat} {bs : List Addr} (r : Rw h₀ (.ref a) d) (hd : n < d.depth) (hb : ReadAtMost h₀ n bs) : a ∉ bs := let ⟨_, q⟩ := r.reads; not_mem_of_deeper q hd hb
theorem Rw.more {a : Addr} {d : PyData} {n : Nat} {bs : List Addr} (r : Rw h₀ (.ref a) d) (hd : n < d.depth) (hb : ReadAtMost h₀ n bs) : ReadAtMost h₀ d.depth (a :: bs) := let ⟨_, q⟩ := r.reads; ReadAtMost.cons q (Nat.le_of_lt hd) hb
mutual
theorem Rw.k : ∀ {v : Value} {d : PyData}, Rw h₀ v d → d.showable = true → d.shown.length ≤ sizeLine → ∃ bs, ReadAtMost h₀ d.depth bs ∧ ReprK prog w bs h₀ d.depth v d.shown
  | _, _, .non, _, _ => ⟨[], (fun _ z => by cases z), by simp only [PyData.shown]; exact ReprK.of_is ReprIs.none _ _ _⟩
  | _, _, .bl b, _, _ => ⟨[], (fun _ z => by cases z), by simp only [PyData.shown]; exact ReprK.of_is (ReprIs.bool b) _ _ _⟩
  | _, _, .int i t, c, _ => ⟨[], (fun _ z => by cases z), by simp only [PyData.shown]; exact ReprK.of_is (ReprIs.int t (of_decide_eq_true c)) _ _ _⟩
  | _, _, .str x t, _, z => ⟨[], (fun _ z => by cases z), by simp only [PyData.shown] at z ⊢; exact ReprK.of_is (ReprIs.str x t z) _ _ _⟩
  | _, _, .lst (vs := vs) (xs := xs) h1 h2 h3 q, c, z => by
    simp only [PyData.shown] at z
    obtain ⟨bs, hb, hk⟩ := RwL.k q (by simpa only [PyData.showable] using c) fun t ht => Nat.le_trans (listText_mem_le ht) z
    have r : Rw h₀ _ (.list xs) := .lst h1 h2 h3 q
    have hd : PyData.depthAll xs < (PyData.list xs).depth := by simp only [PyData.depth]; omega
    refine ⟨_, r.more hd hb, ?_⟩
    have na := r.away hd hb
    simp only [PyData.depth, PyData.shown]
    obtain ⟨l⟩ := vs
    cases l with
    | nil => cases q; simp only [PyData.shownAll, listText_nil]; exact ReprK.listEmpty h1 h2 h3
    | cons y l => exact ReprK.list h1 h2 h3 na (by simpa using hk.length_eq) fun i y e => hk.item i y (by simpa using e)
  | _, _, .tup (xs := xs) h1 h2 h3 q, c, z => by
    simp only [PyData.shown] at z
    obtain ⟨bs, hb, hk⟩ := RwL.k q (by simpa only [PyData.showable] using c) fun t ht => Nat.le_trans (tupleText_mem_le ht) z
    have r : Rw h₀ _ (.tuple xs) := .tup h1 h2 h3 q
    have hd : PyData.depthAll xs < (PyData.tuple xs).depth := by simp only [PyData.depth]; omega
    refine ⟨_, r.more hd hb, ?_⟩
    have na := r.away hd hb
    simp only [PyData.depth, PyData.shown]
    exact ReprK.tuple h1 h2 h3 na hk
  | _, _, .emp (es := es) h1 h2 h3 e ne, _, _ => by
    have r : Rw h₀ _ (.dict []) := .emp h1 h2 h3 e ne
    have hb : ReadAtMost h₀ 0 [] := fun _ z => by cases z
    have hd : 0 < (PyData.dict []).depth := by decide
    refine ⟨_, r.more hd hb, ?_⟩
    simp only [PyData.depth, PyData.shown, PyData.shownKv]
    exact ReprK.dict h1 h2 h3 ne (r.away hd hb) (by rw [e]; exact .nil)
theorem RwL.k : ∀ {vs : List Value} {ds : List PyData}, RwL h₀ vs ds → PyData.showableAll ds = true → (∀ t ∈ PyData.shownAll ds, t.length ≤ sizeLine) → ∃ bs, ReadAtMost h₀ (PyData.depthAll ds) bs ∧ ReprAllK prog w bs h₀ (PyData.depthAll ds) vs (PyData.shownAll ds)
  | _, _, .nil, _, _ => ⟨[], (fun _ z => by cases z), by simp only [PyData.shownAll]; exact .nil⟩
  | _, _, .cons (d := d) (ds := ds) a b, c, z => by
    simp only [PyData.showableAll, Bool.and_eq_true] at c
    simp only [PyData.shownAll, List.mem_cons] at z
    obtain ⟨b1, q1, k1⟩ := Rw.k a c.1 (z _ (.inl rfl))
    obtain ⟨b2, q2, k2⟩ := RwL.k b c.2 fun t ht => z t (.inr ht)
    have l1 : d.depth ≤ PyData.depthAll (d :: ds) := by simp only [PyData.depthAll]; omega
    have l2 : PyData.depthAll ds ≤ PyData.depthAll (d :: ds) := by simp only [PyData.depthAll]; omega
    refine ⟨b1 ++ b2, (q1.mono l1).append (q2.mono l2), ?_⟩
    simp only [PyData.shownAll]
    exact .cons ((k1.more fun _ m => List.mem_append_left _ m).level_le l1) (k2.more_le (fun _ m => List.mem_append_right _ m) l2)
end
/-- repr of what is read so -/
theorem Rw.call {v : Value} {d : PyData} {A : Around} {E : Value → Shared → Prop} {s : Shared} {Q : Value → Shared → Prop} (r : Rw s.heap v d) (c : d.showable = true) (z : d.shown.length ≤ sizeLine) (hg : A.guards = some []) (hu : A.units + (d.depth + 1) < cLine)
    (hQ : ∀ h' u tk, (∀ b o, s.heap.get? b = some o → h'.get? b = some o) → Q (.str d.shown u) { s with heap := h', toks := tk }) : wpAny (model prog w) A (call (.builtin "repr") [v]) Q E s := by
  have hg1 : A.in1.guards = some [] := hg
  cases r with
  | non => exact PySem.P.repr_of_none (hQ s.heap _ _ fun _ _ e => e)
  | bl b => exact PySem.P.repr_of_bool (hQ s.heap _ _ fun _ _ e => e)
  | int i t => exact PySem.P.repr_of_int (of_decide_eq_true c) (hQ s.heap _ _ fun _ _ e => e)
  | str x t => simp only [PyData.shown] at z; exact PySem.P.repr_of_str (hQ s.heap _ _ fun _ _ e => e) z
  | @lst a o vs n xs h1 h2 h3 q =>
    simp only [PyData.shown] at z
    obtain ⟨bs, hb, hk⟩ := RwL.k (prog := prog) (w := w) q (by simpa only [PyData.showable] using c) fun t ht => Nat.le_trans (listText_mem_le ht) z
    have na := (Rw.lst h1 h2 h3 q).away (by simp only [PyData.depth]; omega) hb
    simp only [PyData.depth] at hu
    simp only [PyData.shown] at hQ
    refine call_repr_slot (by omega) ⟨o, h1, h2⟩ F.slot_list_repr.toG ?_
    obtain ⟨l⟩ := vs
    cases l with
    | nil =>
      cases q
      simp only [PyData.shownAll, listText_nil] at hQ
      exact call_list_repr_empty ⟨o, h1, h2⟩ h1 h3 ⟨_, _, rfl, hQ s.heap _ _ fun _ _ e => e⟩
    | cons y l => exact call_list_reprK h1 h2 h3 na (by simpa using hk.length_eq) (fun i y e => hk.item i y (by simpa using e)) hg1 (fun b _ => Clear.nil b) (by show A.units + 1 + _ < cLine; omega) (fun _ _ e => e) (fun h' u tk k => ⟨_, _, rfl, hQ h' u tk k⟩) z
  | @tup a o vs n xs h1 h2 h3 q =>
    simp only [PyData.shown] at z
    obtain ⟨bs, hb, hk⟩ := RwL.k (prog := prog) (w := w) q (by simpa only [PyData.showable] using c) fun t ht => Nat.le_trans (tupleText_mem_le ht) z
    have na := (Rw.tup h1 h2 h3 q).away (by simp only [PyData.depth]; omega) hb
    simp only [PyData.depth] at hu
    simp only [PyData.shown] at hQ
    refine call_repr_slot (by omega) ⟨o, h1, h2⟩ F.slot_tuple_repr ?_
    exact call_tuple_reprK h1 h2 h3 na hk hg1 (fun b _ => Clear.nil b) (by show A.units + 1 + _ < cLine; omega) (fun _ _ e => e) (fun h' u tk k => ⟨_, _, rfl, hQ h' u tk k⟩) z
  | @emp a o es n h1 h2 h3 e ne =>
    have hb : ReadAtMost s.heap 0 [] := fun _ z => by cases z
    have na := (Rw.emp h1 h2 h3 e ne).away (by decide) hb
    have hu : A.units + 2 < cLine := hu
    simp only [PyData.shown, PyData.shownKv] at hQ z
    refine call_repr_slot (by omega) ⟨o, h1, h2⟩ F.slot_dict_repr ?_
    exact call_dict_reprK (d := 0) h1 h2 h3 ne na (by rw [e]; exact .nil) hg1 (fun b _ => Clear.nil b) (by show A.units + 1 + _ < cLine; omega) (fun _ _ e => e) (fun h' u tk k => ⟨_, _, rfl, hQ h' u tk k⟩) z
end
section
variable {X : Cx} {pins : List (Addr × Obj)} {σ : L2.St} {H F : Hp} {s : Shared} {β : Nat → Option Addr}
theorem ints_rw : ∀ (ns : List Int) {us : List Value}, Vals (ns.map V.int) us → RwL s.heap us (ns.map .int)
  | [], _, r => by cases r; exact .nil
  | n :: ns, _, r => by
    cases r with
    | cons r1 r2 =>
      obtain ⟨t, rfl⟩ := r1
      exact .cons (.int n t) (ints_rw ns r2)
mutual
theorem R.rw (e : Ex F H) (I : Inv X pins σ H s) : ∀ {v : V} {d : D} {p : PyData} {u : Value}, R X.kw F β v d → RelV v u → d.toW = some p → Rw s.heap u p
  | _, _, p, u, .non, r, q => by cases q; cases r; exact .non
  | _, _, p, u, .bl b, r, q => by cases q; cases r; exact .bl b
  | _, _, p, u, .int i, r, q => by cases q; obtain ⟨t, rfl⟩ := r; exact .int i t
  | _, _, p, u, .str (x := x) _, r, q => by cases q; obtain ⟨t, rfl⟩ := r; exact .str x t
  | _, _, p, u, .ty _, r, q => by cases q
  | _, _, p, u, .tup (ds := ds) h l a, r, q => by
    simp only [D.toW, Option.map_eq_some_iff] at q
    obtain ⟨ps, hp, rfl⟩ := q
    cases r
    obtain ⟨its, rv, ⟨o, ho, hc, n, hd⟩, _⟩ := I.tuple (e.t h)
    exact .tup ho hc hd (by simpa using RAll.rw e I a rv hp)
  | _, _, p, u, .lst (ds := ds) h l a, r, q => by
    simp only [D.toW, Option.map_eq_some_iff] at q
    obtain ⟨ps, hp, rfl⟩ := q
    cases r
    obtain ⟨its, rv, ⟨o, n, ho, hc, _, hd⟩, _⟩ := I.list (SqL.of (e _ _ h))
    exact .lst ho hc hd (by simpa using RAll.rw e I a rv hp)
  | _, _, p, u, .scr (ns := ns) h l, r, q => by
    cases q
    cases r
    obtain ⟨its, rv, ⟨o, n, ho, hc, _, hd⟩, _⟩ := I.list (e.l h)
    exact .lst ho hc hd (by simpa using ints_rw ns rv)
  | _, _, p, u, .d0 h, r, q => by
    cases q
    cases r
    obtain ⟨_, hne, vs, hk, o, es, ep, ho, hx, hd, _, hp, _⟩ := dk_of I.hok (e _ _ h)
    cases hk
    have hn : es.toList = [] := by
      cases hh : es.toList with
      | nil => rfl
      | cons a b => rw [hh] at hp; cases hp
    exact .emp ho hx.1 hd hn hne
  | _, _, p, u, .ob _, r, q => by cases q
  | _, _, p, u, .ss _ _, r, q => by cases q
  | _, _, p, u, .exn _ _, r, q => by cases q
  | _, _, p, u, .exf _ _ _ _ _, r, q => by cases q
theorem RAll.rw (e : Ex F H) (I : Inv X pins σ H s) : ∀ {vs : List V} {ds : List D} {ps : List PyData} {us : List Value}, RAll X.kw F β vs ds → Vals vs us → toWs ds = some ps → RwL s.heap us ps
  | _, _, _, _, .nil, r, q => by cases q; cases r; exact .nil
  | _, _, _, _, .cons (d := d) (ds := ds) h a, r, q => by
    cases r with
    | cons r1 r2 =>
      cases e1 : d.toW with
      | none => simp [toWs, e1] at q
      | some p =>
        cases e2 : toWs ds with
        | none => simp [toWs, e1, e2] at q
        | some ps =>
          simp only [toWs, e1, e2, Option.some.injEq] at q
          subst q
          exact .cons (R.rw e I h r1 e1) (RAll.rw e I a r2 e2)
end
end
def reprW (ds : List D) : Option D := match ds with
  | [d] => (d.toW).bind showP
  | _ => none
theorem cd_reprW {X : Cx} (hG : X.A.guards = some []) (hu : X.A.units + 64 < cLine) : CallR X (.builtin "repr") (AskC X reprW) := by
  intro pins s σ H xs us Q I rx q
  obtain ⟨F, P, β, σ', η, S, ds, c, st, ra, e, k⟩ := q
  unfold reprW at e
  split at e
  · rename_i d
    cases qp : d.toW with
    | none => rw [qp] at e; cases e
    | some p =>
      rw [qp] at e
      have e : showP p = some c := e
      unfold showP at e
      split at e
      · rename_i hp
        obtain ⟨h1, h2, h3, h4⟩ := hp
        cases e
        cases ra with
        | cons r1 r2 =>
          cases r2
          cases rx with
          | cons u1 u2 =>
            cases u2
            exact (r1.rw st.fsub I u1 qp).call h1 h3 hG (by omega) fun h' u tk hk => ⟨.str p.shown, H, I.kept (t' := tk) hk, ⟨u, rfl⟩, k F H _ (Ex.refl F) st (.str h4)⟩
      · cases e
  · cases e
end Y
/-! Z11: x == [], x != [] of any list. -/
namespace Y
open PySem L2 PySem.Spec PyProof.Rows
section
variable {X : Cx}
theorem isl_of {pins : List (Addr × Obj)} {σ : L2.St} {H : Hp} {s : Shared} (I : Inv X pins σ H s) {a : Addr} {xs : List V} (h : SqL X.K H a xs) : ∃ its : Array Value, s.heap.IsList a its ∧ its.size = xs.length := by
  obtain ⟨its, rv, ⟨o, n, ho, hc, _, hd⟩, _⟩ := I.list h
  exact ⟨_, ⟨o, ho, hc, n, hd⟩, by simp [rv.length]⟩
def rEmp (K : PySem.W.Frag) (k : Bool) : R2 := fun x y H Q => ∃ (a b : Addr) (xs : List V), x = .ref a ∧ y = .ref b ∧ SqL K H a xs ∧ SqL K H b [] ∧ Q (.bl (if k then xs.isEmpty else !xs.isEmpty)) H
theorem op_eqE (hu : X.A.units < cLine) : OpR X (compareOp .Eq) (rEmp X.K true) := by
  intro pins s σ H x y v u Q I rx ry h
  obtain ⟨a, b, xs, rfl, rfl, ha, hb, q⟩ := h
  cases rx; cases ry
  obtain ⟨i1, l1, z1⟩ := isl_of I ha
  obtain ⟨i2, l2, z2⟩ := isl_of I hb
  have z2 : i2.size = 0 := z2
  by_cases e : xs.length = 0
  · have : xs.isEmpty = true := by simpa using e
    have he : (List.range i1.size).all (fun _ => true) = true := by simp
    refine (SeqAt.RcAt.lists (e := fun _ => true) l1 l2 (by omega) hu fun j h1 _ => absurd h1 (by omega)) X.prog X.w _ _ ?_
    rw [he]
    exact ⟨.bl true, H, I, rfl, by simpa [this] using q⟩
  · have : xs.isEmpty = false := by cases xs <;> simp_all
    refine (SeqAt.RcAt.lists_lengths l1 l2 (by simp; omega) hu) X.prog X.w _ _ ?_
    exact ⟨.bl false, H, I, rfl, by simpa [this] using q⟩
theorem op_neE (hu : X.A.units < cLine) : OpR X (compareOp .NotEq) (rEmp X.K false) := by
  intro pins s σ H x y v u Q I rx ry h
  obtain ⟨a, b, xs, rfl, rfl, ha, hb, q⟩ := h
  cases rx; cases ry
  obtain ⟨i1, l1, z1⟩ := isl_of I ha
  obtain ⟨i2, l2, z2⟩ := isl_of I hb
  have z2 : i2.size = 0 := z2
  by_cases e : xs.length = 0
  · have : xs.isEmpty = true := by simpa using e
    have he : (List.range i1.size).all (fun _ => true) = true := by simp
    refine (SeqAt.RcNeAt.lists (e := fun _ => true) l1 l2 (by omega) hu fun j h1 _ => absurd h1 (by omega)) X.prog X.w _ _ ?_
    rw [he]
    exact ⟨.bl false, H, I, rfl, by simpa [this] using q⟩
  · have : xs.isEmpty = false := by cases xs <;> simp_all
    refine (SeqAt.RcNeAt.lists_lengths l1 l2 (by simp; omega) hu) X.prog X.w _ _ ?_
    exact ⟨.bl true, H, I, rfl, by simpa [this] using q⟩
def eqN (a b : D) : Option D := match a, b with
  | .lst xs, .lst [] => some (.bl xs.isEmpty)
  | a, b => eqD a b
def neN (a b : D) : Option D := match a, b with
  | .lst xs, .lst [] => some (.bl (!xs.isEmpty))
  | a, b => neD a b
theorem RAll.empty {K : KW} {F : Hp} {β : Nat → Option Addr} {vs : List V} {ds : List D} (h : RAll K F β vs ds) : vs.isEmpty = ds.isEmpty := by cases h <;> rfl
theorem od_eqN (hu : X.A.units + 64 < cLine) : OpR X (compareOp .Eq) (Ask2 X eqN) := Y.OpR.imp (Y.OpR.or (op_eqE (by omega)) (od_eq hu)) fun x y H Q h => by
  obtain ⟨F, P, β, σ, η, S, a, b, c, s, ra, rb, g, k⟩ := h
  unfold eqN at g
  split at g
  · cases g
    cases ra with
    | lst h1 l1 a1 => cases rb with
      | lst h2 l2 a2 =>
        cases a2
        exact .inl ⟨_, _, _, rfl, rfl, SqL.of (s.fsub _ _ h1), SqL.of (s.fsub _ _ h2), k F H _ (Ex.refl F) s (by rw [if_pos rfl, a1.empty]; exact .bl _)⟩
  · exact .inr ⟨F, P, β, σ, η, S, a, b, c, s, ra, rb, g, k⟩
theorem od_neN (hu : X.A.units + 64 < cLine) : OpR X (compareOp .NotEq) (Ask2 X neN) := Y.OpR.imp (Y.OpR.or (op_neE (by omega)) (od_ne hu)) fun x y H Q h => by
  obtain ⟨F, P, β, σ, η, S, a, b, c, s, ra, rb, g, k⟩ := h
  unfold neN at g
  split at g
  · cases g
    cases ra with
    | lst h1 l1 a1 => cases rb with
      | lst h2 l2 a2 =>
        cases a2
        exact .inl ⟨_, _, _, rfl, rfl, SqL.of (s.fsub _ _ h1), SqL.of (s.fsub _ _ h2), k F H _ (Ex.refl F) s (by rw [if_neg (by decide), a1.empty]; exact .bl _)⟩
  · exact .inr ⟨F, P, β, σ, η, S, a, b, c, s, ra, rb, g, k⟩
end
end Y
/-! Z12: try .. except C as n, where the exception that is caught stays known behind the suite. -/
namespace Y
open PySem L2 PySem.Spec PyProof.Rows
section
variable {X : Cx} {pins : List (Addr × Obj)} {σ : L2.St} {H : Hp} {s : Shared}
theorem xo_there {P : Program} {w : World} {Hx : Hp} {h : Heap} {a C : Addr} {d : Option Addr} {oe : Obj} {vs : Array Value} (ha : h.get? a = some oe) (hz : Zc (.ref C) d oe) (hd : oe.data = .fields vs) : ObjOk P w Hx h a (XO C d a) :=
  ⟨⟨oe, vs, ha, hz.1, hz.2, hd⟩, ⟨oe, ha⟩, fun _ _ ⟨o1, v1, q1, q2, q3, q4⟩ kk => ⟨o1, v1, kk _ q1, q2, q3, q4⟩⟩
/-- an exception that has come down, tracked from here on -/
theorem come_down {B : Heap} {a C : Addr} {d : Option Addr} {sI s' : Shared} {h4 : Heap} (I : Inv X pins σ H sI) (nb : ∀ b o, sI.heap.get? b = some o → b ∉ frs X.stack → B.get? b = some o) (ff : HandSPX.FlyingZ B X.stack a (Zc (.ref C) d) h4)
    (up : sI.heap.UpToSlots h4) (na : H a = none) (os : s'.os = sI.os) (ag : AllBare s'.gens) : Inv X pins σ (upd H a (XO C d a)) { s' with heap := h4 } ∧ a ∉ frs X.stack := by
  obtain ⟨st, hBa, hfr, oe, vs, T, oT, ts, he, hz, hdat, _⟩ := ff
  have away : a ∉ frs X.stack := fun hm => by
    obtain ⟨_, o2, e2, hnf⟩ := hfr.mem hm
    rw [he] at e2; cases e2
    exact hnf _ hdat
  have noI : ∀ b o, sI.heap.get? b = some o → b ≠ a := fun b o eb z => by
    subst z
    have := nb _ _ eb away
    rw [hBa] at this; cases this
  obtain ⟨G, g1, g2⟩ := restrict h4 fun b => decide (b ≠ a)
  have same : ∀ b, b ≠ a → G.get? b = h4.get? b := fun b z => g1 b (decide_eq_true z)
  have gone : G.get? a = none := g2 a (decide_eq_false fun z => z rfl)
  have stG : B.StaysIn G := fun b o eb => by
    have nz : b ≠ a := fun z => by rw [z, hBa] at eb; cases eb
    exact (same b nz).trans (st b o eb)
  have upG : sI.heap.UpToSlots G := fun b o eb hn => by
    obtain ⟨sl, q⟩ := up b o eb hn
    exact ⟨sl, (same b (noI b o eb)).trans q⟩
  have JG : Inv X pins σ H { s' with heap := G } := I.landed nb stG upG os ag
  have le : ∀ b o, G.get? b = some o → h4.get? b = some o := fun b o eb => by
    by_cases z : b = a
    · rw [z, gone] at eb; cases eb
    · exact (same b z).symm.trans eb
  exact ⟨JG.laidN (t' := s'.toks) (h' := h4) le gone na (xo_there he hz hdat), away⟩
theorem to_suite (I : Inv X pins σ H s) (a : Addr) : Inv (X.suite a (X.pn ++ pins)) [] σ H s :=
  ⟨I.ok.suite _ _, I.os, I.bare, I.base, I.loc, I.cell, I.free, I.freeC, fun p hp => I.pin p (by rwa [List.append_nil] at hp), I.hok, I.len⟩
theorem from_suite {a : Addr} {qs : List (Addr × Obj)} (I : Inv (X.suite a (X.pn ++ pins)) qs σ H s) (ok : X.Ok) : Inv X pins σ H s :=
  ⟨ok, I.os, I.bare, I.base, I.loc, I.cell, I.free, I.freeC, fun p hp => I.pin p (List.mem_append_left _ hp), I.hok, I.len⟩
end
/-- the ends of a suite: its name goes -/
def endsOf (i : Nat) (D : Ends) : Ends := { nx := fun τ H' => D.nx (τ.set i none) H', rt := D.rt, bk := fun τ H' => D.bk (τ.set i none) H', ct := fun τ H' => D.ct (τ.set i none) H' }
/-- what the clause wishes of the body's exceptions -/
def wKept (K : PySem.W.Frag) (c : Value) (i : Nat) (ts : Addr → TS) (Wout : WX) (D : Ends) : WX := fun cls d σ H => ∃ b, PySem.W.exmOne K cls c = some b ∧
  (b = true → ∃ C, cls = .ref C ∧ ∀ a, H a = none → ts a (endsOf i D) (σ.set i (some (.ref a))) (upd H a (XO C d a))) ∧ (b = false → Wout cls d σ H)
section
variable {X : Cx} {x n : Str} {c : Value} {i : Nat} {body suite : List Stmt} {b₀ : Stmt} {np pos pos' : Pos} {tb : WX → TS} {ts : Addr → TS} {Wout : WX}
theorem ps_try_kept (hs : X.stack = X.env :: X.outer) (hf : X.env.frame = some X.env.locals) (hN : X.N.Nodup) (hi : X.N[i]? = some n) (hln : X.env.kindOf n = some .local) (hc : Names X x c) (tk : Takes X Wout)
    (hb : ∀ (W : WX) (pn : List (Addr × Obj)) (xe : Value → Shared → Prop), Takes (X.tr pn xe) W → PassesOwn (model X.prog X.w) X.A X.env xe → PSs (X.tr pn xe) body (tb W))
    (hsu : ∀ (a : Addr) (pn : List (Addr × Obj)), PSs (X.suite a pn) (b₀ :: suite) (ts a)) :
    PS X (.Try body [.ExceptHandler (some (.Name x np)) (some n) (b₀ :: suite) pos'] [] [] pos) (fun D σ H => tb (wKept X.K c i ts Wout D) D σ H) := by
  refine ⟨fun pins s σ H D I0 hyp => ?_⟩
  have okX := I0.ok
  have frX : X.A.frames = some (X.env :: X.outer) := okX.frames.trans (congrArg some hs)
  have lX : Loc X.env.scope n := .inl hln
  have start := (hb (wKept X.K c i ts Wout D) (X.pn ++ pins) (fun ex sx => wpAny (model X.prog X.w) X.A (noteFrame ex X.env) (fun _ sy => wpAny (model X.prog X.w) X.A (setFlight ex none) (fun _ sz =>
      wpAny (model X.prog X.w) X.A (handleBy ex X.env [.ExceptHandler (some (.Name x np)) (some n) (b₀ :: suite) pos']) (SP X pins D) X.xe sz) X.xe sy) X.xe sx) ?hcatch PassesOwn.looking).run [] s σ H D (I0.toTry _) hyp
  case hcatch =>
    intro uv sv air
    obtain ⟨a, B, sI, pnsI, τ, Hτ, cls, d, rfl, JI, nb, up, sky, na, osq, agq, b, isb, yes, no⟩ := air
    have JX : Inv X pins τ Hτ sI := JI.ofTry okX
    have skyX : Sky B (X.env :: X.outer) a (Zc cls d) X.env.locals sv.heap := by rw [← hs]; exact sky
    show wpAny (model X.prog X.w) X.A (noteFrame (.ref a) X.env) _ _ _
    refine Sky.land Zc.steady frX hf skyX fun h3 f3 u3 => ?_
    have f3' : HandSPX.FlyingZ B X.stack a (Zc cls d) h3 := by rw [hs]; exact f3
    have J3 : Inv X pins τ Hτ { sv with heap := h3 } := JX.landed nb f3.1 (up.trans u3) osq agq
    obtain ⟨o3, v3, e3, z3, d3⟩ := f3.there
    have S3 : Inv (X.suite a (X.pn ++ pins)) [] τ Hτ { sv with heap := h3 } := to_suite J3 a
    refine wpAny_handleBy_cons (codeAny_handlers_test ?_) (fun z => nomatch z)
    have ty3 : PySem.W.Looks (model X.prog X.w) h3 (typeOf (.ref a)) cls := fun A0 Q0 E0 s0 k0 q0 => wpAny_typeOf_ref (k0 _ _ e3) (by rw [z3.1]; exact q0)
    have hit := PySem.W.exm_one (M := model X.prog X.w) J3.kIn ty3 isb
    have name : ∀ {Q0 : Value → Shared → Prop} {E0 : Value → Shared → Prop}, Q0 c { sv with heap := h3 } → wpAny (model X.prog X.w) (X.A.mark (some (.ref a))) (eval (.Name x np) X.env) Q0 E0 { sv with heap := h3 } := by
      intro Q0 E0 q0
      obtain ⟨gl, db, mgx | ⟨mgx, bt, nn⟩⟩ := hc
      · exact ld_glob (X := X.suite a (X.pn ++ pins)) S3 gl mgx q0 db
      · exact ld_blt (X := X.suite a (X.pn ++ pins)) S3 gl mgx bt q0 nn db
    refine name (hit.here ?_)
    cases b with
    | false =>
      show wpAny _ X.A (handleBy (.ref a) X.env []) _ _ _
      refine wpAny_handleBy_nil ?_
      obtain ⟨_, _, _, oy, vy, Ty, oTy, tsy, ey, zy, dy, y1, _⟩ := id f3
      unfold PySem.passOn
      refine wpAny_bind (wpAny_field ey dy y1 ?_)
      rw [if_neg (show ¬ ((Value.ref Ty == Value.none) = true) by simp)]
      have out : wpAny (model X.prog X.w) X.A (setFlight (.ref a) X.env.frame) (fun _ sw => wpAny (model X.prog X.w) X.A (throw (.ref a) : Sem Flow) (SP X pins D) X.xe sw) X.xe { sv with heap := h3 } := by
        rw [hf]
        exact HandSPX.setFlight_upZ f3 fun h4 held u4 => wpAny_throw (tk _ _ ⟨a, B, sI, pins, τ, Hτ, cls, d, rfl, JX, nb, (up.trans u3).trans u4, .inr (.inr (by rw [hs]; exact held)), na, osq, agq, no rfl⟩)
      first
        | exact wpAny_bind (wpAny_pure (wpAny_bind out))
        | exact wpAny_bind out
    | true =>
      obtain ⟨C, rfl, go⟩ := yes rfl
      refine codeAny_handlers_suite_as (HandSPX.lands_againZ f3 fun h4 f4 u4 => ?_)
      have f4' : HandSPX.FlyingZ B X.stack a (Zc (.ref C) d) h4 := by rw [hs]; exact f4
      obtain ⟨J4, _⟩ := come_down (s' := sv) JX nb f4' ((up.trans u3).trans u4) na osq agq
      refine store_ok (X := X.suite a (X.pn ++ pins)) (v := .ref a) (to_suite J4 a) hN hi lX rfl (fun s5 S5 => ?_) (.inr hln)
      refine wpAny_mono ((hsu a (X.pn ++ pins)).run [] s5 _ _ _ S5 (go a na)) (fun fl s6 hf6 => ?_) fun _ _ z => z.elim
      have last : ∀ {τ6 : L2.St} {H6 : Hp} {Q6 : Shared → Prop}, Inv (X.suite a (X.pn ++ pins)) [] τ6 H6 s6 → (∀ s7, Inv X pins (τ6.set i none) H6 s7 → Q6 s7) → wpAny (model X.prog X.w) X.A (do bindName X.env n .none; unbindBehindTheSuite X.env n pos') (fun _ s7 => Q6 s7) X.xe s6 :=
        fun S6 hq => gone_ok (from_suite S6 okX) hN hi hln hq
      match fl, hf6 with
      | .next, ⟨τ6, H6, S6, q6⟩ => exact last S6 fun s7 J7 => ⟨_, _, J7, q6⟩
      | .brk, ⟨τ6, H6, S6, q6⟩ => exact last S6 fun s7 J7 => ⟨_, _, J7, q6⟩
      | .cont, ⟨τ6, H6, S6, q6⟩ => exact last S6 fun s7 J7 => ⟨_, _, J7, q6⟩
      | .ret u, ⟨v6, τ6, H6, S6, r6, q6⟩ => exact last S6 fun s7 J7 => ⟨_, _, _, J7, r6, q6⟩
  refine wpAny_Try_except (wpAny_mono start (fun fl s1 h1 => ?_) fun _ _ z => z)
  match fl, h1 with
  | .next, ⟨τ, Hτ, J, q⟩ => exact wpAny_execs_nil ⟨τ, Hτ, J.ofTry okX, q⟩
  | .brk, ⟨τ, Hτ, J, q⟩ => exact ⟨τ, Hτ, J.ofTry okX, q⟩
  | .cont, ⟨τ, Hτ, J, q⟩ => exact ⟨τ, Hτ, J.ofTry okX, q⟩
  | .ret u, ⟨v, τ, Hτ, J, r, q⟩ => exact ⟨v, τ, Hτ, J.ofTry okX, r, q⟩
end
end Y
/-! ZE: own exception classes over ValueError, IndexError, RuntimeError, KeyError: made by an own __init__, with a field. -/
namespace Y
open PySem PySem.W PySem.Calls PyProof.Rows Builtin Builtin.ObjectAttr
/-- what the built-in part of such a class says: T is its mro, ni and ii make -/
structure XB (T : List Value) (nb ni ib ii : String) : Prop where
  nSplit : splitId ni = some (nb, "__new__")
  nKind : builtinKind ni = some .builtinFn
  nRow : Manifest.signature? ni = some ⟨.any, nb, nb, .cls, [⟨"args", .varPos, false⟩, ⟨"kwargs", .varKw, false⟩]⟩
  nHas : T.contains (.type nb) = true
  nStar : (nb != "*") = true
  nAttr : T.contains (.type "AttributeError") = false
  nName : T.contains (.type "NameError") = false
  nEnds : ni.endsWith ".__new__" = true
  nOwner : ni.dropRight 8 = nb
  nEntry : entryFor table ni = some Builtin.«BaseException.__new__»
  nCanon : Manifest.canonical ni = Manifest.canonical "BaseException.__new__"
  nQuiet : ni.startsWith "lifetime." = false
  iPlain : plainId ii = true
  iEntry : entryFor table ii = some Builtin.«BaseException.__init__»
  iSplit : splitId ii = some (ib, "__init__")
  iKind : builtinKind ii = some .slot
  iRow : Manifest.signature? ii = some ⟨.positional, "*", ib, .self, [⟨"args", .varPos, false⟩]⟩
  iHas : T.contains (.type ib) = true
  iStar : (ib != "*") = true
  pass : ∀ self : Value, refuseLoop self "__setattr__" T = pure ()
  obj : T.contains (.type "object") = true
theorem XB.of {B ni ii : String} {T : List Value} (F : ExcBaseFacts B ni ii T) (S : ∀ self : Value, refuseLoop self "__setattr__" T = pure ()) (o : T.contains (.type "object") = true) : XB T B ni B ii where
  nSplit := F.newSplit
  nKind := F.newKind
  nRow := F.newRow
  nHas := F.hasB
  nStar := F.noStar
  nAttr := F.noAttr
  nName := F.noName
  nEnds := F.ends
  nOwner := F.owner
  nEntry := F.entry
  nCanon := F.canon
  nQuiet := F.quiet
  iPlain := F.init.plain
  iEntry := F.initEntry
  iSplit := F.initSplit
  iKind := F.initKind
  iRow := F.initRow
  iHas := F.hasB
  iStar := F.noStar
  pass := S
  obj := o
abbrev tVE : List Value := [.type "ValueError", .type "Exception", .type "BaseException", .type "object"]
abbrev tIE : List Value := [.type "IndexError", .type "LookupError", .type "Exception", .type "BaseException", .type "object"]
abbrev tRE : List Value := [.type "RuntimeError", .type "Exception", .type "BaseException", .type "object"]
abbrev tKE : List Value := [.type "KeyError", .type "LookupError", .type "Exception", .type "BaseException", .type "object"]
theorem xbVE : XB tVE "ValueError" "ValueError.__new__" "ValueError" "ValueError.__init__" := XB.of F.excBase_ValueError F.store_ValueError.passes (by decide +kernel)
theorem xbIE : XB tIE "IndexError" "IndexError.__new__" "IndexError" "IndexError.__init__" := XB.of F.excBase_IndexError F.store_IndexError.passes (by decide +kernel)
theorem xbRE : XB tRE "RuntimeError" "RuntimeError.__new__" "RuntimeError" "RuntimeError.__init__" := XB.of F.excBase_RuntimeError F.store_RuntimeError.passes (by decide +kernel)
theorem xbKE : XB tKE "LookupError" "LookupError.__new__" "KeyError" "KeyError.__init__" where
  nSplit := F.excBase_LookupError.newSplit
  nKind := F.excBase_LookupError.newKind
  nRow := F.excBase_LookupError.newRow
  nHas := by decide +kernel
  nStar := by decide +kernel
  nAttr := by decide +kernel
  nName := by decide +kernel
  nEnds := F.excBase_LookupError.ends
  nOwner := F.excBase_LookupError.owner
  nEntry := F.excBase_LookupError.entry
  nCanon := F.excBase_LookupError.canon
  nQuiet := F.excBase_LookupError.quiet
  iPlain := excClass_KeyError.init.plain
  iEntry := excClass_KeyError.initEntry
  iSplit := excClass_KeyError.initSplit
  iKind := excClass_KeyError.initKind
  iRow := excClass_KeyError.initSig
  iHas := by decide +kernel
  iStar := excClass_KeyError.notStar
  pass := fun self => by kernel_rfl
  obj := by decide +kernel
/-- own classes, then T -/
def endsT (T : List Value) : List Value → Bool
  | .ref _ :: r => endsT T r
  | l => l == T
theorem endsT_has {T : List Value} {n : String} (hT : ∀ c r, T ≠ Value.ref c :: r) : ∀ {l : List Value}, endsT T l = true → l.contains (.type n) = T.contains (.type n)
  | [], e => by rw [← (beq_iff_eq.mp e : ([] : List Value) = T)]
  | .ref c :: r, e => by rw [List.contains_cons, endsT_has hT (l := r) e]; rfl
  | .none :: r, e => by rw [(beq_iff_eq.mp e : Value.none :: r = T)]
  | .ellipsis :: r, e => by rw [(beq_iff_eq.mp e : Value.ellipsis :: r = T)]
  | .notImplemented :: r, e => by rw [(beq_iff_eq.mp e : Value.notImplemented :: r = T)]
  | .bool b :: r, e => by rw [(beq_iff_eq.mp e : Value.bool b :: r = T)]
  | .int i t :: r, e => by rw [(beq_iff_eq.mp e : Value.int i t :: r = T)]
  | .float i t :: r, e => by rw [(beq_iff_eq.mp e : Value.float i t :: r = T)]
  | .str i t :: r, e => by rw [(beq_iff_eq.mp e : Value.str i t :: r = T)]
  | .bytes i t :: r, e => by rw [(beq_iff_eq.mp e : Value.bytes i t :: r = T)]
  | .type i :: r, e => by rw [(beq_iff_eq.mp e : Value.type i :: r = T)]
  | .builtin i :: r, e => by rw [(beq_iff_eq.mp e : Value.builtin i :: r = T)]
theorem endsT_pass {T : List Value} {nb ni ib ii : String} (XF : XB T nb ni ib ii) (self : Value) : ∀ {l : List Value}, endsT T l = true → refuseLoop self "__setattr__" l = pure ()
  | [], e => by rw [(beq_iff_eq.mp e : ([] : List Value) = T)]; exact XF.pass self
  | .ref c :: r, e => by rw [refuseLoop_ref]; exact endsT_pass XF self (l := r) e
  | .none :: r, e => by rw [(beq_iff_eq.mp e : Value.none :: r = T)]; exact XF.pass self
  | .ellipsis :: r, e => by rw [(beq_iff_eq.mp e : Value.ellipsis :: r = T)]; exact XF.pass self
  | .notImplemented :: r, e => by rw [(beq_iff_eq.mp e : Value.notImplemented :: r = T)]; exact XF.pass self
  | .bool b :: r, e => by rw [(beq_iff_eq.mp e : Value.bool b :: r = T)]; exact XF.pass self
  | .int i t :: r, e => by rw [(beq_iff_eq.mp e : Value.int i t :: r = T)]; exact XF.pass self
  | .float i t :: r, e => by rw [(beq_iff_eq.mp e : Value.float i t :: r = T)]; exact XF.pass self
  | .str i t :: r, e => by rw [(beq_iff_eq.mp e : Value.str i t :: r = T)]; exact XF.pass self
  | .bytes i t :: r, e => by rw [(beq_iff_eq.mp e : Value.bytes i t :: r = T)]; exact XF.pass self
  | .type i :: r, e => by rw [(beq_iff_eq.mp e : Value.type i :: r = T)]; exact XF.pass self
  | .builtin i :: r, e => by rw [(beq_iff_eq.mp e : Value.builtin i :: r = T)]; exact XF.pass self
/-- the new object -/
abbrev rawX (C tt : Addr) : Obj := { cls := .ref C, data := .fields #[.ref tt, .none, .none, .none, .bool false, .none] }
section
variable {M : Model} {A : Around} {E : Value → Shared → Prop} {hp : Heap} {gs : Array GenState} {dr : Drawn} {tk : Nat} {os : OsState}
variable {cn qn : Str} {C N : Addr} {bs bm T : List Value} {hd : Bool} {sn : List Str} {sb : List Value} {ab : Bool} {cl : Option Bool} {dl : Option Addr} {z0 z1 z2 z3 z5 : Option Value} {nb ni ib ii : String}
theorem has_cons {n : String} (e : bm.contains (.type n) = T.contains (.type n)) : (Value.ref C :: bm).contains (.type n) = T.contains (.type n) := by rw [List.contains_cons, e]; rfl
theorem chk_new (XF : XB T nb ni ib ii) (hb : ∀ n : String, bm.contains (.type n) = T.contains (.type n)) {us : List Value} {Q : Unit → Shared → Prop}
    (at_ : hp.get? C = some (excClassObj cn qn C N bs bm hd sn sb ab cl dl z0 z1 z2 z3 z5 ni)) (q : Q () ⟨hp, gs, dr, tk, os⟩) : wpAny M A (checkBuiltinCall ni ⟨.ref C :: us, []⟩) Q E ⟨hp, gs, dr, tk, os⟩ := by
  have has : (Value.ref C :: bm).contains (.type nb) = true := (has_cons (hb nb)).trans XF.nHas
  have star := XF.nStar
  simp only [checkBuiltinCall, XF.nKind, XF.nSplit, XF.nRow]
  repeat (first | refine wpAny_loadPart_at at_ ?_ | (refine wpAny_isSubtype_exc at_ ?_; rw [has]) | refine wpAny_staticBase_exc at_ ?_ | refine wpAny_madeBy_exc at_ ?_ | simp only [bne_self_eq_false, Bool.false_eq_true, if_false] | wp_step)
  exact q
theorem chk_init (XF : XB T nb ni ib ii) (hb : ∀ n : String, bm.contains (.type n) = T.contains (.type n)) {x : Addr} {ox : Obj} {us : List Value} {Q : Unit → Shared → Prop}
    (at_ : hp.get? C = some (excClassObj cn qn C N bs bm hd sn sb ab cl dl z0 z1 z2 z3 z5 ni)) (hx : hp.get? x = some ox) (cx : ox.cls = .ref C) (q : Q () ⟨hp, gs, dr, tk, os⟩) :
    wpAny M A (checkBuiltinCall ii ⟨.ref x :: us, []⟩) Q E ⟨hp, gs, dr, tk, os⟩ := by
  have has : (Value.ref C :: bm).contains (.type ib) = true := (has_cons (hb ib)).trans XF.iHas
  have star := XF.iStar
  simp only [checkBuiltinCall, XF.iKind, XF.iSplit, XF.iRow]
  repeat (first | (with_reducible refine wpAny_loadPart_at hx ?_; rw [cx]) | with_reducible refine wpAny_loadPart_at at_ ?_ | (with_reducible refine wpAny_isSubtype_exc at_ ?_; rw [has]) | wp_step)
  refine wpAny_onRaise ?_
  rw [show ∀ (u v : String) (k : Nat), Bind.check ⟨.positional, "*", ib, .self, [⟨"args", .varPos, false⟩]⟩ u v k (List.map (fun y => y.fst) ({ pos := Value.ref x :: us } : Args).kw) = pure () from fun u v k => check_star_args _ _ _ _ _ _]
  exact wpAny_pure q
end
section
variable {prog : Program} {w : World} {A : Around} {E : Value → Shared → Prop} {R : Result → Shared → Prop} {hp : Heap} {gs : Array GenState} {dr : Drawn} {tk : Nat} {os : OsState}
variable {cn qn : Str} {C N fI : Addr} {bs bm T : List Value} {hd : Bool} {sn : List Str} {sb : List Value} {ab : Bool} {cl : Option Bool} {dl : Option Addr} {z0 z1 z2 z3 z5 : Option Value} {nb ni ib ii : String}
theorem raw_new (XF : XB T nb ni ib ii) (hb : ∀ n : String, bm.contains (.type n) = T.contains (.type n)) {us : List Value} (at_ : hp.get? C = some (excClassObj cn qn C N bs bm hd sn sb ab cl dl z0 z1 z2 z3 z5 ni))
    (q : R (.ok (.ret (.ref (hp.objs.size + 1)))) ⟨(hp.push { cls := .type "tuple", data := .seq us.toArray }).push (rawX C hp.objs.size), gs, dr, tk, os⟩) (room : us.length ≤ sizeLine) :
    codeAny (model prog w) A (.builtin ni ⟨.ref C :: us, []⟩) R ⟨hp, gs, dr, tk, os⟩ := by
  have ends := XF.nEnds
  have h1 : (Value.ref C :: bm).contains (.type nb) = true := (has_cons (hb nb)).trans XF.nHas
  have h2 : (Value.ref C :: bm).contains (.type "AttributeError") = false := (has_cons (hb _)).trans XF.nAttr
  have h3 : (Value.ref C :: bm).contains (.type "NameError") = false := (has_cons (hb _)).trans XF.nName
  refine codeAny_builtinAt XF.nEntry ?_
  unfold Builtin.«BaseException.__new__»
  refine PySem.wpAt_bind ?_
  show PySem.wpAt _ _ _ (stack >>= _) _ _ _
  refine PySem.wpAt_bind (PySem.wpAt_stack fun _ _ => PySem.wpAt_of_wpAny ?_)
  wp_walk
  refine PySem.wpAt_of_wpAny ?_
  rw [XF.nOwner]
  repeat (first | with_reducible refine wpAny_madeHere_exc XF.nCanon at_ ?_ | with_reducible refine wpAny_loadPart_at at_ ?_ | (with_reducible refine wpAny_isSubtype_exc at_ ?_; first | rw [h1] | rw [h2] | rw [h3]) | wp_step)
  show R _ _
  rw [Heap.size_push]
  exact q
theorem raw_typecall (XF : XB T nb ni ib ii) (hb : ∀ n : String, bm.contains (.type n) = T.contains (.type n)) {us : List Value} {Q : Fin → Shared → Prop} (at_ : hp.get? C = some (excClassObj cn qn C N bs bm hd sn sb ab cl dl z0 z1 z2 z3 z5 ni))
    (li : W.Looks (model prog w) hp (typeLookup (.ref C) "__init__") (some (.ref fI))) (lb : ∀ self, W.Looks (model prog w) hp (bindSpecial (.ref fI) self) (.ref fI, [self])) (room : us.length ≤ sizeLine)
    (q : codeAny (model prog w) A (.call (.ref fI) ⟨.ref (hp.objs.size + 1) :: us, []⟩) (fun r sx => match r with | .ok (.ret v) => v = .none ∧ Q (.done (.ret (.ref (hp.objs.size + 1)))) sx | .ok _ => False | .error ex => E ex sx)
      ⟨(hp.push (W.kdv_tup us)).push (rawX C hp.objs.size), gs, dr, tk, os⟩) : wpAny (model prog w) A (Builtin.«type.__call__» ⟨.ref C :: us, []⟩) Q E ⟨hp, gs, dr, tk, os⟩ := by
  repeat (first | with_reducible refine wpAny_loadPart_at at_ ?_ | with_reducible refine wpAny_madeBy_exc at_ ?_ | wp_step)
  refine codeAny_call_builtin_code (Code.quiet_builtin _ XF.nQuiet) (chk_new XF hb at_ (raw_new XF hb at_ ?_ room))
  show wpAny _ _ _ _ _ _
  have le : ∀ b o, hp.get? b = some o → ((hp.push (W.kdv_tup us)).push (rawX C hp.objs.size)).get? b = some o := fun b o z => Heap.get?_push_of_some _ (Heap.get?_push_of_some _ z)
  have at1 := le _ _ at_
  have hx : ((hp.push (W.kdv_tup us)).push (rawX C hp.objs.size)).get? (hp.objs.size + 1) = some (rawX C hp.objs.size) := by heap_get
  have own : (Value.ref C :: bm).contains (.ref C) = true := by simp
  have l1 := li.keeps le
  have l2 := (lb (.ref (hp.objs.size + 1))).keeps le
  unfold isInstance
  repeat (first | with_reducible refine wpAny_loadPart_at hx ?_ | (with_reducible refine wpAny_isSubtype_exc at1 ?_; rw [own]) | wp_step)
  show wpAny _ _ (typeLookup (.ref C) _) _ _ _
  refine l1.at (wpAny_holding (wpAny_bind (l2.at (wpAny_bind (wpAny_call (codeAny_mono q fun r sx z => ?_))))))
  rcases r with ex | (v | _ | _ | _) <;> first | exact z | exact z.elim | skip
  obtain ⟨rfl, z⟩ := z
  first
    | exact wpAny_pure (wpAny_pure z)
    | (wp_walk; exact z)
theorem raw_call (XF : XB T nb ni ib ii) (hb : ∀ n : String, bm.contains (.type n) = T.contains (.type n)) {us : List Value} (at_ : hp.get? C = some (excClassObj cn qn C N bs bm hd sn sb ab cl dl z0 z1 z2 z3 z5 ni))
    (li : W.Looks (model prog w) hp (typeLookup (.ref C) "__init__") (some (.ref fI))) (lb : ∀ self, W.Looks (model prog w) hp (bindSpecial (.ref fI) self) (.ref fI, [self])) (room : us.length ≤ sizeLine)
    (q : codeAny (model prog w) (A.under (.builtin "type.__call__" ⟨.ref C :: us, []⟩)) (.call (.ref fI) ⟨.ref (hp.objs.size + 1) :: us, []⟩) (W.InitBack (hp.objs.size + 1) R) ⟨(hp.push (W.kdv_tup us)).push (rawX C hp.objs.size), gs, dr, tk, os⟩) :
    codeAny (model prog w) A (.call (.ref C) ⟨us, []⟩) R ⟨hp, gs, dr, tk, os⟩ := by
  have f1 := tc_lookup
  have f2 := tc_bind (.ref C)
  have ty : (⟨hp, gs, dr, tk, os⟩ : Shared).TypeIs (.ref C) "type" := ⟨_, at_, rfl⟩
  refine codeAny_of_tree ?_
  show wpAny _ _ (callAny (.ref C) _) _ _ _
  repeat (any_goals (first | assumption | with_reducible refine wpAny_loadPart_at at_ ?_ | wp_step))
  refine ⟨rfl, codeAny_call_builtin_at (Code.quiet_builtin _ (by decide +kernel)) entry_typeCall (wpAny_check_type_call_sub at_ (raw_typecall XF hb at_ li lb room (codeAny_mono q fun r sx z => ?_)))⟩
  rcases r with ex | (v | _ | _ | _) <;> exact z
theorem raw_init (XF : XB T nb ni ib ii) (hb : ∀ n : String, bm.contains (.type n) = T.contains (.type n)) {x t0 : Addr} {us : List Value} (at_ : hp.get? C = some (excClassObj cn qn C N bs bm hd sn sb ab cl dl z0 z1 z2 z3 z5 ni)) (hx : hp.get? x = some (rawX C t0)) (room : us.length ≤ sizeLine)
    (q : ∀ h2 t1, (∀ b o, b ≠ x → hp.get? b = some o → h2.get? b = some o) → h2.get? x = some (rawX C t1) → R (.ok (.ret .none)) ⟨h2, gs, dr, tk, os⟩) : codeAny (model prog w) A (.call (.builtin ii) ⟨.ref x :: us, []⟩) R ⟨hp, gs, dr, tk, os⟩ := by
  refine codeAny_call_builtin XF.iPlain XF.iEntry (chk_init XF hb at_ hx rfl ?_)
  wp_walk
  refine q _ hp.objs.size (fun b o ne z => ?_) ?_
  · rw [Heap.get?_update_other _ _ ne.symm]; exact Heap.get?_push_of_some _ z
  · rw [Heap.get?_update_self _ (Heap.get?_push_of_some _ hx) rfl]; rfl
/-- x.name = v, the first field of an exception -/
theorem raw_store {K : W.Frag} {name : Str} {tt : Tok} {v : Value} {x : Addr} {fv : Array Value} {cd : ClassData} (XF : XB T nb ni ib ii) (noR : ∀ c r, T ≠ Value.ref c :: r)
    (KX : K.In hp) (hx : hp.get? x = some { cls := .ref C, data := .fields fv }) (hcd : W.clsIn K C = some cd) (hm : endsT T cd.mro = true) (hh : cd.hasDict = true) (ha : W.findIn K (.ref C) name = some none)
    (q : ∀ h2 tk2 dx, (∀ b o, b ≠ x → hp.get? b = some o → h2.get? b = some o) → hp.objs.size ≤ dx → dx ≠ x → h2.get? x = some { cls := .ref C, dict := some dx, data := .fields fv } → h2.Ns1 dx (fun y => if y = name then some v else none) →
      R (.ok (.ret .none)) ⟨h2, gs, dr, tk2, os⟩) : codeAny (model prog w) A (.call (.builtin "object.__setattr__") ⟨[.ref x, .str name tt, v], []⟩) R ⟨hp, gs, dr, tk, os⟩ := by
  have inst : W.InstAt hp x { cls := .ref C, data := .fields fv } C none := ⟨hx, rfl, rfl, trivial⟩
  have so := F.store_object
  have hob : cd.mro.contains (.type "object") = true := (endsT_has noR hm).trans XF.obj
  have full : cd.mro.isEmpty = false := by
    cases hq : cd.mro with
    | nil => rw [hq] at hob; cases hob
    | cons _ _ => rfl
  have away : x ≠ hp.objs.size := Nat.ne_of_lt (Heap.lt_size hx)
  have sub : W.Looks (model prog w) hp (isInstance (.ref x) (.type "object")) true := inst.type.andThen (W.looks_mroIn KX (by unfold W.mroIn; rw [hcd, Option.bind_some, if_neg (by rw [full]; decide), hob]))
  refine codeAny_call_builtin so.slot.plain so.entry (@W.check_slot (model prog w) _ _ ⟨hp, gs, dr, tk, os⟩ "object.__setattr__" "object" "__setattr__" (.ref x) [.str name tt, v] [] _ so.kind so.split sub (so.args (.ref x) (.str name tt) v) ?_)
  have lm : W.Looks (model prog w) hp (mroOf (.ref C)) cd.mro := (W.looks_clsIn KX hcd).andThen .now
  have l3 : W.Looks (model prog w) hp (storeTaker? none) none := .now
  have lc : W.Looks (model prog w) hp (classData C) cd := W.looks_clsIn KX hcd
  rw [W.osa_eq, refuse_eq]
  refine wpAny_bind (wpAny_bind (inst.type.at (wpAny_bind (lm.at ?_))))
  rw [endsT_pass XF _ hm]
  refine wpAny_pure (wpAny_bind (inst.type.at (wpAny_bind ((W.looks_findIn KX ha).at (wpAny_bind (l3.at ?_))))))
  show wpAny _ _ (storeInOwnDict (.ref x) (.ref C) (.str name tt) name v false) _ _ _
  obtain ⟨y1, y2, y3, y4, y5, y6, y7, y8, y9, y10, y11⟩ := cd
  dsimp only at hh
  subst hh
  unfold storeInOwnDict ownDictForStores
  repeat (first | with_reducible refine PySem.HandSPX.store_in_new ?_ ?_ | with_reducible refine wpAny_loadPart_at hx ?_ | with_reducible refine lc.at ?_ | wp_step)
  · exact ⟨_, #[], _, (Heap.get?_update_ne _ _ _ _ away.symm).trans (Heap.get?_push_at rfl rfl), rfl, fun z hz => absurd hz (by simp), fun _ => rfl⟩
  · intro h2 tk2 hn same
    have hx1 : (hp.push { cls := .type "dict", data := .dict #[] }).get? x = some { cls := .ref C, data := .fields fv } := Heap.get?_push_of_some _ hx
    refine q h2 tk2 hp.objs.size (fun b o ne z => ?_) (Nat.le_refl _) away.symm ?_ hn
    · exact (same.2 b (Nat.ne_of_lt (Heap.lt_size z))).trans ((Heap.get?_update_ne _ _ _ _ ne).trans (Heap.get?_push_of_some _ z))
    · exact (same.2 x away).trans (Heap.get?_update_self _ hx1 rfl)
end
end Y
/-! ZF: such exceptions over the abstract heap: their __init__, made as a value, made to be raised, fields read, asked for their class. -/
namespace Y
open PySem L2 PySem.Spec PyProof.Rows
/-- what the written part says of such a class -/
structure XcC (K : PySem.W.Frag) (C : Addr) (ii : String) : Prop where
  cls : ∃ T nb ni ib, XB T nb ni ib ii ∧ (∀ c r, T ≠ Value.ref c :: r) ∧ ∃ nm q N bs bm sn sub ab col dd k0 k1 k2 k3 k5, K.lookup C = some (excClassObj nm q C N bs bm true sn sub ab col dd k0 k1 k2 k3 k5 ni) ∧ endsT T bm = true
  sa : PySem.W.findIn K (.ref C) "__setattr__" = some (some (.builtin "object.__setattr__"))
  exC : PySem.W.subIn K (.ref C) (.type "BaseException") = some true
  tyC : PySem.W.typeIn K (.ref C) = some (.type "type")
  kC : PySem.W.keepIn K (.ref C) = true
section
variable {X : Cx} {pins : List (Addr × Obj)} {σ : L2.St} {H : Hp} {s : Shared} {a C : Addr} {f : Str} {y : V} {u : Value} {ii : String} {A : Around} {E : Value → Shared → Prop}
theorem no_one {b : Addr} {o : HO} (h : H b = none) (h' : H a = some o) : b ≠ a := fun z => by rw [z, h'] at h; cases h
/-- the first field is stored -/
theorem store_first {Q : Unit → Shared → Prop} (XC : XcC X.K C ii) (I : Inv X pins σ H s) (ea : H a = some (exo a C none)) (nf : PySem.W.findIn X.K (.ref C) f = some none) (ry : RelV y u)
    (k : ∀ dx s2, H dx = none → dx ≠ a → Inv X pins σ (upd (upd H dx (exd dx [(f, y)])) a (exo a C (some dx))) s2 → Q () s2) : wpAny (model X.prog X.w) A (setAttr (.ref a) f u) Q E s := by
  obtain ⟨T, nb, ni, ib, XF, noR, nm, qn, N, bs, bm, sn, sub, ab, col, dd, k0, k1, k2, k3, k5, hC, tl⟩ := XC.cls
  have hcl : PySem.W.clsIn X.K C = some { name := nm, bases := bs, mro := .ref C :: bm, ns := N, qualname := qn, hasDict := true, slotNames := sn, subclasses := sub, abstract := ab, collection := col, hasDel := false } := by
    unfold PySem.W.clsIn; rw [hC] <;> rfl
  obtain ⟨t1, ho⟩ := exo_at I.hok ea
  obtain ⟨hp, g, d, t, os⟩ := s
  refine PySem.W.set_plain I.kIn (ox := { cls := .ref C, dict := none, data := .fields #[.ref t1, .none, .none, .none, .bool false, .none] }) (od := none) ⟨ho, rfl, rfl, trivial⟩ XC.sa ?_
  refine raw_store XF noR I.kIn ho hcl (show endsT T (.ref C :: bm) = true from tl) rfl nf ?_
  intro h2 tk2 dx le fresh ne hx hn
  have hnd : H dx = none := I.hok.fresh fresh
  have old : ∀ {b : Addr} {o : Obj}, hp.get? b = some o → b ≠ dx := fun {b o} z => Nat.ne_of_lt (Nat.lt_of_lt_of_le (Heap.lt_size z) fresh)
  have U : Un X.fs [] H (upd (upd H dx (exd dx [(f, y)])) a (exo a C (some dx))) hp h2 := {
    keep := fun b o z n _ _ => le b o (no_one n ea) z
    slot := fun b o z n _ _ => ⟨o.slots, le b o (no_one n ea) z⟩
    free := fun b o z n _ => (upd_ne (no_one n ea)).trans ((upd_ne (old z)).trans n)
    there := fun b o z _ => by
      by_cases hb : b = a
      · subst hb; exact ⟨_, hx⟩
      · exact ⟨o, le b o hb z⟩
    tups := fun b xs z => (upd_ne (at_ne ea z exo_tup)).trans ((upd_ne (ne_of_none z hnd)).trans z)
    frzs := fun b o v z => (upd_ne (at_ne ea z exo_frz)).trans ((upd_ne (ne_of_none z hnd)).trans z)
    tbls := fun b ps z => ⟨#[], by rw [upd_ne (at_ne ea z exo_tbl), upd_ne (ne_of_none z hnd), z]; simp⟩ }
  refine k dx _ hnd ne (I.un (t' := tk2) U ?_)
  intro b o z
  by_cases hb : b = a
  · subst hb
    rw [upd_same] at z; cases z
    exact exo_ok hx
  rw [upd_ne hb] at z
  by_cases hb2 : b = dx
  · subst hb2
    rw [upd_same] at z; cases z
    exact exd_ok hn (relO_put (fs := []) ry fun _ => True.intro)
  rw [upd_ne hb2] at z
  refine (I.hok b o z).stay (fun c v hc q => le c v ?_ q) (fun c hc => (upd_ne (at_ne ea hc exo_own)).trans ((upd_ne (ne_of_none hc hnd)).trans hc)) fun c xs hc => (upd_ne (at_ne ea hc exo_tup)).trans ((upd_ne (ne_of_none hc hnd)).trans hc)
  rcases hc with rfl | hc
  · exact hb
  · exact at_ne ea hc exo_own
/-- the built-in __init__ -/
theorem init_first {us : List Value} {Q : Value → Shared → Prop} (XC : XcC X.K C ii) (I : Inv X pins σ H s) (ea : H a = some (exo a C none)) (room : us.length ≤ sizeLine) (k : ∀ s2, Inv X pins σ H s2 → Q .none s2) :
    wpAny (model X.prog X.w) A (call (.builtin ii) (.ref a :: us)) Q E s := by
  obtain ⟨T, nb, ni, ib, XF, noR, nm, qn, N, bs, bm, sn, sub, ab, col, dd, k0, k1, k2, k3, k5, hC, tl⟩ := XC.cls
  obtain ⟨t1, ho⟩ := exo_at I.hok ea
  obtain ⟨hp, g, d, t, os⟩ := s
  refine wpAny_call (raw_init XF (fun n => endsT_has noR tl) (I.kIn _ _ hC) ho room ?_)
  intro h2 t2 le hx
  have J := I.write (t' := t) (x := a) (e := a) (o := exo a C none) (by rw [ea]; exact True.intro) (.inl rfl) le ⟨_, hx⟩ (exo_ok hx)
  have same : upd H a (exo a C none) = H := funext fun b => by
    by_cases hb : b = a
    · rw [hb, upd_same, ea]
    · rw [upd_ne hb]
  rw [same] at J
  exact k _ J
end
/-- B.__init__(self, ..) -/
def tIni (K : PySem.W.Frag) (ii : String) (ta : TA) : TE := fun σ H Q => ta σ H fun vs H1 => ∃ (a C : Addr) (ws : List V), vs = .ref a :: ws ∧ ws.length ≤ 1000 ∧ XcC K C ii ∧ H1 a = some (exo a C none) ∧ Q .non H1
/-- self.f = e, the first field -/
def tFst (K : PySem.W.Frag) (f : Str) (to te : TE) : TS := fun D σ H => te σ H fun y H1 => to σ H1 fun x H2 => ∃ (a C : Addr) (ii : String), x = .ref a ∧ XcC K C ii ∧ PySem.W.findIn K (.ref C) f = some none ∧ H2 a = some (exo a C none) ∧
  ∀ dx, H2 dx = none → dx ≠ a → D.nx σ (upd (upd H2 dx (exd dx [(f, y)])) a (exo a C (some dx)))
/-- the promise of an __init__ with one field, with none -/
def spI (C : Addr) (f : Str) : Sp := fun vs H Q _ => ∃ (a : Addr) (v : V), vs = [.ref a, v] ∧ H a = some (exo a C none) ∧ ∀ dx, H dx = none → dx ≠ a → Q .non (upd (upd H dx (exd dx [(f, v)])) a (exo a C (some dx)))
def spI0 (C : Addr) : Sp := fun vs H Q _ => ∃ a : Addr, vs = [.ref a] ∧ H a = some (exo a C none) ∧ Q .non H
section
variable {X : Cx} {o e : Expr} {es : List Expr} {ta : TA} {to te : TE} {b f : Str} {HE : Addr} {mc : Value} {p p' p1 p2 pos : Pos} {ii : String}
theorem ini_tail {pins : List (Addr × Obj)} {σ : L2.St} {H : Hp} {Q : VK} {s : Shared} (I : Inv X pins σ H s) (ha : PA X (e :: es) ta) (h : tIni X.K ii ta σ H Q) (he : starEach (e :: es) X.env = (false, eval e X.env) :: starEach es X.env) (hpl : (backTo pos (starEach es X.env)).any (·.1) = false) :
    wpAny (model X.prog X.w) X.A (callWith pos (Value.builtin ii) [] (backTo pos (starEach (e :: es) X.env)) []) (EP X pins σ Q) X.xe s := by
  refine PyProof.Rows.callWith_method1 (thn (ha.run pos pins s σ H _ I h) ?_) he hpl
  rintro us s1 ⟨vs, H1, J, rv, a, C, ws, rfl, hl, XC, ea, q⟩
  cases rv with
  | @cons _ u0 _ ur r0 rr =>
    cases (show u0 = Value.ref a from r0)
    have room : ur.length ≤ sizeLine := by have := Paired.length rr; rw [sizeLine_eq]; omega
    exact init_first XC J ea room fun s2 J2 => ⟨.non, H1, J2, rfl, q⟩
/-- B an own class that has none of its own -/
theorem pe_binit {pl : Sem Bool} (hg : Gl X b) (hm : X.mg b = some (.ref HE)) (rd : PySem.W.readsIn X.K HE mc = true) (ga : PySem.W.specialIn X.K (.ref HE) "__getattribute__" = some (some (.builtin "type.__getattribute__"))) (k : PySem.W.findCls X.K (.ref HE) mc "__init__" = some (.val (.builtin ii))) (hh : PySem.W.handedIn (.builtin ii) = true) (ha : PA X (e :: es) ta)
    (hc : eval (.Call (.Attribute (.Name b p1) "__init__" p2) (e :: es) [] pos) X.env = (do
      let ov ← eval (.Name b p1) X.env
      standAt p2.atName
      let (f, first) ← holding [ov] (getMethod ov "__init__" pl)
      callWith pos f first (backTo pos (starEach (e :: es) X.env)) (backToKw pos (keywordEach [] X.env))) := by rfl) (hdb : (b == ("__debug__" : Str)) = false := by decide)
    (he : starEach (e :: es) X.env = (false, eval e X.env) :: starEach es X.env := by rfl) (hpl : (backTo pos (starEach es X.env)).any (·.1) = false := by rfl) :
    PE X (.Call (.Attribute (.Name b p1) "__init__" p2) (e :: es) [] pos) (tIni X.K ii ta) :=
  ⟨fun pins s σ H Q I h => PySem.W.methodCall_KW (ld_glob I hg hm (PySem.W.method_cls I.kIn ga (PySem.W.cls_value I.kIn rd k hh (ini_tail (I.tok _) ha h he hpl))) hdb) hc⟩
/-- B a built-in class -/
theorem pe_tinit {pl : Sem Bool} {B : String} (hg : Gl X b) (hm : X.mg b = none) (hv : bootBuiltins b = some (.type B)) (ty : typeOf (.type B) = pure (.type "type")) (k : PySem.W.findCls X.K (.type B) (.type "type") "__init__" = some (.val (.builtin ii))) (hh : PySem.W.handedIn (.builtin ii) = true) (hn : b ≠ "__name__") (hx : Manifest.isStub B = false) (ha : PA X (e :: es) ta)
    (hc : eval (.Call (.Attribute (.Name b p1) "__init__" p2) (e :: es) [] pos) X.env = (do
      let ov ← eval (.Name b p1) X.env
      standAt p2.atName
      let (f, first) ← holding [ov] (getMethod ov "__init__" pl)
      callWith pos f first (backTo pos (starEach (e :: es) X.env)) (backToKw pos (keywordEach [] X.env))) := by rfl) (hdb : (b == ("__debug__" : Str)) = false := by decide)
    (he : starEach (e :: es) X.env = (false, eval e X.env) :: starEach es X.env := by rfl) (hpl : (backTo pos (starEach es X.env)).any (·.1) = false := by rfl) :
    PE X (.Call (.Attribute (.Name b p1) "__init__" p2) (e :: es) [] pos) (tIni X.K ii ta) := by
  constructor
  intro pins s σ H Q I h
  refine PySem.W.methodCall_KW (ld_blt I hg hm hv ?_ hn hdb) hc
  obtain ⟨m, fr⟩ := I.fr
  exact PySem.W.method_type fr I.ok.mod.kin ty hx k hh (ini_tail (I.tok _) ha h he hpl)
theorem ps_fst (ho : PE X o to) (he : PE X e te) (hs : swapsWith e (some (.Attribute o f p')) pos.line X.env = pure false := by rfl) : PS X (.Assign [.Attribute o f p'] e pos) (tFst X.K f to te) := by
  constructor
  intro pins s σ H D I h
  refine plainObj_wpAny_Assign_Attribute (thn (he.run pins s σ H _ I h) ?_) hs
  rintro v s1 ⟨y, H1, I1, ry, q1⟩
  refine thn (ho.run pins s1 σ H1 _ I1 q1) ?_
  rintro w s2 ⟨x, H2, I2, rx, a, C, ii, rfl, XC, nf, ea, q⟩
  cases (show w = Value.ref a from rx)
  exact store_first XC I2 ea nf ry fun dx s3 n ne J => ⟨σ, _, J, q dx n ne⟩
/-- the __init__ of a class with one field -/
theorem init_one {C : Addr} {x qual : Str} {st : Stmt} {fI : Addr} {fd : FuncData} {P : Program} {w : World} {K : PySem.W.Frag} {mg : Str → Option Value} {base : Heap} {s1 : Str} {msg : Str} (Fn : Fun K x qual st fI fd) (Sc : FnScope [s1, f] [s1, f] (defScope st)) (XC : XcC K C ii) (nf : PySem.W.findIn K (.ref C) f = some none)
    (hb : ∀ (cdv : Value) (A : Around) (outer : List Env) (s : Shared) (H : Hp) (E : XK), PSs (cxOf CX0 P w K mg base [s1, f] qual (defScope st) fI cdv A outer s H E).nox (defBody st)
      (tSeq (tDrop (tIni K ii (tCons (tVar 0) (tCons (tC (.str msg)) tNil)))) (tFst K f (tVar 0) (tVar 1)))) : FnOk P w K mg base CX0 1 fI fd [s1, f] (spI C f) := by
  refine Fn.ok (k := 0) Sc (fun vs H Q E ⟨a, v, e, _⟩ => by rw [e]; rfl) fun cdv A outer s H vs Q E hr h => ⟨_, hb cdv A outer s H E, ?_⟩
  obtain ⟨a, v, rfl, ea, q⟩ := h
  refine ⟨.ref a, rfl, a, C, [.str msg], rfl, (by simp), XC, ea, ?_⟩
  refine ⟨v, rfl, .ref a, rfl, a, C, ii, rfl, XC, nf, ea, fun dx n ne => q dx n ne⟩
theorem init_none {C : Addr} {x qual : Str} {st : Stmt} {fI : Addr} {fd : FuncData} {P : Program} {w : World} {K : PySem.W.Frag} {mg : Str → Option Value} {base : Heap} {s1 : Str} {msg : Str} (Fn : Fun K x qual st fI fd) (Sc : FnScope [s1] [s1] (defScope st)) (XC : XcC K C ii)
    (hb : ∀ (cdv : Value) (A : Around) (outer : List Env) (s : Shared) (H : Hp) (E : XK), PSs (cxOf CX0 P w K mg base [s1] qual (defScope st) fI cdv A outer s H E).nox (defBody st) (tDrop (tIni K ii (tCons (tVar 0) (tCons (tC (.str msg)) tNil))))) : FnOk P w K mg base CX0 1 fI fd [s1] (spI0 C) := by
  refine Fn.ok (k := 0) Sc (fun vs H Q E ⟨a, e, _⟩ => by rw [e]; rfl) fun cdv A outer s H vs Q E hr h => ⟨_, hb cdv A outer s H E, ?_⟩
  obtain ⟨a, rfl, ea, q⟩ := h
  exact ⟨.ref a, rfl, a, C, [.str msg], rfl, (by simp), XC, ea, q⟩
end
end Y
/-! ZG: own exceptions made, as values and to be raised; over data: raised, let out of defs, caught; their fields; isinstance. -/
namespace Y
open PySem L2 PySem.Spec PyProof.Rows
/-! ### C(e, ..) -/
section
variable {X : Cx} {e : Expr} {es : List Expr} {ta : TA} {x : Str} {C fI : Addr} {k : Nat} {fd : FuncData} {ps : List Str} {sp : Sp} {p pos : Pos} {ii : String}
/-- what the call of such a class leaves: behind its __init__ -/
theorem run_xc {pins : List (Addr × Obj)} {σ : L2.St} {H : Hp} {s : Shared} {us : List Value} {vs : List V} {Qi : Addr → VK} {Q : Value → Shared → Prop} (XC : XcC X.K C ii) (iC : PySem.W.findIn X.K (.ref C) "__init__" = some (some (.ref fI)))
    (tI : PySem.W.typeIn X.K (.ref fI) = some (.type "function")) (F1 : FnOk X.prog X.w X.K X.mg X.base CX0 k fI fd ps sp) (hr : Room (k + 1) X.A) (hb : Binds X.K fd ps []) (I : Inv X pins σ H s) (rv : Vals vs us) (hl : vs.length ≤ 1000)
    (h : ∀ a, H a = none → sp (.ref a :: vs) (upd H a (exo a C none)) (Qi a) (fun _ _ _ => False))
    (fin : ∀ (a : Addr) (hp2 : Heap) (s2 : Shared) (u : Value), s.heap.objs.size ≤ a → (∀ b o, s.heap.get? b = some o → hp2.get? b = some o) → Inv X pins σ (upd H a (exo a C none)) { s with heap := hp2 } →
      CE X.stack X.prog X.w (upd H a (exo a C none)) { s with heap := hp2 } (Qi a) u s2 → u = Value.none ∧ Q (.ref a) s2) :
    wpAny (model X.prog X.w) X.A (call (.ref C) us) Q X.xe s := by
  obtain ⟨T, nb, ni, ib, XF, noR, nm, qn, N, bs, bm, sn, sub, ab, col, dd, k0, k1, k2, k3, k5, hC, tl⟩ := XC.cls
  obtain ⟨hp, g, dr, tk, os⟩ := s
  have big : hp.objs.size ≤ hp.objs.size + 1 := Nat.le_succ _
  have free : H (hp.objs.size + 1) = none := I.hok.fresh big
  have hq := h _ free
  have le : ∀ b o, hp.get? b = some o → ((hp.push (PySem.W.kdv_tup us)).push (rawX C hp.objs.size)).get? b = some o := fun b o z => Heap.get?_push_of_some _ (Heap.get?_push_of_some _ z)
  have there : ((hp.push (PySem.W.kdv_tup us)).push (rawX C hp.objs.size)).get? (hp.objs.size + 1) = some (rawX C hp.objs.size) := by heap_get
  have I2 := I.laid (t' := tk) (a := hp.objs.size + 1) (o := exo (hp.objs.size + 1) C none) (h' := (hp.push (PySem.W.kdv_tup us)).push (rawX C hp.objs.size)) le big (exo_ok there)
  have rr : Vals (V.ref (hp.objs.size + 1) :: vs) (Value.ref (hp.objs.size + 1) :: us) := .cons rfl rv
  have len : (Value.ref (hp.objs.size + 1) :: us).length = ps.length := by rw [← rr.length]; exact F1.len _ _ _ _ hq
  have room : us.length ≤ sizeLine := by rw [← Paired.length rv, sizeLine_eq]; omega
  have bnd := hb _ (Value.ref (hp.objs.size + 1) :: us) I2.kIn (by rw [List.append_nil]; exact len)
  rw [List.append_nil] at bnd
  refine wpAny_call (raw_call XF (fun n => endsT_has noR tl) (I.kIn _ _ hC) (PySem.W.looks_findIn I.kIn iC) (fun self => PySem.W.bind_fn I.kIn self tI) room
    (codeAny_mono (F1.run _ X.stack _ _ ⟨Value.ref (hp.objs.size + 1) :: us, []⟩ _ _ _ (fun _ _ _ => False) (hr.make C us []) (I2.env0.make C us []) bnd rr hq) ?_))
  intro r s2 hr2
  match r, hr2 with
  | .error er, hr2 => exact False.elim hr2
  | .ok (.ret u), hr2 =>
    obtain ⟨e1, e2⟩ := fin _ _ s2 u big le I2 hr2
    exact ⟨e1, e2⟩
  | .ok .next, hr2 => exact False.elim hr2
  | .ok .brk, hr2 => exact False.elim hr2
  | .ok .cont, hr2 => exact False.elim hr2
/-- as a value -/
def tXc (C : Addr) (sp : Sp) (ta : TA) : TE := fun σ H Q => ta σ H fun vs H1 => vs.length ≤ 1000 ∧ ∀ a, H1 a = none → sp (.ref a :: vs) (upd H1 a (exo a C none)) (fun v H2 => v = .non ∧ Q (.ref a) H2) (fun _ _ _ => False)
theorem pe_xc (XC : XcC X.K C ii) (iC : PySem.W.findIn X.K (.ref C) "__init__" = some (some (.ref fI))) (tI : PySem.W.typeIn X.K (.ref fI) = some (.type "function")) (F1 : FnOk X.prog X.w X.K X.mg X.base CX0 k fI fd ps sp) (hr : Room (k + 1) X.A) (hb : Binds X.K fd ps [])
    (hg : Gl X x) (hm : X.mg x = some (.ref C)) (ha : PA X (e :: es) ta) (hdb : (x == ("__debug__" : Str)) = false := by decide) (he : starEach (e :: es) X.env = (false, eval e X.env) :: starEach es X.env := by rfl) (hpl : (backTo pos (starEach es X.env)).any (·.1) = false := by rfl) :
    PE X (.Call (.Name x p) (e :: es) [] pos) (tXc C sp ta) := by
  constructor
  intro pins s σ H Q I h
  refine wpAny_Call_Name_kw (ld_glob I hg hm ?_ hdb)
  refine PySem.W.callWith_K (h₀ := X.base) I.ok.mod.kin XC.kC (thn (ha.run pos pins s σ H _ I h) ?_) he hpl
  rintro us s1 ⟨vs, H1, I1, r1, hz, q1⟩
  refine ⟨I1.kIn, run_xc XC iC tI F1 hr hb I1 r1 hz q1 ?_⟩
  intro a hp2 s2 u big le I2 ce
  obtain ⟨v, H2, J, rv, ev, q2⟩ := I2.after ce
  subst ev
  exact ⟨rv, .ref a, H2, J, rfl, q2⟩
/-- to be raised -/
theorem pmk_xc (XC : XcC X.K C ii) (iC : PySem.W.findIn X.K (.ref C) "__init__" = some (some (.ref fI))) (tI : PySem.W.typeIn X.K (.ref fI) = some (.type "function")) (F1 : FnOk X.prog X.w X.K X.mg X.base CX0 k fI fd ps sp) (hr : Room (k + 1) X.A) (hb : Binds X.K fd ps [])
    (hg : Gl X x) (hm : X.mg x = some (.ref C)) (ha : PA X (e :: es) ta) (hdb : (x == ("__debug__" : Str)) = false := by decide) (he : starEach (e :: es) X.env = (false, eval e X.env) :: starEach es X.env := by rfl) (hpl : (backTo pos (starEach es X.env)).any (·.1) = false := by rfl) :
    PMk X (.Call (.Name x p) (e :: es) [] pos) (tMkO C sp [] ta) := by
  intro pins s σ H Q I h
  refine wpAny_Call_Name_kw (ld_glob I hg hm ?_ hdb)
  refine PySem.W.callWith_K (h₀ := X.base) I.ok.mod.kin XC.kC (thn (ha.run pos pins s σ H _ I h) ?_) he hpl
  rintro us s1 ⟨vs, H1, I1, r1, hz, q1⟩
  rw [List.append_nil] at q1
  refine ⟨I1.kIn, run_xc XC iC tI F1 hr hb I1 r1 hz q1 ?_⟩
  intro a hp2 s2 u big le I2 ce
  obtain ⟨v, H2, os2, bare2, un2, hok2, rv, ev, d, fs, ea, ed, hd1, q2⟩ := ce
  subst ev
  obtain ⟨h2, g2, d2, t2, os'⟩ := s2
  obtain ⟨h1, g1, d1, t1, os1⟩ := s1
  exact ⟨rv, mk_end (raises_own XC.exC XC.tyC) I1 big le un2 hok2 os2 bare2 ea ed hd1 q2⟩
end
/-! ### over data -/
theorem put_back {H : Hp} {a d : Addr} {o o' u w : HO} (na : H a = none) (ne : d ≠ a) : upd (del (upd (upd (upd H a o) d u) a o') a) d w = upd H d w := by
  funext b
  by_cases hb : b = d
  · rw [hb, upd_same, upd_same]
  · rw [upd_ne hb, upd_ne hb]
    by_cases ha : b = a
    · rw [ha, del_same, na]
    · rw [del_ne ha, upd_ne ha, upd_ne hb, upd_ne ha]
section
variable {X : Cx} {W : WX} {e : Expr} {x f : Str} {C fI : Addr} {k : Nat} {fd : FuncData} {ps : List Str} {p pos pos2 : Pos} {ii : String} {r : M (List D)}
def raiseF (x f : Str) (ds : List D) : M Fl := fun η S => match ds with
  | [d] => some (.ex ⟨x, [(f, d)]⟩ η S)
  | _ => none
/-- raise C(e), C with one field -/
def raiseV (x f : Str) (r : M (List D)) : M Fl := r.bind (raiseF x f)
theorem ds_raise (hc : X.calm = true) (tk : Takes X W) (XC : XcC X.K C ii) (iC : PySem.W.findIn X.K (.ref C) "__init__" = some (some (.ref fI))) (tI : PySem.W.typeIn X.K (.ref fI) = some (.type "function")) (F1 : FnOk X.prog X.w X.K X.mg X.base CX0 k fI fd ps (spI C f)) (hr : Room (k + 1) X.A) (hb : Binds X.K fd ps [])
    (hg : Gl X x) (hm : X.mg x = some (.ref C)) (ha : DA X W [e] r) (hdb : (x == ("__debug__" : Str)) = false := by decide) (he : starEach [e] X.env = (false, eval e X.env) :: starEach [] X.env := by rfl) (hpl : (backTo pos (starEach [] X.env)).any (·.1) = false := by rfl) :
    DS X W (.Raise (some (.Call (.Name x p) [e] [] pos)) none pos2) (raiseV x f r) := by
  refine PS.imp (ps_raise hc tk (pmk_xc XC iC tI F1 hr hb hg hm ha hdb he hpl)) fun Dn σ H ⟨F, P, β, η, S, q⟩ => ?_
  refine ⟨F, P, β, η, S, (Run.bindS q).imp fun ds η1 S1 F1 β1 H1 s1 ⟨e1, b1, q1⟩ vs rv => ?_⟩
  obtain ⟨res, eq, st, post⟩ := q1
  unfold raiseF at eq
  split at eq
  · rename_i d
    cases eq
    cases rv with
    | cons r1 r2 =>
      cases r2
      rename_i v
      refine ⟨by simp, fun a na => ⟨a, v, rfl, upd_same, fun dx ndx ne => ⟨rfl, dx, [(f, v)], upd_same, by rw [upd_ne ne, upd_same], ?_, ?_⟩⟩⟩
      · rw [upd_ne ne] at ndx; exact ndx
      · have nd : H1 dx = none := by rw [upd_ne ne] at ndx; exact ndx
        rw [put_back na ne]
        exact post (upd F1 dx (.xd [(f, v)])) β1 σ _ _ _ (Ex.new (st.fnone nd)) (Bx.refl _) (st.new nd) ⟨hm, dx, [(f, v)], rfl, upd_same, fun g d' hg' => by
          by_cases z : g = f
          · subst z
            simp only [List.lookup, beq_self_eq_true, Option.some.injEq] at hg'
            subst hg'
            exact ⟨v, by simp [List.lookup], r1.mono (Ex.new (st.fnone nd)) (Bx.refl _)⟩
          · have : (g == f) = false := by simpa using z
            simp [List.lookup, this] at hg'⟩
  · cases eq
/-- a def that lets exceptions out -/
theorem fn_okX {P : Program} {w : World} {K : PySem.W.Frag} {mg : Str → Option Value} {base : Heap} {qual : Str} {st : Stmt} {f : Addr} {N : List Str} {m : M Fl} (Fu : Fun K x qual st f fd) (Sc : FnScope N ps (defScope st))
    (hb : ∀ (cdv : Value) (A : Around) (out : List Env) (s : Shared) (H : Hp) (E : XK), (A.deeper (envOfC qual (defScope st) s.heap.objs.size f cdv)).guards = some [] → Room k (A.deeper (envOfC qual (defScope st) s.heap.objs.size f cdv)) →
      DSs (cxOf (L2.CX P w) P w K mg base N qual (defScope st) f cdv A out s H E) (fun cls d _ H => E cls d H) (defBody st) m) : FnG P w K mg base (L2.CX P w) (k + 1) f fd ps (spF (K, w) mg ps.length (bodyFn ps.length N.length m)) := by
  refine Fun.okG Fu Sc (fun vs H Q E ⟨F, P, β, S, ds, r, hl, e, ra, _⟩ => ra.length.trans hl) fun cdv A out s H vs Q E hg hr h => ?_
  refine ⟨_, hb cdv A out s H E hg hr, ?_⟩
  obtain ⟨F, P, β, S, ds, r, hl, e, ra, st, rp⟩ := h
  unfold bodyFn at e
  rw [if_pos hl] at e
  cases q : m (frame N.length ds) S with
  | none => rw [q] at e; cases e
  | some r1 =>
    rw [q] at e
    refine ⟨F, P, β, frame N.length ds, S, r1, q, st.begin ra N, ?_⟩
    match r1, e with
    | .ex x η1 S1, e => cases e; exact fun F' β' σ' H' cls dct e1 b1 s1 xr => rp F' β' H' cls dct e1 b1 s1.bare xr
    | .ok .nx η1 S1, e => cases e; exact fun F' β' σ' H' e1 b1 s1 => rp F' β' H' _ e1 b1 s1.bare .non
    | .ok (.rt d) η1 S1, e => cases e; exact fun F' β' σ' H' v e1 b1 s1 rv => rp F' β' H' v e1 b1 s1.bare rv
theorem body_len {n N : Nat} {m : M Fl} : ∀ ds S, ds.length ≠ n → bodyFn n N m ds S = none := fun ds S h => by unfold bodyFn; rw [if_neg h]
theorem passX {P : Program} {w : World} {X : Cx} {W : WX} (e1 : X.prog = P) (e2 : X.w = w) (tk : Takes X W) : ∀ σ, PassesAt (L2.CX P w) X σ (fun cls d H => W cls d σ H) := by subst e1 e2; exact passAt tk
theorem takes_none {X : Cx} : Takes X W0 := fun _ _ ⟨_, _, _, _, _, _, _, _, _, _, _, _, _, _, _, _, z⟩ => z.elim
end
/-! ### try: BODY except C as n: SUITE -/
def toX (x : Exn) : Option D := match x.fs with
  | [] => some (.exn x.cls)
  | [(f, d)] => some (.exf x.cls f d)
  | _ => none
def tryV (hit : Str → Option Bool) (i : Nat) (b su : M Fl) : M Fl := fun η S => match b η S with
  | some (.ex x η1 S1) => (match hit x.cls, toX x with
    | some true, some d => if i < η1.length then (match su (η1.set i (.val d)) S1 with
      | some (.ok f η2 S2) => some (.ok f (match f with | .rt _ => η2 | _ => η2.set i .un) S2)
      | _ => none) else none
    | some false, _ => some (.ex x η1 S1)
    | _, _ => none)
  | r => r
section
variable {X : Cx} {W : WX} {x n : Str} {C : Addr} {i : Nat} {body suite : List Stmt} {b₀ : Stmt} {np pos pos' : Pos} {b su : M Fl} {hit : Str → Option Bool}
theorem ds_try (hs : X.stack = X.env :: X.outer) (hf : X.env.frame = some X.env.locals) (hN : X.N.Nodup) (hi : X.N[i]? = some n) (hln : X.env.kindOf n = some .local) (hc : Names X x (.ref C)) (tk : Takes X W)
    (hh : ∀ c t, hit c = some t → ∃ Cx, X.mg c = some (.ref Cx) ∧ ClsOf X.K c Cx ∧ PySem.W.exmOne X.K (.ref Cx) (.ref C) = some t)
    (hb : ∀ (W' : WX) (pn : List (Addr × Obj)) (xe : Value → Shared → Prop), Takes (X.tr pn xe) W' → PassesOwn (model X.prog X.w) X.A X.env xe → DSs (X.tr pn xe) W' body b)
    (hsu : ∀ (a : Addr) (pn : List (Addr × Obj)), DSs (X.suite a pn) W0 (b₀ :: suite) su) :
    DS X W (.Try body [.ExceptHandler (some (.Name x np)) (some n) (b₀ :: suite) pos'] [] [] pos) (tryV hit i b su) := by
  refine PS.imp (ps_try_kept (tb := fun W' => rdS X W' b) (ts := fun _ => rdS X W0 su) hs hf hN hi hln hc tk (fun W' pn xe t po => hb W' pn xe t po) hsu) ?_
  rintro Dn σ H ⟨F, P, β, η, S, r, eq, st, post⟩
  unfold tryV at eq
  cases q : b η S with
  | none => rw [q] at eq; cases eq
  | some r1 =>
    rw [q] at eq
    refine ⟨F, P, β, η, S, r1, q, st, ?_⟩
    cases r1 with
    | ok fl η1 S1 =>
      cases eq
      cases fl <;> exact post
    | ex xx η1 S1 =>
      simp only at eq
      cases hq : hit xx.cls with
      | none => simp only [hq] at eq; cases eq
      | some t =>
        obtain ⟨Cc, mgc, clc, ex1⟩ := hh _ _ hq
        cases t with
        | false =>
          simp only [hq] at eq
          cases eq
          intro F' β' σ' H' cls dct e1 b1 s1 xr
          have hcls : cls = .ref Cc := Option.some.inj (xr.1.symm.trans mgc)
          refine ⟨false, by rw [hcls]; exact ex1, (fun z => Bool.noConfusion z), fun _ => post F' β' σ' H' cls dct e1 b1 s1 xr⟩
        | true =>
          simp only [hq] at eq
          cases hx : toX xx with
          | none => simp only [hx] at eq; cases eq
          | some d =>
            simp only [hx] at eq
            split at eq
            · rename_i hlt
              cases hsq : su (η1.set i (.val d)) S1 with
              | none => simp only [hsq] at eq; cases eq
              | some r2 =>
                cases r2 with
                | ex x2 η2 S2 => simp only [hsq] at eq; cases eq
                | ok f2 η2 S2 =>
                  simp only [hsq] at eq
                  cases eq
                  intro F' β' σ' H' cls dct e1 b1 s1 xr
                  have hcls : cls = .ref Cc := Option.some.inj (xr.1.symm.trans mgc)
                  subst hcls
                  refine ⟨true, ex1, fun _ => ⟨Cc, rfl, fun a na => ?_⟩, fun z => Bool.noConfusion z⟩
                  have fa : F' a = none := s1.fnone na
                  have s2 := s1.new (o := XO Cc dct a) na
                  have rx : R X.kw (upd F' a (XO Cc dct a)) β' (.ref a) d := by
                    obtain ⟨cn, fs⟩ := xx
                    obtain ⟨x1, x2⟩ := xr
                    match fs, x2, hx with
                    | [], x2, hx => cases hx; cases (show dct = none from x2); exact .exn clc (.inl upd_same)
                    | [(g, dd)], x2, hx =>
                      cases hx
                      obtain ⟨ad, vs, rfl, fad, lk⟩ := x2
                      obtain ⟨v, lv, rv⟩ := lk g dd (by simp [List.lookup])
                      have ne : ad ≠ a := fun z => by rw [z, fa] at fad; cases fad
                      exact .exf clc (.inl upd_same) (.inl (by rw [upd_ne ne]; exact fad)) lv (rv.mono (Ex.new fa) (Bx.refl _))
                  refine ⟨upd F' a (XO Cc dct a), P, β', η1.set i (.val d), S1, _, hsq, s2.set rx hlt, ?_⟩
                  have ee : ∀ {F2 : Hp}, Ex (upd F' a (XO Cc dct a)) F2 → Ex F F2 := fun z => (e1.trans (Ex.new fa)).trans z
                  match f2, post with
                  | .nx, post => exact fun F2 β2 σ2 H2 e2 b2 st2 => post F2 β2 _ H2 (ee e2) (b1.trans b2) (st2.forget i none)
                  | .bk, post => exact fun F2 β2 σ2 H2 e2 b2 st2 => post F2 β2 _ H2 (ee e2) (b1.trans b2) (st2.forget i none)
                  | .ct, post => exact fun F2 β2 σ2 H2 e2 b2 st2 => post F2 β2 _ H2 (ee e2) (b1.trans b2) (st2.forget i none)
                  | .rt v, post => exact fun F2 β2 σ2 H2 v2 e2 b2 st2 r2 => post F2 β2 σ2 H2 v2 (ee e2) (b1.trans b2) st2 r2
            · cases eq
end
end Y
/-! ZH: an exception's field, isinstance of own classes, calls of defs that may raise. -/
namespace PySem.W
open PySem PySem.Spec PySem.Calls PyProof.Rows
section
variable {prog : Program} {w : World} {A : Around} {E : Value → Shared → Prop} {s : Shared} {K : Frag} {x D : Addr} {ox : Obj} {od : Option Obj}
theorem data_first {C : Addr} {name : Str} {a g : Value} (hc : (clsIn K C).isSome = true) (ha : findIn K (.ref C) name = some (some a)) (hg : specialIn K a "__get__" = some (some g)) (ht : takesIn K a = some true) : findObj K C od name = some (.bind g a) := by
  obtain ⟨cd, hcd⟩ := Option.isSome_iff_exists.mp hc
  unfold findObj
  rw [hcd, Option.bind_some, ha, Option.bind_some]
  simp [hg, ht]
/-- x.__class__ of an exception, with a dict or none -/
theorem exc_class {Q : Option Value → Shared → Prop} (f1 : findIn K (.ref D) "__getattribute__" = some (some (.builtin "BaseException.__getattribute__"))) (f2 : findIn K (.ref D) "__getattr__" = some none) (f3 : subIn K (.ref D) (.type "BaseException") = some true)
    (f4 : hasDictIn K D = true) (f5 : findIn K (.ref D) "__class__" = some (some (.builtin "object.__class__"))) (f6 : specialIn K (.builtin "object.__class__") "__get__" = some (some (.builtin "getset_descriptor.__get__")))
    (f7 : takesIn K (.builtin "object.__class__") = some true) (f8 : mroIn K D (.type "object") = some true) (KX : K.In s.heap) (at_ : InstAt s.heap x ox D od) (q : Q (some (.ref D)) { s with toks := s.toks + 1 }) : wpAny (model prog w) A (getAttr? (.ref x) "__class__") Q E s := by
  have fd : findObj K D od "__class__" = some (.bind (.builtin "getset_descriptor.__get__") (.builtin "object.__class__")) := data_first (by obtain ⟨cd, hcd, _⟩ := any_some f4; rw [hcd]; rfl) f5 f6 f7
  obtain ⟨hp, g, dr, tk, os⟩ := s
  have l0 := at_.type (M := model prog w)
  have l1 := looks_findIn (M := model prog w) KX f1
  have l2 := looks_findIn (M := model prog w) KX f2
  have l3 := looks_find (M := model prog w) KX at_ fd
  have ins : Looks (model prog w) hp (isInstance (.ref x) (.type "BaseException")) true := l0.andThen (looks_subIn KX f3)
  have n0 : (false && onTheHeap (Value.builtin "BaseException.__getattribute__")) = false := rfl
  have n1 : (Value.builtin "BaseException.__getattribute__" == Value.builtin "object.__getattribute__") = false := by decide +kernel
  have n2 : (onTheHeap (Value.ref D) && Value.builtin "BaseException.__getattribute__" == Value.builtin "object.__getattribute__") = false := (congrArg (onTheHeap (Value.ref D) && ·) n1).trans (Bool.and_false _)
  unfold getAttr? getAttrBy? getAttrBy
  refine wpAny_bind (wpAny_mkText (wpAny_bind (wpAny_attempt (wpAny_holding (wpAny_bind (l0.at (wpAny_bind (l1.at ?_))))))))
  show wpAny _ _ (if (onTheHeap (Value.ref D) && Value.builtin "BaseException.__getattribute__" == Value.builtin "object.__getattribute__") = true then _ else _) _ _ _
  rw [n2, if_neg Bool.false_ne_true]
  unfold getAttrByItsOwn hookBefore
  refine wpAny_bind ?_
  rw [if_pos (show onTheHeap (Value.ref D) = true from rfl)]
  refine l2.at (wpAny_bind (wpAny_attempt (wpAny_holding ?_)))
  unfold callGetattribute
  rw [n0, if_neg Bool.false_ne_true]
  unfold boundAndCalled
  rw [PySem.F.excAttr_ValueError.ga.bind (.ref x)]
  refine wpAny_bind (wpAny_pure ?_)
  show wpAny _ _ (call (.builtin "BaseException.__getattribute__") [.ref x, .str "__class__" tk]) _ _ _
  refine wpAny_call (codeAny_call_builtin PySem.F.excAttr_ValueError.ga.plain PySem.F.entry_bexc_ga (@check_slot (model prog w) _ _ ⟨hp, g, dr, tk + 1, os⟩ "BaseException.__getattribute__" "BaseException" "__getattribute__" (.ref x) [.str "__class__" tk] [] _ (by decide +kernel) (by decide +kernel) ins (PySem.F.args_bexc_ga (.ref x) (.str "__class__" tk)) ?_))
  unfold Builtin.«object.__getattribute__»
  refine wpAny_bind (wpAny_of_eq (a := ((Value.ref x : Value), [Value.str "__class__" tk])) (by first | rfl | (simp only [slotArgs]; rfl)) ?_)
  refine wpAny_bind (wpAny_pure (wpAny_bind (l0.at (wpAny_bind (l3.at ?_)))))
  show wpAny _ _ (holding [Value.builtin "object.__class__"] (call (.builtin "getset_descriptor.__get__") [.builtin "object.__class__", .ref x, .ref D]) >>= ret) _ _ _
  refine wpAny_bind (wpAny_holding (wpAny_call (class_get (s := ⟨hp, g, dr, tk + 1, os⟩) (ox := ox) (od := od) KX at_ f8 (wpAny_pure ?_))))
  show wpAny _ _ (handedOut (.ref D)) _ _ _
  rw [handedOut_of (v := .ref D) rfl]
  first
    | exact wpAny_pure (wpAny_pure q)
    | exact wpAny_pure q
    | exact wpAny_pure (wpAny_bind (wpAny_pure (wpAny_pure q)))
theorem kit_exc (f1 : findIn K (.ref D) "__getattribute__" = some (some (.builtin "BaseException.__getattribute__"))) (f2 : findIn K (.ref D) "__getattr__" = some none) (f3 : subIn K (.ref D) (.type "BaseException") = some true)
    (f4 : hasDictIn K D = true) (f5 : findIn K (.ref D) "__class__" = some (some (.builtin "object.__class__"))) (f6 : specialIn K (.builtin "object.__class__") "__get__" = some (some (.builtin "getset_descriptor.__get__")))
    (f7 : takesIn K (.builtin "object.__class__") = some true) (f8 : mroIn K D (.type "object") = some true) : KitX K (.ref x) (.ref D) (fun h => InstAt h x ox D od) where
  ty := fun _ _ _ i => i.type
  it := fun _ _ KX _ => by
    obtain ⟨cd, hcd, _⟩ := any_some f4
    unfold clsIn at hcd
    split at hcd
    · rename_i ho
      intro A1 Q1 E1 s1 k1 q1
      unfold isType loadHead
      exact wpAny_bind (wpAny_loadPart (k1 _ _ (KX _ _ ho)) (wpAny_pure q1))
    · cases hcd
  ne := fun h tp dd its n sl KX ht => by
    obtain ⟨cd, hcd, _⟩ := any_some f4
    cases hz : (Value.ref D == Value.ref tp) with
    | false => rfl
    | true =>
      obtain rfl : D = tp := Value.ref.inj (beq_iff_eq.mp hz)
      unfold clsIn at hcd
      split at hcd
      · rename_i ho
        cases (KX _ _ ho).symm.trans ht
      · cases hcd
  ca := fun KX i q => exc_class f1 f2 f3 f4 f5 f6 f7 f8 KX i q
end
end PySem.W
namespace Y
open PySem L2 PySem.Spec PyProof.Rows
section
variable {X : Cx} {W : WX} {pins : List (Addr × Obj)} {σ : L2.St} {H : Hp} {s : Shared} {a C dd : Addr} {d : Option Addr} {vs : List (Str × V)}
theorem xo_inst (I : Inv X pins σ H s) (h : XoAt H a C d) (hd : ∀ z, d = some z → ∃ o, s.heap.get? z = some o) : ∃ ox od, PySem.W.InstAt s.heap a ox C od ∧ (∀ z, d = some z → ∃ o, s.heap.get? z = some o ∧ od = some o) := by
  have : ∃ (oe : Obj) (fv : Array Value), s.heap.get? a = some oe ∧ oe.cls = .ref C ∧ oe.dict = d ∧ oe.data = .fields fv := by
    rcases h with h | h
    · obtain ⟨q, _⟩ := (show ObjOk X.prog X.w H s.heap a (XO C d a) from I.hok a _ h)
      exact q
    · obtain ⟨t1, q⟩ := exo_at I.hok h
      exact ⟨_, _, q, rfl, rfl, rfl⟩
  obtain ⟨⟨oc, odd, odat, osl⟩, fv, e1, e2, e3, e4⟩ := this
  simp only at e2 e3 e4
  subst e2 e3 e4
  cases odd with
  | none => exact ⟨_, none, ⟨e1, rfl, rfl, trivial⟩, fun z hz => by cases hz⟩
  | some z =>
    obtain ⟨o, ho⟩ := hd z rfl
    exact ⟨_, some o, ⟨e1, rfl, rfl, ho⟩, fun z' hz => by cases hz; exact ⟨o, ho, rfl⟩⟩
theorem xd_ns (I : Inv X pins σ H s) (h : XdAt H dd vs) : ∃ mA, s.heap.Ns1 dd mA ∧ ∀ f, RelO (vs.lookup f) (mA f) := by
  rcases h with h | h
  · exact (show ObjOk X.prog X.w H s.heap dd (.xd vs) from I.hok dd _ h)
  · exact exd_at I.hok h
theorem XoAt.mono {F F' : Hp} (e : Ex F F') (h : XoAt F a C d) : XoAt F' a C d := h.imp (e _ _) (e _ _)
theorem XdAt.mono {F F' : Hp} (e : Ex F F') (h : XdAt F a vs) : XdAt F' a vs := h.imp (e _ _) (e _ _)
/-! ### e.f -/
def tXfd (K : PySem.W.Frag) (f : Str) (te : TE) : TE := fun σ H Q => te σ H fun x H1 => ∃ (a C dd : Addr) (vs : List (Str × V)) (v : V), x = .ref a ∧ XoAt H1 a C (some dd) ∧ XdAt H1 dd vs ∧ XfC K C ∧ PySem.W.findIn K (.ref C) f = some none ∧ vs.lookup f = some v ∧ Q v H1
theorem pe_xfd {e : Expr} {te : TE} {pos : Pos} {f : Str} (he : PE X e te) (hb : attributeBase e f X.env (eval e X.env) = eval e X.env := by rfl) : PE X (.Attribute e f pos) (tXfd X.K f te) := by
  constructor
  intro pins s σ H Q I h
  refine attr_of hb (thn (he.run pins s σ H _ I h) ?_)
  rintro u s1 ⟨x, H1, I1, rx, a, C, dd, vs, v, rfl, xo, xd, T, nf, l, q⟩
  cases (show u = Value.ref a from rx)
  obtain ⟨mA, ns, rel⟩ := xd_ns I1 xd
  obtain ⟨od0, ho, hl⟩ := lookIn_ns ns
  obtain ⟨ox, od, J, hod⟩ := xo_inst I1 xo fun z hz => by cases hz; exact ⟨od0, ho⟩
  obtain ⟨o2, ho2, rfl⟩ := hod dd rfl
  rw [ho] at ho2; cases ho2
  obtain ⟨w, hw, rw'⟩ := RelO.some_of (v := v) (o := mA f) (by rw [← l]; exact rel f)
  exact HandSPX.exc_get I1.kIn J T.ga T.gg T.exC (PySem.W.findObj_own T.hdC nf rfl (by rw [hl, hw])) (handed_of rw') ⟨v, H1, I1.tok _, rw', q⟩
def exfD (tbl : List Str) (f : Str) (d : D) : Option D := match d with
  | .exf c g x => if g = f ∧ c ∈ tbl then some x else none
  | _ => none
def xfV (tbl : List Str) (f : Str) (m : M D) : M D := m.bind fun d => M.lift (exfD tbl f d)
theorem de_xf {e : Expr} {pos : Pos} {f : Str} {tbl : List Str} {m : M D} (hT : ∀ c ∈ tbl, ∀ C, ClsOf X.K c C → XfC X.K C ∧ PySem.W.findIn X.K (.ref C) f = some none) (he : DE X W e m) (hb : attributeBase e f X.env (eval e X.env) = eval e X.env := by rfl) : DE X W (.Attribute e f pos) (xfV tbl f m) := by
  refine PE.imp (pe_xfd he hb) fun σ H Q ⟨F, P, β, η, S, q⟩ => ⟨F, P, β, η, S, (Run.bind q).imp fun d η1 S1 F1 β1 H1 s1 ⟨e1, b1, hh⟩ v rv => ?_⟩
  obtain ⟨c, ec, s, k⟩ := Run.lift hh
  unfold exfD at ec
  split at ec
  · split at ec
    · rename_i hc
      cases ec
      cases rv with
      | exf cl xo xd l r1 =>
        obtain ⟨rfl, hm⟩ := hc
        obtain ⟨t1, t2⟩ := hT _ hm _ cl
        exact ⟨_, _, _, _, _, rfl, xo.mono s.fsub, xd.mono s.fsub, t1, t2, l, k F1 H1 (Ex.refl _) s _ r1⟩
    · cases ec
  · cases ec
/-! ### isinstance(e, C), C an own class -/
def rIsX (K : PySem.W.Frag) : List V → Hp → VK → Prop := fun xs H Q => ∃ (a C : Addr) (d : Option Addr) (c : V) (u : Value) (b : Bool), xs = [.ref a, c] ∧ XoAt H a C d ∧ (∀ z, d = some z → ∃ o, H z = some o) ∧ ExcC K C ∧ ClsV c u ∧ PySem.W.kitOne K (.ref C) u = some b ∧ Q (.bl b) H
theorem objOk_there {P : Program} {w : World} {H : Hp} {h : Heap} {a : Addr} {o : HO} (hok : HOk P w H h) (e : H a = some o) : ∃ u, h.get? a = some u := objOk_get (hok a o e)
theorem call_isX : CallR X (.builtin "isinstance") (rIsX X.K) := by
  intro pins s σ H xs us Q I r h
  obtain ⟨a, C, d, c, u, b, rfl, xo, hd, T, cv, e, q⟩ := h
  obtain ⟨u1, u2, rfl, r1, r2⟩ := vals2 r
  have e2 := cv.eq r2
  subst e2
  cases (show u1 = Value.ref a from r1)
  obtain ⟨ox, od, J, _⟩ := xo_inst I xo fun z hz => let ⟨o, ho⟩ := hd z hz; objOk_there I.hok ho
  exact PySem.W.kia_one (PySem.W.kit_exc T.hg T.hk T.hs T.hd T.ha T.hn T.ht T.hm) I.kIn J e (fun z => nomatch z) fun tk => ⟨.bl b, H, I.kept (t' := tk) fun _ _ z => z, rfl, q⟩
end
section
variable {X : Cx} {W : WX} {k n N np : Nat} {f C : Addr} {fd : FuncData} {ps ks : List Str} {ix : List Nat} {dvs : List V} {dd : List D} {st : Stmt} {fn : Fn} {CX : CXT} {r rk : M (List D)} {x cn mt qual : Str} {p pos apos : Pos} {e o : Expr} {es : List Expr} {kws : List Keyword} {mo : M D}
theorem de_fkC {j : Nat} (A : FnAt X.K X.mg x st ps f fd) (G : FnG X.prog X.w X.K X.mg X.base CX k f fd ps (spF X.kw X.mg np fn)) (kb : KB X.K fd ps n ks ix dvs) (hd : DfD dvs dd) (hx : ∀ σ, PassesAt CX X σ (fun cls d H => W cls d σ H)) (hlen : ∀ ds S, ds.length ≠ np → fn ds S = none) (hG : X.A.guards = some []) (hr : Room k X.A) (hg : Gl X x) (ha : DA X W (e :: es) r) (hk : DK X W kws rk)
    (hall : (backToKw pos (keywordEach kws X.env)).all (·.1.isSome) = true := by rfl) (hks : (backToKw pos (keywordEach kws X.env)).filterMap (·.1) = ks := by rfl) (hj : ks.length = j := by rfl) (hdb : (x == ("__debug__" : Str)) = false := by decide) (he : starEach (e :: es) X.env = (false, eval e X.env) :: starEach es X.env := by rfl)
    (hpl : ((backTo pos (starEach (e :: es) X.env)).any (·.1) || (backToKw pos (keywordEach kws X.env)).any (·.1.isNone)) = false := by rfl) : DE X W (.Call (.Name x p) (e :: es) kws pos) (callK fn ix dd n j r rk) := by
  subst hj
  exact de_cK (fun ha hk => pe_cK G hG hr hg A.mgf A.kp kb hx ha hk hall hks hdb he hpl) ha hk hd hlen

theorem de_fk0C {j : Nat} (A : FnAt X.K X.mg x st ps f fd) (G : FnG X.prog X.w X.K X.mg X.base CX k f fd ps (spF X.kw X.mg np fn)) (kb : KB X.K fd ps 0 ks ix dvs) (hd : DfD dvs dd) (hx : ∀ σ, PassesAt CX X σ (fun cls d H => W cls d σ H)) (hlen : ∀ ds S, ds.length ≠ np → fn ds S = none) (hG : X.A.guards = some []) (hr : Room k X.A) (hg : Gl X x) (hk : DK X W kws rk)
    (hall : (backToKw pos (keywordEach kws X.env)).all (·.1.isSome) = true := by rfl) (hks : (backToKw pos (keywordEach kws X.env)).filterMap (·.1) = ks := by rfl) (hj : ks.length = j := by rfl) (hdb : (x == ("__debug__" : Str)) = false := by decide)
    (hpl : ((backTo pos (starEach [] X.env)).any (·.1) || (backToKw pos (keywordEach kws X.env)).any (·.1.isNone)) = false := by rfl) : DE X W (.Call (.Name x p) [] kws pos) (callK fn ix dd 0 j args0 rk) := by
  subst hj
  refine PE.imp (pe_cK0 G hG hr hg A.mgf A.kp kb hx hk hall hks hdb hpl) fun σ H Q q => ?_
  exact run_nil (de_cK_run hd hlen q)

theorem de_meC {j : Nat} {pl : Sem Bool} (A : ClsAt X.K X.mg cn C) (Mt : MtAt X.K C mt qual st f fd) (G : FnG X.prog X.w X.K X.mg X.base CX k f fd ps (spF X.kw X.mg np fn)) (kb : KB X.K fd ps n ks ix dvs) (hd : DfD dvs dd) (hx : ∀ σ, PassesAt CX X σ (fun cls d H => W cls d σ H)) (hlen : ∀ ds S, ds.length ≠ np → fn ds S = none) (hG : X.A.guards = some []) (hr : Room k X.A) (ho : DE X W o mo) (ha : DA X W (e :: es) r) (hk : DK X W kws rk)
    (hall : (backToKw pos (keywordEach kws X.env)).all (·.1.isSome) = true := by rfl) (hks : (backToKw pos (keywordEach kws X.env)).filterMap (·.1) = ks := by rfl) (hj : ks.length = j := by rfl) (he : starEach (e :: es) X.env = (false, eval e X.env) :: starEach es X.env := by rfl)
    (hpl : ((backTo pos (starEach (e :: es) X.env)).any (·.1) || (backToKw pos (keywordEach kws X.env)).any (·.1.isNone)) = false := by rfl)
    (ht : eval (.Call (.Attribute o mt apos) (e :: es) kws pos) X.env = (do
      let ov ← eval o X.env
      standAt apos.atName
      let (g, first) ← holding [ov] (getMethod ov mt pl)
      callWith pos g first (backTo pos (starEach (e :: es) X.env)) (backToKw pos (keywordEach kws X.env))) := by rfl) : DE X W (.Call (.Attribute o mt apos) (e :: es) kws pos) (methK cn mt fn ix dd n j mo r rk) := by
  subst hj
  exact de_mK (fun ho ha hk => pe_mK ho A.cl Mt.me G hG hr kb hx ha hk hall hks he hpl ht) A.mgc ho ha hk hd hlen

theorem de_me0C {j : Nat} {pl : Sem Bool} (A : ClsAt X.K X.mg cn C) (Mt : MtAt X.K C mt qual st f fd) (G : FnG X.prog X.w X.K X.mg X.base CX k f fd ps (spF X.kw X.mg np fn)) (kb : KB X.K fd ps n ks ix dvs) (hd : DfD dvs dd) (hx : ∀ σ, PassesAt CX X σ (fun cls d H => W cls d σ H)) (hlen : ∀ ds S, ds.length ≠ np → fn ds S = none) (hG : X.A.guards = some []) (hr : Room k X.A) (ho : DE X W o mo) (hk : DK X W kws rk)
    (hall : (backToKw pos (keywordEach kws X.env)).all (·.1.isSome) = true := by rfl) (hks : (backToKw pos (keywordEach kws X.env)).filterMap (·.1) = ks := by rfl) (hj : ks.length = j := by rfl)
    (hpl : ((backTo pos (starEach [] X.env)).any (·.1) || (backToKw pos (keywordEach kws X.env)).any (·.1.isNone)) = false := by rfl)
    (ht : eval (.Call (.Attribute o mt apos) [] kws pos) X.env = (do
      let ov ← eval o X.env
      standAt apos.atName
      let (g, first) ← holding [ov] (getMethod ov mt pl)
      callWith pos g first (backTo pos (starEach [] X.env)) (backToKw pos (keywordEach kws X.env))) := by rfl) : DE X W (.Call (.Attribute o mt apos) [] kws pos) (methK cn mt fn ix dd n j mo args0 rk) := by
  subst hj
  refine PE.imp (pe_mK0 ho A.cl Mt.me G hG hr kb hx hk hall hks hpl ht) fun σ H Q q => ?_
  refine rdE.imp (de_mK_run A.mgc hd hlen q) fun v H' ⟨a, dx, fs, h1, h2, h3, h4⟩ => ⟨a, dx, fs, h1, h2, h3, run_nil h4⟩

theorem de_mkC {j : Nat} (A : ClsAt X.K X.mg x C) (Mt : MkAt X.K C qual st f fd) (G : FnG X.prog X.w X.K X.mg X.base CX k f fd ps (spF X.kw X.mg np fn)) (kb : KB X.K fd ps n ks ix dvs) (hd : DfD dvs dd) (hx : ∀ σ, PassesAt CX X σ (fun cls d H => W cls d σ H)) (hlen : ∀ ds S, ds.length ≠ np → fn ds S = none) (hG : X.A.guards = some []) (hr : Room (k + 1) X.A) (hg : Gl X x) (ha : DA X W (e :: es) r) (hk : DK X W kws rk)
    (hall : (backToKw pos (keywordEach kws X.env)).all (·.1.isSome) = true := by rfl) (hks : (backToKw pos (keywordEach kws X.env)).filterMap (·.1) = ks := by rfl) (hj : ks.length = j := by rfl) (hdb : (x == ("__debug__" : Str)) = false := by decide) (he : starEach (e :: es) X.env = (false, eval e X.env) :: starEach es X.env := by rfl)
    (hpl : ((backTo pos (starEach (e :: es) X.env)).any (·.1) || (backToKw pos (keywordEach kws X.env)).any (·.1.isNone)) = false := by rfl) : DE X W (.Call (.Name x p) (e :: es) kws pos) (makeK x fn ix dd n j r rk) := by
  subst hj
  exact de_nK (fun ha hk => pe_nK Mt.maker G hG hr hg A.mgc kb hx ha hk hall hks hdb he hpl) A.mgc ha hk hd hlen

theorem de_mk0C {j : Nat} (A : ClsAt X.K X.mg x C) (Mt : MkAt X.K C qual st f fd) (G : FnG X.prog X.w X.K X.mg X.base CX k f fd ps (spF X.kw X.mg np fn)) (kb : KB X.K fd ps n ks ix dvs) (hd : DfD dvs dd) (hx : ∀ σ, PassesAt CX X σ (fun cls d H => W cls d σ H)) (hlen : ∀ ds S, ds.length ≠ np → fn ds S = none) (hG : X.A.guards = some []) (hr : Room (k + 1) X.A) (hg : Gl X x) (hk : DK X W kws rk)
    (hall : (backToKw pos (keywordEach kws X.env)).all (·.1.isSome) = true := by rfl) (hks : (backToKw pos (keywordEach kws X.env)).filterMap (·.1) = ks := by rfl) (hj : ks.length = j := by rfl) (hdb : (x == ("__debug__" : Str)) = false := by decide)
    (hpl : ((backTo pos (starEach [] X.env)).any (·.1) || (backToKw pos (keywordEach kws X.env)).any (·.1.isNone)) = false := by rfl) : DE X W (.Call (.Name x p) [] kws pos) (makeK x fn ix dd n j args0 rk) := by
  subst hj
  refine PE.imp (pe_nK0 Mt.maker G hG hr hg A.mgc kb hx hk hall hks hdb hpl) fun σ H Q q => ?_
  exact run_nil (de_nK_run A.mgc hd hlen q)

end
end Y
/-! ZI: own exceptions made as values, asked for their class, over data. -/
namespace Y
open PySem L2 PySem.Spec PyProof.Rows
theorem put_over {H : Hp} {a d : Addr} {o o' u : HO} (ne : d ≠ a) : upd (upd (upd H a o) d u) a o' = upd (upd H d u) a o' := by
  funext b
  by_cases hb : b = a
  · rw [hb, upd_same, upd_same]
  · rw [upd_ne hb, upd_ne hb]
    by_cases hd : b = d
    · rw [hd, upd_same, upd_same]
    · rw [upd_ne hd, upd_ne hd, upd_ne hb]
section
variable {X : Cx} {W : WX} {e : Expr} {x f : Str} {C fI : Addr} {k : Nat} {fd : FuncData} {ps : List Str} {p pos : Pos} {ii : String} {r : M (List D)}
def mkX (x f : Str) (ds : List D) : Option D := match ds with
  | [d] => some (.exf x f d)
  | _ => none
/-- C(e), C with one field -/
def newX (x f : Str) (r : M (List D)) : M D := r.bind fun ds => M.lift (mkX x f ds)
/-- what of the text makes such exceptions -/
structure XcAt (K : PySem.W.Frag) (mg : Str → Option Value) (x : Str) (C fI : Addr) (fd : FuncData) (ps : List Str) (ii : String) : Prop where
  mgc : mg x = some (.ref C)
  cl : ClsOf K x C
  xc : XcC K C ii
  iC : PySem.W.findIn K (.ref C) "__init__" = some (some (.ref fI))
  tI : PySem.W.typeIn K (.ref fI) = some (.type "function")
  bi : Binds K fd ps []
theorem made_run {P : Program} {C a dx : Addr} {v : V} {d : D} {F1 P1 : Hp} {β1 : Nat → Option Addr} {σ : L2.St} {η1 : Sls} {S1 : Store} {H1 : Hp} (cl : ClsOf X.K x C) (s : Ste X.kw X.mg F1 P1 β1 σ η1 S1 H1) (na : H1 a = none) (nd : H1 dx = none) (ne : dx ≠ a) (rv : R X.kw F1 β1 v d) :
    ∃ F2, Ex F1 F2 ∧ Ste X.kw X.mg F2 P1 β1 σ η1 S1 (upd (upd H1 dx (exd dx [(f, v)])) a (exo a C (some dx))) ∧ R X.kw F2 β1 (.ref a) (.exf x f d) := by
  have s1 := s.new (o := exd dx [(f, v)]) nd
  have na1 : upd H1 dx (exd dx [(f, v)]) a = none := (upd_ne ne.symm).trans na
  have s2 := s1.new (o := exo a C (some dx)) na1
  have e1 : Ex F1 (upd F1 dx (exd dx [(f, v)])) := Ex.new (s.fnone nd)
  have e2 := Ex.new (o := exo a C (some dx)) (s1.fnone na1)
  exact ⟨_, e1.trans e2, s2, .exf cl (.inr upd_same) (.inr (by rw [upd_ne ne, upd_same])) (by simp [List.lookup]) (rv.mono (e1.trans e2) (Bx.refl _))⟩
theorem de_xc (A : XcAt X.K X.mg x C fI fd ps ii) (F1 : FnOk X.prog X.w X.K X.mg X.base CX0 k fI fd ps (spI C f)) (hr : Room (k + 1) X.A) (hg : Gl X x) (ha : DA X W [e] r) (hdb : (x == ("__debug__" : Str)) = false := by decide)
    (he : starEach [e] X.env = (false, eval e X.env) :: starEach [] X.env := by rfl) (hpl : (backTo pos (starEach [] X.env)).any (·.1) = false := by rfl) : DE X W (.Call (.Name x p) [e] [] pos) (newX x f r) := by
  refine PE.imp (pe_xc A.xc A.iC A.tI F1 hr A.bi hg A.mgc ha hdb he hpl) fun σ H Q ⟨F, P, β, η, S, q⟩ => ⟨F, P, β, η, S, (Run.bind q).imp fun ds η1 S1 F1 β1 H1 s1 ⟨e1, b1, hh⟩ vs rv => ?_⟩
  obtain ⟨c, ec, s, kk⟩ := Run.lift hh
  unfold mkX at ec
  split at ec
  · cases ec
    cases rv with
    | cons r1 r2 =>
      cases r2
      refine ⟨by simp, fun a na => ⟨a, _, rfl, upd_same, fun dx ndx ne => ⟨rfl, ?_⟩⟩⟩
      have nd : H1 dx = none := by rw [upd_ne ne] at ndx; exact ndx
      rw [put_over ne]
      obtain ⟨F2, e2, s2, r2⟩ := made_run (P := X.prog) (f := f) A.cl s na nd ne r1
      exact kk F2 _ e2 s2 _ r2
  · cases ec
/-- C(), C without fields -/
def newX0 (x : Str) : M D := M.lift (some (.exn x))
end
section
variable {X : Cx} {W : WX} {x : Str} {C fI : Addr} {k : Nat} {fd : FuncData} {ps : List Str} {sp : Sp} {p pos : Pos} {ii : String}
theorem pe_xc0 (XC : XcC X.K C ii) (iC : PySem.W.findIn X.K (.ref C) "__init__" = some (some (.ref fI))) (tI : PySem.W.typeIn X.K (.ref fI) = some (.type "function")) (F1 : FnOk X.prog X.w X.K X.mg X.base CX0 k fI fd ps sp) (hr : Room (k + 1) X.A) (hb : Binds X.K fd ps [])
    (hg : Gl X x) (hm : X.mg x = some (.ref C)) (hdb : (x == ("__debug__" : Str)) = false := by decide) : PE X (.Call (.Name x p) [] [] pos) (tXc C sp tNil) := by
  constructor
  intro pins s σ H Q I h
  refine wpAny_Call_Name_kw (ld_glob I hg hm ?_ hdb)
  refine PySem.W.callWith_K0 I.kIn XC.kC ?_
  refine run_xc XC iC tI F1 hr hb I (.nil) (by simp) h.2 ?_
  intro a hp2 s2 u big le I2 ce
  obtain ⟨v, H2, J, rv, ev, q2⟩ := I2.after ce
  subst ev
  exact ⟨rv, .ref a, H2, J, rfl, q2⟩
theorem de_xc0 (A : XcAt X.K X.mg x C fI fd ps ii) (F1 : FnOk X.prog X.w X.K X.mg X.base CX0 k fI fd ps (spI0 C)) (hr : Room (k + 1) X.A) (hg : Gl X x) (hdb : (x == ("__debug__" : Str)) = false := by decide) : DE X W (.Call (.Name x p) [] [] pos) (newX0 x) := by
  refine PE.imp (pe_xc0 A.xc A.iC A.tI F1 hr A.bi hg A.mgc hdb) fun σ H Q ⟨F, P, β, η, S, q⟩ => ?_
  obtain ⟨c, ec, s, kk⟩ := Run.lift q
  cases ec
  refine ⟨by simp, fun a na => ⟨a, rfl, upd_same, rfl, ?_⟩⟩
  exact kk _ _ (Ex.new (s.fnone na)) (s.new na) _ (.exn A.cl (.inr upd_same))
end
/-! ### isinstance(e, C) of exceptions -/
def isiXD (tbl : List (Str × Bool)) (d : D) : Option D := match d with
  | .exn c => (tbl.lookup c).map .bl
  | .exf c _ _ => (tbl.lookup c).map .bl
  | _ => none
def isiX (tbl : List (Str × Bool)) (m : M D) : M D := m.bind fun d => M.lift (isiXD tbl d)
/-- what a table of answers is worth: one class after the other -/
def TblOk (K : PySem.W.Frag) (u : Value) (tbl : List (Str × Bool)) : Prop := ∀ c b, tbl.lookup c = some b → ∀ C, ClsOf K c C → ExcC K C ∧ PySem.W.kitOne K (.ref C) u = some b
theorem tbl_nil {K : PySem.W.Frag} {u : Value} : TblOk K u [] := fun c b h => by cases h
theorem tbl_cons {K : PySem.W.Frag} {u : Value} {c : Str} {b : Bool} {C : Addr} {tbl : List (Str × Bool)} (cl : ClsOf K c C) (E : ExcC K C) (k : PySem.W.kitOne K (.ref C) u = some b) (t : TblOk K u tbl) : TblOk K u ((c, b) :: tbl) := fun c' b' h C' cl' => by
  by_cases z : c' = c
  · subst z
    simp only [List.lookup, beq_self_eq_true, Option.some.injEq] at h
    subst h
    have : C' = C := by
      have := cl'.symm.trans cl
      injection this with this; injection this with this; injection this
    subst this
    exact ⟨E, k⟩
  · have zz : (c' == c) = false := by simpa using z
    simp only [List.lookup, zz] at h
    exact t c' b' h C' cl'
theorem isiXD_some {tbl : List (Str × Bool)} {d c : D} (h : isiXD tbl d = some c) : ∃ cn b, tbl.lookup cn = some b ∧ c = .bl b ∧ (d = .exn cn ∨ ∃ g y, d = .exf cn g y) := by
  unfold isiXD at h
  split at h
  · obtain ⟨b, h1, h2⟩ := Option.map_eq_some_iff.mp h
    exact ⟨_, b, h1, h2.symm, .inl rfl⟩
  · obtain ⟨b, h1, h2⟩ := Option.map_eq_some_iff.mp h
    exact ⟨_, b, h1, h2.symm, .inr ⟨_, _, rfl⟩⟩
  · cases h
section
variable {X : Cx} {W : WX} {e ce : Expr} {m : M D} {tbl : List (Str × Bool)} {cv : V} {u : Value} {p pos : Pos}
theorem de_isiX (hT : TblOk X.K u tbl) (hcv : ClsV cv u) (hc : PE X ce (tC cv)) (hg : Gl X "isinstance") (hm : X.mg "isinstance" = none) (hv : bootBuiltins "isinstance" = some (.builtin "isinstance")) (he : DE X W e m)
    (hn : ("isinstance" : Str) ≠ "__name__" := by decide) (hdb : (("isinstance" : Str) == ("__debug__" : Str)) = false := by decide)
    (hst : starEach [e, ce] X.env = (false, eval e X.env) :: starEach [ce] X.env := by rfl) (hs2 : starEach [ce] X.env = (false, eval ce X.env) :: starEach [] X.env := by rfl) (hpl : (backTo pos (starEach [ce] X.env)).any (·.1) = false := by rfl) :
    DE X W (.Call (.Name "isinstance" p) [e, ce] [] pos) (isiX tbl m) := by
  refine PE.imp (pe_callB call_isX hg hm hv (pa_cons he (pa_cons hc pa_nil hs2) hst) hn hdb hst hpl) fun σ H Q ⟨F, P, β, η, S, q⟩ => ⟨F, P, β, η, S, (Run.bind q).imp fun d η1 S1 F1 β1 H1 s1 ⟨e1, b1, hh⟩ v rv => ?_⟩
  obtain ⟨c, ec, s, k⟩ := Run.lift hh
  obtain ⟨cn, b, hl, rfl, hd⟩ := isiXD_some ec
  rcases hd with rfl | ⟨g, y, rfl⟩
  · cases rv with
    | @exn a C _ cl xo =>
      obtain ⟨t1, t2⟩ := hT _ _ hl _ cl
      exact ⟨a, C, none, cv, u, b, rfl, xo.mono s.fsub, (fun z hz => by cases hz), t1, hcv, t2, k F1 H1 (Ex.refl _) s _ (.bl b)⟩
  · cases rv with
    | @exf a C dd _ _ vs w _ cl xo xd l r1 =>
      obtain ⟨t1, t2⟩ := hT _ _ hl _ cl
      refine ⟨a, C, some dd, cv, u, b, rfl, xo.mono s.fsub, fun z hz => ?_, t1, hcv, t2, k F1 H1 (Ex.refl _) s _ (.bl b)⟩
      cases hz
      rcases xd with xd | xd
      · exact ⟨_, s.fsub _ _ xd⟩
      · exact ⟨_, s.fsub _ _ xd⟩
end
end Y
/-! ZJ: such classes called by keywords; what gen2.py prints of them. -/
namespace Y
open PySem PySem.W PySem.Calls PyProof.Rows Builtin Builtin.ObjectAttr
section
variable {M : Model} {A : Around} {E : Value → Shared → Prop} {hp : Heap} {gs : Array GenState} {dr : Drawn} {tk : Nat} {os : OsState}
variable {cn qn : Str} {C N : Addr} {bs bm T : List Value} {hd : Bool} {sn : List Str} {sb : List Value} {ab : Bool} {cl : Option Bool} {dl : Option Addr} {z0 z1 z2 z3 z5 : Option Value} {nb ni ib ii : String}
theorem chk_newK (XF : XB T nb ni ib ii) (hb : ∀ n : String, bm.contains (.type n) = T.contains (.type n)) {us : List Value} {kws : List (Str × Value)} {Q : Unit → Shared → Prop}
    (cat : hp.get? C = some (excClassObj cn qn C N bs bm hd sn sb ab cl dl z0 z1 z2 z3 z5 ni)) (fin : Q () ⟨hp, gs, dr, tk, os⟩) : wpAny M A (checkBuiltinCall ni ⟨.ref C :: us, kws⟩) Q E ⟨hp, gs, dr, tk, os⟩ := by
  have under : (Value.ref C :: bm).contains (.type nb) = true := (has_cons (hb nb)).trans XF.nHas
  have star := XF.nStar
  simp only [checkBuiltinCall, XF.nKind, XF.nSplit, XF.nRow]
  repeat (first | refine wpAny_loadPart_at cat ?_ | (refine wpAny_isSubtype_exc cat ?_; rw [under]) | refine wpAny_staticBase_exc cat ?_ | refine wpAny_madeBy_exc cat ?_ | simp only [bne_self_eq_false, Bool.false_eq_true, if_false] | wp_step)
  all_goals first | exact fin | skip
end
section
variable {prog : Program} {w : World} {A : Around} {E : Value → Shared → Prop} {R : Result → Shared → Prop} {hp : Heap} {gs : Array GenState} {dr : Drawn} {tk : Nat} {os : OsState}
variable {cn qn : Str} {C N fI : Addr} {bs bm T : List Value} {hd : Bool} {sn : List Str} {sb : List Value} {ab : Bool} {cl : Option Bool} {dl : Option Addr} {z0 z1 z2 z3 z5 : Option Value} {nb ni ib ii : String}
theorem raw_newK (XF : XB T nb ni ib ii) (hb : ∀ n : String, bm.contains (.type n) = T.contains (.type n)) {us : List Value} {kws : List (Str × Value)} (cat : hp.get? C = some (excClassObj cn qn C N bs bm hd sn sb ab cl dl z0 z1 z2 z3 z5 ni))
    (fin : R (.ok (.ret (.ref (hp.objs.size + 1)))) ⟨(hp.push { cls := .type "tuple", data := .seq us.toArray }).push (rawX C hp.objs.size), gs, dr, tk, os⟩) (room : us.length ≤ sizeLine) :
    codeAny (model prog w) A (.builtin ni ⟨.ref C :: us, kws⟩) R ⟨hp, gs, dr, tk, os⟩ := by
  have ends := XF.nEnds
  have b1 : (Value.ref C :: bm).contains (.type nb) = true := (has_cons (hb nb)).trans XF.nHas
  have b2 : (Value.ref C :: bm).contains (.type "AttributeError") = false := (has_cons (hb _)).trans XF.nAttr
  have b3 : (Value.ref C :: bm).contains (.type "NameError") = false := (has_cons (hb _)).trans XF.nName
  refine codeAny_builtinAt XF.nEntry ?_
  unfold Builtin.«BaseException.__new__»
  refine PySem.wpAt_bind ?_
  show PySem.wpAt _ _ _ (stack >>= _) _ _ _
  refine PySem.wpAt_bind (PySem.wpAt_stack fun _ _ => PySem.wpAt_of_wpAny ?_)
  wp_walk
  refine PySem.wpAt_of_wpAny ?_
  rw [XF.nOwner]
  repeat (first | with_reducible refine wpAny_madeHere_exc XF.nCanon cat ?_ | with_reducible refine wpAny_loadPart_at cat ?_ | (with_reducible refine wpAny_isSubtype_exc cat ?_; first | rw [b1] | rw [b2] | rw [b3]) | wp_step)
  show R _ _
  rw [Heap.size_push]
  exact fin
theorem raw_typecallK (XF : XB T nb ni ib ii) (hb : ∀ n : String, bm.contains (.type n) = T.contains (.type n)) {us : List Value} {kws : List (Str × Value)} {Q : Fin → Shared → Prop} (cat : hp.get? C = some (excClassObj cn qn C N bs bm hd sn sb ab cl dl z0 z1 z2 z3 z5 ni))
    (find : W.Looks (model prog w) hp (typeLookup (.ref C) "__init__") (some (.ref fI))) (bind : ∀ self, W.Looks (model prog w) hp (bindSpecial (.ref fI) self) (.ref fI, [self])) (room : us.length ≤ sizeLine)
    (fin : codeAny (model prog w) A (.call (.ref fI) ⟨.ref (hp.objs.size + 1) :: us, kws⟩) (fun r sx => match r with | .ok (.ret v) => v = .none ∧ Q (.done (.ret (.ref (hp.objs.size + 1)))) sx | .ok _ => False | .error ex => E ex sx)
      ⟨(hp.push (W.kdv_tup us)).push (rawX C hp.objs.size), gs, dr, tk, os⟩) : wpAny (model prog w) A (Builtin.«type.__call__» ⟨.ref C :: us, kws⟩) Q E ⟨hp, gs, dr, tk, os⟩ := by
  repeat (first | with_reducible refine wpAny_loadPart_at cat ?_ | with_reducible refine wpAny_madeBy_exc cat ?_ | wp_step)
  refine codeAny_call_builtin_code (Code.quiet_builtin _ XF.nQuiet) (chk_newK XF hb cat (raw_newK XF hb cat ?_ room))
  show wpAny _ _ _ _ _ _
  have on : ∀ b o, hp.get? b = some o → ((hp.push (W.kdv_tup us)).push (rawX C hp.objs.size)).get? b = some o := fun b o z => Heap.get?_push_of_some _ (Heap.get?_push_of_some _ z)
  have cat2 := on _ _ cat
  have made : ((hp.push (W.kdv_tup us)).push (rawX C hp.objs.size)).get? (hp.objs.size + 1) = some (rawX C hp.objs.size) := by heap_get
  have itself : (Value.ref C :: bm).contains (.ref C) = true := by simp
  have f2 := find.keeps on
  have b2 := (bind (.ref (hp.objs.size + 1))).keeps on
  unfold isInstance
  repeat (first | with_reducible refine wpAny_loadPart_at made ?_ | (with_reducible refine wpAny_isSubtype_exc cat2 ?_; rw [itself]) | wp_step)
  show wpAny _ _ (typeLookup (.ref C) _) _ _ _
  refine f2.at (wpAny_holding (wpAny_bind (b2.at (wpAny_bind (wpAny_call (codeAny_mono fin fun r sx z => ?_))))))
  rcases r with ex | (v | _ | _ | _) <;> first | exact z | exact z.elim | skip
  obtain ⟨rfl, z⟩ := z
  first
    | exact wpAny_pure (wpAny_pure z)
    | (wp_walk; exact z)
theorem raw_callK (XF : XB T nb ni ib ii) (hb : ∀ n : String, bm.contains (.type n) = T.contains (.type n)) {us : List Value} {kws : List (Str × Value)} (cat : hp.get? C = some (excClassObj cn qn C N bs bm hd sn sb ab cl dl z0 z1 z2 z3 z5 ni))
    (find : W.Looks (model prog w) hp (typeLookup (.ref C) "__init__") (some (.ref fI))) (bind : ∀ self, W.Looks (model prog w) hp (bindSpecial (.ref fI) self) (.ref fI, [self])) (room : us.length ≤ sizeLine)
    (fin : codeAny (model prog w) (A.under (.builtin "type.__call__" ⟨.ref C :: us, kws⟩)) (.call (.ref fI) ⟨.ref (hp.objs.size + 1) :: us, kws⟩) (W.InitBack (hp.objs.size + 1) R) ⟨(hp.push (W.kdv_tup us)).push (rawX C hp.objs.size), gs, dr, tk, os⟩) :
    codeAny (model prog w) A (.call (.ref C) ⟨us, kws⟩) R ⟨hp, gs, dr, tk, os⟩ := by
  have look := tc_lookup
  have bnd := tc_bind (.ref C)
  have ty : (⟨hp, gs, dr, tk, os⟩ : Shared).TypeIs (.ref C) "type" := ⟨_, cat, rfl⟩
  have isa : W.Looks (model prog w) hp (isInstance (.ref C) (.type "type")) true := by
    have sub := tc_sub
    refine ((W.Looks.ld (part := none) cat).andThen .now).andThen ?_
    show W.Looks (model prog w) hp (isSubtype (.type "type") (.type "type")) true
    rw [sub]
    exact .now
  refine codeAny_of_tree ?_
  show wpAny _ _ (callAny (.ref C) _) _ _ _
  repeat (any_goals (first | assumption | with_reducible refine wpAny_loadPart_at cat ?_ | wp_step))
  refine ⟨rfl, codeAny_call_builtin_at (Code.quiet_builtin _ (by decide +kernel)) entry_typeCall (W.check_slot tc_kind tc_split isa (tc_args _ _ _) (raw_typecallK XF hb cat find bind room (codeAny_mono fin fun r sx z => ?_)))⟩
  rcases r with ex | (v | _ | _ | _) <;> exact z
end
end Y
namespace Y
open PySem L2 PySem.Spec PyProof.Rows
section
variable {X : Cx} {W : WX} {e : Expr} {kws : List Keyword} {x f : Str} {C fI : Addr} {k : Nat} {fd : FuncData} {ps ks : List Str} {ix : List Nat} {sp : Sp} {p pos kpos : Pos} {ii : String} {tk : TA} {r : M (List D)}
theorem run_xcK {pins : List (Addr × Obj)} {σ : L2.St} {H : Hp} {s : Shared} {ws : List Value} {zs : List V} {Qi : Addr → VK} {Q : Value → Shared → Prop} (XC : XcC X.K C ii) (iC : PySem.W.findIn X.K (.ref C) "__init__" = some (some (.ref fI)))
    (tI : PySem.W.typeIn X.K (.ref fI) = some (.type "function")) (F1 : FnOk X.prog X.w X.K X.mg X.base CX0 k fI fd ps sp) (hr : Room (k + 1) X.A) (hb : KB X.K fd ps 1 ks ix []) (I : Inv X pins σ H s) (rz : Vals zs ws) (l2 : zs.length = ks.length)
    (h : ∀ a, H a = none → sp (pickL ix ([V.ref a] ++ zs ++ [])) (upd H a (exo a C none)) (Qi a) (fun _ _ _ => False))
    (fin : ∀ (a : Addr) (hp2 : Heap) (s2 : Shared) (u : Value), s.heap.objs.size ≤ a → (∀ b o, s.heap.get? b = some o → hp2.get? b = some o) → Inv X pins σ (upd H a (exo a C none)) { s with heap := hp2 } →
      CE X.stack X.prog X.w (upd H a (exo a C none)) { s with heap := hp2 } (Qi a) u s2 → u = Value.none ∧ Q (.ref a) s2) :
    wpAny (model X.prog X.w) X.A (call (.ref C) [] (ks.zip ws)) Q X.xe s := by
  obtain ⟨ds, rd, bi⟩ := hb.ex
  cases rd
  obtain ⟨T, nb, ni, ib, XF, noR, nm, qn, N, bs, bm, sn, sub, ab, col, dd, k0, k1, k2, k3, k5, hC, tl⟩ := XC.cls
  obtain ⟨hp, g, dr, t0, os⟩ := s
  have big : hp.objs.size ≤ hp.objs.size + 1 := Nat.le_succ _
  have hq := h _ (I.hok.fresh big)
  have le : ∀ b o, hp.get? b = some o → ((hp.push (PySem.W.kdv_tup [])).push (rawX C hp.objs.size)).get? b = some o := fun b o z => Heap.get?_push_of_some _ (Heap.get?_push_of_some _ z)
  have there : ((hp.push (PySem.W.kdv_tup [])).push (rawX C hp.objs.size)).get? (hp.objs.size + 1) = some (rawX C hp.objs.size) := by heap_get
  have I2 := I.laid (t' := t0) (a := hp.objs.size + 1) (o := exo (hp.objs.size + 1) C none) (h' := (hp.push (PySem.W.kdv_tup [])).push (rawX C hp.objs.size)) le big (exo_ok there)
  have self : Vals [V.ref (hp.objs.size + 1)] [Value.ref (hp.objs.size + 1)] := .cons rfl .nil
  have rall : Vals (pickL ix ([V.ref (hp.objs.size + 1)] ++ zs ++ [])) (pickL ix ([Value.ref (hp.objs.size + 1)] ++ ws ++ [])) := Vals.pick (Vals.append (Vals.append self rz) .nil) ix
  have bnd := bi _ [Value.ref (hp.objs.size + 1)] ws I2.kIn rfl (by rw [← rz.length]; exact l2)
  refine wpAny_call (raw_callK XF (fun n => endsT_has noR tl) (I.kIn _ _ hC) (PySem.W.looks_findIn I.kIn iC) (fun self => PySem.W.bind_fn I.kIn self tI) (Nat.zero_le _)
    (codeAny_mono (F1.run _ X.stack _ _ ⟨[Value.ref (hp.objs.size + 1)], ks.zip ws⟩ _ _ _ (fun _ _ _ => False) (hr.make C [] (ks.zip ws)) (I2.env0.make C [] (ks.zip ws)) bnd rall hq) ?_))
  intro r2 s2 hr2
  match r2, hr2 with
  | .error er, hr2 => exact False.elim hr2
  | .ok (.ret u), hr2 =>
    obtain ⟨e1, e2⟩ := fin _ _ s2 u big le I2 hr2
    exact ⟨e1, e2⟩
  | .ok .next, hr2 => exact False.elim hr2
  | .ok .brk, hr2 => exact False.elim hr2
  | .ok .cont, hr2 => exact False.elim hr2
/-- C(f = e), as a value -/
def tXcK (C : Addr) (ix : List Nat) (n : Nat) (sp : Sp) (tk : TA) : TE := fun σ H Q => tk σ H fun zs H1 => zs.length = n ∧ ∀ a, H1 a = none → sp (pickL ix ([V.ref a] ++ zs ++ [])) (upd H1 a (exo a C none)) (fun v H2 => v = .non ∧ Q (.ref a) H2) (fun _ _ _ => False)
theorem pe_xcK (XC : XcC X.K C ii) (iC : PySem.W.findIn X.K (.ref C) "__init__" = some (some (.ref fI))) (tI : PySem.W.typeIn X.K (.ref fI) = some (.type "function")) (F1 : FnOk X.prog X.w X.K X.mg X.base CX0 k fI fd ps sp) (hr : Room (k + 1) X.A) (hb : KB X.K fd ps 1 ks ix [])
    (hg : Gl X x) (hm : X.mg x = some (.ref C)) (hkw : PK X kws tk)
    (hall : (backToKw pos (keywordEach kws X.env)).all (·.1.isSome) = true := by rfl) (hks : (backToKw pos (keywordEach kws X.env)).filterMap (·.1) = ks := by rfl) (hdb : (x == ("__debug__" : Str)) = false := by decide)
    (hpl : ((backTo pos (starEach [] X.env)).any (·.1) || (backToKw pos (keywordEach kws X.env)).any (·.1.isNone)) = false := by rfl) : PE X (.Call (.Name x p) [] kws pos) (tXcK C ix ks.length sp tk) := by
  constructor
  intro pins s σ H Q I h
  refine wpAny_Call_Name_kw (ld_glob I hg hm (PySem.W.callWith_KW0 (h₀ := X.base) I.ok.mod.kin XC.kC hall ?_ hpl) hdb)
  refine thn (hkw.run pos pins s σ H _ I h) ?_
  rintro ws s2 ⟨zs, H2, I2, rz, l2, q2⟩
  refine ⟨I2.kIn, ?_⟩
  rw [hks]
  refine run_xcK XC iC tI F1 hr hb I2 rz l2 q2 ?_
  intro a hp2 s3 u big le I3 ce
  obtain ⟨v, H3, J, rv, ev, q3⟩ := I3.after ce
  subst ev
  exact ⟨rv, .ref a, H3, J, rfl, q3⟩
theorem de_xcK (A : XcAt X.K X.mg x C fI fd ps ii) (F1 : FnOk X.prog X.w X.K X.mg X.base CX0 k fI fd ps (spI C f)) (hr : Room (k + 1) X.A) (hb : KB X.K fd ps 1 [f] [0, 1] []) (hg : Gl X x) (hk : DK X W kws r)
    (hall : (backToKw pos (keywordEach kws X.env)).all (·.1.isSome) = true := by rfl) (hks : (backToKw pos (keywordEach kws X.env)).filterMap (·.1) = [f] := by rfl) (hdb : (x == ("__debug__" : Str)) = false := by decide)
    (hpl : ((backTo pos (starEach [] X.env)).any (·.1) || (backToKw pos (keywordEach kws X.env)).any (·.1.isNone)) = false := by rfl) : DE X W (.Call (.Name x p) [] kws pos) (newX x f r) := by
  refine PE.imp (pe_xcK A.xc A.iC A.tI F1 hr hb hg A.mgc hk hall hks hdb hpl) fun σ H Q ⟨F, P, β, η, S, q⟩ => ⟨F, P, β, η, S, (Run.bind q).imp fun ds η1 S1 F1 β1 H1 s1 ⟨e1, b1, hh⟩ vs rv => ?_⟩
  obtain ⟨c, ec, s, kk⟩ := Run.lift hh
  unfold mkX at ec
  split at ec
  · cases ec
    cases rv with
    | cons r1 r2 =>
      cases r2
      refine ⟨rfl, fun a na => ⟨a, _, rfl, upd_same, fun dx ndx ne => ⟨rfl, ?_⟩⟩⟩
      have nd : H1 dx = none := by rw [upd_ne ne] at ndx; exact ndx
      rw [put_over ne]
      obtain ⟨F2, e2, s2, r2⟩ := made_run (P := X.prog) (f := f) A.cl s na nd ne r1
      exact kk F2 _ e2 s2 _ r2
  · cases ec
end
/-! ### what the text says of an own exception class -/
structure XpAt (K : PySem.W.Frag) (x : Str) (C : Addr) : Prop where
  cl : ClsOf K x C
  ec : ExcC K C
theorem XpAt.one {K : PySem.W.Frag} {x : Str} {C C' : Addr} (A : XpAt K x C) (h : ClsOf K x C') : C' = C := by
  have z := h.symm.trans A.cl
  injection z with z; injection z with z; injection z
theorem XpAt.xf {K : PySem.W.Frag} {x : Str} {C : Addr} (A : XpAt K x C) : XfC K C := ⟨A.ec.hg, A.ec.hk, A.ec.hs, A.ec.hd⟩
/-- where a field may be read -/
def FldT (K : PySem.W.Frag) (f : Str) (tbl : List Str) : Prop := ∀ c ∈ tbl, ∀ C, ClsOf K c C → XfC K C ∧ PySem.W.findIn K (.ref C) f = some none
theorem fldT_nil {K : PySem.W.Frag} {f : Str} : FldT K f [] := fun c h => by cases h
theorem fldT_cons {K : PySem.W.Frag} {f x : Str} {C : Addr} {tbl : List Str} (A : XpAt K x C) (n : PySem.W.findIn K (.ref C) f = some none) (t : FldT K f tbl) : FldT K f (x :: tbl) := fun c h C' cl => by
  cases h with
  | head => cases A.one cl; exact ⟨A.xf, n⟩
  | tail _ h => exact t c h C' cl
/-- the answers of one question, class by class -/
theorem tb_cons {K : PySem.W.Frag} {u : Value} {c : Str} {b : Bool} {C : Addr} {tbl : List (Str × Bool)} (A : XpAt K c C) (k : PySem.W.kitOne K (.ref C) u = some b) (t : TblOk K u tbl) : TblOk K u ((c, b) :: tbl) := tbl_cons A.cl A.ec k t
/-! ### facts in one piece, for the kernel -/
def XpL (K : PySem.W.Frag) (xl : List (Str × Addr)) : Prop := ∀ q ∈ xl, XpAt K q.1 q.2
theorem xpl_nil {K : PySem.W.Frag} : XpL K [] := fun q h => by cases h
theorem xpl_cons {K : PySem.W.Frag} {x : Str} {C : Addr} {xl : List (Str × Addr)} (A : XpAt K x C) (t : XpL K xl) : XpL K ((x, C) :: xl) := fun q h => by
  cases h with
  | head => exact A
  | tail _ h => exact t q h
def tblZ : List (Str × Addr) → List Bool → List (Str × Bool)
  | (c, _) :: l, b :: bs => (c, b) :: tblZ l bs
  | _, _ => []
def kitZ (K : PySem.W.Frag) (u : Value) : List (Str × Addr) → List Bool → Bool
  | (_, C) :: l, b :: bs => decide (PySem.W.kitOne K (.ref C) u = some b) && kitZ K u l bs
  | _, _ => true
theorem tblZ_ok {K : PySem.W.Frag} {u : Value} : ∀ {xl : List (Str × Addr)} {bs : List Bool}, XpL K xl → kitZ K u xl bs = true → TblOk K u (tblZ xl bs)
  | [], [], _, _ => tbl_nil
  | [], _ :: _, _, _ => tbl_nil
  | _ :: _, [], _, _ => tbl_nil
  | (c, C) :: l, b :: bs, hx, hk => by
    have hk := Bool.and_eq_true_iff.mp hk
    exact tb_cons (hx (c, C) (.head _)) (of_decide_eq_true hk.1) (tblZ_ok (fun q h => hx q (.tail _ h)) hk.2)
def excB (K : PySem.W.Frag) (D : Addr) : Bool :=
  decide (PySem.W.findIn K (.ref D) "__getattribute__" = some (some (.builtin "BaseException.__getattribute__"))) && (decide (PySem.W.findIn K (.ref D) "__getattr__" = some none) && (decide (PySem.W.subIn K (.ref D) (.type "BaseException") = some true) &&
    (PySem.W.hasDictIn K D && (decide (PySem.W.findIn K (.ref D) "__class__" = some (some (.builtin "object.__class__"))) && (decide (PySem.W.specialIn K (.builtin "object.__class__") "__get__" = some (some (.builtin "getset_descriptor.__get__"))) &&
      (decide (PySem.W.takesIn K (.builtin "object.__class__") = some true) && decide (PySem.W.mroIn K D (.type "object") = some true)))))))
theorem excB_ok {K : PySem.W.Frag} {D : Addr} (h : excB K D = true) : ExcC K D := by
  simp only [excB, Bool.and_eq_true, decide_eq_true_eq] at h
  obtain ⟨h1, h2, h3, h4, h5, h6, h7, h8⟩ := h
  exact ⟨h1, h2, h3, h4, h5, h6, h7, h8⟩
def xcB (K : PySem.W.Frag) (C fI : Addr) : Bool :=
  decide (PySem.W.findIn K (.ref C) "__setattr__" = some (some (.builtin "object.__setattr__"))) && (decide (PySem.W.subIn K (.ref C) (.type "BaseException") = some true) && (decide (PySem.W.typeIn K (.ref C) = some (.type "type")) &&
    (PySem.W.keepIn K (.ref C) && decide (PySem.W.typeIn K (.ref fI) = some (.type "function")))))
theorem xcB_ok {K : PySem.W.Frag} {mg : Str → Option Value} {x : Str} {C fI : Addr} {fd : FuncData} {ps : List Str} {T : List Value} {nb ni ib ii : String} {nm q : Str} {N : Addr} {bs bm : List Value} {sn : List Str} {sub : List Value} {ab : Bool} {col : Option Bool} {dd : Option Addr} {k0 k1 k2 k3 k5 : Option Value}
    (XF : XB T nb ni ib ii) (noR : ∀ c r, T ≠ Value.ref c :: r) (lk : K.lookup C = some (excClassObj nm q C N bs bm true sn sub ab col dd k0 k1 k2 k3 k5 ni)) (tl : endsT T bm = true) (h : xcB K C fI = true) (hm : mg x = some (.ref C)) (cl : ClsOf K x C) (iC : PySem.W.findIn K (.ref C) "__init__" = some (some (.ref fI))) (bi : Binds K fd ps []) : XcAt K mg x C fI fd ps ii := by
  simp only [xcB, Bool.and_eq_true, decide_eq_true_eq] at h
  obtain ⟨h1, h2, h3, h4, h5⟩ := h
  exact ⟨hm, cl, ⟨⟨T, nb, ni, ib, XF, noR, nm, q, N, bs, bm, sn, sub, ab, col, dd, k0, k1, k2, k3, k5, lk, tl⟩, h1, h2, h3, h4⟩, iC, h5, bi⟩
theorem noVE : ∀ c r, tVE ≠ Value.ref c :: r := fun c r h => by cases h
theorem noIE : ∀ c r, tIE ≠ Value.ref c :: r := fun c r h => by cases h
theorem noRE : ∀ c r, tRE ≠ Value.ref c :: r := fun c r h => by cases h
theorem noKE : ∀ c r, tKE ≠ Value.ref c :: r := fun c r h => by cases h
/-- an own class with no __init__ of its own, the base of others -/
structure XbAt (K : PySem.W.Frag) (mg : Str → Option Value) (x : Str) (C : Addr) (ii : String) : Prop where
  mgc : mg x = some (.ref C)
  rd : PySem.W.readsIn K C (.type "type") = true
  ga : PySem.W.specialIn K (.ref C) "__getattribute__" = some (some (.builtin "type.__getattribute__"))
  fc : PySem.W.findCls K (.ref C) (.type "type") "__init__" = some (.val (.builtin ii))
end Y
/-! ZK: the sum of two lists as a new list. -/
namespace Y
open PySem L2 PySem.Spec PyProof.Rows
def catD : D → D → Option (List D)
  | .lst xs, .lst ys => if xs.length + ys.length ≤ sizeLine then some (xs ++ ys) else none
  | _, _ => none
def catN (ma mb : M D) : M (List D) := ma.bind fun x => mb.bind fun y => M.lift (catD x y)
theorem dn_add {X : Cx} {W : WX} {a b : Expr} {pos : Pos} {ma mb : M D} (ha : DE X W a ma) (hb : DE X W b mb) : DN X W (.BinOp a .Add b pos) (catN ma mb) := by
  refine PE.imp (pe_op op_cat ha hb) fun σ H Q h => ?_
  obtain ⟨F, P, β, η, S, h⟩ := h
  refine ⟨F, P, β, η, S, (Run.bind h).imp fun d η1 S1 F1 β1 H1 s1 ⟨e1, b1, h1⟩ v r1 => ?_⟩
  refine ⟨F1, P, β1, η1, S1, (Run.bind h1).imp fun d2 η2 S2 F2 β2 H2 s2 ⟨e2, b2, h2⟩ w r2 => ?_⟩
  obtain ⟨c, ec, s, q⟩ := Run.lift h2
  have r1 := r1.mono e2 b2
  unfold catD at ec
  split at ec
  · split at ec
    · rename_i hl
      cases ec
      cases r1 with
      | lst t1 l1 a1 => cases r2 with
        | lst t2 l2 a2 =>
          have e1 := a1.length
          have e2 := a2.length
          exact ⟨_, _, _, _, rfl, rfl, s.fsub _ _ t1, s.fsub _ _ t2, by omega, fun p hp => q F2 H2 (Ex.refl _) s p _ hp (by rw [List.length_append]; omega) (a1.append a2)⟩
    · cases ec
  · cases ec
/-! the sum of the script and a list -/
def rCatL (K : PySem.W.Frag) : R2 := fun x y H Q => ∃ l b xs zs, x = .ref l ∧ y = .ref b ∧ SqL K H l xs ∧ SqL K H b zs ∧ xs.length + zs.length ≤ sizeLine ∧ ∀ p, H p = none → Q (.ref p) (upd H p (.lst (xs ++ zs)))
theorem op_catL {X : Cx} : OpR X (binaryOp .Add) (rCatL X.K) := by
  intro pins s σ H x y v u Q I rx ry h
  obtain ⟨l, b, xs, zs, rfl, rfl, hl, hb, hz, q⟩ := h
  cases rx
  cases ry
  obtain ⟨ms, r1, ⟨⟨cx, dx, ex, sx⟩, n1, o1, c1, _, d1⟩, _⟩ := I.list hl
  obtain ⟨ks, r2, ⟨⟨cy, dy, ey, sy⟩, n2, o2, c2, _, d2⟩, _⟩ := I.list hb
  simp only at c1 d1 c2 d2
  subst c1 d1 c2 d2
  have l1 := r1.length
  have l2 := r2.length
  refine concat_meets ⟨_, o1, rfl⟩ ⟨_, o2, rfl⟩ noFill_list_add seq_list_add PySem.F.slot_list_add PySem.F.entry_list_add (PySem.F.args_list_add_2 _ _) (list_addW l b ms.toArray ks.toArray n1 n2 dx dy sx sy (by rw [List.size_toArray, List.size_toArray]; omega)) ⟨o1, o2, ?_⟩
  rw [show ms.toArray ++ ks.toArray = (ms ++ ks).toArray by simp]
  exact ⟨.ref _, _, I.lnew (t' := s.toks) (r1.append r2) (by rw [List.length_append]; omega), rfl, q _ I.fresh⟩
def addW (x y : D) : Option D := match x, y with
  | .scr ns, .lst ys => if ns.length + ys.length ≤ sizeLine then some (.lst (ns.map .int ++ ys)) else none
  | _, _ => addD x y
theorem od_addW {X : Cx} : OpR X (binaryOp .Add) (Ask2 X addW) := by
  refine Y.OpR.imp (Y.OpR.or od_add op_catL) fun x y H Q q => ?_
  obtain ⟨F, P, β, σ, η, S, a, b, z, s, ra, rb, e, k⟩ := q
  unfold addW at e
  split at e
  · split at e
    · rename_i hl
      cases e
      cases ra with
      | scr s1 l1 => cases rb with
        | lst s2 l2 a2 =>
          have e2 := a2.length
          refine .inr ⟨_, _, _, _, rfl, rfl, s.fsub.l s1, SqL.of (s.fsub _ _ s2), by rw [List.length_map]; omega, fun p hp => ?_⟩
          have hf : F p = none := by
            cases q : F p with
            | none => rfl
            | some u => rw [s.fsub _ _ q] at hp; cases hp
          exact k (upd F p _) _ _ (Ex.new hf) (s.new hp) (.lst upd_same (by rw [List.length_append, List.length_map]; omega) (((RAll.ints _).append a2).mono (Ex.new hf) (Bx.refl _)))
    · cases e
  · exact .inl ⟨F, P, β, σ, η, S, a, b, z, s, ra, rb, e, k⟩
end Y
/-! ZL: what a clause catches, class by class; isinstance of an own plain class, asked of anything. -/
namespace Y
open PySem L2 PySem.Spec PyProof.Rows
/-- does `except u` catch an exception of class c: class by class -/
def HitOk (K : PySem.W.Frag) (mg : Str → Option Value) (u : Value) (tbl : List (Str × Bool)) : Prop := ∀ c t, tbl.lookup c = some t → ∃ Cx, mg c = some (.ref Cx) ∧ ClsOf K c Cx ∧ PySem.W.exmOne K (.ref Cx) u = some t
def XmL (mg : Str → Option Value) (xl : List (Str × Addr)) : Prop := ∀ q ∈ xl, mg q.1 = some (.ref q.2)
theorem xml_nil {mg : Str → Option Value} : XmL mg [] := fun q h => by cases h
theorem xml_cons {mg : Str → Option Value} {x : Str} {C : Addr} {xl : List (Str × Addr)} (A : mg x = some (.ref C)) (t : XmL mg xl) : XmL mg ((x, C) :: xl) := fun q h => by
  cases h with
  | head => exact A
  | tail _ h => exact t q h
def exmZ (K : PySem.W.Frag) (u : Value) : List (Str × Addr) → List Bool → Bool
  | (_, C) :: l, b :: bs => decide (PySem.W.exmOne K (.ref C) u = some b) && exmZ K u l bs
  | _, _ => true
theorem hit_cons {K : PySem.W.Frag} {mg : Str → Option Value} {u : Value} {c : Str} {b : Bool} {C : Addr} {tbl : List (Str × Bool)} (cl : ClsOf K c C) (m : mg c = some (.ref C)) (k : PySem.W.exmOne K (.ref C) u = some b) (t : HitOk K mg u tbl) : HitOk K mg u ((c, b) :: tbl) := fun c' b' h => by
  by_cases z : c' = c
  · subst z
    simp only [List.lookup, beq_self_eq_true, Option.some.injEq] at h
    subst h
    exact ⟨C, m, cl, k⟩
  · have zz : (c' == c) = false := by simpa using z
    simp only [List.lookup, zz] at h
    exact t c' b' h
theorem hitZ_ok {K : PySem.W.Frag} {mg : Str → Option Value} {u : Value} : ∀ {xl : List (Str × Addr)} {bs : List Bool}, XpL K xl → XmL mg xl → exmZ K u xl bs = true → HitOk K mg u (tblZ xl bs)
  | [], [], _, _, _ => fun c b h => by cases h
  | [], _ :: _, _, _, _ => fun c b h => by cases h
  | _ :: _, [], _, _, _ => fun c b h => by cases h
  | (c, C) :: l, b :: bs, hx, hm, hk => by
    have hk := Bool.and_eq_true_iff.mp hk
    exact hit_cons (hx (c, C) (.head _)).cl (hm (c, C) (.head _)) (of_decide_eq_true hk.1) (hitZ_ok (fun q h => hx q (.tail _ h)) (fun q h => hm q (.tail _ h)) hk.2)
end Y
namespace Y.Raw
open PySem PySem.W PySem.Spec PyProof.Rows PySem.SeqAt
section
variable {prog : Program} {w : World} {A : Around} {E : Value → Shared → Prop} {s : Shared} {K : Frag} {x C L f : Addr} {h₀ : Heap} {m : Str → Option Value} {ox : Obj} {od : Option Obj} {b tb : Value}
theorem bound_ne {M : Model} {args : List Value} {Q : Option Value → Shared → Prop} (KX : K.In s.heap) (J : InstAt s.heap x ox C od) (ns : findIn K (.ref C) "__ne__" = some (some (.builtin "object.__ne__")))
    (go : wpAny M A (call (.builtin "object.__ne__") (.ref x :: args)) (fun v => Q (some v)) E s) : wpAny M A (callSpecialIfBound? (.ref x) "__ne__" args) Q E s := by
  simp only [callSpecialIfBound?, bindSpecialIfBound?]
  refine wpAny_holding (wpAny_bind (wpAny_bind (wpAny_bind (J.type.here ((looks_findIn KX ns).here (wpAny_bind (wpAny_askSetting (wpAny_ite ?_))))))))
  have last : wpAny M A (call (.builtin "object.__ne__") ([.ref x] ++ args) >>= fun v => pure (some v)) Q E s := wpAny_bind (wpAny_mono go (fun v s' z => wpAny_pure z) fun _ _ z => z)
  split
  · exact wpAny_bind (wpAny_of_eq (F.cmp_object.ne.bind _) (wpAny_pure (by exact last)))
  · exact wpAny_tryCatch (wpAny_bind (wpAny_of_eq (F.cmp_object.ne.bind _) (wpAny_pure (by exact last))))
theorem entry_ne (KX : K.In s.heap) (J : InstAt s.heap x ox C od) (es : findIn K (.ref C) "__eq__" = some (some (.ref f))) (ef : isFn K (.ref f) = true) (hu : A.units < cLine) {Q : Fin → Shared → Prop}
    (go : wpAny (model prog w) A (call (.ref f) [.ref x, b]) (fun v s' => ∃ r, v = .bool r ∧ Q (.done (.ret (.bool (!r)))) s') E s) : wpAny (model prog w) A (Builtin.«object.__ne__» ⟨[.ref x, b], []⟩) Q E s := by
  unfold Builtin.«object.__ne__»
  repeat (first
    | with_reducible refine wpAny_cRoomFor hu ?_
    | (refine wpAny_bind (m := callSpecialIfBound? (.ref x) (Str.ofString "__eq__") [b])
        (ifBound_K KX J es ef (wpAny_mono go (fun v s' z => by
          obtain ⟨r, rfl, q⟩ := z
          repeat (first | exact q | exact wpAny_pure q | exact wpAny_truthy_bool q | (refine wpAny_bind (m := truthy (.bool _)) (wpAny_truthy_bool ?_)) | wp_step)) fun _ _ z => z)))
    | wp_step)
theorem rich_ne (hu : A.units + 1 < cLine) (KX : K.In s.heap) (J : InstAt s.heap x ox C od) (tyb : Looks (model prog w) s.heap (typeOf b) tb) (nf : notFirst K C tb = true) (ns : findIn K (.ref C) "__ne__" = some (some (.builtin "object.__ne__")))
    (es : findIn K (.ref C) "__eq__" = some (some (.ref f))) (ef : isFn K (.ref f) = true) (hm : mroIn K C (.type "object") = some true) {Q : Value → Shared → Prop}
    (go : wpAny (model prog w) A.in1 (call (.ref f) [.ref x, b]) (fun v s' => ∃ r, v = .bool r ∧ Q (.bool (!r)) s') E s) : wpAny (model prog w) A (richCompare .NotEq (.ref x) b) Q E s := by
  have one : wpAny (model prog w) A (tryCompare (.ref x) "__ne__" b) (fun r s' => ∃ v, r = some v ∧ Q v s') E s := by
    unfold tryCompare
    refine wpAny_bind (bound_ne KX J ns (wpAny_call (codeAny_call_builtin F.cmp_object.ne.plain F.cmpEntry_ne (check_slot F.cmpKind_ne F.cmpSplit_ne (J.type.andThen (looks_mroIn KX hm)) (F.cmpArgs_ne _ _)
      (entry_ne (A := A.in1) KX J es ef hu (wpAny_mono go (fun v s' z => ?_) fun _ _ z => z))))))
    obtain ⟨r, rfl, q⟩ := z
    first | exact ⟨r, rfl, wpAny_pure ⟨_, rfl, q⟩⟩ | exact ⟨r, rfl, _, rfl, q⟩
  unfold richCompare
  simp only [oneThing_ref]
  refine wpAny_holding (wpAny_bind (wpAny_cRoomFor (Nat.lt_of_succ_lt hu) ?_))
  refine wpAny_bind (J.type.here (wpAny_bind (tyb.here ?_)))
  split
  · rename_i q
    have e : subIn K tb (.ref C) = some false := by
      rcases Bool.or_eq_true_iff.mp nf with e | e
      · rw [beq_iff_eq.mp e] at q; simp at q
      · exact beq_iff_eq.mp e
    refine wpAny_bind ((looks_subIn KX e).here ?_)
    simp only [Bool.false_eq_true, if_false]
    refine wpAny_bind (wpAny_mono one (fun r s' z => ?_) fun _ _ z => z)
    obtain ⟨v, rfl, q⟩ := z
    exact wpAny_pure q
  · refine wpAny_bind (wpAny_pure ?_)
    simp only [Bool.false_eq_true, if_false]
    refine wpAny_bind (wpAny_mono one (fun r s' z => ?_) fun _ _ z => z)
    obtain ⟨v, rfl, q⟩ := z
    exact wpAny_pure q
end
end Y.Raw
namespace Y
open PySem L2 PySem.Spec PyProof.Rows
/-! ### an own plain class: isinstance asked of anything, == and != by its own __eq__ -/
def kindNames : List String := ["NoneType", "bool", "int", "str", "tuple", "list", "dict"]
structure KindAt (K : PySem.W.Frag) (C : Addr) : Prop where
  ha : PySem.W.findIn K (.ref C) "__class__" = some (some (.builtin "object.__class__"))
  hn : PySem.W.specialIn K (.builtin "object.__class__") "__get__" = some (some (.builtin "getset_descriptor.__get__"))
  ht : PySem.W.takesIn K (.builtin "object.__class__") = some true
  hm : PySem.W.mroIn K C (.type "object") = some true
  no : ∀ T ∈ kindNames, PySem.W.kitOne K (.type T) (.ref C) = some false
  nf : ∀ T ∈ kindNames, PySem.W.notFirst K C (.type T) = true
def kindB (K : PySem.W.Frag) (C : Addr) : Bool := decide (PySem.W.findIn K (.ref C) "__class__" = some (some (.builtin "object.__class__"))) && (decide (PySem.W.specialIn K (.builtin "object.__class__") "__get__" = some (some (.builtin "getset_descriptor.__get__"))) &&
  (decide (PySem.W.takesIn K (.builtin "object.__class__") = some true) && (decide (PySem.W.mroIn K C (.type "object") = some true) && (kindNames.all (fun T => decide (PySem.W.kitOne K (.type T) (.ref C) = some false)) && kindNames.all (fun T => PySem.W.notFirst K C (.type T))))))
theorem kindB_ok {K : PySem.W.Frag} {C : Addr} (h : kindB K C = true) : KindAt K C := by
  simp only [kindB, Bool.and_eq_true, decide_eq_true_eq, List.all_eq_true] at h
  obtain ⟨h1, h2, h3, h4, h5, h6⟩ := h
  exact ⟨h1, h2, h3, h4, h5, h6⟩
theorem D.tyN_mem {d : D} {T : String} (h : d.tyN = some T) : T ∈ kindNames := by
  unfold D.tyN at h
  split at h <;> cases h <;> simp [kindNames]
end Y
/-! ZM: over data: isinstance(x, C) of an own plain class; == and != by its own __eq__. -/
namespace Y
open PySem L2 PySem.Spec PyProof.Rows
/-- is it an instance of that class: known of what is no other class's -/
def kindD (cn : Str) (S : Store) (d : D) : Option Bool := match d with
  | .ob i => (match S.get i with
    | some (.ins c _) => if c = cn then some true else none
    | _ => none)
  | d => (d.tyN).map fun _ => false
section
variable {X : Cx} {W : WX} {cn : Str} {C : Addr}
theorem kind_ty {F P : Hp} {β : Nat → Option Addr} {σ : L2.St} {η : Sls} {S : Store} {H : Hp} {d : D} {v : V} {b : Bool} (h : kindD cn S d = some b) (s : Ste X.kw X.mg F P β σ η S H) (rv : R X.kw F β v d) (A : ClsAt X.K X.mg cn C) (Kd : KindAt X.K C) :
    ∃ t, TyX X.K H v t ∧ PySem.W.kitOne X.K t (.ref C) = some b ∧ PySem.W.notFirst X.K C t = true ∧ (b = true → ∃ a dx vs, v = .ref a ∧ H a = some (.ins C dx vs)) := by
  unfold kindD at h
  split at h
  · rename_i i
    split at h
    · rename_i c fs hg
      split at h
      · rename_i hc
        subst hc
        cases h
        obtain ⟨a, ha, C', dx, vs, g1, g2, g3⟩ := s.obs i _ hg
        rw [A.mgc] at g1; cases g1
        cases rv with
        | ob hb =>
          rw [ha] at hb; cases hb
          refine ⟨.ref C, .base (.ins g2 A.cl Kd.ha Kd.hn Kd.ht Kd.hm), ?_, by simp [PySem.W.notFirst], fun _ => ⟨a, dx, vs, rfl, g2⟩⟩
          unfold PySem.W.kitOne
          rw [if_pos (by simp)]
      · cases h
    · cases h
  · obtain ⟨T, hT, hb⟩ := Option.map_eq_some_iff.mp h
    subst hb
    exact ⟨.type T, rv.tyX s.fsub hT, Kd.no T (D.tyN_mem hT), Kd.nf T (D.tyN_mem hT), fun z => Bool.noConfusion z⟩
def isB (cn : Str) (m : M D) : M D := m.bind fun d η S => (kindD cn S d).map fun b => .ok (.bl b) η S
theorem de_isB {e : Expr} {m : M D} {p p2 pos : Pos} (A : ClsAt X.K X.mg cn C) (Kd : KindAt X.K C) (hgc : Gl X cn) (hg : Gl X "isinstance") (hm : X.mg "isinstance" = none) (hv : bootBuiltins "isinstance" = some (.builtin "isinstance")) (he : DE X W e m)
    (hdc : (cn == ("__debug__" : Str)) = false := by decide) (hn : ("isinstance" : Str) ≠ "__name__" := by decide) (hdb : (("isinstance" : Str) == ("__debug__" : Str)) = false := by decide)
    (hst : starEach [e, .Name cn p2] X.env = (false, eval e X.env) :: starEach [.Name cn p2] X.env := by rfl) (hs2 : starEach [.Name cn p2] X.env = (false, eval (.Name cn p2) X.env) :: starEach [] X.env := by rfl) (hpl : (backTo pos (starEach [.Name cn p2] X.env)).any (·.1) = false := by rfl) :
    DE X W (.Call (.Name "isinstance" p) [e, .Name cn p2] [] pos) (isB cn m) := by
  refine PE.imp (pe_callB call_isi hg hm hv (pa_cons he (pa_cons (pe_glob (v := .ref C) hgc A.mgc rfl hdc) pa_nil hs2) hst) hn hdb hst hpl) fun σ H Q ⟨F, P, β, η, S, q⟩ => ⟨F, P, β, η, S, (Run.bind q).imp fun d η1 S1 F1 β1 H1 s1 ⟨e1, b1, r, e, s, k⟩ v rv => ?_⟩
  obtain ⟨b, hb, hr⟩ := Option.map_eq_some_iff.mp e
  subst hr
  obtain ⟨t, ty, ki, _⟩ := kind_ty hb s rv A Kd
  exact ⟨v, .ref C, t, .ref C, b, rfl, .own C, ty, ki, k F1 β1 H1 (Ex.refl _) (Bx.refl _) s _ (.bl b)⟩
/-! ### == -/
def rOwn (K : PySem.W.Frag) (C : Addr) (sp : Sp) (neg : Bool) : R2 := fun x y H Q => ∃ (a dx : Addr) (fs : List (Str × V)) (t : Value), x = .ref a ∧ H a = some (.ins C dx fs) ∧ TyX K H y t ∧ PySem.W.notFirst K C t = true ∧
  sp [x, y] H (fun v H' => ∃ b, v = .bl b ∧ Q (.bl (b != neg)) H') (fun _ _ _ => False)
section
variable {k : Nat} {f : Addr} {fd : FuncData} {ps : List Str} {sp : Sp}
theorem own_go {pins : List (Addr × Obj)} {σ : L2.St} {H : Hp} {s : Shared} {Q : VK} {a : Addr} {y : V} {u : Value} {A : Around} {E' : Value → Shared → Prop} {Q' : Value → Shared → Prop} (F : FnG X.prog X.w X.K X.mg X.base CX0 k f fd ps sp) (hG : A.guards = some []) (hr : Room k A) (fr : A.frames = X.A.frames)
    (hb : Binds X.K fd ps []) (I : Inv X pins σ H s) (ry : RelV y u) (h : sp [.ref a, y] H Q (fun _ _ _ => False)) (go : ∀ v w s' H', Inv X pins σ H' s' → RelV v w → Q v H' → Q' w s') : wpAny (model X.prog X.w) A (call (.ref f) [.ref a, u]) Q' E' s := by
  have e := I.env0
  have e0 : Env0 X.prog X.w X.K X.mg X.base A X.stack s H := ⟨by rw [fr]; exact e.frames, e.mod, e.bs, e.bsz, e.funs, e.frf, e.hok, e.bare⟩
  have rr : Vals [V.ref a, y] [Value.ref a, u] := .cons rfl (.cons ry .nil)
  have len := F.cnt _ _ _ _ h
  have bnd := hb s [.ref a, u] I.kIn (by simpa using len)
  rw [List.append_nil] at bnd
  refine wpAny_call (codeAny_mono (F.go A X.stack s H ⟨[.ref a, u], []⟩ _ _ _ _ hG hr e0 bnd rr h) ?_)
  intro r s' hq
  match r, hq with
  | .error er, hq => exact False.elim hq
  | .ok (.ret w), hq =>
    obtain ⟨z, H', I', rz, q⟩ := I.after hq
    exact go z w s' H' I' rz q
  | .ok .next, hq => exact False.elim hq
  | .ok .brk, hq => exact False.elim hq
  | .ok .cont, hq => exact False.elim hq
theorem op_ownEq (F : FnG X.prog X.w X.K X.mg X.base CX0 k f fd ps sp) (hG : X.A.guards = some []) (hr : Room k X.A) (es : PySem.W.findIn X.K (.ref C) "__eq__" = some (some (.ref f))) (ef : PySem.W.isFn X.K (.ref f) = true) (hb : Binds X.K fd ps []) : OpR X (compareOp .Eq) (rOwn X.K C sp false) := by
  intro pins s σ H x y v u Q I rx ry h
  obtain ⟨a, dx, fs, t, rfl, ha, ty, nf, h⟩ := h
  cases (show v = Value.ref a from rx)
  obtain ⟨mA, J, _⟩ := ins_get I.hok ha
  obtain ⟨od, J, _⟩ := J.look
  obtain ⟨Pk, Z, p, _⟩ := kit_of I ry ty
  obtain ⟨m, hF⟩ := I.fr
  show wpAny _ _ (richCompare .Eq (.ref a) u) _ _ _
  refine PySem.W.cmp_K (op := .Eq) (tb := t) hr.units0 hF I.ok.mod.kin J (Z.ty _ _ I.kIn p) nf es ef ?_
  refine own_go F hG hr rfl hb I ry h fun v w s' H' I' rv q => ?_
  obtain ⟨b, rfl, q⟩ := q
  cases (show w = Value.bool b from rv)
  exact ⟨.bl (b != false), H', I', by cases b <;> rfl, q⟩
theorem op_ownNe (F : FnG X.prog X.w X.K X.mg X.base CX0 k f fd ps sp) (hG : X.A.guards = some []) (hr : Room (k + 1) X.A) (es : PySem.W.findIn X.K (.ref C) "__eq__" = some (some (.ref f))) (ns : PySem.W.findIn X.K (.ref C) "__ne__" = some (some (.builtin "object.__ne__"))) (ef : PySem.W.isFn X.K (.ref f) = true)
    (hm : PySem.W.mroIn X.K C (.type "object") = some true) (hb : Binds X.K fd ps []) : OpR X (compareOp .NotEq) (rOwn X.K C sp true) := by
  intro pins s σ H x y v u Q I rx ry h
  obtain ⟨a, dx, fs, t, rfl, ha, ty, nf, h⟩ := h
  cases (show v = Value.ref a from rx)
  obtain ⟨mA, J, _⟩ := ins_get I.hok ha
  obtain ⟨od, J, _⟩ := J.look
  obtain ⟨Pk, Z, p, _⟩ := kit_of I ry ty
  show wpAny _ _ (richCompare .NotEq (.ref a) u) _ _ _
  refine Raw.rich_ne (tb := t) (by have := hr.un; omega) I.kIn J (Z.ty _ _ I.kIn p) nf ns es ef hm ?_
  refine own_go F hG hr.in1 rfl hb I ry h fun v w s' H' I' rv q => ?_
  obtain ⟨b, rfl, q⟩ := q
  cases (show w = Value.bool b from rv)
  exact ⟨b, rfl, .bl (b != true), H', I', by cases b <;> rfl, q⟩
end
def eqOwn (cn : Str) (neg : Bool) (fn : Fn) (ma mb : M D) : M D := ma.bind fun x => mb.bind fun y => fun η S => match kindD cn S x, kindD cn S y with
  | some true, some _ => (match fn [x, y] S with
    | some (.ok (.bl b) S') => some (.ok (.bl (b != neg)) η S')
    | _ => none)
  | _, _ => none
theorem run_eqOwn {ma mb : M D} {neg : Bool} {fn : Fn} {σ : L2.St} {H : Hp} {Q : VK} (A : ClsAt X.K X.mg cn C) (Kd : KindAt X.K C) (h : rdE X W (eqOwn cn neg fn ma mb) σ H Q) : tOp (rOwn X.K C (spF X.kw X.mg 2 fn) neg) (rdE X W ma) (rdE X W mb) σ H Q := by
  obtain ⟨F, P, β, η, S, h⟩ := h
  refine ⟨F, P, β, η, S, (Run.bind h).imp fun x η1 S1 F1 β1 H1 s1 ⟨e1, b1, h1⟩ v r1 => ?_⟩
  refine ⟨F1, P, β1, η1, S1, (Run.bind h1).imp fun y η2 S2 F2 β2 H2 s2 ⟨e2, b2, r, e, s, p⟩ w r2 => ?_⟩
  have r1 := r1.mono e2 b2
  cases kx : kindD cn S2 x with
  | none => simp only [kx] at e; cases e
  | some bx =>
    cases bx with
    | false => simp only [kx] at e; cases e
    | true =>
      cases ky : kindD cn S2 y with
      | none => simp only [kx, ky] at e; cases e
      | some by' =>
        simp only [kx, ky] at e
        cases qf : fn [x, y] S2 with
        | none => simp only [qf] at e; cases e
        | some rr =>
          simp only [qf] at e
          split at e
          · rename_i b S3 hq
            cases hq
            cases e
            obtain ⟨t1, _, _, _, g⟩ := kind_ty kx s r1 A Kd
            obtain ⟨a0, dx, fs, ev, ea⟩ := g rfl
            obtain ⟨t2, ty2, _, nf2, _⟩ := kind_ty ky s r2 A Kd
            refine ⟨a0, dx, fs, t2, ev, ea, ty2, nf2, F2, Pc σ η2 H2 P, β2, S2, _, _, rfl, qf, .cons r1 (.cons r2 .nil), s.enter, ?_⟩
            intro F' β' H' v3 e3 b3 s3 r3
            cases r3
            exact ⟨b, rfl, p F' β' H' e3 b3 (s.leave s3 e3 b3) _ (.bl _)⟩
          · cases e
theorem de_eqOwn {a b : Expr} {pos : Pos} {op : CmpOp} {ma mb : M D} {neg : Bool} {fn : Fn} (A : ClsAt X.K X.mg cn C) (Kd : KindAt X.K C) (ho : OpR X (compareOp op) (rOwn X.K C (spF X.kw X.mg 2 fn) neg)) (ha : DE X W a ma) (hb : DE X W b mb) (hm : behindInMarks op b = false := by rfl) : DE X W (.Compare a [op] [b] pos) (eqOwn cn neg fn ma mb) :=
  PE.imp (pe_cmpR ho ha hb hm) fun _ _ _ h => run_eqOwn A Kd h
theorem dt_eqOwn {a b : Expr} {pos : Pos} {op : CmpOp} {ma mb : M D} {neg : Bool} {fn : Fn} (A : ClsAt X.K X.mg cn C) (Kd : KindAt X.K C) (ho : OpR X (compareOp op) (rOwn X.K C (spF X.kw X.mg 2 fn) neg)) (ha : DE X W a ma) (hb : DE X W b mb) (hm : behindInMarks op b = false := by rfl) : DT X W (.Compare a [op] [b] pos) (test (eqOwn cn neg fn ma mb)) :=
  PT.imp (pt_cmpR ho ha hb hm) fun _ _ _ h => run_eqOwn A Kd (run_test h)
end
end Y
/-! ZN: len(x) by an own __len__; own == and len of the text, as gen2.py prints them. -/
namespace Y
open PySem L2 PySem.Spec PyProof.Rows
section
variable {X : Cx} {W : WX} {cn : Str} {C : Addr} {k : Nat} {f : Addr} {fd : FuncData} {ps : List Str} {sp : Sp}
def rLenO (C : Addr) (sp : Sp) : List V → Hp → VK → Prop := fun xs H Q => ∃ (a dx : Addr) (fs : List (Str × V)), xs = [.ref a] ∧ H a = some (.ins C dx fs) ∧ sp [.ref a] H (fun v H' => ∃ i : Int, v = .int i ∧ 0 ≤ i ∧ i < 2 ^ 63 ∧ Q (.int i) H') (fun _ _ _ => False)
theorem call_lenO (F : FnG X.prog X.w X.K X.mg X.base CX0 k f fd ps sp) (hG : X.A.guards = some []) (hr : Room (k + 1) X.A) (ls : PySem.W.findIn X.K (.ref C) "__len__" = some (some (.ref f))) (ef : PySem.W.isFn X.K (.ref f) = true) (hb : Binds X.K fd ps []) : CallR X (.builtin "len") (rLenO C sp) := by
  intro pins s σ H xs us Q I r h
  obtain ⟨a, dx, fs, rfl, ha, h⟩ := h
  obtain ⟨u, rfl, ru⟩ := vals1 r
  obtain rfl : u = Value.ref a := ru
  obtain ⟨mA, J, _⟩ := ins_get I.hok ha
  obtain ⟨od, J, _⟩ := J.look
  obtain ⟨m, hF⟩ := I.fr
  refine PySem.W.len_K hF I.ok.mod.kin J ls ef ?_
  have e := I.env0
  have fr : X.A.in1.frames = X.A.frames := rfl
  have e0 : Env0 X.prog X.w X.K X.mg X.base X.A.in1 X.stack s H := ⟨by rw [fr]; exact e.frames, e.mod, e.bs, e.bsz, e.funs, e.frf, e.hok, e.bare⟩
  have rr : Vals [V.ref a] [Value.ref a] := .cons rfl .nil
  have len := F.cnt _ _ _ _ h
  have bnd := hb s [.ref a] I.kIn (by simpa using len)
  rw [List.append_nil] at bnd
  refine wpAny_call (codeAny_mono (F.go X.A.in1 X.stack s H ⟨[.ref a], []⟩ _ _ _ _ hG hr.in1 e0 bnd rr h) ?_)
  intro r s' hq
  match r, hq with
  | .error er, hq => exact False.elim hq
  | .ok (.ret w), hq =>
    obtain ⟨z, H', I', rz, i, rfl, h0, h1, q⟩ := I.after hq
    obtain ⟨t, rfl⟩ := (show ∃ t, w = Value.int i t from rz)
    exact ⟨⟨h0, h1⟩, .int i, H', I'.tok _, ⟨_, rfl⟩, q⟩
  | .ok .next, hq => exact False.elim hq
  | .ok .brk, hq => exact False.elim hq
  | .ok .cont, hq => exact False.elim hq
def lenOwn (cn : Str) (fn : Fn) (m : M D) : M D := m.bind fun x η S => match kindD cn S x with
  | some true => (match fn [x] S with
    | some (.ok (.int i) S') => if 0 ≤ i ∧ i < 2 ^ 63 then some (.ok (.int i) η S') else none
    | _ => none)
  | _ => none
theorem de_lenOwn {e : Expr} {p pos : Pos} {m : M D} {fn : Fn} (A : ClsAt X.K X.mg cn C) (Kd : KindAt X.K C) (hc : CallR X (.builtin "len") (rLenO C (spF X.kw X.mg 1 fn))) (hg : Gl X "len") (hm : X.mg "len" = none) (hv : bootBuiltins "len" = some (.builtin "len")) (he : DE X W e m)
    (hn : ("len" : Str) ≠ "__name__" := by decide) (hdb : (("len" : Str) == ("__debug__" : Str)) = false := by decide) (hst : starEach [e] X.env = (false, eval e X.env) :: starEach [] X.env := by rfl) (hpl : (backTo pos (starEach [] X.env)).any (·.1) = false := by rfl) :
    DE X W (.Call (.Name "len" p) [e] [] pos) (lenOwn cn fn m) := by
  refine PE.imp (pe_callB hc hg hm hv (pa_cons he pa_nil hst) hn hdb hst hpl) fun σ H Q ⟨F, P, β, η, S, q⟩ => ⟨F, P, β, η, S, (Run.bind q).imp fun x η1 S1 F1 β1 H1 s1 ⟨e1, b1, r, e, s, p⟩ v rv => ?_⟩
  cases kx : kindD cn S1 x with
  | none => simp only [kx] at e; cases e
  | some bx =>
    cases bx with
    | false => simp only [kx] at e; cases e
    | true =>
      simp only [kx] at e
      cases qf : fn [x] S1 with
      | none => simp only [qf] at e; cases e
      | some rr =>
        simp only [qf] at e
        split at e
        · rename_i i S3 hq
          cases hq
          split at e
          · rename_i hi
            cases e
            obtain ⟨t1, _, _, _, g⟩ := kind_ty kx s rv A Kd
            obtain ⟨a0, dx, fs, ev, ea⟩ := g rfl
            subst ev
            refine ⟨a0, dx, fs, rfl, ea, F1, Pc σ η1 H1 P, β1, S1, _, _, rfl, qf, .cons rv .nil, s.enter, ?_⟩
            intro F' β' H' v3 e3 b3 s3 r3
            cases r3
            exact ⟨i, rfl, hi.1, hi.2, p F' β' H' e3 b3 (s.leave s3 e3 b3) _ (.int _)⟩
          · cases e
        · cases e
/-- a method that the language calls by its name -/
structure SpAt (K : PySem.W.Frag) (C : Addr) (f : Addr) (fd : FuncData) (ps : List Str) (nm : Str) : Prop where
  fi : PySem.W.findIn K (.ref C) nm = some (some (.ref f))
  fn : PySem.W.isFn K (.ref f) = true
  bi : Binds K fd ps []
end
end Y
/-! ZO: repr and slices of lists of the store. -/
namespace Y
open PySem L2 PySem.Spec PyProof.Rows
section
variable {X : Cx} {W : WX}
def reprS (S : Store) (ds : List D) : Option D := match ds with
  | [.ob n] => (lstV S (.ob n)).bind fun xs => reprW [.lst xs]
  | ds => reprW ds
theorem cd_reprS (hG : X.A.guards = some []) (hu : X.A.units + 64 < cLine) : CallR X (.builtin "repr") (AskCS X reprS) := by
  intro pins s σ H xs us Q I rx q
  obtain ⟨F, P, β, σ', η, S, ds, c, st, ra, e, k⟩ := q
  unfold reprS at e
  split at e
  · rename_i n
    cases hx : lstV S (.ob n) with
    | none => rw [hx] at e; cases e
    | some ys =>
      rw [hx, Option.bind_some] at e
      unfold reprW at e
      simp only [D.toW] at e
      cases qp : toWs ys with
      | none => rw [qp] at e; cases e
      | some ps =>
        rw [qp] at e
        have e : showP (.list ps) = some c := e
        unfold showP at e
        split at e
        · rename_i hp
          obtain ⟨h1, h2, h3, h4⟩ := hp
          cases e
          cases ra with
          | cons r1 r2 =>
            cases r2
            obtain ⟨a, vs, rfl, g1, g2, g3⟩ := r1.lstV st hx
            obtain ⟨u, rfl, ru⟩ := vals1 rx
            obtain rfl : u = Value.ref a := ru
            obtain ⟨its, rv, ⟨o, m, ho, hc, _, hd⟩, _⟩ := I.list g1
            have rr : Rw s.heap (.ref a) (.list ps) := .lst ho hc hd (by simpa using RAll.rw st.fsub I g3 rv qp)
            exact rr.call h1 h3 hG (by omega) fun h' u tk hk => ⟨.str (PyData.list ps).shown, H, I.kept (t' := tk) hk, ⟨u, rfl⟩, k F H _ (Ex.refl F) st (.str h4)⟩
        · cases e
  · exact cd_reprW hG hu pins s σ H xs us Q I rx ⟨F, P, β, σ', η, S, _, c, st, ra, e, k⟩
/-- x[lo:hi] of a list of the store: a new list, nobody's -/
def cutS (S : Store) (d : D) (lo hi : Option Int) : Option D := match d with
  | .ob n => (lstV S (.ob n)).map fun xs => .lst (cutL xs lo hi)
  | d => cutD d lo hi
def AskSS (X : Cx) : V → Option Int → Option Int → Hp → VK → Prop := fun x lo hi H Q => ∃ F P β σ η S d c, Ste X.kw X.mg F P β σ η S H ∧ R X.kw F β x d ∧ cutS S d lo hi = some c ∧
    ∀ F' H' v, Ex F F' → Ste X.kw X.mg F' P β σ η S H' → R X.kw F' β v c → Q v H'
theorem sl_cutS : L2.SlR X (AskSS X) := by
  refine Y.SlR.imp (L2.SlR.or sl_list sl_cut) fun x lo hi H Q q => ?_
  obtain ⟨F, P, β, σ, η, S, d, c, s, r, e, k⟩ := q
  unfold cutS at e
  split at e
  · rename_i n
    obtain ⟨xs, hx, hc⟩ := Option.map_eq_some_iff.mp e
    subst hc
    obtain ⟨a, vs, rfl, g1, g2, g3⟩ := r.lstV s hx
    refine .inl ⟨_, _, rfl, g1, fun p hp => ?_⟩
    have hf := s.fnone hp
    exact k (upd F p (.lst _)) _ _ (Ex.new hf) (s.new hp) (.lst upd_same (cutV_len g2) ((g3.cut lo hi).mono (Ex.new hf) (Bx.refl _)))
  · exact .inr ⟨F, P, β, σ, η, S, _, c, s, r, e, k⟩
def sliceVS (m : M D) (ml mh : M (Option Int)) : M D := m.bind fun d => ml.bind fun l => mh.bind fun h => liftS fun S => cutS S d l h
theorem de_sliceS {e : Expr} {lo hi : Option Expr} {p2 pos : Pos} {m : M D} {ml mh : M (Option Int)} (he : DE X W e m) (hl : DO X W lo ml) (hh : DO X W hi mh) : DE X W (.Subscript e (.Slice lo hi none p2) pos) (sliceVS m ml mh) := by
  refine PE.imp (pe_slice sl_cutS he hl hh) fun σ H Q ⟨F, P, β, η, S, h⟩ => ?_
  refine ⟨F, P, β, η, S, (Run.bind h).imp fun d η1 S1 F1 β1 H1 s1 ⟨e1, b1, h1⟩ v rv => ?_⟩
  refine ⟨F1, P, β1, η1, S1, (Run.bind h1).imp fun l η2 S2 F2 β2 H2 s2 ⟨e2, b2, h2⟩ => ?_⟩
  refine ⟨F2, P, β2, η2, S2, (Run.bind h2).imp fun l η3 S3 F3 β3 H3 s3 ⟨e3, b3, h3⟩ => ?_⟩
  obtain ⟨c, ec, s4, p4⟩ := Run.liftS h3
  exact ⟨F3, P, β3, σ, η3, S3, d, c, s4, (rv.mono e2 b2).mono e3 b3, ec, fun F' H' v e s => p4 F' H' e s v⟩
theorem ev_sliceVS {m : M D} {ml mh : M (Option Int)} {η : Sls} {S : Store} {Q : D → Sls → Store → Prop} : ev (sliceVS m ml mh) η S Q ↔ ev m η S fun d η S => ev ml η S fun l η S => ev mh η S fun h η S => ∃ c, cutS S d l h = some c ∧ Q c η S := by
  unfold sliceVS; simp only [ev_bind, ev_liftS]
end
end Y
/-! ZP: the plain calculus with exceptions. -/
namespace Y
open PySem L2
/-- what a run comes to; E: what an exception that comes out of it comes to -/
def vx {A : Type} (E : Exn → Sls → Store → Prop) (m : M A) (η : Sls) (S : Store) (Q : A → Sls → Store → Prop) : Prop := ∃ r, m η S = some r ∧ match r with
  | .ok a η' S' => Q a η' S'
  | .ex x η' S' => E x η' S'
/-- what a call comes to -/
def retK (r : Ret) (Q : D → Store → Prop) (E : Exn → Store → Prop) : Prop := match r with
  | .ok d S => Q d S
  | .ex x S => E x S
theorem retK_ok {d : D} {S : Store} {Q : D → Store → Prop} {E : Exn → Store → Prop} : retK (.ok d S) Q E ↔ Q d S := Iff.rfl
theorem retK_ex {x : Exn} {S : Store} {Q : D → Store → Prop} {E : Exn → Store → Prop} : retK (.ex x S) Q E ↔ E x S := Iff.rfl
section
variable {A B : Type} {η : Sls} {S : Store} {E : Exn → Sls → Store → Prop}
theorem vx_ret {a : A} {Q : A → Sls → Store → Prop} : vx E (M.ret a) η S Q ↔ Q a η S :=
  ⟨fun ⟨_, e, q⟩ => by cases e; exact q, fun q => ⟨_, rfl, q⟩⟩
theorem vx_bind {m : M A} {f : A → M B} {Q : B → Sls → Store → Prop} : vx E (m.bind f) η S Q ↔ vx E m η S fun a η' S' => vx E (f a) η' S' Q := by
  unfold vx M.bind
  cases h : m η S with
  | none => exact ⟨fun ⟨_, e, _⟩ => (by simp only at e; cases e), fun ⟨_, e, _⟩ => by cases e⟩
  | some r =>
    cases r with
    | ok a η1 S1 => exact ⟨fun ⟨r, e, q⟩ => ⟨_, rfl, r, e, q⟩, fun ⟨_, e, q⟩ => by cases e; exact q⟩
    | ex x η1 S1 => exact ⟨fun ⟨r, e, q⟩ => ⟨_, rfl, by cases e; exact q⟩, fun ⟨_, e, q⟩ => by cases e; exact ⟨_, rfl, q⟩⟩
theorem vx_no {m : M A} {Q : A → Sls → Store → Prop} (h : ∀ x η' S', m η S ≠ some (.ex x η' S')) : vx E m η S Q ↔ ev m η S Q := by
  unfold vx ev
  constructor
  · rintro ⟨r, e, q⟩
    cases r with
    | ok a η1 S1 => exact ⟨a, η1, S1, e, q⟩
    | ex x η1 S1 => exact absurd e (h x η1 S1)
  · rintro ⟨a, η1, S1, e, q⟩
    exact ⟨_, e, q⟩
theorem vx_of {m : M A} {Q : A → Sls → Store → Prop} (h : ev m η S Q) : vx E m η S Q := let ⟨_, _, _, e, q⟩ := h; ⟨_, e, q⟩
theorem ev_vx {m : M A} {Q : A → Sls → Store → Prop} : ev m η S Q ↔ vx (fun _ _ _ => False) m η S Q := ⟨vx_of, fun ⟨r, e, q⟩ => by
  cases r with
  | ok a η1 S1 => exact ⟨a, η1, S1, e, q⟩
  | ex x η1 S1 => exact q.elim⟩
theorem vx.mono {m : M A} {Q R : A → Sls → Store → Prop} {E' : Exn → Sls → Store → Prop} (h : vx E m η S Q) (k : ∀ a η' S', Q a η' S' → R a η' S') (k' : ∀ x η' S', E x η' S' → E' x η' S') : vx E' m η S R := by
  obtain ⟨r, e, q⟩ := h
  refine ⟨r, e, ?_⟩
  cases r with
  | ok a η1 S1 => exact k _ _ _ q
  | ex x η1 S1 => exact k' _ _ _ q
theorem vx_lift {o : Option A} {Q : A → Sls → Store → Prop} : vx E (M.lift o) η S Q ↔ ∃ a, o = some a ∧ Q a η S :=
  (vx_no fun x η' S' e => by unfold M.lift at e; cases o <;> cases e).trans ev_lift
theorem vx_liftS {f : Store → Option A} {Q : A → Sls → Store → Prop} : vx E (liftS f) η S Q ↔ ∃ a, f S = some a ∧ Q a η S :=
  (vx_no fun x η' S' e => by unfold liftS at e; cases h : f S <;> simp only [h] at e <;> cases e).trans ev_liftS
theorem vx_var {i : Nat} {Q : D → Sls → Store → Prop} : vx E (var i) η S Q ↔ ∃ d, slD η[i]? = some d ∧ Q d η S :=
  (vx_no fun x η' S' e => by unfold var at e; split at e <;> cases e).trans ev_var
theorem vx_put {i : Nat} {d : D} {Q : Fl → Sls → Store → Prop} : vx E (put i d) η S Q ↔ i < η.length ∧ Q .nx (η.set i (.val d)) S :=
  (vx_no fun x η' S' e => by unfold put at e; split at e <;> cases e).trans ev_put
theorem vx_putOwn {i : Nat} {ds : List D} {Q : Fl → Sls → Store → Prop} : vx E (putOwn i ds) η S Q ↔ i < η.length ∧ Q .nx (η.set i (.own (.lst ds))) S := by
  refine (vx_no fun x η' S' e => by unfold putOwn at e; split at e <;> cases e).trans ?_
  unfold ev putOwn
  constructor
  · rintro ⟨a, η', S', e, q⟩; split at e
    · cases e; exact ⟨by assumption, q⟩
    · cases e
  · rintro ⟨h, q⟩; exact ⟨_, _, _, if_pos h, q⟩
theorem vx_fail {Q : A → Sls → Store → Prop} : vx E (M.fail : M A) η S Q ↔ False := ⟨fun ⟨_, e, _⟩ => (by cases e), False.elim⟩
theorem vx_runFn {fn : Fn} {ds : List D} {Q : D → Sls → Store → Prop} : vx E (runFn fn ds) η S Q ↔ ∃ r, fn ds S = some r ∧ retK r (fun d S' => Q d η S') (fun x S' => E x η S') := by
  unfold vx runFn
  cases h : fn ds S with
  | none => exact ⟨fun ⟨_, e, _⟩ => (by simp only at e; cases e), fun ⟨_, e, _⟩ => by cases e⟩
  | some r =>
    cases r with
    | ok d S1 => exact ⟨fun ⟨r, e, q⟩ => ⟨_, rfl, by cases e; exact q⟩, fun ⟨_, e, q⟩ => by cases e; exact ⟨_, rfl, q⟩⟩
    | ex x S1 => exact ⟨fun ⟨r, e, q⟩ => ⟨_, rfl, by cases e; exact q⟩, fun ⟨_, e, q⟩ => by cases e; exact ⟨_, rfl, q⟩⟩
theorem callF_run {f : Fn} {r : M (List D)} : callF f r = r.bind fun ds => runFn f ds := rfl
theorem vx_callF {f : Fn} {r : M (List D)} {Q : D → Sls → Store → Prop} : vx E (callF f r) η S Q ↔ vx E r η S fun ds η S => ∃ r, f ds S = some r ∧ retK r (fun d S' => Q d η S') (fun x S' => E x η S') := by
  rw [callF_run]; simp only [vx_bind, vx_runFn]
theorem vx_seq {m n : M Fl} {Q : Fl → Sls → Store → Prop} : vx E (seqS m n) η S Q ↔ vx E m η S fun f η S => nxt f (vx E n η S Q) fun f => Q f η S := by
  unfold seqS
  refine vx_bind.trans ?_
  apply iff_of_eq
  congr 1
  funext f η S
  cases f with
  | nx => rfl
  | _ => exact propext vx_ret
theorem vx_newFn {cn : Str} {fn : Fn} {g : D → List D} {Q : D → Sls → Store → Prop} : vx E (newFn cn fn g) η S Q ↔ ∃ r, fn (g (.ob S.size)) (S.push (.ins cn [])) = some r ∧ retK r (fun d S' => d = .non ∧ Q (.ob S.size) η S') (fun x S' => E x η S') := by
  unfold vx newFn
  cases h : fn (g (.ob S.size)) (S.push (.ins cn [])) with
  | none => exact ⟨fun ⟨_, e, _⟩ => (by simp only at e; cases e), fun ⟨_, e, _⟩ => by cases e⟩
  | some r =>
    cases r with
    | ok d S1 =>
      constructor
      · rintro ⟨r, e, q⟩
        cases d <;> simp only at e <;> first | cases e; done | (cases e; exact ⟨_, rfl, rfl, q⟩)
      · rintro ⟨r, e, q⟩
        cases e
        obtain ⟨rfl, q⟩ := q
        exact ⟨_, rfl, q⟩
    | ex x S1 => exact ⟨fun ⟨r, e, q⟩ => ⟨_, rfl, by cases e; exact q⟩, fun ⟨_, e, q⟩ => by cases e; exact ⟨_, rfl, q⟩⟩
theorem vx_ite {c : Prop} [Decidable c] {a b : M A} {Q : A → Sls → Store → Prop} : vx E (if c then a else b) η S Q ↔ if c then vx E a η S Q else vx E b η S Q := by split <;> rfl
theorem vx_const {d : D} {Q : D → Sls → Store → Prop} : vx E (const d) η S Q ↔ Q d η S := vx_ret
theorem vx_op2 {g : D → D → Option D} {a b : M D} {Q : D → Sls → Store → Prop} : vx E (op2 g a b) η S Q ↔ vx E a η S fun x η S => vx E b η S fun y η S => ∃ z, g x y = some z ∧ Q z η S := by
  unfold op2; simp only [vx_bind, vx_lift]
theorem vx_test {m : M D} {Q : Bool → Sls → Store → Prop} : vx E (test m) η S Q ↔ vx E m η S fun d η S => ∃ b, toB d = some b ∧ Q b η S := by
  unfold test; simp only [vx_bind, vx_lift]
theorem vx_opC {g : List D → Option D} {r : M (List D)} {Q : D → Sls → Store → Prop} : vx E (opC g r) η S Q ↔ vx E r η S fun ds η S => ∃ d, g ds = some d ∧ Q d η S := by
  unfold opC; simp only [vx_bind, vx_lift]
theorem vx_rngV {g : List D → Option (List D)} {r : M (List D)} {Q : List D → Sls → Store → Prop} : vx E (rngV g r) η S Q ↔ vx E r η S fun ds η S => ∃ d, g ds = some d ∧ Q d η S := by
  unfold rngV; simp only [vx_bind, vx_lift]
theorem vx_args0 {Q : List D → Sls → Store → Prop} : vx E args0 η S Q ↔ Q [] η S := vx_ret
theorem vx_args {a : M D} {r : M (List D)} {Q : List D → Sls → Store → Prop} : vx E (args a r) η S Q ↔ vx E a η S fun x η S => vx E r η S fun xs η S => Q (x :: xs) η S := by
  unfold args; simp only [vx_bind, vx_ret]
theorem vx_frz {r : M (List D)} {Q : D → Sls → Store → Prop} : vx E (frz r) η S Q ↔ vx E r η S fun ds η S => Q (.lst ds) η S := by
  unfold frz; simp only [vx_bind, vx_ret]
theorem vx_nop {Q : Fl → Sls → Store → Prop} : vx E nop η S Q ↔ Q .nx η S := vx_ret
theorem vx_retV {m : M D} {Q : Fl → Sls → Store → Prop} : vx E (retV m) η S Q ↔ vx E m η S fun d η S => Q (.rt d) η S := by
  unfold retV; simp only [vx_bind, vx_ret]
theorem vx_dropV {m : M D} {Q : Fl → Sls → Store → Prop} : vx E (dropV m) η S Q ↔ vx E m η S fun d η S => Q .nx η S := by
  unfold dropV; simp only [vx_bind, vx_ret]
theorem vx_ifS {t : M Bool} {a b : M Fl} {Q : Fl → Sls → Store → Prop} : vx E (ifS t a b) η S Q ↔ vx E t η S fun c η S => if c = true then vx E a η S Q else vx E b η S Q := by
  unfold ifS; simp only [vx_bind, vx_ite]
theorem vx_iteV {t : M Bool} {a b : M D} {Q : D → Sls → Store → Prop} : vx E (iteV t a b) η S Q ↔ vx E t η S fun c η S => if c = true then vx E a η S Q else vx E b η S Q := by
  unfold iteV; simp only [vx_bind, vx_ite]
theorem vx_andT {a b : M Bool} {Q : Bool → Sls → Store → Prop} : vx E (andT a b) η S Q ↔ vx E a η S fun c η S => if c = true then vx E b η S Q else Q false η S := by
  unfold andT; simp only [vx_bind, vx_ite, vx_ret]
theorem vx_orT {a b : M Bool} {Q : Bool → Sls → Store → Prop} : vx E (orT a b) η S Q ↔ vx E a η S fun c η S => if c = true then Q true η S else vx E b η S Q := by
  unfold orT; simp only [vx_bind, vx_ite, vx_ret]
theorem vx_notT {a : M Bool} {Q : Bool → Sls → Store → Prop} : vx E (notT a) η S Q ↔ vx E a η S fun c η S => Q (!c) η S := by
  unfold notT; simp only [vx_bind, vx_ret]
theorem vx_andV {a b : M D} {Q : D → Sls → Store → Prop} : vx E (andV a b) η S Q ↔ vx E a η S fun d η S => ∃ c, toB d = some c ∧ if c = true then vx E b η S Q else Q (.bl false) η S := by
  unfold andV; simp only [vx_bind, vx_ite, vx_ret, vx_lift]
theorem vx_orV {a b : M D} {Q : D → Sls → Store → Prop} : vx E (orV a b) η S Q ↔ vx E a η S fun d η S => ∃ c, toB d = some c ∧ if c = true then Q (.bl true) η S else vx E b η S Q := by
  unfold orV; simp only [vx_bind, vx_ite, vx_ret, vx_lift]
theorem vx_notV {a : M D} {Q : D → Sls → Store → Prop} : vx E (notV a) η S Q ↔ vx E a η S fun d η S => ∃ c, toB d = some c ∧ Q (.bl (!c)) η S := by
  unfold notV; simp only [vx_bind, vx_ret, vx_lift]
theorem vx_chain {g g' : D → D → Option D} {a b c : M D} {Q : D → Sls → Store → Prop} : vx E (chain g g' a b c) η S Q ↔ vx E a η S fun x η S => vx E b η S fun y η S => ∃ z, g x y = some z ∧ ∃ k, toB z = some k ∧ if k = true then vx E c η S fun w η S => ∃ u, g' y w = some u ∧ Q u η S else Q (.bl false) η S := by
  unfold chain; simp only [vx_bind, vx_ite, vx_ret, vx_lift]
theorem vx_setV {i : Nat} {m : M D} {Q : Fl → Sls → Store → Prop} : vx E (setV i m) η S Q ↔ vx E m η S fun d η S => i < η.length ∧ Q .nx (η.set i (.val d)) S := by
  unfold setV; simp only [vx_bind, vx_put]
theorem vx_iterV {m : M D} {Q : List D → Sls → Store → Prop} : vx E (iterV m) η S Q ↔ vx E m η S fun d η S => ∃ ds, itemsD d = some ds ∧ Q ds η S := by
  unfold iterV; simp only [vx_bind, vx_lift]
theorem vx_negV {m : M D} {Q : D → Sls → Store → Prop} : vx E (negV m) η S Q ↔ vx E m η S fun d η S => ∃ e, negD d = some e ∧ Q e η S := by
  unfold negV; simp only [vx_bind, vx_lift]
theorem vx_revV {m : M D} {Q : D → Sls → Store → Prop} : vx E (revV m) η S Q ↔ vx E m η S fun d η S => ∃ e, revD d = some e ∧ Q e η S := by
  unfold revV; simp only [vx_bind, vx_lift]
theorem vx_listN {m : M (List D)} {Q : List D → Sls → Store → Prop} : vx E (listN m) η S Q ↔ vx E m η S fun d η S => ∃ e, listD d = some e ∧ Q e η S := by
  unfold listN; simp only [vx_bind, vx_lift]
theorem vx_sortN {m : M (List D)} {Q : List D → Sls → Store → Prop} : vx E (sortN m) η S Q ↔ vx E m η S fun d η S => ∃ e, sortD d = some e ∧ Q e η S := by
  unfold sortN; simp only [vx_bind, vx_lift]
theorem vx_rgN1 {m : M D} {Q : List D → Sls → Store → Prop} : vx E (rgN1 m) η S Q ↔ vx E m η S fun d η S => ∃ e, rgI 0 d = some e ∧ Q e η S := by
  unfold rgN1; simp only [vx_bind, vx_lift]
theorem vx_enumV {m : M (List D)} {Q : List D → Sls → Store → Prop} : vx E (enumV m) η S Q ↔ vx E m η S fun d η S => ∃ e, enumA d = some e ∧ Q e η S := by
  unfold enumV; exact vx_rngV
theorem vx_noPart {Q : Option Int → Sls → Store → Prop} : vx E noPart η S Q ↔ Q none η S := vx_ret
theorem vx_sliceV {m : M D} {lo hi : M (Option Int)} {Q : D → Sls → Store → Prop} : vx E (sliceV m lo hi) η S Q ↔ vx E m η S fun d η S => vx E lo η S fun l η S => vx E hi η S fun h η S => ∃ e, cutD d l h = some e ∧ Q e η S := by
  unfold sliceV; simp only [vx_bind, vx_lift]
theorem vx_yes {η : Sls} {S : Store} {Q : Bool → Sls → Store → Prop} : vx E yes η S Q ↔ Q true η S := vx_ret
theorem vx_op2S {g : Store → D → D → Option D} {a b : M D} {Q : D → Sls → Store → Prop} : vx E (op2S g a b) η S Q ↔ vx E a η S fun x η S => vx E b η S fun y η S => ∃ z, g S x y = some z ∧ Q z η S := by
  unfold op2S; simp only [vx_bind, vx_liftS]
theorem vx_opCS {g : Store → List D → Option D} {r : M (List D)} {Q : D → Sls → Store → Prop} : vx E (opCS g r) η S Q ↔ vx E r η S fun ds η S => ∃ z, g S ds = some z ∧ Q z η S := by
  unfold opCS; simp only [vx_bind, vx_liftS]
theorem vx_newL {g : Store → List D → Option (List D)} {r : M (List D)} {Q : List D → Sls → Store → Prop} : vx E (newL g r) η S Q ↔ vx E r η S fun ds η S => ∃ z, g S ds = some z ∧ Q z η S := by
  unfold newL; simp only [vx_bind, vx_liftS]
theorem vx_fldV {cn f : Str} {m : M D} {Q : D → Sls → Store → Prop} : vx E (fldV cn f m) η S Q ↔ vx E m η S fun x η S => ∃ d, fldD S cn f x = some d ∧ Q d η S := by
  unfold fldV; simp only [vx_bind, getF_eq, vx_liftS]
theorem vx_sliceVS {m : M D} {ml mh : M (Option Int)} {η : Sls} {S : Store} {Q : D → Sls → Store → Prop} : vx E (sliceVS m ml mh) η S Q ↔ vx E m η S fun d η S => vx E ml η S fun l η S => vx E mh η S fun h η S => ∃ c, cutS S d l h = some c ∧ Q c η S := by
  unfold sliceVS; simp only [vx_bind, vx_liftS]

theorem vx_tupV {r : M (List D)} {Q : D → Sls → Store → Prop} : vx E (tupV r) η S Q ↔ vx E r η S fun ds η S => ds.length ≤ sizeLine ∧ Q (.tup ds) η S := by
  unfold tupV
  simp only [vx_bind, vx_lift]
  apply iff_of_eq; congr 1; funext ds η S; apply propext
  constructor
  · rintro ⟨a, e, q⟩; split at e
    · cases e; exact ⟨by assumption, q⟩
    · cases e
  · rintro ⟨h, q⟩; exact ⟨_, if_pos h, q⟩
theorem vx_lstN {r : M (List D)} {Q : List D → Sls → Store → Prop} : vx E (lstN r) η S Q ↔ vx E r η S fun ds η S => ds.length ≤ sizeLine ∧ Q ds η S := by
  unfold lstN
  simp only [vx_bind, vx_lift]
  apply iff_of_eq; congr 1; funext ds η S; apply propext
  constructor
  · rintro ⟨a, e, q⟩; split at e
    · cases e; exact ⟨by assumption, q⟩
    · cases e
  · rintro ⟨h, q⟩; exact ⟨_, if_pos h, q⟩
theorem vx_setO {i : Nat} {m : M (List D)} {Q : Fl → Sls → Store → Prop} : vx E (setO i m) η S Q ↔ vx E m η S fun ds η S => i < η.length ∧ Q .nx (η.set i (.own (.lst ds))) S := by
  unfold setO; simp only [vx_bind, vx_putOwn]
theorem vx_part {m : M D} {Q : Option Int → Sls → Store → Prop} : vx E (part m) η S Q ↔ vx E m η S fun d η S => ∃ i, partD d = some i ∧ Q (some i) η S := by
  unfold part; simp only [vx_bind, vx_lift]
  apply iff_of_eq; congr 1; funext d η S; apply propext
  cases partD d <;> simp
theorem vx_par2 {i j : Nat} {r : M (List D)} {Q : Fl → Sls → Store → Prop} : vx E (par2 i j r) η S Q ↔ vx E r η S fun ds η S => ∃ a b, ds = [a, b] ∧ i < η.length ∧ j < η.length ∧ Q .nx ((η.set i (.val a)).set j (.val b)) S := by
  unfold par2; refine vx_bind.trans ?_
  apply iff_of_eq; congr 1; funext ds η S; apply propext
  rcases ds with _ | ⟨a, _ | ⟨b, _ | ⟨c, r⟩⟩⟩
  · exact ⟨fun ⟨_, e, _⟩ => (by cases e), fun ⟨_, _, e, _⟩ => by cases e⟩
  · exact ⟨fun ⟨_, e, _⟩ => (by cases e), fun ⟨_, _, e, _⟩ => by cases e⟩
  · show vx E (seqS (put i a) (put j b)) η S Q ↔ _
    simp only [vx_seq, vx_put, nxt_nx, List.length_set]
    constructor
    · rintro ⟨h1, h2, q⟩; exact ⟨a, b, rfl, h1, h2, q⟩
    · rintro ⟨a', b', e, h1, h2, q⟩; cases e; exact ⟨h1, h2, q⟩
  · exact ⟨fun ⟨_, e, _⟩ => (by cases e), fun ⟨_, _, e, _⟩ => by cases e⟩
theorem vx_freeze {i : Nat} {n : M Fl} {Q : Fl → Sls → Store → Prop} : vx E (freezeS i n) η S Q ↔ ∃ ds, ownL i η = some ds ∧ vx E n (η.set i (.val (.lst ds))) S Q := by
  unfold freezeS ownL vx
  cases hη : η[i]? with
  | none => exact ⟨fun ⟨_, e, _⟩ => (by simp only [hη] at e; cases e), fun ⟨_, e, _⟩ => (by cases e)⟩
  | some s =>
    cases s with
    | val d => exact ⟨fun ⟨_, e, _⟩ => (by simp only [hη] at e; cases e), fun ⟨_, e, _⟩ => (by cases e)⟩
    | un => exact ⟨fun ⟨_, e, _⟩ => (by simp only [hη] at e; cases e), fun ⟨_, e, _⟩ => (by cases e)⟩
    | own c =>
      cases c with
      | dct kvs => exact ⟨fun ⟨_, e, _⟩ => (by simp only [hη] at e; cases e), fun ⟨_, e, _⟩ => (by cases e)⟩
      | lst ds => exact ⟨fun ⟨r, e, q⟩ => ⟨ds, rfl, r, by simp only [hη] at e; exact e, q⟩, fun ⟨_, h, r, e, q⟩ => by cases h; exact ⟨r, by simp only [hη]; exact e, q⟩⟩
theorem vx_lenO {i : Nat} {Q : D → Sls → Store → Prop} : vx E (lenO i) η S Q ↔ ∃ ds, ownL i η = some ds ∧ Q (.int ds.length) η S :=
  (vx_no fun x η' S' e => by unfold lenO at e; split at e <;> cases e).trans ev_lenO
theorem vx_methI {f : List D → List D → Option (D × List D)} {i : Nat} {r : M (List D)} {Q : D → Sls → Store → Prop} :
    vx E (methO f i r) η S Q ↔ ∃ zs, ownL i η = some zs ∧ vx E r η S fun ds η1 S1 => ∃ xs, ownL i η1 = some xs ∧ ∃ p, f ds xs = some p ∧ Q p.1 (η1.set i (.own (.lst p.2))) S1 := by
  have key : ∀ {ds : List D} {η1 : Sls} {S1 : Store}, vx E (fun η1 S1 => match ownL i η1 with
        | none => none
        | some xs => match f ds xs with
          | none => none
          | some (y, ys) => some (.ok y (η1.set i (.own (.lst ys))) S1)) η1 S1 Q ↔ ∃ xs, ownL i η1 = some xs ∧ ∃ p, f ds xs = some p ∧ Q p.1 (η1.set i (.own (.lst p.2))) S1 := by
    intro ds η1 S1
    unfold vx
    cases h1 : ownL i η1 with
    | none => exact ⟨fun ⟨_, e, _⟩ => (by simp only [h1] at e; cases e), fun ⟨_, e, _⟩ => (by cases e)⟩
    | some xs =>
      cases h2 : f ds xs with
      | none => exact ⟨fun ⟨_, e, _⟩ => (by simp only [h1, h2] at e; cases e), fun ⟨_, e, _, e2, _⟩ => (by cases e; rw [h2] at e2; cases e2)⟩
      | some p => exact ⟨fun ⟨_, e, q⟩ => (by simp only [h1, h2] at e; cases e; exact ⟨_, rfl, _, h2, q⟩), fun ⟨_, e, _, e2, q⟩ => (by cases e; rw [h2] at e2; cases e2; exact ⟨.ok p.1 (η1.set i (.own (.lst p.2))) S1, by simp only [h1, h2], q⟩)⟩
  unfold methO
  cases ho : ownL i η with
  | none =>
    unfold vx
    exact ⟨fun ⟨_, e, _⟩ => (by simp only [ho] at e; cases e), fun ⟨_, e, _⟩ => (by cases e)⟩
  | some zs =>
    have h0 : ∀ {m : M D}, vx E (fun η S => match ownL i η with | none => none | some _ => m η S) η S Q ↔ vx E m η S Q := by
      intro m
      unfold vx
      simp only [ho]
    refine (h0 (m := r.bind _)).trans (vx_bind.trans ?_)
    constructor
    · intro h
      exact ⟨zs, rfl, h.mono (fun _ _ _ q => key.mp q) fun _ _ _ q => q⟩
    · rintro ⟨_, _, h⟩
      exact h.mono (fun _ _ _ q => key.mpr q) fun _ _ _ q => q
theorem vx_boxL {r : M (List D)} {Q : D → Sls → Store → Prop} : vx E (boxL r) η S Q ↔ vx E r η S fun ds η S => Q (.ob S.size) η (S.push (.box (.lst ds))) := by
  unfold boxL
  simp only [vx_bind]
  apply iff_of_eq; congr 1; funext ds η S; apply propext
  exact ⟨fun ⟨_, e, q⟩ => by cases e; exact q, fun q => ⟨_, rfl, q⟩⟩
theorem vx_setFld {cn f : Str} {mo mv : M D} {Q : Fl → Sls → Store → Prop} : vx E (setFld cn f mo mv) η S Q ↔ vx E mv η S fun d η S => vx E mo η S fun x η S => ∃ S', putD S cn f x d = some S' ∧ Q .nx η S' := by
  have key : ∀ {x d : D} {η : Sls} {S : Store}, vx E (putFld cn f x d) η S Q ↔ ∃ S', putD S cn f x d = some S' ∧ Q .nx η S' := by
    intro x d η S
    have h := ev_setFld (cn := cn) (f := f) (mo := const x) (mv := const d) (η := η) (S := S) (Q := Q)
    simp only [ev_const] at h
    refine (vx_no fun y η' S' e => ?_).trans h
    unfold putFld at e
    split at e
    · split at e
      · split at e <;> cases e
      · cases e
    · cases e
  unfold setFld
  simp only [vx_bind, key]
theorem vx_appB {mo : M D} {r : M (List D)} {Q : D → Sls → Store → Prop} : vx E (appB mo r) η S Q ↔ vx E mo η S fun x η S => ∃ u, lstC S x = some u ∧ vx E r η S fun ds η S => ∃ S', appS S x ds = some S' ∧ Q .non η S' := by
  have key : ∀ {x : D} {ds : List D} {η : Sls} {S : Store}, vx E (pushL x ds) η S Q ↔ ∃ S', appS S x ds = some S' ∧ Q .non η S' := by
    intro x ds η S
    refine (vx_no fun y η' S' e => ?_).trans ?_
    · obtain ⟨n, d, xs, _, _, _, _, hr⟩ := pushL_some e
      cases hr
    constructor
    · rintro ⟨a, η', S', e, q⟩
      obtain ⟨n, d, xs, rfl, rfl, hg, hl, hr⟩ := pushL_some e
      cases hr
      exact ⟨_, by simp only [appS, hg, if_pos hl], q⟩
    · rintro ⟨S', e, q⟩
      unfold appS at e
      split at e
      · rename_i n d
        split at e
        · rename_i xs hg
          split at e
          · rename_i hl
            cases e
            exact ⟨_, _, _, by simp only [pushL, hg, if_pos hl], q⟩
          · cases e
        · cases e
      · cases e
  unfold appB
  simp only [vx_bind, isL_eq, vx_liftS, key]
theorem vx_callK {fn : Fn} {ix : List Nat} {dd : List D} {n m : Nat} {r rk : M (List D)} {Q : D → Sls → Store → Prop} :
    vx E (callK fn ix dd n m r rk) η S Q ↔ vx E r η S fun ds η S => vx E rk η S fun es η S => (ds.length = n ∧ es.length = m) ∧ ∃ r, fn (pickL ix (ds ++ es ++ dd)) S = some r ∧ retK r (fun d S' => Q d η S') (fun x S' => E x η S') := by
  unfold callK; simp only [vx_bind, vx_ite, vx_runFn, vx_fail, ite_and]
theorem vx_methK {cn mt : Str} {fn : Fn} {ix : List Nat} {dd : List D} {n m : Nat} {o : M D} {r rk : M (List D)} {Q : D → Sls → Store → Prop} :
    vx E (methK cn mt fn ix dd n m o r rk) η S Q ↔ vx E o η S fun x η S => ∃ u, insD S cn mt x = some u ∧ vx E r η S fun ds η S => vx E rk η S fun es η S => ((x :: ds).length = n ∧ es.length = m) ∧ ∃ r, fn (pickL ix ((x :: ds) ++ es ++ dd)) S = some r ∧ retK r (fun d S' => Q d η S') (fun x S' => E x η S') := by
  unfold methK; simp only [vx_bind, isIns_eq, vx_liftS, vx_callK, vx_ret]
theorem vx_makeK {cn : Str} {fn : Fn} {ix : List Nat} {dd : List D} {n m : Nat} {r rk : M (List D)} {Q : D → Sls → Store → Prop} :
    vx E (makeK cn fn ix dd n m r rk) η S Q ↔ vx E r η S fun ds η S => vx E rk η S fun es η S => (ds.length + 1 = n ∧ es.length = m) ∧ ∃ r, fn (pickL ix ((.ob S.size :: ds) ++ es ++ dd)) (S.push (.ins cn [])) = some r ∧ retK r (fun d S' => d = .non ∧ Q (.ob S.size) η S') (fun x S' => E x η S') := by
  unfold makeK; simp only [vx_bind, vx_ite, vx_newFn, vx_fail, ite_and]
theorem vx_lc {m : M (List D)} {vs : List Nat} {g : D → Sls → Option Sls} {t : M Bool} {e : M D} {Q : List D → Sls → Store → Prop} :
    vx E (lc m vs g t e) η S Q ↔ vx E m η S fun ds η S => ev (lcL vs g t e ds []) η S fun acc η' S' => Q acc (restore η vs η') S' := by
  unfold lc
  refine vx_bind.trans ?_
  apply iff_of_eq; congr 1; funext ds η S; apply propext
  unfold vx
  constructor
  · rintro ⟨r, h, q⟩
    cases hl : lcL vs g t e ds [] η S with
    | none => simp only [hl] at h; cases h
    | some r => cases r with
      | ok a1 η1 S1 => simp only [hl] at h; cases h; exact ⟨_, _, _, hl, q⟩
      | ex x η1 S1 => simp only [hl] at h; cases h
  · rintro ⟨a, η', S', h, q⟩
    exact ⟨.ok a (restore η vs η') S', by simp only [h], q⟩
theorem vx_sc {m : M (List D)} {vs : List Nat} {g : D → Sls → Option Sls} {t : M Bool} {e : M D} {Q : D → Sls → Store → Prop} :
    vx E (sc m vs g t e) η S Q ↔ vx E m η S fun ds η S => ev (lcL vs g t e ds []) η S fun acc η' S' => ∃ d, ssOf acc = some d ∧ Q d (restore η vs η') S' := by
  unfold sc
  refine vx_bind.trans ?_
  apply iff_of_eq; congr 1; funext ds η S; apply propext
  unfold vx
  constructor
  · rintro ⟨r, h, q⟩
    cases hl : lcL vs g t e ds [] η S with
    | none => simp only [hl] at h; cases h
    | some r => cases r with
      | ok a1 η1 S1 =>
        simp only [hl] at h
        cases hs : ssOf a1 with
        | none => simp only [hs] at h; cases h
        | some d => simp only [hs] at h; cases h; exact ⟨_, _, _, hl, _, hs, q⟩
      | ex x η1 S1 => simp only [hl] at h; cases h
  · rintro ⟨a, η', S', h, d, hs, q⟩
    exact ⟨.ok d (restore η vs η') S', by simp only [h, hs], q⟩
theorem vx_forS {m : M (List D)} {g : D → Sls → Option Sls} {body : M Fl} {Q : Fl → Sls → Store → Prop} : vx E (forS m g body) η S Q ↔ vx E m η S fun ds η S => vx E (forL g body ds) η S Q := vx_bind
theorem vx_isi2 {T U : String} {m : M D} {Q : D → Sls → Store → Prop} : vx E (isi2 T U m) η S Q ↔ vx E m η S fun d η S => ∃ c, isi2D T U d = some c ∧ Q c η S := by
  unfold isi2; simp only [vx_bind, vx_lift]
theorem vx_isiX {tbl : List (Str × Bool)} {m : M D} {Q : D → Sls → Store → Prop} : vx E (isiX tbl m) η S Q ↔ vx E m η S fun d η S => ∃ c, isiXD tbl d = some c ∧ Q c η S := by
  unfold isiX; simp only [vx_bind, vx_lift]
theorem vx_xfV {tbl : List Str} {f : Str} {m : M D} {Q : D → Sls → Store → Prop} : vx E (xfV tbl f m) η S Q ↔ vx E m η S fun d η S => ∃ c, exfD tbl f d = some c ∧ Q c η S := by
  unfold xfV; simp only [vx_bind, vx_lift]
theorem vx_isB {cn : Str} {m : M D} {Q : D → Sls → Store → Prop} : vx E (isB cn m) η S Q ↔ vx E m η S fun d η S => ∃ b, kindD cn S d = some b ∧ Q (.bl b) η S := by
  unfold isB
  refine vx_bind.trans ?_
  apply iff_of_eq; congr 1; funext d η S; apply propext
  unfold vx
  constructor
  · rintro ⟨r, e, q⟩
    obtain ⟨b, hb, hr⟩ := Option.map_eq_some_iff.mp e
    cases hr
    exact ⟨b, hb, q⟩
  · rintro ⟨b, hb, q⟩
    exact ⟨_, by show Option.map _ _ = _; rw [hb]; rfl, q⟩
theorem vx_raiseV {x f : Str} {r : M (List D)} {Q : Fl → Sls → Store → Prop} : vx E (raiseV x f r) η S Q ↔ vx E r η S fun ds η S => ∃ d, ds = [d] ∧ E ⟨x, [(f, d)]⟩ η S := by
  unfold raiseV
  refine vx_bind.trans ?_
  apply iff_of_eq; congr 1; funext ds η S; apply propext
  unfold vx raiseF
  rcases ds with _ | ⟨d, _ | ⟨d2, r⟩⟩
  · exact ⟨fun ⟨_, e, _⟩ => (by cases e), fun ⟨_, e, _⟩ => by cases e⟩
  · exact ⟨fun ⟨_, e, q⟩ => (by cases e; exact ⟨_, rfl, q⟩), fun ⟨_, e, q⟩ => by cases e; exact ⟨_, rfl, q⟩⟩
  · exact ⟨fun ⟨_, e, _⟩ => (by cases e), fun ⟨_, e, _⟩ => by cases e⟩
/-- the caught one's name is unset behind the suite -/
def unset (i : Nat) (f : Fl) (η : Sls) : Sls := match f with
  | .rt _ => η
  | _ => η.set i .un
/-- what a try's clause does with an exception -/
def hand (hit : Str → Option Bool) (i : Nat) (su : M Fl) (E : Exn → Sls → Store → Prop) (Q : Fl → Sls → Store → Prop) (x : Exn) (η : Sls) (S : Store) : Prop :=
  ∃ t, hit x.cls = some t ∧ if t = true then ∃ d, toX x = some d ∧ i < η.length ∧ vx (fun _ _ _ => False) su (η.set i (.val d)) S fun f η2 S2 => Q f (unset i f η2) S2 else E x η S
theorem vx_tryV {hit : Str → Option Bool} {i : Nat} {b su : M Fl} {Q : Fl → Sls → Store → Prop} : vx E (tryV hit i b su) η S Q ↔ vx (hand hit i su E Q) b η S Q := by
  have e0 : tryV hit i b su η S = (match b η S with
    | some (.ex x η1 S1) => (match hit x.cls, toX x with
      | some true, some d => if i < η1.length then (match su (η1.set i (.val d)) S1 with
        | some (.ok f η2 S2) => some (.ok f (match f with | .rt _ => η2 | _ => η2.set i .un) S2)
        | _ => none) else none
      | some false, _ => some (.ex x η1 S1)
      | _, _ => none)
    | r => r) := rfl
  unfold vx
  rw [e0]
  cases hb : b η S with
  | none => exact ⟨fun ⟨_, e, _⟩ => (by cases e), fun ⟨_, e, _⟩ => by cases e⟩
  | some r =>
    cases r with
    | ok f η1 S1 => exact ⟨fun ⟨_, e, q⟩ => (by cases e; exact ⟨_, rfl, q⟩), fun ⟨_, e, q⟩ => by cases e; exact ⟨_, rfl, q⟩⟩
    | ex x η1 S1 =>
      refine Iff.trans (b := hand hit i su E Q x η1 S1) ?_ ⟨fun q => ⟨_, rfl, q⟩, fun ⟨_, e, q⟩ => by cases e; exact q⟩
      unfold hand vx
      simp only
      cases hh : hit x.cls with
      | none => exact ⟨fun ⟨_, e, _⟩ => (by cases e), fun ⟨_, e, _⟩ => by cases e⟩
      | some t =>
        cases t with
        | false => exact ⟨fun ⟨_, e, q⟩ => (by cases e; exact ⟨_, rfl, q⟩), fun ⟨_, e, q⟩ => by cases e; exact ⟨_, rfl, q⟩⟩
        | true =>
          cases hx : toX x with
          | none => exact ⟨fun ⟨_, e, _⟩ => (by cases e), fun ⟨_, e, q⟩ => by cases e; obtain ⟨_, e, _⟩ := q; cases e⟩
          | some d =>
            by_cases hi : i < η1.length
            · simp only [if_pos hi]
              cases hs : su (η1.set i (.val d)) S1 with
              | none => exact ⟨fun ⟨_, e, _⟩ => (by cases e), fun ⟨_, e, q⟩ => by cases e; obtain ⟨_, e, _, r, e2, _⟩ := q; cases e; rw [hs] at e2; cases e2⟩
              | some r2 =>
                cases r2 with
                | ok f η2 S2 => exact ⟨fun ⟨_, e, q⟩ => (by cases e; exact ⟨true, rfl, d, rfl, hi, _, hs, by cases f <;> exact q⟩), fun ⟨_, e, q⟩ => by cases e; obtain ⟨_, e, _, r, e2, q⟩ := q; cases e; rw [hs] at e2; cases e2; exact ⟨_, rfl, by cases f <;> exact q⟩⟩
                | ex y η2 S2 => exact ⟨fun ⟨_, e, _⟩ => (by cases e), fun ⟨_, e, q⟩ => by cases e; obtain ⟨_, e, _, r, e2, q⟩ := q; cases e; rw [hs] at e2; cases e2; exact q.elim⟩
            · simp only [if_neg hi]
              exact ⟨fun ⟨_, e, _⟩ => (by cases e), fun ⟨_, e, q⟩ => by cases e; obtain ⟨_, e, h, _⟩ := q; exact absurd h hi⟩
end
/-- a loop by its invariant -/
theorem vx_forL {E : Exn → Sls → Store → Prop} {g : D → Sls → Option Sls} {body : M Fl} {Q : Fl → Sls → Store → Prop} (I : List D → Sls → Store → Prop) : ∀ (ds : List D) (η : Sls) (S : Store), I ds η S →
    (∀ d r η S, I (d :: r) η S → ∃ η1, g d η = some η1 ∧ vx E body η1 S fun f η2 S2 => match f with
      | .nx => I r η2 S2
      | .ct => I r η2 S2
      | .bk => Q .nx η2 S2
      | .rt d => Q (.rt d) η2 S2) → (∀ η S, I [] η S → Q .nx η S) → vx E (forL g body ds) η S Q
  | [], η, S, h0, _, he => ⟨_, rfl, he η S h0⟩
  | d :: ds, η, S, h0, hs, he => by
    obtain ⟨η1, hg, r, hb, q⟩ := hs d ds η S h0
    cases r with
    | ex x η2 S2 => exact ⟨.ex x η2 S2, by unfold forL; simp only [hg, hb], q⟩
    | ok f η2 S2 =>
      cases f with
      | nx =>
        obtain ⟨r, e, q'⟩ := vx_forL I ds η2 S2 q hs he
        exact ⟨r, by unfold forL; simp only [hg, hb]; exact e, q'⟩
      | ct =>
        obtain ⟨r, e, q'⟩ := vx_forL I ds η2 S2 q hs he
        exact ⟨r, by unfold forL; simp only [hg, hb]; exact e, q'⟩
      | bk => exact ⟨.ok .nx η2 S2, by unfold forL; simp only [hg, hb], q⟩
      | rt d => exact ⟨.ok (.rt d) η2 S2, by unfold forL; simp only [hg, hb], q⟩
/-- a def that lets exceptions out -/
theorem body_vx {n N : Nat} {m : M Fl} {ds : List D} {S : Store} {Q : D → Store → Prop} {E : Exn → Store → Prop} (hl : ds.length = n) (h : vx (fun x _ S' => E x S') m (frame N ds) S fun f _ S' => match f with
    | .rt d => Q d S'
    | .nx => Q .non S'
    | _ => False) : ∃ r, bodyFn n N m ds S = some r ∧ retK r Q E := by
  obtain ⟨r, e, q⟩ := h
  unfold bodyFn
  rw [if_pos hl, e]
  cases r with
  | ok f η' S' =>
    cases f with
    | nx => exact ⟨_, rfl, q⟩
    | rt d => exact ⟨_, rfl, q⟩
    | bk => exact q.elim
    | ct => exact q.elim
  | ex x η' S' => exact ⟨_, rfl, q⟩
theorem body_vok {n N : Nat} {m : M Fl} {ds : List D} {S S' : Store} {d : D} (hl : ds.length = n) (h : vx (fun _ _ _ => False) m (frame N ds) S fun f _ S1 => S1 = S' ∧ match f with
    | .rt e => e = d
    | .nx => d = .non
    | _ => False) : bodyFn n N m ds S = some (.ok d S') := by
  obtain ⟨r, e, q⟩ := h
  unfold bodyFn
  rw [if_pos hl, e]
  cases r with
  | ok f η' S1 =>
    obtain ⟨rfl, q⟩ := q
    cases f with
    | nx => cases q; rfl
    | rt d => cases q; rfl
    | bk => exact q.elim
    | ct => exact q.elim
  | ex x η' S' => exact q.elim
theorem body_vex {n N : Nat} {m : M Fl} {ds : List D} {S S' : Store} {x : Exn} (hl : ds.length = n) (h : vx (fun y _ S1 => y = x ∧ S1 = S') m (frame N ds) S fun _ _ _ => False) : bodyFn n N m ds S = some (.ex x S') := by
  obtain ⟨r, e, q⟩ := h
  unfold bodyFn
  rw [if_pos hl, e]
  cases r with
  | ok f η' S1 => exact q.elim
  | ex y η' S1 => obtain ⟨rfl, rfl⟩ := q; rfl
theorem ex_ok {r : Ret} {Q : D → Store → Prop} {E : Exn → Store → Prop} : (∃ r', some r = some r' ∧ retK r' Q E) ↔ retK r Q E := ⟨fun ⟨_, e, q⟩ => by cases e; exact q, fun q => ⟨_, rfl, q⟩⟩
end Y
namespace Z
open PySem L2 Y

def topS (i : Nat) : Stmt := PySem.Challenge.pw_asnevertold_k37_permissions_let_in.main.body.getD i (.Pass ⟨0, 0, 0, 0⟩)
abbrev xs_NoPermission : Stmt := inClass (topS 4) 0
theorem xsc_NoPermission : FnScope ["self", "word"] ["self", "word"] (defScope xs_NoPermission) := ⟨rfl, rfl, rfl, by decide +kernel, rfl, by decide +kernel, by decide +kernel⟩
def tb_NoEntry : List (Str × Bool) := [("NoPermission", false)]
def tb_NoPermission : List (Str × Bool) := [("NoPermission", true)]
def ht_HouseError : List (Str × Bool) := [("NoPermission", true)]
def ft_word : List Str := ["NoPermission"]
abbrev s_Book___init__ : Stmt := inClass (topS 17) 0
def n_Book___init__ : List Str := ["self"]
theorem sc_Book___init__ : FnScope n_Book___init__ ["self"] (defScope s_Book___init__) := ⟨rfl, rfl, rfl, by decide +kernel, rfl, by decide +kernel, by decide +kernel⟩
def m_Book___init__ : M Fl := (setFld "Book" "own_permits" (var 0) (boxL (lstN args0)))
def f_Book___init__ : Fn := fn0 1 1 m_Book___init__
abbrev s_Book_permits : Stmt := inClass (topS 17) 4
def n_Book_permits : List Str := ["self"]
theorem sc_Book_permits : FnScope n_Book_permits ["self"] (defScope s_Book_permits) := ⟨rfl, rfl, rfl, by decide +kernel, rfl, by decide +kernel, by decide +kernel⟩
def m_Book_permits : M Fl := (retV (boxL (newL listS (args (fldV "Book" "own_permits" (var 0)) args0))))
def f_Book_permits : Fn := fn0 1 1 m_Book_permits
abbrev s__law_bent : Stmt := topS 28
def n__law_bent : List Str := ["_law_digits", "_law_permit_here", "_law_at", "_law_odd", "_law_one", "_law_some"]
theorem sc__law_bent : FnScope n__law_bent ["_law_digits", "_law_permit_here"] (defScope s__law_bent) := ⟨rfl, rfl, rfl, by decide +kernel, rfl, by decide +kernel, by decide +kernel⟩
def m__law_bent : M Fl := (seqS (setV 2 (op2 modD (op2 itemD (var 0) (const (.int 0))) (const (.int 6)))) (seqS (setV 3 (frz (lstN (args (const .non) (args (const (.bl true)) (args (negV (const (.int 1))) (args (const (.int 0)) (args (const (.int 999)) (args (const (.int 1000)) (args (const (.int 5)) (args (const (.str "5")) (args (const (.str "")) (args (const (.str "ann")) (args (const (.str "Ann")) (args (const (.str "ninechars")) (args (const (.str "a b")) (args (const (.str "allow")) (args (const (.str "Allow")) (args (const (.str "withdraw")) args0))))))))))))))))))) (seqS (setV 3 (op2 addD (var 3) (frz (lstN (args (tupV (args (const (.str "allow")) args0)) (args (frz (lstN (args (const (.str "allow")) args0))) (args (const (.str "ann\n")) (args (op2 itemD (var 1) (const (.int 3))) (args (op2 itemD (var 1) (const (.int 5))) (args dict0 args0)))))))))) (seqS (setV 4 (op2 itemD (var 3) (op2 modD (op2 itemD (var 0) (const (.int 1))) (const (.int 22))))) (seqS (setV 5 (op2 mulA (frz (lstN (args (op2 addD (op2 addD (sliceV (var 1) noPart (part (var 2))) (tupV (args (var 4) args0))) (sliceV (var 1) (part (op2 addD (var 2) (const (.int 1)))) noPart)) args0))) (const (.int 8)))) (seqS (setV 5 (op2 addD (var 5) (frz (lstN (args (op2 addD (sliceV (var 1) noPart (part (var 2))) (sliceV (var 1) (part (op2 addD (var 2) (const (.int 1)))) noPart)) (args (op2 addD (var 1) (tupV (args (var 4) args0))) (args (frz (listN (args (var 1) args0))) (args (var 4) args0)))))))) (retV (op2 itemD (var 5) (op2 modD (op2 itemD (var 0) (const (.int 2))) (const (.int 12)))))))))))
def f__law_bent : Fn := fn0 2 6 m__law_bent
abbrev s_Book___len__ : Stmt := inClass (topS 17) 10
def n_Book___len__ : List Str := ["self"]
theorem sc_Book___len__ : FnScope n_Book___len__ ["self"] (defScope s_Book___len__) := ⟨rfl, rfl, rfl, by decide +kernel, rfl, by decide +kernel, by decide +kernel⟩
def m_Book___len__ : M Fl := (retV (opCS lenSt (args (fldV "Book" "own_permits" (var 0)) args0)))
def f_Book___len__ : Fn := fn0 1 1 m_Book___len__
abbrev s__law_book_so : Stmt := topS 29
def n__law_book_so : List Str := ["_law_book", "_law_permits_here", "_law_found"]
theorem sc__law_book_so : FnScope n__law_book_so ["_law_book", "_law_permits_here"] (defScope s__law_book_so) := ⟨rfl, rfl, rfl, by decide +kernel, rfl, by decide +kernel, by decide +kernel⟩
def m__law_book_so : M Fl := (seqS (setV 2 (methK "Book" "permits" f_Book_permits [0] [] 1 0 (var 0) args0 args0)) (seqS (ifS (orT (test (op2S neS (var 2) (var 1))) (test (op2 neD (lenOwn "Book" f_Book___len__ (var 0)) (opCS lenSt (args (var 1) args0))))) (retV (const (.bl false))) nop) (seqS (dropV (appB (var 2) (args (const .non) args0))) (retV (op2S eqS (methK "Book" "permits" f_Book_permits [0] [] 1 0 (var 0) args0 args0) (var 1))))))
def f__law_book_so : Fn := fn0 2 3 m__law_book_so
abbrev s__law_is_moment : Stmt := topS 25
def n__law_is_moment : List Str := ["_law_item"]
theorem sc__law_is_moment : FnScope n__law_is_moment ["_law_item"] (defScope s__law_is_moment) := ⟨rfl, rfl, rfl, by decide +kernel, rfl, by decide +kernel, by decide +kernel⟩
def m__law_is_moment : M Fl := (retV (andV (opC isiD (args (var 0) (args (const (.ty "int")) args0))) (andV (notV (opC isiD (args (var 0) (args (const (.ty "bool")) args0)))) (chain leD leD (const (.int 0)) (var 0) (const (.int 999))))))
def f__law_is_moment : Fn := fn0 1 1 m__law_is_moment
abbrev s__law_is_name : Stmt := topS 24
def n__law_is_name : List Str := ["_law_item", "_law_sign"]
theorem sc__law_is_name : FnScope n__law_is_name ["_law_item"] (defScope s__law_is_name) := ⟨rfl, rfl, rfl, by decide +kernel, rfl, by decide +kernel, by decide +kernel⟩
def m__law_is_name : M Fl := (seqS (ifS (orT (notT (test (opC isiD (args (var 0) (args (const (.ty "str")) args0))))) (notT (test (chain leD leD (const (.int 1)) (opC lenA (args (var 0) args0)) (const (.int 8)))))) (retV (const (.bl false))) nop) (retV (op2 eqN (frz (lc (iterV (var 0)) [1] (gN 1) (test (op2 notInD (var 1) (const (.str "abcdefghijklmnopqrstuvwxyz")))) (var 1))) (frz (lstN args0)))))
def f__law_is_name : Fn := fn0 1 2 m__law_is_name
abbrev s__law_due : Stmt := topS 26
def n__law_due : List Str := ["_law_item", "_law_last"]
theorem sc__law_due : FnScope n__law_due ["_law_item", "_law_last"] (defScope s__law_due) := ⟨rfl, rfl, rfl, by decide +kernel, rfl, by decide +kernel, by decide +kernel⟩
def m__law_due : M Fl := (seqS (ifS (orT (notT (test (opC isiD (args (var 0) (args (const (.ty "tuple")) args0))))) (orT (test (op2 neD (opC lenA (args (var 0) args0)) (const (.int 6)))) (orT (notT (test (callF f__law_is_name (args (op2 itemD (var 0) (const (.int 0))) args0)))) (notT (test (callF f__law_is_name (args (op2 itemD (var 0) (const (.int 1))) args0))))))) (retV (const (.str "form"))) nop) (seqS (ifS (orT (test (op2 notInX (opC reprW (args (op2 itemD (var 0) (const (.int 2))) args0)) (frz (lstN (args (const (.str "'allow'")) (args (const (.str "'withdraw'")) args0)))))) (orT (notT (test (callF f__law_is_moment (args (op2 itemD (var 0) (const (.int 3))) args0)))) (notT (test (callF f__law_is_moment (args (op2 itemD (var 0) (const (.int 5))) args0)))))) (retV (const (.str "form"))) nop) (seqS (ifS (andT (test (op2 notND (op2 itemD (var 0) (const (.int 4))) (const .non))) (orT (notT (test (callF f__law_is_moment (args (op2 itemD (var 0) (const (.int 4))) args0)))) (test (op2 leD (op2 itemD (var 0) (const (.int 4))) (op2 itemD (var 0) (const (.int 3))))))) (retV (const (.str "form"))) nop) (retV (iteV (test (op2 geD (op2 itemD (var 0) (const (.int 5))) (var 1))) (const (.str "let")) (const (.str "known")))))))
def f__law_due : Fn := fn0 2 2 m__law_due
abbrev s__law_folk : Stmt := topS 20
def n__law_folk : List Str := ["_law_digits"]
theorem sc__law_folk : FnScope n__law_folk ["_law_digits"] (defScope s__law_folk) := ⟨rfl, rfl, rfl, by decide +kernel, rfl, by decide +kernel, by decide +kernel⟩
def m__law_folk : M Fl := (retV (op2 itemD (frz (lstN (args (frz (lstN (args (const (.str "ann")) (args (const (.str "bob")) (args (const (.str "cy")) (args (const (.str "dot")) args0)))))) (args (frz (lstN (args (const (.str "zed")) (args (const (.str "al")) (args (const (.str "mo")) (args (const (.str "b")) args0)))))) (args (frz (lstN (args (const (.str "p")) (args (const (.str "src")) (args (const (.str "who")) (args (const (.str "x")) args0)))))) args0))))) (op2 modD (op2 itemD (var 0) (const (.int 0))) (const (.int 3)))))
def f__law_folk : Fn := fn0 1 1 m__law_folk
abbrev s__law_numbers : Stmt := topS 19
def n__law_numbers : List Str := ["_law_cell", "_law_salt", "_law_sizes", "_law_number", "_law_left", "_law_found", "_law_k", "_law_one"]
theorem sc__law_numbers : FnScope n__law_numbers ["_law_cell", "_law_salt", "_law_sizes"] (defScope s__law_numbers) := ⟨rfl, rfl, rfl, by decide +kernel, rfl, by decide +kernel, by decide +kernel⟩
def m__law_numbers : M Fl := (seqS (setV 3 (opC maxD (args (var 0) (args (op2 subD (negV (const (.int 1))) (var 0)) args0)))) (seqS (setV 4 (var 3)) (seqS (setO 5 (lstN args0)) (seqS (forS (rngV rng1 (args (opC lenA (args (var 2) args0)) args0)) (gN 6) (ifS (andT (test (op2 geD (var 3) (op2 powD (const (.int 10)) (const (.int 18))))) (test (op2 gtD (var 4) (const (.int 0))))) (seqS (dropV (methO appD 5 (args (op2 modD (var 4) (op2 itemD (var 2) (var 6))) args0))) (setV 4 (op2 fdivD (var 4) (op2 itemD (var 2) (var 6))))) (seqS (setV 7 (op2 modD (op2 powD (op2 addD (op2 addD (op2 modD (var 3) (const (.int 2147483629))) (op2 mulA (const (.int 7919)) (var 1))) (const (.int 1))) (const (.int 3))) (const (.int 2147483647)))) (seqS (setV 7 (op2 modD (op2 mulA (op2 addD (var 7) (op2 mulA (const (.int 104729)) (op2 addD (var 6) (const (.int 1))))) (op2 addD (var 6) (const (.int 3)))) (const (.int 2147483629)))) (seqS (setV 7 (op2 modD (op2 mulA (op2 modD (op2 powD (var 7) (const (.int 5))) (const (.int 2147483647))) (const (.int 48271))) (const (.int 2147483629)))) (dropV (methO appD 5 (args (op2 modD (op2 fdivD (var 7) (const (.int 16))) (op2 itemD (var 2) (var 6))) args0)))))))) (freezeS 5 (retV (var 5)))))))
def f__law_numbers : Fn := fn0 3 8 m__law_numbers
abbrev s__law_permit : Stmt := topS 22
def n__law_permit : List Str := ["_law_digits", "_law_folk_here", "_law_known", "_law_since", "_law_till", "_law_person", "_law_purpose"]
theorem sc__law_permit : FnScope n__law_permit ["_law_digits", "_law_folk_here", "_law_known"] (defScope s__law_permit) := ⟨rfl, rfl, rfl, by decide +kernel, rfl, by decide +kernel, by decide +kernel⟩
def m__law_permit : M Fl := (seqS (par2 5 6 (args (op2 itemD (var 1) (op2 modD (op2 itemD (var 0) (const (.int 0))) (const (.int 4)))) (args (op2 itemD (frz (lstN (args (const (.str "care")) (args (const (.str "study")) args0)))) (op2 modD (op2 itemD (var 0) (const (.int 1))) (const (.int 2)))) args0))) (seqS (setV 3 (op2 modD (op2 itemD (var 0) (const (.int 2))) (const (.int 5)))) (seqS (setV 4 (op2 itemD (frz (lstN (args (const .non) (args (const .non) (args (op2 addD (op2 addD (var 3) (const (.int 1))) (op2 modD (op2 itemD (var 0) (const (.int 3))) (const (.int 5)))) args0))))) (op2 modD (op2 itemD (var 0) (const (.int 4))) (const (.int 3))))) (retV (tupV (args (var 5) (args (var 6) (args (op2 itemD (frz (lstN (args (const (.str "allow")) (args (const (.str "allow")) (args (const (.str "withdraw")) args0))))) (op2 modD (op2 itemD (var 0) (const (.int 5))) (const (.int 3)))) (args (var 3) (args (var 4) (args (var 2) args0)))))))))))
def f__law_permit : Fn := fn0 3 7 m__law_permit
abbrev s__law_permits : Stmt := topS 23
def n__law_permits : List Str := ["_law_digits", "_law_folk_here", "_law_many", "_law_found", "_law_known", "_law_k"]
theorem sc__law_permits : FnScope n__law_permits ["_law_digits", "_law_folk_here", "_law_many"] (defScope s__law_permits) := ⟨rfl, rfl, rfl, by decide +kernel, rfl, by decide +kernel, by decide +kernel⟩
def m__law_permits : M Fl := (seqS (setO 3 (lstN args0)) (seqS (setV 4 (op2 modD (op2 itemD (var 0) (const (.int 0))) (const (.int 3)))) (seqS (forS (rngV rng1 (args (var 2) args0)) (gN 5) (seqS (dropV (methO appD 3 (args (callF f__law_permit (args (sliceV (var 0) (part (op2 addD (op2 mulA (const (.int 7)) (var 5)) (const (.int 1)))) (part (op2 addD (op2 mulA (const (.int 7)) (var 5)) (const (.int 7))))) (args (var 1) (args (var 4) args0)))) args0))) (setV 4 (op2 addD (var 4) (op2 itemD (frz (lstN (args (const (.int 0)) (args (const (.int 0)) (args (const (.int 1)) (args (const (.int 2)) args0)))))) (op2 modD (op2 itemD (var 0) (op2 addD (op2 mulA (const (.int 7)) (var 5)) (const (.int 7)))) (const (.int 4)))))))) (freezeS 3 (retV (var 3))))))
def f__law_permits : Fn := fn0 3 6 m__law_permits
abbrev s_Book_least : Stmt := inClass (topS 17) 1
def n_Book_least : List Str := ["self"]
theorem sc_Book_least : FnScope n_Book_least ["self"] (defScope s_Book_least) := ⟨rfl, rfl, rfl, by decide +kernel, rfl, by decide +kernel, by decide +kernel⟩
def m_Book_least : M Fl := (retV (iteV (test (op2S neS (fldV "Book" "own_permits" (var 0)) (frz (lstN args0)))) (op2 itemD (op2S itemS (fldV "Book" "own_permits" (var 0)) (negV (const (.int 1)))) (const (.int 5))) (const (.int 0))))
def f_Book_least : Fn := fn0 1 1 m_Book_least
abbrev s_is_whole : Stmt := topS 9
def n_is_whole : List Str := ["thing"]
theorem sc_is_whole : FnScope n_is_whole ["thing"] (defScope s_is_whole) := ⟨rfl, rfl, rfl, by decide +kernel, rfl, by decide +kernel, by decide +kernel⟩
def m_is_whole : M Fl := (retV (andV (opC isiD (args (var 0) (args (const (.ty "int")) args0))) (notV (opC isiD (args (var 0) (args (const (.ty "bool")) args0))))))
def f_is_whole : Fn := fn0 1 1 m_is_whole
abbrev s_is_within : Stmt := topS 10
def n_is_within : List Str := ["thing", "least", "most"]
theorem sc_is_within : FnScope n_is_within ["thing", "least", "most"] (defScope s_is_within) := ⟨rfl, rfl, rfl, by decide +kernel, rfl, by decide +kernel, by decide +kernel⟩
def m_is_within : M Fl := (retV (andV (callF f_is_whole (args (var 0) args0)) (chain leD leD (var 1) (var 0) (var 2))))
def f_is_within : Fn := fn0 3 3 m_is_within
abbrev s_is_moment : Stmt := topS 12
def n_is_moment : List Str := ["thing"]
theorem sc_is_moment : FnScope n_is_moment ["thing"] (defScope s_is_moment) := ⟨rfl, rfl, rfl, by decide +kernel, rfl, by decide +kernel, by decide +kernel⟩
def m_is_moment : M Fl := (retV (callF f_is_within (args (var 0) (args (const (.int 0)) (args (const (.int 999)) args0)))))
def f_is_moment : Fn := fn0 1 1 m_is_moment
abbrev s_is_name : Stmt := topS 11
def n_is_name : List Str := ["thing", "sign"]
theorem sc_is_name : FnScope n_is_name ["thing"] (defScope s_is_name) := ⟨rfl, rfl, rfl, by decide +kernel, rfl, by decide +kernel, by decide +kernel⟩
def m_is_name : M Fl := (retV (andV (opC isiD (args (var 0) (args (const (.ty "str")) args0))) (andV (chain leD leD (const (.int 1)) (opC lenA (args (var 0) args0)) (const (.int 8))) (opC allD (args (frz (lc (iterV (var 0)) [1] (gN 1) yes (op2 inD (var 1) (const (.str "abcdefghijklmnopqrstuvwxyz"))))) args0)))))
def f_is_name : Fn := fn0 1 2 m_is_name
abbrev s_is_permission : Stmt := topS 16
def n_is_permission : List Str := ["thing", "person", "purpose", "word", "since", "till", "known"]
theorem sc_is_permission : FnScope n_is_permission ["thing"] (defScope s_is_permission) := ⟨rfl, rfl, rfl, by decide +kernel, rfl, by decide +kernel, by decide +kernel⟩
def m_is_permission : M Fl := (seqS (ifS (orT (notT (test (opC isiD (args (var 0) (args (const (.ty "tuple")) args0))))) (orT (test (op2 neD (opC lenA (args (var 0) args0)) (const (.int 6)))) (orT (notT (test (callF f_is_name (args (op2 itemD (var 0) (const (.int 0))) args0)))) (notT (test (callF f_is_name (args (op2 itemD (var 0) (const (.int 1))) args0))))))) (retV (const (.bl false))) nop) (seqS (asgV (var 0) (gT 6 (gsCons (gN 1) (gsCons (gN 2) (gsCons (gN 3) (gsCons (gN 4) (gsCons (gN 5) (gsCons (gN 6) gsNil)))))))) (seqS (ifS (orT (notT (test (opC isiD (args (var 3) (args (const (.ty "str")) args0))))) (orT (test (op2 notInD (var 3) (tupV (args (const (.str "allow")) (args (const (.str "withdraw")) args0))))) (orT (notT (test (callF f_is_moment (args (var 4) args0)))) (notT (test (callF f_is_moment (args (var 6) args0))))))) (retV (const (.bl false))) nop) (retV (orV (op2 isND (var 5) (const .non)) (andV (callF f_is_moment (args (var 5) args0)) (op2 ltD (var 4) (var 5))))))))
def f_is_permission : Fn := fn0 1 7 m_is_permission
abbrev s_Book_put_from : Stmt := inClass (topS 17) 3
def n_Book_put_from : List Str := ["self", "permission", "least"]
theorem sc_Book_put_from : FnScope n_Book_put_from ["self", "permission", "least"] (defScope s_Book_put_from) := ⟨rfl, rfl, rfl, by decide +kernel, rfl, by decide +kernel, by decide +kernel⟩
def m_Book_put_from : M Fl := (seqS (ifS (notT (test (callF f_is_permission (args (var 1) args0)))) (raiseV "NoPermission" "word" (args (const (.str "form")) args0)) nop) (seqS (ifS (test (op2 ltD (op2 itemD (var 1) (const (.int 5))) (opC maxD (args (var 2) (args (methK "Book" "least" f_Book_least [0] [] 1 0 (var 0) args0 args0) args0))))) (raiseV "NoPermission" "word" (args (const (.str "known")) args0)) nop) (dropV (appB (fldV "Book" "own_permits" (var 0)) (args (var 1) args0)))))
def f_Book_put_from : Fn := bodyFn 3 3 m_Book_put_from
abbrev s_Book_put : Stmt := inClass (topS 17) 2
def n_Book_put : List Str := ["self", "permission"]
theorem sc_Book_put : FnScope n_Book_put ["self", "permission"] (defScope s_Book_put) := ⟨rfl, rfl, rfl, by decide +kernel, rfl, by decide +kernel, by decide +kernel⟩
def m_Book_put : M Fl := (dropV (methK "Book" "put_from" f_Book_put_from [0, 1, 2] [] 3 0 (var 0) (args (var 1) (args (const (.int 0)) args0)) args0))
def f_Book_put : Fn := bodyFn 2 2 m_Book_put
abbrev s__law_said : Stmt := topS 27
def n__law_said : List Str := ["_law_book", "_law_item", "_law_kept", "e"]
theorem sc__law_said : FnScope n__law_said ["_law_book", "_law_item"] (defScope s__law_said) := ⟨rfl, rfl, rfl, by decide +kernel, rfl, by decide +kernel, by decide +kernel⟩
def m__law_said : M Fl := (seqS (setV 2 (const .non)) (seqS (tryV (fun c => ht_HouseError.lookup c) 3 (ifS (test (op2 notND (methK "Book" "put" f_Book_put [0, 1] [] 2 0 (var 0) (args (var 1) args0) args0) (const .non))) (retV (const (.str "told"))) nop) (setV 2 (var 3))) (seqS (ifS (test (op2 isND (var 2) (const .non))) (retV (const (.str "let"))) nop) (retV (iteV (andT (test (isiX tb_NoPermission (var 2))) (notT (test (isiX tb_NoEntry (var 2))))) (xfV ft_word "word" (var 2)) (const (.str "odd")))))))
def f__law_said : Fn := fn0 2 4 m__law_said
abbrev s_law : Stmt := topS 30
def n_law : List Str := ["_law_script", "_law_k", "_law_cell", "_law_digits", "_law_folk_here", "_law_book", "_law_permits_here", "_law_turn", "_law_permit_here", "_law_last", "_law_bent_here", "_law_item", "_law_seen", "_law_due_here", "_law_held", "_law_shown"]
theorem sc_law : FnScope n_law ["_law_script"] (defScope s_law) := ⟨rfl, rfl, rfl, by decide +kernel, rfl, by decide +kernel, by decide +kernel⟩
def m_law : M Fl := (seqS (forS (enumV (args (op2 addD (sliceV (var 0) noPart (part (const (.int 8)))) (op2 mulA (frz (lstN (args (const (.int 7)) args0))) (opC intD (args (op2 eqN (var 0) (frz (lstN args0))) args0)))) args0)) (gT 2 (gsCons (gN 1) (gsCons (gN 2) gsNil))) (seqS (setV 3 (callF f__law_numbers (args (var 2) (args (op2 addD (const (.int 3700)) (var 1)) (args (op2 mulA (frz (lstN (args (const (.int 420)) args0))) (const (.int 200))) args0))))) (seqS (setV 4 (callF f__law_folk (args (var 3) args0))) (seqS (setV 5 (makeK "Book" f_Book___init__ [0] [] 1 0 args0 args0)) (seqS (setV 6 (boxL (lstN args0))) (forS (enumV (args (callF f__law_permits (args (sliceV (var 3) (part (const (.int 2))) noPart) (args (var 4) (args (op2 addD (const (.int 3)) (op2 modD (op2 itemD (var 3) (const (.int 1))) (const (.int 10)))) args0)))) args0)) (gT 2 (gsCons (gN 7) (gsCons (gN 8) gsNil))) (seqS (setV 9 (op2 itemD (op2 itemD (op2 addD (sliceVS (var 6) (part (negV (const (.int 1)))) noPart) (frz (lstN (args (tupV (args (const (.int 0)) (args (const (.int 0)) (args (const (.int 0)) (args (const (.int 0)) (args (const (.int 0)) (args (const (.int 0)) args0))))))) args0)))) (const (.int 0))) (const (.int 5)))) (seqS (setV 10 (callF f__law_bent (args (sliceV (var 3) (part (op2 addD (const (.int 100)) (op2 mulA (const (.int 3)) (var 7)))) noPart) (args (var 8) args0)))) (forS (iterV (frz (lstN (args (var 10) (args (var 8) (args (op2 addD (sliceV (var 8) noPart (part (const (.int 5)))) (tupV (args (op2 subD (op2 itemD (var 8) (const (.int 5))) (const (.int 1))) args0))) (args (const .non) (args (const (.str "permit")) args0)))))))) (gN 11) (seqS (setV 12 (opC reprW (args (var 11) args0))) (seqS (par2 14 15 (args (methK "Book" "permits" f_Book_permits [0] [] 1 0 (var 5) args0 args0) (args (opCS reprS (args (var 6) args0)) args0))) (seqS (setV 13 (callF f__law_due (args (var 11) (args (var 9) args0)))) (seqS (ifS (test (op2 eqD (var 13) (const (.str "let")))) (seqS (dropV (appB (var 6) (args (var 11) args0))) (setV 9 (op2 itemD (var 11) (const (.int 5))))) nop) (seqS (ifS (orT (test (op2 neD (callF f__law_said (args (var 5) (args (var 11) args0))) (var 13))) (orT (test (op2 neD (opC reprW (args (var 11) args0)) (var 12))) (notT (test (callF f__law_book_so (args (var 5) (args (var 6) args0))))))) (retV (const (.bl false))) nop) (ifS (test (op2 neD (opCS reprS (args (var 14) args0)) (var 15))) (retV (const (.bl false))) nop))))))))))))))) (retV (const (.bl true))))
def f_law : Fn := fn0 1 16 m_law
structure Txt (K : PySem.W.Frag) (mg : Str → Option Value) where
  X_HouseError : Addr
  xm_HouseError : mg "HouseError" = some (.ref X_HouseError)
  X_NoEntry : Addr
  xm_NoEntry : mg "NoEntry" = some (.ref X_NoEntry)
  X_NoPermission : Addr
  xm_NoPermission : mg "NoPermission" = some (.ref X_NoPermission)
  xb_HouseError : XbAt K mg "HouseError" X_HouseError "ValueError.__init__"
  xj_NoPermission : Addr
  xd_NoPermission : FuncData
  xc_NoPermission : XcAt K mg "NoPermission" X_NoPermission xj_NoPermission xd_NoPermission ["self", "word"] "ValueError.__init__"
  xh_NoPermission : Fun K "__init__" "NoPermission.__init__" xs_NoPermission xj_NoPermission xd_NoPermission
  xn_NoPermission : PySem.W.findIn K (.ref X_NoPermission) "word" = some none
  xtb_NoEntry : TblOk K (.ref X_NoEntry) tb_NoEntry
  xtb_NoPermission : TblOk K (.ref X_NoPermission) tb_NoPermission
  xht_HouseError : HitOk K mg (.ref X_HouseError) ht_HouseError
  xft_word : FldT K "word" ft_word
  z_all : mg "all" = none
  z_bool : mg "bool" = none
  z_enumerate : mg "enumerate" = none
  z_int : mg "int" = none
  z_isinstance : mg "isinstance" = none
  z_len : mg "len" = none
  z_list : mg "list" = none
  z_max : mg "max" = none
  z_range : mg "range" = none
  z_repr : mg "repr" = none
  z_str : mg "str" = none
  z_tuple : mg "tuple" = none
  g_ALLOW : ∃ t, mg "ALLOW" = some (.str "allow" t)
  g_MOST_MOMENT : ∃ t, mg "MOST_MOMENT" = some (.int 999 t)
  g_MOST_SIGNS : ∃ t, mg "MOST_SIGNS" = some (.int 8 t)
  g_SIGNS : ∃ t, mg "SIGNS" = some (.str "abcdefghijklmnopqrstuvwxyz" t)
  g_WITHDRAW : ∃ t, mg "WITHDRAW" = some (.str "withdraw" t)
  C_Book : Addr
  c_Book : ClsAt K mg "Book" C_Book
  na_Book_own_permits : NoAttr K C_Book "own_permits"
  kd_Book : KindAt K C_Book
  ne_Book : PySem.W.findIn K (.ref C_Book) "__ne__" = some (some (.builtin "object.__ne__"))
  a_Book___init__ : Addr
  d_Book___init__ : FuncData
  h_Book___init__ : MkAt K C_Book "Book.__init__" s_Book___init__ a_Book___init__ d_Book___init__
  a_Book_permits : Addr
  d_Book_permits : FuncData
  h_Book_permits : MtAt K C_Book "permits" "Book.permits" s_Book_permits a_Book_permits d_Book_permits
  a_Book___len__ : Addr
  d_Book___len__ : FuncData
  h_Book___len__ : MtAt K C_Book "__len__" "Book.__len__" s_Book___len__ a_Book___len__ d_Book___len__
  a_Book_least : Addr
  d_Book_least : FuncData
  h_Book_least : MtAt K C_Book "least" "Book.least" s_Book_least a_Book_least d_Book_least
  a_Book_put_from : Addr
  d_Book_put_from : FuncData
  h_Book_put_from : MtAt K C_Book "put_from" "Book.put_from" s_Book_put_from a_Book_put_from d_Book_put_from
  a_Book_put : Addr
  d_Book_put : FuncData
  h_Book_put : MtAt K C_Book "put" "Book.put" s_Book_put a_Book_put d_Book_put
  a__law_bent : Addr
  d__law_bent : FuncData
  h__law_bent : FnAt K mg "_law_bent" s__law_bent ["_law_digits", "_law_permit_here"] a__law_bent d__law_bent
  a__law_book_so : Addr
  d__law_book_so : FuncData
  h__law_book_so : FnAt K mg "_law_book_so" s__law_book_so ["_law_book", "_law_permits_here"] a__law_book_so d__law_book_so
  a__law_is_moment : Addr
  d__law_is_moment : FuncData
  h__law_is_moment : FnAt K mg "_law_is_moment" s__law_is_moment ["_law_item"] a__law_is_moment d__law_is_moment
  a__law_is_name : Addr
  d__law_is_name : FuncData
  h__law_is_name : FnAt K mg "_law_is_name" s__law_is_name ["_law_item"] a__law_is_name d__law_is_name
  a__law_due : Addr
  d__law_due : FuncData
  h__law_due : FnAt K mg "_law_due" s__law_due ["_law_item", "_law_last"] a__law_due d__law_due
  a__law_folk : Addr
  d__law_folk : FuncData
  h__law_folk : FnAt K mg "_law_folk" s__law_folk ["_law_digits"] a__law_folk d__law_folk
  a__law_numbers : Addr
  d__law_numbers : FuncData
  h__law_numbers : FnAt K mg "_law_numbers" s__law_numbers ["_law_cell", "_law_salt", "_law_sizes"] a__law_numbers d__law_numbers
  a__law_permit : Addr
  d__law_permit : FuncData
  h__law_permit : FnAt K mg "_law_permit" s__law_permit ["_law_digits", "_law_folk_here", "_law_known"] a__law_permit d__law_permit
  a__law_permits : Addr
  d__law_permits : FuncData
  h__law_permits : FnAt K mg "_law_permits" s__law_permits ["_law_digits", "_law_folk_here", "_law_many"] a__law_permits d__law_permits
  a_is_whole : Addr
  d_is_whole : FuncData
  h_is_whole : FnAt K mg "is_whole" s_is_whole ["thing"] a_is_whole d_is_whole
  a_is_within : Addr
  d_is_within : FuncData
  h_is_within : FnAt K mg "is_within" s_is_within ["thing", "least", "most"] a_is_within d_is_within
  a_is_moment : Addr
  d_is_moment : FuncData
  h_is_moment : FnAt K mg "is_moment" s_is_moment ["thing"] a_is_moment d_is_moment
  a_is_name : Addr
  d_is_name : FuncData
  h_is_name : FnAt K mg "is_name" s_is_name ["thing"] a_is_name d_is_name
  a_is_permission : Addr
  d_is_permission : FuncData
  h_is_permission : FnAt K mg "is_permission" s_is_permission ["thing"] a_is_permission d_is_permission
  a__law_said : Addr
  d__law_said : FuncData
  h__law_said : FnAt K mg "_law_said" s__law_said ["_law_book", "_law_item"] a__law_said d__law_said
  a_law : Addr
  d_law : FuncData
  h_law : FnAt K mg "law" s_law ["_law_script"] a_law d_law
  sp_Book___len__ : SpAt K C_Book a_Book___len__ d_Book___len__ ["self"] "__len__"
  kb_Book___init___1 : KB K d_Book___init__ ["self"] 1 [] [0] []
  kb_Book_least_1 : KB K d_Book_least ["self"] 1 [] [0] []
  kb_Book_permits_1 : KB K d_Book_permits ["self"] 1 [] [0] []
  kb_Book_put_2 : KB K d_Book_put ["self", "permission"] 2 [] [0, 1] []
  kb_Book_put_from_3 : KB K d_Book_put_from ["self", "permission", "least"] 3 [] [0, 1, 2] []
section
variable {P : Program} {w : World} {K : PySem.W.Frag} {mg : Str → Option Value} {base : Heap}
theorem oki_NoPermission (T : Txt K mg) : FnOk P w K mg base CX0 1 T.xj_NoPermission T.xd_NoPermission ["self", "word"] (spI T.X_NoPermission "word") :=
  init_one T.xh_NoPermission xsc_NoPermission T.xc_NoPermission.xc T.xn_NoPermission fun cdv A outer s H E => pss_cons (ps_expr (pe_binit rfl T.xb_HouseError.mgc T.xb_HouseError.rd T.xb_HouseError.ga T.xb_HouseError.fc rfl (pa_cons (pv 0) (pa_cons pe_str pa_nil)))) (pss_one (ps_fst (pv 0) (pv 1)))
theorem ok_Book___init__ (T : Txt K mg) : FnG P w K mg base CX0 1 T.a_Book___init__ T.d_Book___init__ ["self"] (spF (K, w) mg 1 f_Book___init__) :=
  fn_ok0 T.h_Book___init__.fn sc_Book___init__ fun cdv A out s H E hG hr => (dss_one (ds_fd T.c_Book T.na_Book_own_permits (de_var (pv 0)) (de_box (dn_lst da_nil))))
theorem ok_Book_permits (T : Txt K mg) : FnG P w K mg base CX0 1 T.a_Book_permits T.d_Book_permits ["self"] (spF (K, w) mg 1 f_Book_permits) :=
  fn_ok0 T.h_Book_permits.fn sc_Book_permits fun cdv A out s H E hG hr => (dss_one (ds_ret (de_box (dn_bcS (cn_listS rfl) rfl T.z_list boot_list' (da_cons (de_fd T.c_Book T.na_Book_own_permits (de_var (pv 0))) da_nil)))))
theorem ok__law_bent (T : Txt K mg) : FnG P w K mg base CX0 1 T.a__law_bent T.d__law_bent ["_law_digits", "_law_permit_here"] (spF (K, w) mg 2 f__law_bent) :=
  fn_ok0 T.h__law_bent.fn sc__law_bent fun cdv A out s H E hG hr => (dss_cons (ds_set (fun he => ps_set (i := 2) sc__law_bent.nd rfl (by first | exact Or.inl rfl | exact Or.inr rfl) he) (de_bin od_mod (de_item (de_var (pv 0)) de_int) de_int)) (dss_cons (ds_set (fun he => ps_set (i := 3) sc__law_bent.nd rfl (by first | exact Or.inl rfl | exact Or.inr rfl) he) (de_frz (dn_lst (da_cons de_non (da_cons de_bl (da_cons (de_neg de_int) (da_cons de_int (da_cons de_int (da_cons de_int (da_cons de_int (da_cons (de_str (by decide +kernel)) (da_cons (de_str (by decide +kernel)) (da_cons (de_str (by decide +kernel)) (da_cons (de_str (by decide +kernel)) (da_cons (de_str (by decide +kernel)) (da_cons (de_str (by decide +kernel)) (da_cons (de_str (by decide +kernel)) (da_cons (de_str (by decide +kernel)) (da_cons (de_str (by decide +kernel)) da_nil))))))))))))))))))) (dss_cons (ds_set (fun he => ps_set (i := 3) sc__law_bent.nd rfl (by first | exact Or.inl rfl | exact Or.inr rfl) he) (de_bin od_add (de_var (pv 3)) (de_frz (dn_lst (da_cons (de_tup (da_cons (de_str (by decide +kernel)) da_nil)) (da_cons (de_frz (dn_lst (da_cons (de_str (by decide +kernel)) da_nil))) (da_cons (de_str (by decide +kernel)) (da_cons (de_item (de_var (pv 1)) de_int) (da_cons (de_item (de_var (pv 1)) de_int) (da_cons de_dict0 da_nil)))))))))) (dss_cons (ds_set (fun he => ps_set (i := 4) sc__law_bent.nd rfl (by first | exact Or.inl rfl | exact Or.inr rfl) he) (de_item (de_var (pv 3)) (de_bin od_mod (de_item (de_var (pv 0)) de_int) de_int))) (dss_cons (ds_set (fun he => ps_set (i := 5) sc__law_bent.nd rfl (by first | exact Or.inl rfl | exact Or.inr rfl) he) (de_bin od_mulA (de_frz (dn_lst (da_cons (de_bin od_add (de_bin od_add (de_slice (de_var (pv 1)) do_none (do_some (de_var (pv 2)))) (de_tup (da_cons (de_var (pv 4)) da_nil))) (de_slice (de_var (pv 1)) (do_some (de_bin od_add (de_var (pv 2)) de_int)) do_none)) da_nil))) de_int)) (dss_cons (ds_set (fun he => ps_set (i := 5) sc__law_bent.nd rfl (by first | exact Or.inl rfl | exact Or.inr rfl) he) (de_bin od_add (de_var (pv 5)) (de_frz (dn_lst (da_cons (de_bin od_add (de_slice (de_var (pv 1)) do_none (do_some (de_var (pv 2)))) (de_slice (de_var (pv 1)) (do_some (de_bin od_add (de_var (pv 2)) de_int)) do_none)) (da_cons (de_bin od_add (de_var (pv 1)) (de_tup (da_cons (de_var (pv 4)) da_nil))) (da_cons (de_frz (dn_list rfl rfl T.z_list boot_list' (da_cons (de_var (pv 1)) da_nil))) (da_cons (de_var (pv 4)) da_nil)))))))) (dss_one (ds_ret (de_item (de_var (pv 5)) (de_bin od_mod (de_item (de_var (pv 0)) de_int) de_int))))))))))
theorem ok_Book___len__ (T : Txt K mg) : FnG P w K mg base CX0 1 T.a_Book___len__ T.d_Book___len__ ["self"] (spF (K, w) mg 1 f_Book___len__) :=
  fn_ok0 T.h_Book___len__.fn sc_Book___len__ fun cdv A out s H E hG hr => (dss_one (ds_ret (de_bfS cd_lenS rfl T.z_len boot_len' (da_cons (de_fd T.c_Book T.na_Book_own_permits (de_var (pv 0))) da_nil))))
theorem ok__law_book_so (T : Txt K mg) : FnG P w K mg base CX0 3 T.a__law_book_so T.d__law_book_so ["_law_book", "_law_permits_here"] (spF (K, w) mg 2 f__law_book_so) :=
  fn_ok0 T.h__law_book_so.fn sc__law_book_so fun cdv A out s H E hG hr => (dss_cons (ds_set (fun he => ps_set (i := 2) sc__law_book_so.nd rfl (by first | exact Or.inl rfl | exact Or.inr rfl) he) (de_me0 T.c_Book T.h_Book_permits (ok_Book_permits T) T.kb_Book_permits_1 dfd_nil hG (hr.mono (by decide)) (de_var (pv 0)) dk_nil)) (dss_cons (ds_if (DW.dt (dw_or (dt_cmpS (od_neS (hu64 hr)) (de_var (pv 2)) (de_var (pv 1)) rfl) (dw_or1 (dt_cmp (od_ne (hu64 hr)) (de_lenOwn T.c_Book T.kd_Book (call_lenO (ok_Book___len__ T) hG (hr.mono (by decide)) T.sp_Book___len__.fi T.sp_Book___len__.fn T.sp_Book___len__.bi) rfl T.z_len boot_len' (de_var (pv 0))) (de_bfS cd_lenS rfl T.z_len boot_len' (da_cons (de_var (pv 1)) da_nil)) rfl)))) (dss_one (ds_ret de_bl)) dss_nil) (dss_cons (ds_expr (de_appB (fun ho ha => pe_bm PySem.F.plainAttrs_list PySem.F.slot_list_append PySem.F.type_list_append mt_append ho ha) (de_var (pv 2)) (da_cons de_non da_nil))) (dss_one (ds_ret (de_cmpS (od_eqS (hu64 hr)) (de_me0 T.c_Book T.h_Book_permits (ok_Book_permits T) T.kb_Book_permits_1 dfd_nil hG (hr.mono (by decide)) (de_var (pv 0)) dk_nil) (de_var (pv 1)) rfl))))))
theorem ok__law_is_moment (T : Txt K mg) : FnG P w K mg base CX0 1 T.a__law_is_moment T.d__law_is_moment ["_law_item"] (spF (K, w) mg 1 f__law_is_moment) :=
  fn_ok0 T.h__law_is_moment.fn sc__law_is_moment fun cdv A out s H E hG hr => (dss_one (ds_ret (de_and (de_bf cd_isi rfl T.z_isinstance boot_isinstance' (da_cons (de_var (pv 0)) (da_cons (de_ty rfl T.z_int boot_int') da_nil))) (de_and (de_not (de_bf cd_isi rfl T.z_isinstance boot_isinstance' (da_cons (de_var (pv 0)) (da_cons (de_ty rfl T.z_bool boot_bool') da_nil)))) (de_one (de_chain od_le od_le de_int (de_var (pv 0)) de_int))))))
theorem ok__law_is_name (T : Txt K mg) : FnG P w K mg base CX0 1 T.a__law_is_name T.d__law_is_name ["_law_item"] (spF (K, w) mg 1 f__law_is_name) :=
  fn_ok0 T.h__law_is_name.fn sc__law_is_name fun cdv A out s H E hG hr => (dss_cons (ds_if (DW.dt (dw_or (dt_not (dt_val (de_bf cd_isi rfl T.z_isinstance boot_isinstance' (da_cons (de_var (pv 0)) (da_cons (de_ty rfl T.z_str boot_str') da_nil))))) (dw_or1 (dt_not (dt_chain od_le od_le de_int (de_bf cd_lenA rfl T.z_len boot_len' (da_cons (de_var (pv 0)) da_nil)) de_int))))) (dss_one (ds_ret de_bl)) dss_nil) (dss_one (ds_ret (de_cmp (od_eqN (hu64 hr)) (de_frz (dn_lc (vs := [1]) (js := [1]) (by decide) (pe_lc (own := [("_law_sign", 1)]) rfl sc__law_is_name.nd (di_val (de_var (pv 0))) (blkOk_by (own := [("_law_sign", 1)]) (N := n__law_is_name) (sc := defScope s__law_is_name) (by decide +kernel)) (fun _ _ _ _ _ => (dg_name (pg_name (i := 1) sc__law_is_name.nd rfl (by first | exact Or.inl rfl | exact Or.inr rfl)))) (fun _ _ _ _ _ => (dts_one (dt_cmp od_notin (de_var (pv 1)) (de_str (by decide +kernel)) rfl))) (fun _ _ _ _ _ => (de_var (pv 1)))))) (de_frz (dn_lst da_nil)) rfl))))
theorem ok__law_due (T : Txt K mg) : FnG P w K mg base CX0 2 T.a__law_due T.d__law_due ["_law_item", "_law_last"] (spF (K, w) mg 2 f__law_due) :=
  fn_ok0 T.h__law_due.fn sc__law_due fun cdv A out s H E hG hr => (dss_cons (ds_if (DW.dt (dw_or (dt_not (dt_val (de_bf cd_isi rfl T.z_isinstance boot_isinstance' (da_cons (de_var (pv 0)) (da_cons (de_ty rfl T.z_tuple boot_tuple') da_nil))))) (dw_or (dt_cmp (od_ne (hu64 hr)) (de_bf cd_lenA rfl T.z_len boot_len' (da_cons (de_var (pv 0)) da_nil)) de_int rfl) (dw_or (dt_not (dt_val (de_fn T.h__law_is_name (ok__law_is_name T) hG (hr.mono (by decide)) rfl (da_cons (de_item (de_var (pv 0)) de_int) da_nil)))) (dw_or1 (dt_not (dt_val (de_fn T.h__law_is_name (ok__law_is_name T) hG (hr.mono (by decide)) rfl (da_cons (de_item (de_var (pv 0)) de_int) da_nil))))))))) (dss_one (ds_ret (de_str (by decide +kernel)))) dss_nil) (dss_cons (ds_if (DW.dt (dw_or (dt_cmp (od_notInX (hu65 hr)) (de_bf (cd_reprW hG (hu64 hr)) rfl T.z_repr boot_repr' (da_cons (de_item (de_var (pv 0)) de_int) da_nil)) (de_frz (dn_lst (da_cons (de_str (by decide +kernel)) (da_cons (de_str (by decide +kernel)) da_nil)))) rfl) (dw_or (dt_not (dt_val (de_fn T.h__law_is_moment (ok__law_is_moment T) hG (hr.mono (by decide)) rfl (da_cons (de_item (de_var (pv 0)) de_int) da_nil)))) (dw_or1 (dt_not (dt_val (de_fn T.h__law_is_moment (ok__law_is_moment T) hG (hr.mono (by decide)) rfl (da_cons (de_item (de_var (pv 0)) de_int) da_nil)))))))) (dss_one (ds_ret (de_str (by decide +kernel)))) dss_nil) (dss_cons (ds_if (DW.dt (dw_and (dt_cmp od_isnot (de_item (de_var (pv 0)) de_int) de_non rfl) (dw_and1 (DW.dt (dw_or (dt_not (dt_val (de_fn T.h__law_is_moment (ok__law_is_moment T) hG (hr.mono (by decide)) rfl (da_cons (de_item (de_var (pv 0)) de_int) da_nil)))) (dw_or1 (dt_cmp od_le (de_item (de_var (pv 0)) de_int) (de_item (de_var (pv 0)) de_int) rfl))))))) (dss_one (ds_ret (de_str (by decide +kernel)))) dss_nil) (dss_one (ds_ret (de_ite (dt_cmp od_ge (de_item (de_var (pv 0)) de_int) (de_var (pv 1)) rfl) (de_str (by decide +kernel)) (de_str (by decide +kernel))))))))
theorem ok__law_folk (T : Txt K mg) : FnG P w K mg base CX0 1 T.a__law_folk T.d__law_folk ["_law_digits"] (spF (K, w) mg 1 f__law_folk) :=
  fn_ok0 T.h__law_folk.fn sc__law_folk fun cdv A out s H E hG hr => (dss_one (ds_ret (de_item (de_frz (dn_lst (da_cons (de_frz (dn_lst (da_cons (de_str (by decide +kernel)) (da_cons (de_str (by decide +kernel)) (da_cons (de_str (by decide +kernel)) (da_cons (de_str (by decide +kernel)) da_nil)))))) (da_cons (de_frz (dn_lst (da_cons (de_str (by decide +kernel)) (da_cons (de_str (by decide +kernel)) (da_cons (de_str (by decide +kernel)) (da_cons (de_str (by decide +kernel)) da_nil)))))) (da_cons (de_frz (dn_lst (da_cons (de_str (by decide +kernel)) (da_cons (de_str (by decide +kernel)) (da_cons (de_str (by decide +kernel)) (da_cons (de_str (by decide +kernel)) da_nil)))))) da_nil))))) (de_bin od_mod (de_item (de_var (pv 0)) de_int) de_int))))
theorem ok__law_numbers (T : Txt K mg) : FnG P w K mg base CX0 1 T.a__law_numbers T.d__law_numbers ["_law_cell", "_law_salt", "_law_sizes"] (spF (K, w) mg 3 f__law_numbers) :=
  fn_ok0 T.h__law_numbers.fn sc__law_numbers fun cdv A out s H E hG hr => (dss_cons (ds_set (fun he => ps_set (i := 3) sc__law_numbers.nd rfl (by first | exact Or.inl rfl | exact Or.inr rfl) he) (de_bf (cd_max rfl) rfl T.z_max boot_max' (da_cons (de_var (pv 0)) (da_cons (de_bin od_sub (de_neg de_int) (de_var (pv 0))) da_nil)))) (dss_cons (ds_set (fun he => ps_set (i := 4) sc__law_numbers.nd rfl (by first | exact Or.inl rfl | exact Or.inr rfl) he) (de_var (pv 3))) (dss_cons (ds_own (fun he => ps_set (i := 5) sc__law_numbers.nd rfl (by first | exact Or.inl rfl | exact Or.inr rfl) he) (dn_lst da_nil)) (dss_cons (ds_for (js := [6]) (fun hi hg hb => ps_for PassesOwn.never rfl hi hg hb) (di_range1 (fun ha => pi_range1 rfl T.z_range ha) (da_cons (de_bf cd_lenA rfl T.z_len boot_len' (da_cons (de_var (pv 2)) da_nil)) da_nil)) (dg_name (pg_name (i := 6) sc__law_numbers.nd rfl (by first | exact Or.inl rfl | exact Or.inr rfl))) (dss_one (ds_if (DW.dt (dw_and (dt_cmp od_ge (de_var (pv 3)) (de_bin od_pow de_int de_int) rfl) (dw_and1 (dt_cmp od_gt (de_var (pv 4)) de_int rfl)))) (dss_cons (ds_expr (de_app (fun ha => pe_bm PySem.F.plainAttrs_list PySem.F.slot_list_append PySem.F.type_list_append mt_append (pv 5) ha) (da_cons (de_bin od_mod (de_var (pv 4)) (de_item (de_var (pv 2)) (de_var (pv 6)))) da_nil))) (dss_one (ds_set (fun he => ps_set (i := 4) sc__law_numbers.nd rfl (by first | exact Or.inl rfl | exact Or.inr rfl) he) (de_bin od_fdiv (de_var (pv 4)) (de_item (de_var (pv 2)) (de_var (pv 6))))))) (dss_cons (ds_set (fun he => ps_set (i := 7) sc__law_numbers.nd rfl (by first | exact Or.inl rfl | exact Or.inr rfl) he) (de_bin od_mod (de_bin od_pow (de_bin od_add (de_bin od_add (de_bin od_mod (de_var (pv 3)) de_int) (de_bin od_mulA de_int (de_var (pv 1)))) de_int) de_int) de_int)) (dss_cons (ds_set (fun he => ps_set (i := 7) sc__law_numbers.nd rfl (by first | exact Or.inl rfl | exact Or.inr rfl) he) (de_bin od_mod (de_bin od_mulA (de_bin od_add (de_var (pv 7)) (de_bin od_mulA de_int (de_bin od_add (de_var (pv 6)) de_int))) (de_bin od_add (de_var (pv 6)) de_int)) de_int)) (dss_cons (ds_set (fun he => ps_set (i := 7) sc__law_numbers.nd rfl (by first | exact Or.inl rfl | exact Or.inr rfl) he) (de_bin od_mod (de_bin od_mulA (de_bin od_mod (de_bin od_pow (de_var (pv 7)) de_int) de_int) de_int) de_int)) (dss_one (ds_expr (de_app (fun ha => pe_bm PySem.F.plainAttrs_list PySem.F.slot_list_append PySem.F.type_list_append mt_append (pv 5) ha) (da_cons (de_bin od_mod (de_bin od_fdiv (de_var (pv 7)) de_int) (de_item (de_var (pv 2)) (de_var (pv 6)))) da_nil)))))))))) (dss_freeze (dss_one (ds_ret (de_var (pv 5)))))))))
theorem ok__law_permit (T : Txt K mg) : FnG P w K mg base CX0 1 T.a__law_permit T.d__law_permit ["_law_digits", "_law_folk_here", "_law_known"] (spF (K, w) mg 3 f__law_permit) :=
  fn_ok0 T.h__law_permit.fn sc__law_permit fun cdv A out s H E hG hr => (dss_cons (ds_par2 (fun ha => ps_par (i := 5) (j := 6) rfl sc__law_permit.nd rfl rfl (by decide) rfl rfl ha rfl) (da_cons (de_item (de_var (pv 1)) (de_bin od_mod (de_item (de_var (pv 0)) de_int) de_int)) (da_cons (de_item (de_frz (dn_lst (da_cons (de_str (by decide +kernel)) (da_cons (de_str (by decide +kernel)) da_nil)))) (de_bin od_mod (de_item (de_var (pv 0)) de_int) de_int)) da_nil))) (dss_cons (ds_set (fun he => ps_set (i := 3) sc__law_permit.nd rfl (by first | exact Or.inl rfl | exact Or.inr rfl) he) (de_bin od_mod (de_item (de_var (pv 0)) de_int) de_int)) (dss_cons (ds_set (fun he => ps_set (i := 4) sc__law_permit.nd rfl (by first | exact Or.inl rfl | exact Or.inr rfl) he) (de_item (de_frz (dn_lst (da_cons de_non (da_cons de_non (da_cons (de_bin od_add (de_bin od_add (de_var (pv 3)) de_int) (de_bin od_mod (de_item (de_var (pv 0)) de_int) de_int)) da_nil))))) (de_bin od_mod (de_item (de_var (pv 0)) de_int) de_int))) (dss_one (ds_ret (de_tup (da_cons (de_var (pv 5)) (da_cons (de_var (pv 6)) (da_cons (de_item (de_frz (dn_lst (da_cons (de_str (by decide +kernel)) (da_cons (de_str (by decide +kernel)) (da_cons (de_str (by decide +kernel)) da_nil))))) (de_bin od_mod (de_item (de_var (pv 0)) de_int) de_int)) (da_cons (de_var (pv 3)) (da_cons (de_var (pv 4)) (da_cons (de_var (pv 2)) da_nil))))))))))))
theorem ok__law_permits (T : Txt K mg) : FnG P w K mg base CX0 2 T.a__law_permits T.d__law_permits ["_law_digits", "_law_folk_here", "_law_many"] (spF (K, w) mg 3 f__law_permits) :=
  fn_ok0 T.h__law_permits.fn sc__law_permits fun cdv A out s H E hG hr => (dss_cons (ds_own (fun he => ps_set (i := 3) sc__law_permits.nd rfl (by first | exact Or.inl rfl | exact Or.inr rfl) he) (dn_lst da_nil)) (dss_cons (ds_set (fun he => ps_set (i := 4) sc__law_permits.nd rfl (by first | exact Or.inl rfl | exact Or.inr rfl) he) (de_bin od_mod (de_item (de_var (pv 0)) de_int) de_int)) (dss_cons (ds_for (js := [5]) (fun hi hg hb => ps_for PassesOwn.never rfl hi hg hb) (di_range1 (fun ha => pi_range1 rfl T.z_range ha) (da_cons (de_var (pv 2)) da_nil)) (dg_name (pg_name (i := 5) sc__law_permits.nd rfl (by first | exact Or.inl rfl | exact Or.inr rfl))) (dss_cons (ds_expr (de_app (fun ha => pe_bm PySem.F.plainAttrs_list PySem.F.slot_list_append PySem.F.type_list_append mt_append (pv 3) ha) (da_cons (de_fn T.h__law_permit (ok__law_permit T) hG (hr.mono (by decide)) rfl (da_cons (de_slice (de_var (pv 0)) (do_some (de_bin od_add (de_bin od_mulA de_int (de_var (pv 5))) de_int)) (do_some (de_bin od_add (de_bin od_mulA de_int (de_var (pv 5))) de_int))) (da_cons (de_var (pv 1)) (da_cons (de_var (pv 4)) da_nil)))) da_nil))) (dss_one (ds_set (fun he => ps_set (i := 4) sc__law_permits.nd rfl (by first | exact Or.inl rfl | exact Or.inr rfl) he) (de_bin od_add (de_var (pv 4)) (de_item (de_frz (dn_lst (da_cons de_int (da_cons de_int (da_cons de_int (da_cons de_int da_nil)))))) (de_bin od_mod (de_item (de_var (pv 0)) (de_bin od_add (de_bin od_mulA de_int (de_var (pv 5))) de_int)) de_int))))))) (dss_freeze (dss_one (ds_ret (de_var (pv 3))))))))
theorem ok_Book_least (T : Txt K mg) : FnG P w K mg base CX0 1 T.a_Book_least T.d_Book_least ["self"] (spF (K, w) mg 1 f_Book_least) :=
  fn_ok0 T.h_Book_least.fn sc_Book_least fun cdv A out s H E hG hr => (dss_one (ds_ret (de_ite (dt_cmpS (od_neS (hu64 hr)) (de_fd T.c_Book T.na_Book_own_permits (de_var (pv 0))) (de_frz (dn_lst da_nil)) rfl) (de_item (de_itemS (de_fd T.c_Book T.na_Book_own_permits (de_var (pv 0))) (de_neg de_int)) de_int) de_int)))
theorem ok_is_whole (T : Txt K mg) : FnG P w K mg base CX0 1 T.a_is_whole T.d_is_whole ["thing"] (spF (K, w) mg 1 f_is_whole) :=
  fn_ok0 T.h_is_whole.fn sc_is_whole fun cdv A out s H E hG hr => (dss_one (ds_ret (de_and (de_bf cd_isi rfl T.z_isinstance boot_isinstance' (da_cons (de_var (pv 0)) (da_cons (de_ty rfl T.z_int boot_int') da_nil))) (de_one (de_not (de_bf cd_isi rfl T.z_isinstance boot_isinstance' (da_cons (de_var (pv 0)) (da_cons (de_ty rfl T.z_bool boot_bool') da_nil))))))))
theorem ok_is_within (T : Txt K mg) : FnG P w K mg base CX0 2 T.a_is_within T.d_is_within ["thing", "least", "most"] (spF (K, w) mg 3 f_is_within) :=
  fn_ok0 T.h_is_within.fn sc_is_within fun cdv A out s H E hG hr => (dss_one (ds_ret (de_and (de_fn T.h_is_whole (ok_is_whole T) hG (hr.mono (by decide)) rfl (da_cons (de_var (pv 0)) da_nil)) (de_one (de_chain od_le od_le (de_var (pv 1)) (de_var (pv 0)) (de_var (pv 2)))))))
theorem ok_is_moment (T : Txt K mg) : FnG P w K mg base CX0 3 T.a_is_moment T.d_is_moment ["thing"] (spF (K, w) mg 1 f_is_moment) :=
  fn_ok0 T.h_is_moment.fn sc_is_moment fun cdv A out s H E hG hr => (dss_one (ds_ret (de_fn T.h_is_within (ok_is_within T) hG (hr.mono (by decide)) rfl (da_cons (de_var (pv 0)) (da_cons de_int (da_cons (de_gint rfl T.g_MOST_MOMENT) da_nil))))))
theorem ok_is_name (T : Txt K mg) : FnG P w K mg base CX0 1 T.a_is_name T.d_is_name ["thing"] (spF (K, w) mg 1 f_is_name) :=
  fn_ok0 T.h_is_name.fn sc_is_name fun cdv A out s H E hG hr => (dss_one (ds_ret (de_and (de_bf cd_isi rfl T.z_isinstance boot_isinstance' (da_cons (de_var (pv 0)) (da_cons (de_ty rfl T.z_str boot_str') da_nil))) (de_and (de_chain od_le od_le de_int (de_bf cd_lenA rfl T.z_len boot_len' (da_cons (de_var (pv 0)) da_nil)) (de_gint rfl T.g_MOST_SIGNS)) (de_one (de_bf (cd_all rfl) rfl T.z_all boot_all' (da_cons (de_frz (dn_lc (vs := [1]) (js := [1]) (by decide) (pe_lc (own := [("sign", 1)]) rfl sc_is_name.nd (di_val (de_var (pv 0))) (blkOk_by (own := [("sign", 1)]) (N := n_is_name) (sc := defScope s_is_name) (by decide +kernel)) (fun _ _ _ _ _ => (dg_name (pg_name (i := 1) sc_is_name.nd rfl (by first | exact Or.inl rfl | exact Or.inr rfl)))) (fun _ _ _ _ _ => dts_nil) (fun _ _ _ _ _ => (de_cmp od_in (de_var (pv 1)) (de_gstr rfl T.g_SIGNS (by decide +kernel)) rfl))))) da_nil)))))))
theorem ok_is_permission (T : Txt K mg) : FnG P w K mg base CX0 4 T.a_is_permission T.d_is_permission ["thing"] (spF (K, w) mg 1 f_is_permission) :=
  fn_ok0 T.h_is_permission.fn sc_is_permission fun cdv A out s H E hG hr => (dss_cons (ds_if (DW.dt (dw_or (dt_not (dt_val (de_bf cd_isi rfl T.z_isinstance boot_isinstance' (da_cons (de_var (pv 0)) (da_cons (de_ty rfl T.z_tuple boot_tuple') da_nil))))) (dw_or (dt_cmp (od_ne (hu64 hr)) (de_bf cd_lenA rfl T.z_len boot_len' (da_cons (de_var (pv 0)) da_nil)) de_int rfl) (dw_or (dt_not (dt_val (de_fn T.h_is_name (ok_is_name T) hG (hr.mono (by decide)) rfl (da_cons (de_item (de_var (pv 0)) de_int) da_nil)))) (dw_or1 (dt_not (dt_val (de_fn T.h_is_name (ok_is_name T) hG (hr.mono (by decide)) rfl (da_cons (de_item (de_var (pv 0)) de_int) da_nil))))))))) (dss_one (ds_ret de_bl)) dss_nil) (dss_cons (ds_asg (js := [1, 2, 3, 4, 5, 6]) (fun he hg => ps_asg he hg) (de_var (pv 0)) (dg_tup (dgs_cons (dg_name (pg_name (i := 1) sc_is_permission.nd rfl (by first | exact Or.inl rfl | exact Or.inr rfl))) (dgs_cons (dg_name (pg_name (i := 2) sc_is_permission.nd rfl (by first | exact Or.inl rfl | exact Or.inr rfl))) (dgs_cons (dg_name (pg_name (i := 3) sc_is_permission.nd rfl (by first | exact Or.inl rfl | exact Or.inr rfl))) (dgs_cons (dg_name (pg_name (i := 4) sc_is_permission.nd rfl (by first | exact Or.inl rfl | exact Or.inr rfl))) (dgs_cons (dg_name (pg_name (i := 5) sc_is_permission.nd rfl (by first | exact Or.inl rfl | exact Or.inr rfl))) (dgs_cons (dg_name (pg_name (i := 6) sc_is_permission.nd rfl (by first | exact Or.inl rfl | exact Or.inr rfl))) dgs_nil (fun a b => pgs_cons a b)) (fun a b => pgs_cons a b)) (fun a b => pgs_cons a b)) (fun a b => pgs_cons a b)) (fun a b => pgs_cons a b)) (fun a b => pgs_cons a b)) (fun a => pg_tup rfl a))) (dss_cons (ds_if (DW.dt (dw_or (dt_not (dt_val (de_bf cd_isi rfl T.z_isinstance boot_isinstance' (da_cons (de_var (pv 3)) (da_cons (de_ty rfl T.z_str boot_str') da_nil))))) (dw_or (dt_cmp od_notin (de_var (pv 3)) (de_tup (da_cons (de_gstr rfl T.g_ALLOW (by decide +kernel)) (da_cons (de_gstr rfl T.g_WITHDRAW (by decide +kernel)) da_nil))) rfl) (dw_or (dt_not (dt_val (de_fn T.h_is_moment (ok_is_moment T) hG (hr.mono (by decide)) rfl (da_cons (de_var (pv 4)) da_nil)))) (dw_or1 (dt_not (dt_val (de_fn T.h_is_moment (ok_is_moment T) hG (hr.mono (by decide)) rfl (da_cons (de_var (pv 6)) da_nil))))))))) (dss_one (ds_ret de_bl)) dss_nil) (dss_one (ds_ret (de_or (de_cmp od_is (de_var (pv 5)) de_non rfl) (de_one (de_and (de_fn T.h_is_moment (ok_is_moment T) hG (hr.mono (by decide)) rfl (da_cons (de_var (pv 5)) da_nil)) (de_one (de_cmp od_lt (de_var (pv 4)) (de_var (pv 5)) rfl))))))))))
theorem ok_Book_put_from (T : Txt K mg) : FnG P w K mg base (L2.CX P w) 5 T.a_Book_put_from T.d_Book_put_from ["self", "permission", "least"] (spF (K, w) mg 3 f_Book_put_from) :=
  fn_okX T.h_Book_put_from.fn sc_Book_put_from fun cdv A out s H E hG hr => (dss_cons (ds_if (dt_not (dt_val (de_fn T.h_is_permission (ok_is_permission T) hG (hr.mono (by decide)) rfl (da_cons (de_var (pv 1)) da_nil)))) (dss_one (ds_raise rfl (takes_of rfl rfl rfl rfl) T.xc_NoPermission.xc T.xc_NoPermission.iC T.xc_NoPermission.tI (oki_NoPermission T) (hr.mono (by decide)) T.xc_NoPermission.bi rfl T.xc_NoPermission.mgc (da_cons (de_str (by decide +kernel)) da_nil))) dss_nil) (dss_cons (ds_if (dt_cmp od_lt (de_item (de_var (pv 1)) de_int) (de_bf (cd_max rfl) rfl T.z_max boot_max' (da_cons (de_var (pv 2)) (da_cons (de_me0 T.c_Book T.h_Book_least (ok_Book_least T) T.kb_Book_least_1 dfd_nil hG (hr.mono (by decide)) (de_var (pv 0)) dk_nil) da_nil))) rfl) (dss_one (ds_raise rfl (takes_of rfl rfl rfl rfl) T.xc_NoPermission.xc T.xc_NoPermission.iC T.xc_NoPermission.tI (oki_NoPermission T) (hr.mono (by decide)) T.xc_NoPermission.bi rfl T.xc_NoPermission.mgc (da_cons (de_str (by decide +kernel)) da_nil))) dss_nil) (dss_one (ds_expr (de_appB (fun ho ha => pe_bm PySem.F.plainAttrs_list PySem.F.slot_list_append PySem.F.type_list_append mt_append ho ha) (de_fd T.c_Book T.na_Book_own_permits (de_var (pv 0))) (da_cons (de_var (pv 1)) da_nil))))))
theorem ok_Book_put (T : Txt K mg) : FnG P w K mg base (L2.CX P w) 6 T.a_Book_put T.d_Book_put ["self", "permission"] (spF (K, w) mg 2 f_Book_put) :=
  fn_okX T.h_Book_put.fn sc_Book_put fun cdv A out s H E hG hr => (dss_one (ds_expr (de_meC T.c_Book T.h_Book_put_from (ok_Book_put_from T) T.kb_Book_put_from_3 dfd_nil (passX rfl rfl (takes_of rfl rfl rfl rfl)) body_len hG (hr.mono (by decide)) (de_var (pv 0)) (da_cons (de_var (pv 1)) (da_cons de_int da_nil)) dk_nil)))
theorem ok__law_said (T : Txt K mg) : FnG P w K mg base CX0 7 T.a__law_said T.d__law_said ["_law_book", "_law_item"] (spF (K, w) mg 2 f__law_said) :=
  fn_ok0 T.h__law_said.fn sc__law_said fun cdv A out s H E hG hr => (dss_cons (ds_set (fun he => ps_set (i := 2) sc__law_said.nd rfl (by first | exact Or.inl rfl | exact Or.inr rfl) he) de_non) (dss_cons (ds_try (C := T.X_HouseError) rfl rfl sc__law_said.nd rfl rfl ⟨rfl, by decide, .inl T.xm_HouseError⟩ takes_none T.xht_HouseError (fun W' pn xe t po => (dss_one (ds_if (dt_cmp od_isnot (de_meC T.c_Book T.h_Book_put (ok_Book_put T) T.kb_Book_put_2 dfd_nil (passX rfl rfl t) body_len hG (hr.mono (by decide)) (de_var (pv 0)) (da_cons (de_var (pv 1)) da_nil) dk_nil) de_non rfl) (dss_one (ds_ret (de_str (by decide +kernel)))) dss_nil))) (fun a pn => (dss_one (ds_set (fun he => ps_set (i := 2) sc__law_said.nd rfl (by first | exact Or.inl rfl | exact Or.inr rfl) he) (de_var (pv 3)))))) (dss_cons (ds_if (dt_cmp od_is (de_var (pv 2)) de_non rfl) (dss_one (ds_ret (de_str (by decide +kernel)))) dss_nil) (dss_one (ds_ret (de_ite (DW.dt (dw_and (dt_val (de_isiX T.xtb_NoPermission (.own T.X_NoPermission) (pe_glob rfl T.xm_NoPermission rfl) rfl T.z_isinstance boot_isinstance' (de_var (pv 2)))) (dw_and1 (dt_not (dt_val (de_isiX T.xtb_NoEntry (.own T.X_NoEntry) (pe_glob rfl T.xm_NoEntry rfl) rfl T.z_isinstance boot_isinstance' (de_var (pv 2)))))))) (de_xf T.xft_word (de_var (pv 2))) (de_str (by decide +kernel))))))))
theorem ok_law (T : Txt K mg) : FnG P w K mg base CX0 8 T.a_law T.d_law ["_law_script"] (spF (K, w) mg 1 f_law) :=
  fn_ok0 T.h_law.fn sc_law fun cdv A out s H E hG hr => (dss_cons (ds_for (js := [1, 2]) (fun hi hg hb => ps_for PassesOwn.never rfl hi hg hb) (di_enumA rfl T.z_enumerate (da_cons (de_bin od_add (de_slice (de_var (pv 0)) do_none (do_some de_int)) (de_bin od_mulA (de_frz (dn_lst (da_cons de_int da_nil))) (de_bc cd_int rfl T.z_int boot_int' (da_cons (de_cmp (od_eqN (hu64 hr)) (de_var (pv 0)) (de_frz (dn_lst da_nil)) rfl) da_nil)))) da_nil)) (dg_tup (dgs_cons (dg_name (pg_name (i := 1) sc_law.nd rfl (by first | exact Or.inl rfl | exact Or.inr rfl))) (dgs_cons (dg_name (pg_name (i := 2) sc_law.nd rfl (by first | exact Or.inl rfl | exact Or.inr rfl))) dgs_nil (fun a b => pgs_cons a b)) (fun a b => pgs_cons a b)) (fun a => pg_tup rfl a)) (dss_cons (ds_set (fun he => ps_set (i := 3) sc_law.nd rfl (by first | exact Or.inl rfl | exact Or.inr rfl) he) (de_fn T.h__law_numbers (ok__law_numbers T) hG (hr.mono (by decide)) rfl (da_cons (de_var (pv 2)) (da_cons (de_bin od_add de_int (de_var (pv 1))) (da_cons (de_bin od_mulA (de_frz (dn_lst (da_cons de_int da_nil))) de_int) da_nil))))) (dss_cons (ds_set (fun he => ps_set (i := 4) sc_law.nd rfl (by first | exact Or.inl rfl | exact Or.inr rfl) he) (de_fn T.h__law_folk (ok__law_folk T) hG (hr.mono (by decide)) rfl (da_cons (de_var (pv 3)) da_nil))) (dss_cons (ds_set (fun he => ps_set (i := 5) sc_law.nd rfl (by first | exact Or.inl rfl | exact Or.inr rfl) he) (de_mk0 T.c_Book T.h_Book___init__ (ok_Book___init__ T) T.kb_Book___init___1 dfd_nil hG (hr.mono (by decide)) rfl dk_nil)) (dss_cons (ds_set (fun he => ps_set (i := 6) sc_law.nd rfl (by first | exact Or.inl rfl | exact Or.inr rfl) he) (de_box (dn_lst da_nil))) (dss_one (ds_for (js := [7, 8]) (fun hi hg hb => ps_for PassesOwn.never rfl hi hg hb) (di_enumA rfl T.z_enumerate (da_cons (de_fn T.h__law_permits (ok__law_permits T) hG (hr.mono (by decide)) rfl (da_cons (de_slice (de_var (pv 3)) (do_some de_int) do_none) (da_cons (de_var (pv 4)) (da_cons (de_bin od_add de_int (de_bin od_mod (de_item (de_var (pv 3)) de_int) de_int)) da_nil)))) da_nil)) (dg_tup (dgs_cons (dg_name (pg_name (i := 7) sc_law.nd rfl (by first | exact Or.inl rfl | exact Or.inr rfl))) (dgs_cons (dg_name (pg_name (i := 8) sc_law.nd rfl (by first | exact Or.inl rfl | exact Or.inr rfl))) dgs_nil (fun a b => pgs_cons a b)) (fun a b => pgs_cons a b)) (fun a => pg_tup rfl a)) (dss_cons (ds_set (fun he => ps_set (i := 9) sc_law.nd rfl (by first | exact Or.inl rfl | exact Or.inr rfl) he) (de_item (de_item (de_bin od_add (de_sliceS (de_var (pv 6)) (do_some (de_neg de_int)) do_none) (de_frz (dn_lst (da_cons (de_tup (da_cons de_int (da_cons de_int (da_cons de_int (da_cons de_int (da_cons de_int (da_cons de_int da_nil))))))) da_nil)))) de_int) de_int)) (dss_cons (ds_set (fun he => ps_set (i := 10) sc_law.nd rfl (by first | exact Or.inl rfl | exact Or.inr rfl) he) (de_fn T.h__law_bent (ok__law_bent T) hG (hr.mono (by decide)) rfl (da_cons (de_slice (de_var (pv 3)) (do_some (de_bin od_add de_int (de_bin od_mulA de_int (de_var (pv 7))))) do_none) (da_cons (de_var (pv 8)) da_nil)))) (dss_one (ds_for (js := [11]) (fun hi hg hb => ps_for PassesOwn.never rfl hi hg hb) (di_val (de_frz (dn_lst (da_cons (de_var (pv 10)) (da_cons (de_var (pv 8)) (da_cons (de_bin od_add (de_slice (de_var (pv 8)) do_none (do_some de_int)) (de_tup (da_cons (de_bin od_sub (de_item (de_var (pv 8)) de_int) de_int) da_nil))) (da_cons de_non (da_cons (de_str (by decide +kernel)) da_nil)))))))) (dg_name (pg_name (i := 11) sc_law.nd rfl (by first | exact Or.inl rfl | exact Or.inr rfl))) (dss_cons (ds_set (fun he => ps_set (i := 12) sc_law.nd rfl (by first | exact Or.inl rfl | exact Or.inr rfl) he) (de_bf (cd_reprW hG (hu64 hr)) rfl T.z_repr boot_repr' (da_cons (de_var (pv 11)) da_nil))) (dss_cons (ds_par2 (fun ha => ps_par (i := 14) (j := 15) rfl sc_law.nd rfl rfl (by decide) rfl rfl ha rfl) (da_cons (de_me0 T.c_Book T.h_Book_permits (ok_Book_permits T) T.kb_Book_permits_1 dfd_nil hG (hr.mono (by decide)) (de_var (pv 5)) dk_nil) (da_cons (de_bfS (cd_reprS hG (hu64 hr)) rfl T.z_repr boot_repr' (da_cons (de_var (pv 6)) da_nil)) da_nil))) (dss_cons (ds_set (fun he => ps_set (i := 13) sc_law.nd rfl (by first | exact Or.inl rfl | exact Or.inr rfl) he) (de_fn T.h__law_due (ok__law_due T) hG (hr.mono (by decide)) rfl (da_cons (de_var (pv 11)) (da_cons (de_var (pv 9)) da_nil)))) (dss_cons (ds_if (dt_cmp (od_eq (hu64 hr)) (de_var (pv 13)) (de_str (by decide +kernel)) rfl) (dss_cons (ds_expr (de_appB (fun ho ha => pe_bm PySem.F.plainAttrs_list PySem.F.slot_list_append PySem.F.type_list_append mt_append ho ha) (de_var (pv 6)) (da_cons (de_var (pv 11)) da_nil))) (dss_one (ds_set (fun he => ps_set (i := 9) sc_law.nd rfl (by first | exact Or.inl rfl | exact Or.inr rfl) he) (de_item (de_var (pv 11)) de_int)))) dss_nil) (dss_cons (ds_if (DW.dt (dw_or (dt_cmp (od_ne (hu64 hr)) (de_fn T.h__law_said (ok__law_said T) hG (hr.mono (by decide)) rfl (da_cons (de_var (pv 5)) (da_cons (de_var (pv 11)) da_nil))) (de_var (pv 13)) rfl) (dw_or (dt_cmp (od_ne (hu64 hr)) (de_bf (cd_reprW hG (hu64 hr)) rfl T.z_repr boot_repr' (da_cons (de_var (pv 11)) da_nil)) (de_var (pv 12)) rfl) (dw_or1 (dt_not (dt_val (de_fn T.h__law_book_so (ok__law_book_so T) hG (hr.mono (by decide)) rfl (da_cons (de_var (pv 5)) (da_cons (de_var (pv 6)) da_nil))))))))) (dss_one (ds_ret de_bl)) dss_nil) (dss_one (ds_if (dt_cmp (od_ne (hu64 hr)) (de_bfS (cd_reprS hG (hu64 hr)) rfl T.z_repr boot_repr' (da_cons (de_var (pv 14)) da_nil)) (de_var (pv 15)) rfl) (dss_one (ds_ret de_bl)) dss_nil)))))))))))))))))) (dss_one (ds_ret de_bl)))
end
end Z
namespace Z
open PySem L2 Y
/-- data of a known type, no long text -/
def Ok (d : D) : Prop := d.tyN ≠ none ∧ ∀ x, d = .str x → x.length ≤ sizeLine
def wholeB : D → Bool
  | .int _ => true
  | _ => false
theorem is_whole_eq {d : D} {S : Store} (h : Ok d) : f_is_whole [d] S = some (.ok (.bl (wholeB d)) S) := by
  refine fn0_of rfl ?_
  unfold m_is_whole
  simp (maxSteps := 2000000) only [ev_ret, ev_bind, ev_lift, ev_ite, ev_var, ev_const, ev_op2, ev_test, ev_opC, ev_rngV, ev_args0, ev_args, ev_frz, ev_callF, ev_seq, nxt_nx, nxt_rt, nxt_bk, nxt_ct, ev_nop, ev_retV, ev_dropV, ev_ifS, ev_iteV, ev_andT, ev_orT, ev_notT, ev_andV, ev_orV, ev_notV, ev_chain, ev_tupV, ev_lstN, ev_put, ev_setV, ev_setO, ev_iterV, ev_negV, ev_revV, ev_listN, ev_sortN, ev_rgN1, ev_enumV, ev_noPart, ev_part, ev_sliceV, ev_par2, ev_freeze, ev_methI, ev_lenO, ev_forS, ev_lc, ev_sc, ev_yes, ev_op2S, ev_opCS, ev_newL, ev_callK, ev_methK, ev_makeK, ev_fldV, ev_setFld, ev_boxL, ev_appB, ev_fail, ex_ret, ex_some, toB_bl, frame, List.map_cons, List.map_nil, List.length_cons, List.length_nil, List.replicate, List.cons_append, List.nil_append, List.getElem?_cons_zero, List.getElem?_cons_succ, slD, Nat.reduceSub, Nat.reduceAdd, List.set_cons_zero, List.set_cons_succ, List.length_set]
  cases d <;> first | exact absurd rfl h.1 | skip
  all_goals simp [isiD, D.tyN, isTy, toB, wholeB]
def withinB (d : D) (lo hi : Int) : Bool := match d with
  | .int i => decide (lo ≤ i) && decide (i ≤ hi)
  | _ => false
theorem is_within_eq {d : D} {S : Store} {lo hi : Int} (h : Ok d) : f_is_within [d, .int lo, .int hi] S = some (.ok (.bl (withinB d lo hi)) S) := by
  refine fn0_of rfl ?_
  unfold m_is_within
  simp (maxSteps := 2000000) only [ev_ret, ev_bind, ev_lift, ev_ite, ev_var, ev_const, ev_op2, ev_test, ev_opC, ev_rngV, ev_args0, ev_args, ev_frz, ev_callF, ev_seq, nxt_nx, nxt_rt, nxt_bk, nxt_ct, ev_nop, ev_retV, ev_dropV, ev_ifS, ev_iteV, ev_andT, ev_orT, ev_notT, ev_andV, ev_orV, ev_notV, ev_chain, ev_tupV, ev_lstN, ev_put, ev_setV, ev_setO, ev_iterV, ev_negV, ev_revV, ev_listN, ev_sortN, ev_rgN1, ev_enumV, ev_noPart, ev_part, ev_sliceV, ev_par2, ev_freeze, ev_methI, ev_lenO, ev_forS, ev_lc, ev_sc, ev_yes, ev_op2S, ev_opCS, ev_newL, ev_callK, ev_methK, ev_makeK, ev_fldV, ev_setFld, ev_boxL, ev_appB, ev_fail, ex_ret, ex_some, toB_bl, frame, List.map_cons, List.map_nil, List.length_cons, List.length_nil, List.replicate, List.cons_append, List.nil_append, List.getElem?_cons_zero, List.getElem?_cons_succ, slD, Nat.reduceSub, Nat.reduceAdd, List.set_cons_zero, List.set_cons_succ, List.length_set, is_whole_eq h]
  cases d <;> first | exact absurd rfl h.1 | skip
  case int i => by_cases q : lo ≤ i <;> by_cases r : i ≤ hi <;> simp only [wholeB, leD, int2, q, r, toB_bl, ex_some, if_true, decide_true, decide_false, ite_true, ite_false, Bool.false_eq_true] <;> simp [withinB, q, r]
  all_goals simp [toB, wholeB, withinB, leD, int2]
abbrev letters : Str := "abcdefghijklmnopqrstuvwxyz"
abbrev isLetter (c : Nat) : Bool := decide (c ∈ letters.cps.toList)
def nameB : D → Bool
  | .str x => decide (1 ≤ x.length) && decide (x.length ≤ 8) && x.cps.toList.all isLetter
  | _ => false
theorem bools_map {α : Type} (f : α → Bool) : ∀ l : List α, bools (l.map fun c => D.bl (f c)) = some (l.map f)
  | [] => rfl
  | a :: l => by simp [bools, bools_map f l]
def letD (d : D) : D := match d with
  | .str x => .bl (x.cps.toList.all isLetter)
  | _ => .bl false
theorem is_name_eq {d : D} {S : Store} (h : Ok d) : f_is_name [d] S = some (.ok (.bl (nameB d)) S) := by
  refine fn0_of rfl ?_
  unfold m_is_name
  simp (maxSteps := 2000000) only [ev_ret, ev_bind, ev_lift, ev_ite, ev_var, ev_const, ev_op2, ev_test, ev_opC, ev_rngV, ev_args0, ev_args, ev_frz, ev_callF, ev_seq, nxt_nx, nxt_rt, nxt_bk, nxt_ct, ev_nop, ev_retV, ev_dropV, ev_ifS, ev_iteV, ev_andT, ev_orT, ev_notT, ev_andV, ev_orV, ev_notV, ev_chain, ev_tupV, ev_lstN, ev_put, ev_setV, ev_setO, ev_iterV, ev_negV, ev_revV, ev_listN, ev_sortN, ev_rgN1, ev_enumV, ev_noPart, ev_part, ev_sliceV, ev_par2, ev_freeze, ev_methI, ev_lenO, ev_forS, ev_lc, ev_sc, ev_yes, ev_op2S, ev_opCS, ev_newL, ev_callK, ev_methK, ev_makeK, ev_fldV, ev_setFld, ev_boxL, ev_appB, ev_fail, ex_ret, ex_some, toB_bl, frame, List.map_cons, List.map_nil, List.length_cons, List.length_nil, List.replicate, List.cons_append, List.nil_append, List.getElem?_cons_zero, List.getElem?_cons_succ, slD, Nat.reduceSub, Nat.reduceAdd, List.set_cons_zero, List.set_cons_succ, List.length_set]
  cases d <;> first | exact absurd rfl h.1 | skip
  case str x =>
    have hx := h.2 x rfl
    rw [isi_eq (a := "str") (b := true) rfl (by decide)]
    by_cases q : 1 ≤ x.length <;> by_cases r : x.length ≤ 8
    · have q1 : (1 : Int) ≤ x.length := by omega
      have r1 : (x.length : Int) ≤ 8 := by omega
      simp only [lenA, lenD, hx, leD, int2, if_true, ex_some, toB_bl, q1, r1, decide_true, itemsD]
      refine ev_lcL_map letD (by unfold signs; rw [List.length_map, Array.length_toList]; exact hx) ?_ ?_ ?_
      · intro d hd
        obtain ⟨c, hc, rfl⟩ := List.mem_map.mp hd
        refine ⟨[.val (.str x), .val (.str ⟨#[c]⟩)], rfl, ?_⟩
        simp (maxSteps := 2000000) only [ev_ret, ev_bind, ev_lift, ev_ite, ev_var, ev_const, ev_op2, ev_test, ev_opC, ev_rngV, ev_args0, ev_args, ev_frz, ev_callF, ev_seq, nxt_nx, nxt_rt, nxt_bk, nxt_ct, ev_nop, ev_retV, ev_dropV, ev_ifS, ev_iteV, ev_andT, ev_orT, ev_notT, ev_andV, ev_orV, ev_notV, ev_chain, ev_tupV, ev_lstN, ev_put, ev_setV, ev_setO, ev_iterV, ev_negV, ev_revV, ev_listN, ev_sortN, ev_rgN1, ev_enumV, ev_noPart, ev_part, ev_sliceV, ev_par2, ev_freeze, ev_methI, ev_lenO, ev_forS, ev_lc, ev_sc, ev_yes, ev_op2S, ev_opCS, ev_newL, ev_callK, ev_methK, ev_makeK, ev_fldV, ev_setFld, ev_boxL, ev_appB, ev_fail, ex_ret, ex_some, toB_bl, frame, List.map_cons, List.map_nil, List.length_cons, List.length_nil, List.replicate, List.cons_append, List.nil_append, List.getElem?_cons_zero, List.getElem?_cons_succ, slD, Nat.reduceSub, Nat.reduceAdd, List.set_cons_zero, List.set_cons_succ, List.length_set]
        exact ⟨.bl (isLetter c), rfl, by simp [letD], trivial, rfl⟩
      · intro d hd η1 e
        cases e
        rfl
      · intro η' _
        refine ⟨.bl (x.cps.toList.all isLetter), ?_, by simp [nameB, q, r], rfl⟩
        have e : (signs x).map letD = x.cps.toList.map fun c => D.bl (isLetter c) := by
          unfold signs
          rw [List.map_map]
          exact List.map_congr_left fun c _ => by simp [letD]
        rw [e]
        show Option.map _ (bools _) = _
        rw [bools_map]
        simp
    · have q1 : (1 : Int) ≤ x.length := by omega
      have r1 : ¬ (x.length : Int) ≤ 8 := by omega
      simp only [lenA, lenD, hx, leD, int2, if_true, ex_some, toB_bl, q1, r1, decide_true, decide_false, Bool.false_eq_true, if_false]
      simp [nameB, r]
    all_goals
      have q1 : ¬ (1 : Int) ≤ x.length := by omega
      simp only [lenA, lenD, hx, leD, int2, if_true, ex_some, toB_bl, q1, decide_true, decide_false, Bool.false_eq_true, if_false]
      simp [nameB, q]
  all_goals simp [isiD, D.tyN, isTy, toB, nameB]
theorem enumL_get {xs : List D} : enumL xs = xs.mapIdx fun i d => D.tup [.int i, d] := by
  unfold enumL
  apply List.ext_getElem?
  intro j
  simp only [List.getElem?_zipWith, List.getElem?_mapIdx, List.getElem?_range]
  by_cases h : j < xs.length
  · rw [List.getElem?_range h, List.getElem?_eq_getElem h]; rfl
  · have : xs[j]? = none := List.getElem?_eq_none_iff.mpr (by omega)
    rw [this]
    cases (List.range xs.length)[j]? <;> rfl
theorem enumL_drop {xs : List D} {i : Nat} {x : D} (h : xs[i]? = some x) : (enumL xs).drop i = .tup [.int i, x] :: (enumL xs).drop (i + 1) := by
  have hi : i < (enumL xs).length := by rw [enumL_get, List.length_mapIdx]; exact (List.getElem?_eq_some_iff.mp h).1
  rw [List.drop_eq_getElem_cons hi]
  congr 1
  have : (enumL xs)[i]? = some (.tup [.int i, x]) := by rw [enumL_get, List.getElem?_mapIdx, h]; rfl
  rw [List.getElem?_eq_getElem hi] at this
  exact Option.some.inj this
def isS (d : D) : Bool := match d with
  | .str _ => true
  | _ => false
def strL : List D → List Str
  | [] => []
  | .str x :: r => x :: strL r
  | _ :: r => strL r
theorem strL_ok : ∀ xs : List D, strsOf (xs.filter isS) = some (strL xs)
  | [] => rfl
  | d :: r => by cases d <;> simp [List.filter_cons, isS, strL, strsOf, strL_ok r]
theorem strL_len : ∀ xs : List D, (strL xs).length ≤ xs.length
  | [] => Nat.le_refl _
  | d :: r => by have := strL_len r; cases d <;> simp [strL] <;> omega
theorem uniq_len (xs : List Str) : (uniq xs).length ≤ xs.length := by
  unfold uniq
  have : ∀ (l acc : List Str), (l.foldl addS acc).length ≤ acc.length + l.length := by
    intro l
    induction l with
    | nil => intro acc; simp
    | cons a l ih =>
      intro acc
      rw [List.foldl_cons]
      refine Nat.le_trans (ih _) ?_
      unfold addS
      split <;> simp <;> omega
  simpa using this xs []
theorem isi_str {d : D} (h : Ok d) : isiD [d, .ty "str"] = some (.bl (isS d)) := by
  cases d <;> first | exact absurd rfl h.1 | simp [isiD, D.tyN, isTy, isS]
theorem emod_lt {a b : Int} (h : 0 < b) : 0 ≤ a % b ∧ a % b < b := ⟨Int.emod_nonneg a (by omega), Int.emod_lt_of_pos a h⟩
theorem add_ii {a b : Int} : addD (.int a) (.int b) = some (.int (a + b)) := rfl
theorem sub_ii {a b : Int} : subD (.int a) (.int b) = some (.int (a - b)) := rfl
theorem mod_ii {a b : Int} (h : 0 < b) : modD (.int a) (.int b) = some (.int (a % b)) := by
  unfold modD int2; simp only [h, decide_true, if_true]
theorem fdiv_ii {a b : Int} (h : 0 < b) (h' : b < 1073741824) : fdivD (.int a) (.int b) = some (.int (a / b)) := by
  unfold fdivD int2; simp only [h, h', and_self, decide_true, if_true]
theorem mul_ii {a b : Int} (h : (-(2 ^ 64) < a ∧ a < 2 ^ 64) ∨ (-(2 ^ 64) < b ∧ b < 2 ^ 64)) : mulA (.int a) (.int b) = some (.int (a * b)) := by
  show mulD (.int a) (.int b) = _
  unfold mulD; exact if_pos h
theorem pow_ii {a b : Int} (h : 0 ≤ b) (h1 : b ≤ 1000000) (h2 : a.natAbs < 2 ^ 64) : powD (.int a) (.int b) = some (.int (a ^ b.toNat)) := by
  unfold powD int2; simp only [h, h1, h2, and_self, decide_true, if_true]
theorem app_i {xs : List D} {d : D} (h : xs.length < sizeLine) : appD [d] xs = some (.non, xs ++ [d]) := if_pos h
theorem law_numbers_eq {c salt : Int} {n : Nat} {S : Store} (hs : 0 ≤ salt) (hs' : salt ≤ 100000) (hn : n ≤ 1000) :
    ∃ d, f__law_numbers [.int c, .int salt, .lst (List.replicate n (.int 420))] S = some (.ok d S) ∧ ∃ ds : List Int, d = .lst (ds.map .int) ∧ ds.length = n ∧ ∀ x ∈ ds, 0 ≤ x ∧ x < 420 := by
  refine fn0_ex rfl ?_
  unfold m__law_numbers
  simp (maxSteps := 2000000) only [ev_ret, ev_bind, ev_lift, ev_ite, ev_var, ev_const, ev_op2, ev_test, ev_opC, ev_rngV, ev_args0, ev_args, ev_frz, ev_callF, ev_seq, nxt_nx, nxt_rt, nxt_bk, nxt_ct, ev_nop, ev_retV, ev_dropV, ev_ifS, ev_iteV, ev_andT, ev_orT, ev_notT, ev_andV, ev_orV, ev_notV, ev_chain, ev_tupV, ev_lstN, ev_put, ev_setV, ev_setO, ev_iterV, ev_negV, ev_revV, ev_listN, ev_sortN, ev_rgN1, ev_enumV, ev_noPart, ev_part, ev_sliceV, ev_par2, ev_freeze, ev_methI, ev_lenO, ev_forS, ev_lc, ev_sc, ev_yes, ev_op2S, ev_opCS, ev_newL, ev_callK, ev_methK, ev_makeK, ev_fldV, ev_setFld, ev_boxL, ev_appB, ev_fail, ex_ret, ex_some, toB_bl, frame, List.map_cons, List.map_nil, List.length_cons, List.length_nil, List.replicate, List.cons_append, List.nil_append, List.getElem?_cons_zero, List.getElem?_cons_succ, slD, Nat.reduceSub, Nat.reduceAdd, List.set_cons_zero, List.set_cons_succ, List.length_set, maxD, negD, subD, int2, if_true, ex_some, lenA, lenD, List.length_replicate, rng1, Nat.reduceLT, true_and, Nat.zero_le, Nat.lt_add_one]
  rw [if_pos (by omega), ex_some]
  generalize (if -1 - c > c then -1 - c else c) = W
  refine ev_forL (fun r η S' => ∃ (i : Nat) (L : Int) (ds : List Int) (s6 s7 : Sl), r = (rngL 0 n).drop i ∧ i ≤ n ∧ ds.length = i ∧ (∀ x ∈ ds, 0 ≤ x ∧ x < 420) ∧
      η = [.val (.int c), .val (.int salt), .val (.lst (List.replicate n (.int 420))), .val (.int W), .val (.int L), .own (.lst (ds.map .int)), s6, s7] ∧ S' = S) _ _ _ ⟨0, W, [], .un, .un, rfl, Nat.zero_le _, rfl, by simp, rfl, rfl⟩ ?_ ?_
  · rintro d rr η S' ⟨i, L, ds, s6, s7, hr, hi, hd, hb, rfl, rfl⟩
    have hlt : i < n := by
      have := congrArg List.length hr
      rw [List.length_drop, rng_len, List.length_cons] at this
      omega
    rw [rng_drop hlt] at hr
    obtain ⟨rfl, rfl⟩ := List.cons.inj hr
    refine ⟨[.val (.int c), .val (.int salt), .val (.lst (List.replicate n (.int 420))), .val (.int W), .val (.int L), .own (.lst (ds.map .int)), .val (.int i), s7], rfl, ?_⟩
    have hit : itemD (.lst (List.replicate n (.int 420))) (.int i) = some (.int 420) := atI_rep hlt
    have hp : powD (.int 10) (.int 18) = some (.int (10 ^ 18)) := rfl
    have hlen : (ds.map D.int).length < sizeLine := by rw [List.length_map, sizeLine_eq]; omega
    simp (maxSteps := 2000000) only [ev_ret, ev_bind, ev_lift, ev_ite, ev_var, ev_const, ev_op2, ev_test, ev_opC, ev_rngV, ev_args0, ev_args, ev_frz, ev_callF, ev_seq, nxt_nx, nxt_rt, nxt_bk, nxt_ct, ev_nop, ev_retV, ev_dropV, ev_ifS, ev_iteV, ev_andT, ev_orT, ev_notT, ev_andV, ev_orV, ev_notV, ev_chain, ev_tupV, ev_lstN, ev_put, ev_setV, ev_setO, ev_iterV, ev_negV, ev_revV, ev_listN, ev_sortN, ev_rgN1, ev_enumV, ev_noPart, ev_part, ev_sliceV, ev_par2, ev_freeze, ev_methI, ev_lenO, ev_forS, ev_lc, ev_sc, ev_yes, ev_op2S, ev_opCS, ev_newL, ev_callK, ev_methK, ev_makeK, ev_fldV, ev_setFld, ev_boxL, ev_appB, ev_fail, ex_ret, ex_some, toB_bl, frame, List.map_cons, List.map_nil, List.length_cons, List.length_nil, List.replicate, List.cons_append, List.nil_append, List.getElem?_cons_zero, List.getElem?_cons_succ, slD, Nat.reduceSub, Nat.reduceAdd, List.set_cons_zero, List.set_cons_succ, List.length_set, hit, hp, geD, gtD, int2, if_true, ex_some, toB_bl, ownL]
    have fin : ∀ (L' x : Int) (s7' : Sl), 0 ≤ x ∧ x < 420 → ∃ (i_1 : Nat) (L : Int) (ds_1 : List Int) (s6 s7_1 : Sl), List.drop (i + 1) (rngL 0 ↑n) = List.drop i_1 (rngL 0 ↑n) ∧ i_1 ≤ n ∧ ds_1.length = i_1 ∧ (∀ x ∈ ds_1, 0 ≤ x ∧ x < 420) ∧
        [Sl.val (D.int c), Sl.val (D.int salt), Sl.val (D.lst (List.replicate n (D.int 420))), Sl.val (D.int W), Sl.val (D.int L'), Sl.own (C.lst (ds.map D.int ++ [D.int x])), Sl.val (D.int i), s7'] =
        [Sl.val (D.int c), Sl.val (D.int salt), Sl.val (D.lst (List.replicate n (D.int 420))), Sl.val (D.int W), Sl.val (D.int L), Sl.own (C.lst (ds_1.map D.int)), s6, s7_1] ∧ True := fun L' x s7' hx =>
      ⟨i + 1, L', ds ++ [x], _, s7', rfl, hlt, by simp [hd], fun y hy => by
        rcases List.mem_append.mp hy with hy | hy
        · exact hb y hy
        · rw [List.mem_singleton.mp hy]; exact hx, by rw [List.map_append]; rfl, trivial⟩
    have i1 : (0 : Int) ≤ i := by omega
    have i2 : (i : Int) ≤ 1000 := by omega
    by_cases h1 : (10 : Int) ^ 18 ≤ W <;> by_cases h2 : 0 < L <;> simp only [h1, h2, decide_true, decide_false, if_true, if_false, Bool.false_eq_true]
    · exact ⟨_, mod_ii (by decide), _, app_i hlen, _, fdiv_ii (by decide) (by decide), by decide, fin _ _ _ (emod_lt (by decide))⟩
    all_goals
      have w0 := emod_lt (a := W) (b := 2147483629) (by decide)
      refine ⟨_, mod_ii (by decide), _, mul_ii (.inl ⟨by decide, by decide⟩), _, add_ii, _, add_ii, _, pow_ii (by decide) (by decide) (by omega), _, mod_ii (by decide), by decide, _, add_ii, _, mul_ii (.inl ⟨by decide, by decide⟩), _, add_ii, _, add_ii, _, mul_ii (.inr ⟨by omega, by omega⟩), _, mod_ii (by decide), by decide, ?_⟩
      generalize hA : ((W % 2147483629 + 7919 * salt + 1) ^ Int.toNat 3 % 2147483647 + 104729 * ((i : Int) + 1)) * ((i : Int) + 3) % 2147483629 = A
      have w1 : 0 ≤ A ∧ A < 2147483629 := by rw [← hA]; exact emod_lt (by decide)
      refine ⟨_, pow_ii (by decide) (by decide) (by omega), _, mod_ii (by decide), _, mul_ii (.inr ⟨by decide, by decide⟩), _, mod_ii (by decide), by decide, _, fdiv_ii (by decide) (by decide), _, mod_ii (by decide), _, app_i hlen, ?_⟩
      exact fin _ _ _ (emod_lt (by decide))
  · rintro η S' ⟨i, L, ds, s6, s7, hr, hi, hd, hb, rfl, rfl⟩
    have hge : n ≤ i := by
      have := congrArg List.length hr
      rw [List.length_drop, rng_len, List.length_nil] at this
      omega
    simp (maxSteps := 2000000) only [ev_ret, ev_bind, ev_lift, ev_ite, ev_var, ev_const, ev_op2, ev_test, ev_opC, ev_rngV, ev_args0, ev_args, ev_frz, ev_callF, ev_seq, nxt_nx, nxt_rt, nxt_bk, nxt_ct, ev_nop, ev_retV, ev_dropV, ev_ifS, ev_iteV, ev_andT, ev_orT, ev_notT, ev_andV, ev_orV, ev_notV, ev_chain, ev_tupV, ev_lstN, ev_put, ev_setV, ev_setO, ev_iterV, ev_negV, ev_revV, ev_listN, ev_sortN, ev_rgN1, ev_enumV, ev_noPart, ev_part, ev_sliceV, ev_par2, ev_freeze, ev_methI, ev_lenO, ev_forS, ev_lc, ev_sc, ev_yes, ev_op2S, ev_opCS, ev_newL, ev_callK, ev_methK, ev_makeK, ev_fldV, ev_setFld, ev_boxL, ev_appB, ev_fail, ex_ret, ex_some, toB_bl, frame, List.map_cons, List.map_nil, List.length_cons, List.length_nil, List.replicate, List.cons_append, List.nil_append, List.getElem?_cons_zero, List.getElem?_cons_succ, slD, Nat.reduceSub, Nat.reduceAdd, List.set_cons_zero, List.set_cons_succ, List.length_set, ownL]
    exact ⟨_, rfl, trivial, ds, rfl, by omega, hb⟩
theorem item_dig {ds : List Int} {i : Nat} (h : i < ds.length) : ∃ x, itemD (.lst (ds.map .int)) (.int i) = some (.int x) ∧ x ∈ ds :=
  ⟨ds[i], atI_at (by rw [List.getElem?_map, List.getElem?_eq_getElem h]; rfl), List.getElem_mem h⟩
theorem item_pick {xs : List D} {k : Int} (h0 : 0 ≤ k) (h1 : k < xs.length) : ∃ x, itemD (.lst xs) (.int k) = some x ∧ x ∈ xs := by
  obtain ⟨n, rfl⟩ := Int.eq_ofNat_of_zero_le h0
  have hn : n < xs.length := by omega
  exact ⟨xs[n], atI_at (List.getElem?_eq_getElem hn), List.getElem_mem hn⟩
theorem item_mod {xs : List D} {a : Int} {n : Nat} (hn : xs.length = n) (h : 0 < n) : ∃ x, itemD (.lst xs) (.int (a % (n : Int))) = some x ∧ x ∈ xs := by
  have := emod_lt (a := a) (b := (n : Int)) (by omega)
  exact item_pick this.1 (by omega)
theorem item_d {ds : List Int} {n : Nat} (h : n < ds.length) : ∃ x, itemD (.lst (ds.map .int)) (.int (n : Nat)) = some (.int x) := let ⟨x, e, _⟩ := item_dig h; ⟨x, e⟩
/-- a cell of a drawn row -/
def Cell (d : D) : Prop := d.flat = true ∧ Ok d
theorem enum_drop {xs : List D} {i : Nat} {x : D} (h : xs[i]? = some x) : (enumL xs).drop i = .tup [.int i, x] :: (enumL xs).drop (i + 1) := enumL_drop h
theorem enum_len {xs : List D} : (enumL xs).length = xs.length := enumL_length
theorem cell_int (i : Int) : Cell (.int i) := ⟨rfl, (by simp [D.tyN]), fun x h => by cases h⟩
theorem cell_non : Cell .non := ⟨rfl, (by simp [D.tyN]), fun x h => by cases h⟩
theorem name_len {x : Str} (h : nameB (.str x) = true) : x.length ≤ 8 := by
  simp only [nameB, Bool.and_eq_true, decide_eq_true_eq] at h; exact h.1.2
theorem cell_str {x : Str} (h : nameB (.str x) = true) : Cell (.str x) := ⟨rfl, (by simp [D.tyN]), fun y e => by cases e; have := name_len h; rw [sizeLine_eq]; omega⟩
theorem add_ll {xs ys : List D} (h : xs.length + ys.length ≤ sizeLine) : addD (.lst xs) (.lst ys) = some (.lst (xs ++ ys)) := if_pos h
theorem repr_bl {b : Bool} : ∃ x, reprD [.bl b] = some (.str x) := by
  have h : (PyData.bool b).showable = true ∧ (PyData.bool b).depth ≤ 60 ∧ (PyData.bool b).shown.length ≤ sizeLine ∧ PyData.strOk (PyData.bool b).shown = true := by
    rw [sizeLine_eq]
    revert b
    decide +kernel
  exact ⟨_, by unfold reprD; simp only [D.toP, Option.bind_some, showP, if_pos h]; rfl⟩
theorem neD_str {x : Str} : neD (.str x) (.str x) = some (.bl false) := by
  unfold neD eqP; simp [D.toP, PyData.depth, PyData.eqv]
theorem cut_tup {xs : List D} {lo hi : Option Int} : cutD (.tup xs) lo hi = some (.tup (cutL xs lo hi)) := rfl
theorem cut_len {α : Type} (l : List α) (a b : Option Int) : (cutL l a b).length ≤ l.length := by
  unfold cutL; rw [List.length_take, List.length_drop]; omega
theorem cut_mem {α : Type} {l : List α} {a b : Option Int} {x : α} (h : x ∈ cutL l a b) : x ∈ l := List.mem_of_mem_drop (List.mem_of_mem_take h)
theorem rep_one {x : D} {k : Nat} : repL [x] (k : Int) = List.replicate k x := by
  unfold repL
  rw [Int.toNat_natCast]
  induction k with
  | zero => rfl
  | succ n ih => rw [List.replicate_succ, List.flatten_cons, ih]; rfl
theorem mul_l1 {x : D} {k : Nat} (h : k ≤ 1000) : mulA (.lst [x]) (.int (k : Int)) = some (.lst (List.replicate k x)) := by
  unfold mulA mulD
  dsimp only
  rw [if_pos ⟨by omega, by omega, by rw [sizeLine_eq, List.length_singleton, Int.toNat_natCast]; omega⟩, rep_one]
theorem eq_scr {ns : List Int} : ∃ b, eqD (.scr ns) (.lst []) = some (.bl b) := by
  unfold eqD eqP
  have h : PyData.depth (.list (ns.map PyData.int)) ≤ 64 := by
    have : ∀ ns : List Int, PyData.depthAll (ns.map PyData.int) = 0 := by
      intro ns
      induction ns with
      | nil => rfl
      | cons a l ih => simp [PyData.depthAll, PyData.depth, ih]
    simp only [PyData.depth, this]; decide
  simp only [D.toP, toPs, Option.map_some]
  rw [if_pos ⟨h, by simp [PyData.depth, PyData.depthAll]⟩]
  exact ⟨_, rfl⟩
theorem enum_mem {xs : List D} {d : D} (h : d ∈ enumL xs) : ∃ (i : Nat) (x : D), d = .tup [.int i, x] ∧ i < xs.length ∧ x ∈ xs := by
  rw [enumL_get] at h
  obtain ⟨i, hi, rfl⟩ := List.mem_iff_getElem.mp h
  rw [List.length_mapIdx] at hi
  refine ⟨i, xs[i], by simp, hi, List.getElem_mem hi⟩
end Z
namespace Z
open PySem L2 Y
/-- a permission -/
structure Pm where
  who : Str
  what : Str
  word : Str
  since : Int
  till : Option Int
  known : Int
def tillD : Option Int → D
  | none => .non
  | some i => .int i
def permD (p : Pm) : D := .tup [.str p.who, .str p.what, .str p.word, .int p.since, tillD p.till, .int p.known]
structure PmOk (p : Pm) : Prop where
  who : nameB (.str p.who) = true
  what : nameB (.str p.what) = true
  word : p.word = "allow" ∨ p.word = "withdraw"
  since : 0 ≤ p.since ∧ p.since ≤ 999
  till : ∀ t, p.till = some t → 0 ≤ t ∧ t ≤ 999 ∧ p.since < t
  known : 0 ≤ p.known ∧ p.known ≤ 999
/-- a book at b, its list at l -/
structure BookAt (S : Store) (b l : Nat) (ps : List Pm) : Prop where
  ins : S.get b = some (.ins "Book" [("own_permits", .val (.ob l))])
  lst : S.get l = some (.box (.lst (ps.map permD)))
  short : ps.length ≤ 100
section
variable {S : Store} {b l : Nat} {ps : List Pm}
theorem BookAt.fld (h : BookAt S b l ps) : fldD S "Book" "own_permits" (.ob b) = some (.ob l) := by simp only [fldD, h.ins, if_true]; rfl
theorem BookAt.view (h : BookAt S b l ps) : lstV S (.ob l) = some (ps.map permD) := by simp only [lstV, h.lst]
theorem BookAt.meth (h : BookAt S b l ps) {mt : Str} (hm : mt ≠ "own_permits") : insD S "Book" mt (.ob b) = some () := by
  have hb : (mt == ("own_permits" : Str)) = false := by simpa using hm
  simp only [insD, h.ins, List.lookup_cons, hb]; rfl
def lastKnown (ps : List Pm) : Int := match ps.getLast? with
  | none => 0
  | some p => p.known
theorem toPS_nil {k : Nat} {S : Store} : toPS (k + 1) S (.lst []) = some (.list []) := rfl
end
theorem is_moment_eq {i : Int} {S : Store} : f_is_moment [.int i] S = some (.ok (.bl (decide (0 ≤ i) && decide (i ≤ 999))) S) := by
  refine fn0_of rfl ?_
  unfold m_is_moment
  have h : f_is_within [.int i, .int 0, .int 999] S = some (.ok (.bl (withinB (.int i) 0 999)) S) := is_within_eq (cell_int i).2
  simp (maxSteps := 2000000) only [ev_ret, ev_bind, ev_lift, ev_ite, ev_var, ev_const, ev_op2, ev_test, ev_opC, ev_rngV, ev_args0, ev_args, ev_frz, ev_callF, ev_seq, nxt_nx, nxt_rt, nxt_bk, nxt_ct, ev_nop, ev_retV, ev_dropV, ev_ifS, ev_iteV, ev_andT, ev_orT, ev_notT, ev_andV, ev_orV, ev_notV, ev_chain, ev_tupV, ev_lstN, ev_put, ev_setV, ev_setO, ev_iterV, ev_negV, ev_revV, ev_listN, ev_sortN, ev_rgN1, ev_enumV, ev_noPart, ev_part, ev_sliceV, ev_par2, ev_freeze, ev_methI, ev_lenO, ev_forS, ev_lc, ev_sc, ev_yes, ev_op2S, ev_opCS, ev_newL, ev_callK, ev_methK, ev_makeK, ev_fldV, ev_setFld, ev_boxL, ev_appB, ev_fail, ex_ret, ex_some, toB_bl, frame, List.map_cons, List.map_nil, List.length_cons, List.length_nil, List.replicate, List.cons_append, List.nil_append, List.getElem?_cons_zero, List.getElem?_cons_succ, slD, Nat.reduceSub, Nat.reduceAdd, List.set_cons_zero, List.set_cons_succ, List.length_set, h]
  exact ⟨rfl, trivial⟩
theorem is_moment_ok {i : Int} {S : Store} (h : 0 ≤ i ∧ i ≤ 999) : f_is_moment [.int i] S = some (.ok (.bl true) S) := by
  rw [is_moment_eq]; simp [h.1, h.2]
theorem isi_b {d : D} {T a : String} {r : Bool} (h1 : d.tyN = some a) (h2 : isTy a T = some r) : isiD [d, .ty T] = some (.bl r) := by
  simp only [isiD, h1, Option.bind_some, h2, Option.map_some]
end Z
namespace Z
open PySem L2 Y
def tillP : Option Int → PyData
  | none => .none
  | some i => .int i
def permP (p : Pm) : PyData := .tuple [.str p.who, .str p.what, .str p.word, .int p.since, tillP p.till, .int p.known]
theorem toPS_perm {S : Store} {k : Nat} {p : Pm} : toPS (k + 2) S (permD p) = some (permP p) := by
  unfold permD permP
  cases p.till <;> rfl
theorem mapO_perm {S : Store} {k : Nat} : ∀ ps : List Pm, mapO (toPS (k + 2) S) (ps.map permD) = some (ps.map permP)
  | [] => rfl
  | p :: ps => by simp only [List.map_cons, mapO, toPS_perm, mapO_perm ps]
theorem depth_perms : ∀ ps : List Pm, PyData.depthAll (ps.map permP) ≤ 1
  | [] => by simp [PyData.depthAll]
  | p :: ps => by
    have := depth_perms ps
    have h1 : PyData.depth (permP p) = 1 := by
      unfold permP
      cases p.till <;> simp [PyData.depth, PyData.depthAll, tillP]
    simp only [List.map_cons, PyData.depthAll, h1]
    omega
theorem fn0_nx {n N : Nat} {m : M Fl} {ds : List D} {S S' : Store} (hl : ds.length = n) (h : ev m (frame N ds) S fun f _ S1 => f = .nx ∧ S1 = S') : fn0 n N m ds S = some (.ok .non S') := by
  obtain ⟨a, η', S1, e, rfl, rfl⟩ := h
  unfold fn0
  rw [if_pos hl, e]
  rfl
theorem pick1 {a : D} : pickL [0] [a] = [a] := rfl
theorem pick2 {a b : D} : pickL [0, 1] [a, b] = [a, b] := rfl
theorem pick3 {a b c : D} : pickL [0, 1, 2] [a, b, c] = [a, b, c] := rfl
theorem pick5 {a b c d e : D} : pickL [0, 1, 2, 3, 4] [a, b, c, d, e] = [a, b, c, d, e] := rfl
section
variable {S : Store} {b l : Nat} {ps : List Pm}
theorem toPS_book (h : BookAt S b l ps) : toPS 40 S (.ob l) = some (.list (ps.map permP)) := by
  show ((lstV S (.ob l)).bind fun xs => (mapO (toPS 39 S) xs).map PyData.list) = _
  rw [h.view, Option.bind_some, mapO_perm (k := 37)]; rfl
theorem ne_book (h : BookAt S b l ps) : neS S (.ob l) (.lst []) = some (.bl (!ps.isEmpty)) := by
  unfold neS
  have h0 : eqP (.ob l) (.lst []) = none := by simp [eqP, D.toP]
  have h1 : eqPS S (.ob l) (.lst []) = some ps.isEmpty := by
    unfold eqPS
    rw [toPS_book h, toPS_nil]
    have hd : PyData.depth (.list (ps.map permP)) ≤ 64 := by
      have := depth_perms ps
      simp only [PyData.depth]; omega
    simp only
    rw [if_pos ⟨hd, by simp [PyData.depth, PyData.depthAll]⟩]
    cases ps <;> simp [PyData.eqv, PyData.eqvAll]
  rw [h0, h1]; rfl
theorem least_eq (h : BookAt S b l ps) : f_Book_least [.ob b] S = some (.ok (.int (lastKnown ps)) S) := by
  refine fn0_of rfl ?_
  unfold m_Book_least
  have hn : negD (.int 1) = some (.int (-1)) := rfl
  have z0 : 0 ≤ sizeLine := Nat.zero_le _
  simp (maxSteps := 2000000) only [ev_ret, ev_bind, ev_lift, ev_ite, ev_var, ev_const, ev_op2, ev_test, ev_opC, ev_rngV, ev_args0, ev_args, ev_frz, ev_callF, ev_seq, nxt_nx, nxt_rt, nxt_bk, nxt_ct, ev_nop, ev_retV, ev_dropV, ev_ifS, ev_iteV, ev_andT, ev_orT, ev_notT, ev_andV, ev_orV, ev_notV, ev_chain, ev_tupV, ev_lstN, ev_put, ev_setV, ev_setO, ev_iterV, ev_negV, ev_revV, ev_listN, ev_sortN, ev_rgN1, ev_enumV, ev_noPart, ev_part, ev_sliceV, ev_par2, ev_freeze, ev_methI, ev_lenO, ev_forS, ev_lc, ev_sc, ev_yes, ev_op2S, ev_opCS, ev_newL, ev_callK, ev_methK, ev_makeK, ev_fldV, ev_setFld, ev_boxL, ev_appB, ev_fail, ex_ret, ex_some, toB_bl, frame, List.map_cons, List.map_nil, List.length_cons, List.length_nil, List.replicate, List.cons_append, List.nil_append, List.getElem?_cons_zero, List.getElem?_cons_succ, slD, Nat.reduceSub, Nat.reduceAdd, List.set_cons_zero, List.set_cons_succ, List.length_set, h.fld, ne_book h, hn, z0, true_and, ex_some]
  cases hp : ps.getLast? with
  | none =>
    have : ps = [] := by simpa using hp
    subst this
    simp [lastKnown]
  | some p =>
    have hne : ps.isEmpty = false := by cases ps <;> simp_all
    have hl : ps.length ≠ 0 := by cases ps <;> simp_all
    have hi : itemS S (.ob l) (.int (-1)) = some (permD p) := by
      simp only [itemS, h.view, Option.bind_some]
      unfold L2.atI L2.ixN
      have hg : ps[ps.length - 1]? = some p := by rw [← List.getLast?_eq_getElem?]; exact hp
      rw [List.length_map, if_neg (by decide), if_pos (by omega), show ((-1 : Int) + ps.length).toNat = ps.length - 1 from by omega]
      show (ps.map permD)[ps.length - 1]? = _
      rw [List.getElem?_map, hg]; rfl
    have h5 : itemD (permD p) (.int 5) = some (.int p.known) := rfl
    simp only [hne, Bool.not_false, if_true, hi, ex_some, h5, lastKnown, hp]
    simp
theorem lt_ii {a b : Int} : ltD (.int a) (.int b) = some (.bl (decide (a < b))) := rfl
theorem le_ii {a b : Int} : leD (.int a) (.int b) = some (.bl (decide (a ≤ b))) := rfl
end
end Z
namespace Z
open PySem L2 Y
/-! is_permission, of anything -/
def momB (d : D) : Bool := withinB d 0 999
def wordB (d : D) : Bool := match d with
  | .str x => decide (x = "allow") || decide (x = "withdraw")
  | _ => false
def ltB (s t : D) : Bool := match s, t with
  | .int i, .int j => decide (i < j)
  | _, _ => false
def tillB (s t : D) : Bool := t.isNon || (momB t && ltB s t)
def permB (d : D) : Bool := match d with
  | .tup [a, b, c, s, t, k] => (nameB a && nameB b) && ((wordB c && (momB s && momB k)) && tillB s t)
  | _ => false
/-- a thing that may be handed in -/
inductive It : D → Prop
  | tup {xs : List D} : (∀ x ∈ xs, Ok x) → xs.length ≤ 20 → It (.tup xs)
  | odd {d : D} {T : String} : d.tyN = some T → isTy T "tuple" = some false → It d
theorem moment_eq {d : D} {S : Store} (h : Ok d) : f_is_moment [d] S = some (.ok (.bl (momB d)) S) := by
  refine fn0_of rfl ?_
  unfold m_is_moment
  simp (maxSteps := 2000000) only [ev_ret, ev_bind, ev_lift, ev_ite, ev_var, ev_const, ev_op2, ev_test, ev_opC, ev_rngV, ev_args0, ev_args, ev_frz, ev_callF, ev_seq, nxt_nx, nxt_rt, nxt_bk, nxt_ct, ev_nop, ev_retV, ev_dropV, ev_ifS, ev_iteV, ev_andT, ev_orT, ev_notT, ev_andV, ev_orV, ev_notV, ev_chain, ev_tupV, ev_lstN, ev_put, ev_setV, ev_setO, ev_iterV, ev_negV, ev_revV, ev_listN, ev_sortN, ev_rgN1, ev_enumV, ev_noPart, ev_part, ev_sliceV, ev_par2, ev_freeze, ev_methI, ev_lenO, ev_forS, ev_lc, ev_sc, ev_yes, ev_op2S, ev_opCS, ev_newL, ev_callK, ev_methK, ev_makeK, ev_fldV, ev_setFld, ev_boxL, ev_appB, ev_fail, ex_ret, ex_some, toB_bl, frame, List.map_cons, List.map_nil, List.length_cons, List.length_nil, List.replicate, List.cons_append, List.nil_append, List.getElem?_cons_zero, List.getElem?_cons_succ, slD, Nat.reduceSub, Nat.reduceAdd, List.set_cons_zero, List.set_cons_succ, List.length_set, is_within_eq h]
  exact ⟨rfl, trivial⟩
def strK : D → Bool
  | .str _ => true
  | _ => false
theorem isi_ok {d : D} (h : Ok d) : isiD [d, .ty "str"] = some (.bl (strK d)) := by
  cases d <;> first | exact absurd rfl h.1 | rfl
theorem notin_words {d : D} (h : ∃ x, d = .str x) : notInD d (.tup [.str "allow", .str "withdraw"]) = some (.bl (!wordB d)) := by
  obtain ⟨x, rfl⟩ := h
  unfold notInD inB
  have h : ∀ a : Str, (a == x) = decide (x = a) := fun a => by
    rw [Bool.eq_iff_iff, beq_iff_eq, decide_eq_true_iff]
    exact ⟨Eq.symm, Eq.symm⟩
  simp [D.flat, wordB, eqF, h]
theorem is_permission_eq {d : D} {S : Store} (h : It d) : f_is_permission [d] S = some (.ok (.bl (permB d)) S) := by
  cases h with
  | @odd _ T h1 h2 =>
    have i0 : isiD [d, .ty "tuple"] = some (.bl false) := by simp only [isiD, h1, Option.bind_some, h2, Option.map_some]
    have hp : permB d = false := by
      cases d with
      | tup xs => cases h1; simp [isTy] at h2
      | _ => rfl
    refine fn0_of rfl ?_
    unfold m_is_permission
    simp (maxSteps := 2000000) only [ev_ret, ev_bind, ev_lift, ev_ite, ev_var, ev_const, ev_op2, ev_test, ev_opC, ev_rngV, ev_args0, ev_args, ev_frz, ev_callF, ev_seq, nxt_nx, nxt_rt, nxt_bk, nxt_ct, ev_nop, ev_retV, ev_dropV, ev_ifS, ev_iteV, ev_andT, ev_orT, ev_notT, ev_andV, ev_orV, ev_notV, ev_chain, ev_tupV, ev_lstN, ev_put, ev_setV, ev_setO, ev_iterV, ev_negV, ev_revV, ev_listN, ev_sortN, ev_rgN1, ev_enumV, ev_noPart, ev_part, ev_sliceV, ev_par2, ev_freeze, ev_methI, ev_lenO, ev_forS, ev_lc, ev_sc, ev_yes, ev_op2S, ev_opCS, ev_newL, ev_callK, ev_methK, ev_makeK, ev_fldV, ev_setFld, ev_boxL, ev_appB, ev_fail, ex_ret, ex_some, toB_bl, frame, List.map_cons, List.map_nil, List.length_cons, List.length_nil, List.replicate, List.cons_append, List.nil_append, List.getElem?_cons_zero, List.getElem?_cons_succ, slD, Nat.reduceSub, Nat.reduceAdd, List.set_cons_zero, List.set_cons_succ, List.length_set, i0, Bool.not_false, if_true, ex_some, toB_bl, hp]
    simp
  | @tup xs hx hl =>
    have i0 : isiD [D.tup xs, .ty "tuple"] = some (.bl true) := isi_b (a := "tuple") rfl (by decide)
    have l6 : lenA [D.tup xs] = some (.int xs.length) := rfl
    by_cases hn : xs.length = 6
    case neg =>
      have n6 : neD (.int xs.length) (.int 6) = some (.bl true) := by
        show some (D.bl _) = _
        simp [PyData.eqv]; omega
      have hp : permB (.tup xs) = false := by
        unfold permB
        split
        · rename_i q; cases q; simp at hn
        · rfl
      refine fn0_of rfl ?_
      unfold m_is_permission
      simp (maxSteps := 2000000) only [ev_ret, ev_bind, ev_lift, ev_ite, ev_var, ev_const, ev_op2, ev_test, ev_opC, ev_rngV, ev_args0, ev_args, ev_frz, ev_callF, ev_seq, nxt_nx, nxt_rt, nxt_bk, nxt_ct, ev_nop, ev_retV, ev_dropV, ev_ifS, ev_iteV, ev_andT, ev_orT, ev_notT, ev_andV, ev_orV, ev_notV, ev_chain, ev_tupV, ev_lstN, ev_put, ev_setV, ev_setO, ev_iterV, ev_negV, ev_revV, ev_listN, ev_sortN, ev_rgN1, ev_enumV, ev_noPart, ev_part, ev_sliceV, ev_par2, ev_freeze, ev_methI, ev_lenO, ev_forS, ev_lc, ev_sc, ev_yes, ev_op2S, ev_opCS, ev_newL, ev_callK, ev_methK, ev_makeK, ev_fldV, ev_setFld, ev_boxL, ev_appB, ev_fail, ex_ret, ex_some, toB_bl, frame, List.map_cons, List.map_nil, List.length_cons, List.length_nil, List.replicate, List.cons_append, List.nil_append, List.getElem?_cons_zero, List.getElem?_cons_succ, slD, Nat.reduceSub, Nat.reduceAdd, List.set_cons_zero, List.set_cons_succ, List.length_set, i0, l6, n6, Bool.not_true, Bool.false_eq_true, if_false, if_true, ex_some, toB_bl, hp]
      simp
    match xs, hn, hx with
    | [a, b, c, s, t, k], _, hx =>
      have oa := hx a (by simp)
      have ob := hx b (by simp)
      have oc := hx c (by simp)
      have os := hx s (by simp)
      have ot := hx t (by simp)
      have ok := hx k (by simp)
      have l6 : lenA [D.tup [a, b, c, s, t, k]] = some (.int 6) := rfl
      have n6 : neD (.int 6) (.int 6) = some (.bl false) := rfl
      have g0 : itemD (.tup [a, b, c, s, t, k]) (.int 0) = some a := rfl
      have g1 : itemD (.tup [a, b, c, s, t, k]) (.int 1) = some b := rfl
      have z2 : 2 ≤ sizeLine := by rw [sizeLine_eq]; decide
      refine fn0_of rfl ?_
      unfold m_is_permission permB
      simp (maxSteps := 2000000) only [ev_ret, ev_bind, ev_lift, ev_ite, ev_var, ev_const, ev_op2, ev_test, ev_opC, ev_rngV, ev_args0, ev_args, ev_frz, ev_callF, ev_seq, nxt_nx, nxt_rt, nxt_bk, nxt_ct, ev_nop, ev_retV, ev_dropV, ev_ifS, ev_iteV, ev_andT, ev_orT, ev_notT, ev_andV, ev_orV, ev_notV, ev_chain, ev_tupV, ev_lstN, ev_put, ev_setV, ev_setO, ev_iterV, ev_negV, ev_revV, ev_listN, ev_sortN, ev_rgN1, ev_enumV, ev_noPart, ev_part, ev_sliceV, ev_par2, ev_freeze, ev_methI, ev_lenO, ev_forS, ev_lc, ev_sc, ev_yes, ev_op2S, ev_opCS, ev_newL, ev_callK, ev_methK, ev_makeK, ev_fldV, ev_setFld, ev_boxL, ev_appB, ev_fail, ex_ret, ex_some, toB_bl, frame, List.map_cons, List.map_nil, List.length_cons, List.length_nil, List.replicate, List.cons_append, List.nil_append, List.getElem?_cons_zero, List.getElem?_cons_succ, slD, Nat.reduceSub, Nat.reduceAdd, List.set_cons_zero, List.set_cons_succ, List.length_set, i0, l6, n6, g0, g1, is_name_eq oa, is_name_eq ob, Bool.not_true, Bool.false_eq_true, if_false, if_true, ex_some, toB_bl]
      cases ha : nameB a with
      | false => simp
      | true =>
        cases hb : nameB b with
        | false => simp
        | true =>
          simp only [Bool.not_true, Bool.false_eq_true, if_false, Bool.true_and]
          refine ⟨_, _, _, rfl, ?_⟩
          simp (maxSteps := 2000000) only [ev_ret, ev_bind, ev_lift, ev_ite, ev_var, ev_const, ev_op2, ev_test, ev_opC, ev_rngV, ev_args0, ev_args, ev_frz, ev_callF, ev_seq, nxt_nx, nxt_rt, nxt_bk, nxt_ct, ev_nop, ev_retV, ev_dropV, ev_ifS, ev_iteV, ev_andT, ev_orT, ev_notT, ev_andV, ev_orV, ev_notV, ev_chain, ev_tupV, ev_lstN, ev_put, ev_setV, ev_setO, ev_iterV, ev_negV, ev_revV, ev_listN, ev_sortN, ev_rgN1, ev_enumV, ev_noPart, ev_part, ev_sliceV, ev_par2, ev_freeze, ev_methI, ev_lenO, ev_forS, ev_lc, ev_sc, ev_yes, ev_op2S, ev_opCS, ev_newL, ev_callK, ev_methK, ev_makeK, ev_fldV, ev_setFld, ev_boxL, ev_appB, ev_fail, ex_ret, ex_some, toB_bl, frame, List.map_cons, List.map_nil, List.length_cons, List.length_nil, List.replicate, List.cons_append, List.nil_append, List.getElem?_cons_zero, List.getElem?_cons_succ, slD, Nat.reduceSub, Nat.reduceAdd, List.set_cons_zero, List.set_cons_succ, List.length_set, isi_ok oc, z2, ex_some, toB_bl, moment_eq os, moment_eq ok, true_and]
          by_cases hc : ∃ x, c = .str x
          case neg =>
            have h1 : strK c = false := by
              cases c <;> first | rfl | exact absurd ⟨_, rfl⟩ hc
            have h2 : wordB c = false := by
              cases c <;> first | rfl | exact absurd ⟨_, rfl⟩ hc
            rw [h1, h2]
            simp
          obtain ⟨x, rfl⟩ := hc
          have h3 : strK (.str x) = true := rfl
          simp (maxSteps := 2000000) only [ev_ret, ev_bind, ev_lift, ev_ite, ev_var, ev_const, ev_op2, ev_test, ev_opC, ev_rngV, ev_args0, ev_args, ev_frz, ev_callF, ev_seq, nxt_nx, nxt_rt, nxt_bk, nxt_ct, ev_nop, ev_retV, ev_dropV, ev_ifS, ev_iteV, ev_andT, ev_orT, ev_notT, ev_andV, ev_orV, ev_notV, ev_chain, ev_tupV, ev_lstN, ev_put, ev_setV, ev_setO, ev_iterV, ev_negV, ev_revV, ev_listN, ev_sortN, ev_rgN1, ev_enumV, ev_noPart, ev_part, ev_sliceV, ev_par2, ev_freeze, ev_methI, ev_lenO, ev_forS, ev_lc, ev_sc, ev_yes, ev_op2S, ev_opCS, ev_newL, ev_callK, ev_methK, ev_makeK, ev_fldV, ev_setFld, ev_boxL, ev_appB, ev_fail, ex_ret, ex_some, toB_bl, frame, List.map_cons, List.map_nil, List.length_cons, List.length_nil, List.replicate, List.cons_append, List.nil_append, List.getElem?_cons_zero, List.getElem?_cons_succ, slD, Nat.reduceSub, Nat.reduceAdd, List.set_cons_zero, List.set_cons_succ, List.length_set, h3, notin_words ⟨x, rfl⟩, ex_some, toB_bl, Bool.not_true, Bool.false_eq_true, if_false]
          cases hw : wordB (.str x) with
          | false => simp
          | true =>
            cases hs : momB s with
            | false => simp
            | true =>
              cases hk : momB k with
              | false => simp
              | true =>
                simp only [Bool.not_true, Bool.false_eq_true, if_false, Bool.true_and]
                simp (maxSteps := 2000000) only [ev_ret, ev_bind, ev_lift, ev_ite, ev_var, ev_const, ev_op2, ev_test, ev_opC, ev_rngV, ev_args0, ev_args, ev_frz, ev_callF, ev_seq, nxt_nx, nxt_rt, nxt_bk, nxt_ct, ev_nop, ev_retV, ev_dropV, ev_ifS, ev_iteV, ev_andT, ev_orT, ev_notT, ev_andV, ev_orV, ev_notV, ev_chain, ev_tupV, ev_lstN, ev_put, ev_setV, ev_setO, ev_iterV, ev_negV, ev_revV, ev_listN, ev_sortN, ev_rgN1, ev_enumV, ev_noPart, ev_part, ev_sliceV, ev_par2, ev_freeze, ev_methI, ev_lenO, ev_forS, ev_lc, ev_sc, ev_yes, ev_op2S, ev_opCS, ev_newL, ev_callK, ev_methK, ev_makeK, ev_fldV, ev_setFld, ev_boxL, ev_appB, ev_fail, ex_ret, ex_some, toB_bl, frame, List.map_cons, List.map_nil, List.length_cons, List.length_nil, List.replicate, List.cons_append, List.nil_append, List.getElem?_cons_zero, List.getElem?_cons_succ, slD, Nat.reduceSub, Nat.reduceAdd, List.set_cons_zero, List.set_cons_succ, List.length_set, isND, ex_some, toB_bl, moment_eq ot]
                unfold tillB
                cases hnn : t.isNon with
                | true => simp
                | false =>
                  simp only [Bool.false_eq_true, if_false, Bool.false_or]
                  cases hm : momB t with
                  | false => simp [toB]
                  | true =>
                    cases s <;> simp [momB, withinB] at hs
                    cases t <;> simp [momB, withinB] at hm
                    simp [toB, ltD, int2, ltB]
end Z
namespace Z
open PySem L2 Y
section
variable {S : Store} {b l : Nat} {ps : List Pm}
end
/-- all names that are drawn -/
def folkAll : List Str := ["ann", "bob", "cy", "dot", "zed", "al", "mo", "b", "p", "src", "who", "x", "care", "study"]
def Told (p : Pm) : Prop := p.who ∈ folkAll ∧ p.what ∈ folkAll
/-- the folk of a law: four names -/
def FolkOk (fs : List Str) : Prop := fs.length = 4 ∧ ∀ x ∈ fs, nameB (.str x) = true ∧ x ∈ folkAll
theorem law_folk_eq {ds : List Int} {S : Store} (hl : 1 ≤ ds.length) : ∃ d, f__law_folk [.lst (ds.map .int)] S = some (.ok d S) ∧ ∃ fs : List Str, d = .lst (fs.map .str) ∧ FolkOk fs := by
  refine fn0_ex rfl ?_
  obtain ⟨x0, e0⟩ := item_d (ds := ds) (n := 0) (by omega)
  have e0 : itemD (.lst (ds.map .int)) (.int 0) = some (.int x0) := e0
  have z3 : 3 ≤ sizeLine := by rw [sizeLine_eq]; decide
  have z4 : 4 ≤ sizeLine := by rw [sizeLine_eq]; decide
  unfold m__law_folk
  simp (maxSteps := 2000000) only [ev_ret, ev_bind, ev_lift, ev_ite, ev_var, ev_const, ev_op2, ev_test, ev_opC, ev_rngV, ev_args0, ev_args, ev_frz, ev_callF, ev_seq, nxt_nx, nxt_rt, nxt_bk, nxt_ct, ev_nop, ev_retV, ev_dropV, ev_ifS, ev_iteV, ev_andT, ev_orT, ev_notT, ev_andV, ev_orV, ev_notV, ev_chain, ev_tupV, ev_lstN, ev_put, ev_setV, ev_setO, ev_iterV, ev_negV, ev_revV, ev_listN, ev_sortN, ev_rgN1, ev_enumV, ev_noPart, ev_part, ev_sliceV, ev_par2, ev_freeze, ev_methI, ev_lenO, ev_forS, ev_lc, ev_sc, ev_yes, ev_op2S, ev_opCS, ev_newL, ev_callK, ev_methK, ev_makeK, ev_fldV, ev_setFld, ev_boxL, ev_appB, ev_fail, ex_ret, ex_some, toB_bl, frame, List.map_cons, List.map_nil, List.length_cons, List.length_nil, List.replicate, List.cons_append, List.nil_append, List.getElem?_cons_zero, List.getElem?_cons_succ, slD, Nat.reduceSub, Nat.reduceAdd, List.set_cons_zero, List.set_cons_succ, List.length_set, e0, z3, z4, true_and, mod_ii (a := x0) (b := 3) (by decide), ex_some]
  obtain ⟨d, hd, md⟩ := item_mod (xs := [.lst [.str "ann", .str "bob", .str "cy", .str "dot"], .lst [.str "zed", .str "al", .str "mo", .str "b"], .lst [.str "p", .str "src", .str "who", .str "x"]]) (a := x0) (n := 3) rfl (by decide)
  refine ⟨d, hd, d, rfl, ?_⟩
  simp only [List.mem_cons, List.not_mem_nil, or_false] at md
  rcases md with rfl | rfl | rfl
  · exact ⟨["ann", "bob", "cy", "dot"], rfl, rfl, by decide +kernel⟩
  · exact ⟨["zed", "al", "mo", "b"], rfl, rfl, by decide +kernel⟩
  · exact ⟨["p", "src", "who", "x"], rfl, rfl, by decide +kernel⟩
theorem item_folk {fs : List Str} {a : Int} (h : FolkOk fs) : ∃ x, itemD (.lst (fs.map .str)) (.int (a % 4)) = some (.str x) ∧ nameB (.str x) = true ∧ x ∈ folkAll := by
  obtain ⟨d, hd, md⟩ := item_mod (xs := fs.map .str) (a := a) (n := 4) (by rw [List.length_map]; exact h.1) (by decide)
  obtain ⟨x, hx, rfl⟩ := List.mem_map.mp md
  exact ⟨x, hd, h.2 x hx⟩
theorem law_permit_eq {ds : List Int} {fs : List Str} {kn : Int} {S : Store} (hl : 6 ≤ ds.length) (hf : FolkOk fs) (hk : 0 ≤ kn ∧ kn ≤ 999) :
    ∃ d, f__law_permit [.lst (ds.map .int), .lst (fs.map .str), .int kn] S = some (.ok d S) ∧ ∃ p : Pm, d = permD p ∧ PmOk p ∧ p.known = kn ∧ Told p := by
  refine fn0_ex rfl ?_
  obtain ⟨x0, e0⟩ := item_d (ds := ds) (n := 0) (by omega)
  obtain ⟨x1, e1⟩ := item_d (ds := ds) (n := 1) (by omega)
  obtain ⟨x2, e2⟩ := item_d (ds := ds) (n := 2) (by omega)
  obtain ⟨x3, e3⟩ := item_d (ds := ds) (n := 3) (by omega)
  obtain ⟨x4, e4⟩ := item_d (ds := ds) (n := 4) (by omega)
  obtain ⟨x5, e5⟩ := item_d (ds := ds) (n := 5) (by omega)
  have e0 : itemD (.lst (ds.map .int)) (.int 0) = some (.int x0) := e0
  have e1 : itemD (.lst (ds.map .int)) (.int 1) = some (.int x1) := e1
  have e2 : itemD (.lst (ds.map .int)) (.int 2) = some (.int x2) := e2
  have e3 : itemD (.lst (ds.map .int)) (.int 3) = some (.int x3) := e3
  have e4 : itemD (.lst (ds.map .int)) (.int 4) = some (.int x4) := e4
  have e5 : itemD (.lst (ds.map .int)) (.int 5) = some (.int x5) := e5
  obtain ⟨w, hw, nw, mw⟩ := item_folk (a := x0) hf
  obtain ⟨q, hq, mq⟩ := item_mod (xs := [.str "care", .str "study"]) (a := x1) (n := 2) rfl (by decide)
  have hq : itemD (.lst [.str "care", .str "study"]) (.int (x1 % 2)) = some q := hq
  obtain ⟨qs, rfl, nq, mq2⟩ : ∃ qs, q = .str qs ∧ nameB (.str qs) = true ∧ qs ∈ folkAll := by
    simp only [List.mem_cons, List.not_mem_nil, or_false] at mq
    rcases mq with rfl | rfl
    · exact ⟨_, rfl, by decide +kernel⟩
    · exact ⟨_, rfl, by decide +kernel⟩
  have s5 := emod_lt (a := x2) (b := 5) (by decide)
  have t5 := emod_lt (a := x3) (b := 5) (by decide)
  obtain ⟨tl, htl, mtl⟩ := item_mod (xs := [.non, .non, .int (x2 % 5 + 1 + x3 % 5)]) (a := x4) (n := 3) rfl (by decide)
  have htl : itemD (.lst [.non, .non, .int (x2 % 5 + 1 + x3 % 5)]) (.int (x4 % 3)) = some tl := htl
  obtain ⟨to, rfl, hto⟩ : ∃ to, tl = tillD to ∧ ∀ t, to = some t → 0 ≤ t ∧ t ≤ 999 ∧ x2 % 5 < t := by
    simp only [List.mem_cons, List.not_mem_nil, or_false] at mtl
    rcases mtl with rfl | rfl | rfl
    · exact ⟨none, rfl, fun t h => by cases h⟩
    · exact ⟨none, rfl, fun t h => by cases h⟩
    · exact ⟨some _, rfl, fun t h => by cases h; omega⟩
  obtain ⟨wo, hwo, mwo⟩ := item_mod (xs := [.str "allow", .str "allow", .str "withdraw"]) (a := x5) (n := 3) rfl (by decide)
  have hwo : itemD (.lst [.str "allow", .str "allow", .str "withdraw"]) (.int (x5 % 3)) = some wo := hwo
  obtain ⟨ws, rfl, hws⟩ : ∃ ws, wo = .str ws ∧ (ws = "allow" ∨ ws = "withdraw") := by
    simp only [List.mem_cons, List.not_mem_nil, or_false] at mwo
    rcases mwo with rfl | rfl | rfl
    · exact ⟨_, rfl, .inl rfl⟩
    · exact ⟨_, rfl, .inl rfl⟩
    · exact ⟨_, rfl, .inr rfl⟩
  have z2 : 2 ≤ sizeLine := by rw [sizeLine_eq]; decide
  have z3 : 3 ≤ sizeLine := by rw [sizeLine_eq]; decide
  have z6 : 6 ≤ sizeLine := by rw [sizeLine_eq]; decide
  unfold m__law_permit
  simp (maxSteps := 2000000) only [ev_ret, ev_bind, ev_lift, ev_ite, ev_var, ev_const, ev_op2, ev_test, ev_opC, ev_rngV, ev_args0, ev_args, ev_frz, ev_callF, ev_seq, nxt_nx, nxt_rt, nxt_bk, nxt_ct, ev_nop, ev_retV, ev_dropV, ev_ifS, ev_iteV, ev_andT, ev_orT, ev_notT, ev_andV, ev_orV, ev_notV, ev_chain, ev_tupV, ev_lstN, ev_put, ev_setV, ev_setO, ev_iterV, ev_negV, ev_revV, ev_listN, ev_sortN, ev_rgN1, ev_enumV, ev_noPart, ev_part, ev_sliceV, ev_par2, ev_freeze, ev_methI, ev_lenO, ev_forS, ev_lc, ev_sc, ev_yes, ev_op2S, ev_opCS, ev_newL, ev_callK, ev_methK, ev_makeK, ev_fldV, ev_setFld, ev_boxL, ev_appB, ev_fail, ex_ret, ex_some, toB_bl, frame, List.map_cons, List.map_nil, List.length_cons, List.length_nil, List.replicate, List.cons_append, List.nil_append, List.getElem?_cons_zero, List.getElem?_cons_succ, slD, Nat.reduceSub, Nat.reduceAdd, List.set_cons_zero, List.set_cons_succ, List.length_set, e0, e1, e2, e3, e4, e5, mod_ii (a := x0) (b := 4) (by decide), mod_ii (a := x1) (b := 2) (by decide), mod_ii (a := x2) (b := 5) (by decide), mod_ii (a := x3) (b := 5) (by decide), mod_ii (a := x4) (b := 3) (by decide), mod_ii (a := x5) (b := 3) (by decide), hw, hq, hwo, z2, z3, z6, true_and, ex_some, add_ii, Nat.reduceLT]
  refine ⟨_, _, rfl, ?_⟩
  simp (maxSteps := 2000000) only [ev_ret, ev_bind, ev_lift, ev_ite, ev_var, ev_const, ev_op2, ev_test, ev_opC, ev_rngV, ev_args0, ev_args, ev_frz, ev_callF, ev_seq, nxt_nx, nxt_rt, nxt_bk, nxt_ct, ev_nop, ev_retV, ev_dropV, ev_ifS, ev_iteV, ev_andT, ev_orT, ev_notT, ev_andV, ev_orV, ev_notV, ev_chain, ev_tupV, ev_lstN, ev_put, ev_setV, ev_setO, ev_iterV, ev_negV, ev_revV, ev_listN, ev_sortN, ev_rgN1, ev_enumV, ev_noPart, ev_part, ev_sliceV, ev_par2, ev_freeze, ev_methI, ev_lenO, ev_forS, ev_lc, ev_sc, ev_yes, ev_op2S, ev_opCS, ev_newL, ev_callK, ev_methK, ev_makeK, ev_fldV, ev_setFld, ev_boxL, ev_appB, ev_fail, ex_ret, ex_some, toB_bl, frame, List.map_cons, List.map_nil, List.length_cons, List.length_nil, List.replicate, List.cons_append, List.nil_append, List.getElem?_cons_zero, List.getElem?_cons_succ, slD, Nat.reduceSub, Nat.reduceAdd, List.set_cons_zero, List.set_cons_succ, List.length_set, e0, e1, e2, e3, e4, e5, mod_ii (a := x0) (b := 4) (by decide), mod_ii (a := x1) (b := 2) (by decide), mod_ii (a := x2) (b := 5) (by decide), mod_ii (a := x3) (b := 5) (by decide), mod_ii (a := x4) (b := 3) (by decide), mod_ii (a := x5) (b := 3) (by decide), hw, hq, hwo, htl, z2, z3, z6, true_and, ex_some, add_ii, Nat.reduceLT]
  exact ⟨_, rfl, ⟨w, qs, ws, x2 % 5, to, kn⟩, rfl, ⟨nw, nq, hws, ⟨by show 0 ≤ x2 % 5; omega, by show x2 % 5 ≤ 999; omega⟩, hto, hk⟩, rfl, mw, mq2⟩
def Mono (ps : List Pm) : Prop := ∀ i p, ps[i]? = some p → lastKnown (ps.take i) ≤ p.known
theorem mono_snoc {ps : List Pm} {p : Pm} (h : Mono ps) (hl : lastKnown ps ≤ p.known) : Mono (ps ++ [p]) := by
  intro i q hq
  by_cases hi : i < ps.length
  · rw [List.getElem?_append_left hi] at hq
    rw [List.take_append_of_le_length (by omega)]
    exact h i q hq
  · rw [List.getElem?_append_right (by omega)] at hq
    by_cases h0 : i - ps.length = 0
    · rw [h0] at hq
      simp at hq
      subst hq
      have : i = ps.length := by omega
      subst this
      rw [List.take_append_of_le_length (Nat.le_refl _), List.take_length]
      exact hl
    · rw [List.getElem?_eq_none_iff.mpr (by simp; omega)] at hq
      cases hq
theorem last_snoc {ps : List Pm} {p : Pm} : lastKnown (ps ++ [p]) = p.known := by simp [lastKnown]
theorem law_permits_eq {ds : List Int} {fs : List Str} {n : Nat} {S : Store} (hn : n ≤ 12) (hl : 100 ≤ ds.length) (hf : FolkOk fs) :
    ∃ d, f__law_permits [.lst (ds.map .int), .lst (fs.map .str), .int n] S = some (.ok d S) ∧ ∃ ps : List Pm, d = .lst (ps.map permD) ∧ ps.length = n ∧ (∀ p ∈ ps, PmOk p ∧ p.known ≤ 100 ∧ Told p) ∧ Mono ps := by
  refine fn0_ex rfl ?_
  obtain ⟨x0, e0⟩ := item_d (ds := ds) (n := 0) (by omega)
  have e0 : itemD (.lst (ds.map .int)) (.int 0) = some (.int x0) := e0
  have m3 := emod_lt (a := x0) (b := 3) (by decide)
  have z0 : 0 ≤ sizeLine := Nat.zero_le _
  have z4 : 4 ≤ sizeLine := by rw [sizeLine_eq]; decide
  have r1 : rng1 [.int n] = some (rngL 0 n) := by unfold rng1; exact if_pos ⟨by omega, by omega⟩
  unfold m__law_permits
  simp (maxSteps := 2000000) only [ev_ret, ev_bind, ev_lift, ev_ite, ev_var, ev_const, ev_op2, ev_test, ev_opC, ev_rngV, ev_args0, ev_args, ev_frz, ev_callF, ev_seq, nxt_nx, nxt_rt, nxt_bk, nxt_ct, ev_nop, ev_retV, ev_dropV, ev_ifS, ev_iteV, ev_andT, ev_orT, ev_notT, ev_andV, ev_orV, ev_notV, ev_chain, ev_tupV, ev_lstN, ev_put, ev_setV, ev_setO, ev_iterV, ev_negV, ev_revV, ev_listN, ev_sortN, ev_rgN1, ev_enumV, ev_noPart, ev_part, ev_sliceV, ev_par2, ev_freeze, ev_methI, ev_lenO, ev_forS, ev_lc, ev_sc, ev_yes, ev_op2S, ev_opCS, ev_newL, ev_callK, ev_methK, ev_makeK, ev_fldV, ev_setFld, ev_boxL, ev_appB, ev_fail, ex_ret, ex_some, toB_bl, frame, List.map_cons, List.map_nil, List.length_cons, List.length_nil, List.replicate, List.cons_append, List.nil_append, List.getElem?_cons_zero, List.getElem?_cons_succ, slD, Nat.reduceSub, Nat.reduceAdd, List.set_cons_zero, List.set_cons_succ, List.length_set, e0, z0, true_and, mod_ii (a := x0) (b := 3) (by decide), r1, ex_some, Nat.reduceLT]
  refine ev_forL (fun r η S' => ∃ (i : Nat) (ps : List Pm) (hd : Int) (s5 : Sl), r = (rngL 0 n).drop i ∧ i ≤ n ∧ ps.length = i ∧ (∀ p ∈ ps, PmOk p ∧ p.known ≤ 100 ∧ Told p) ∧ Mono ps ∧ lastKnown ps ≤ hd ∧ 0 ≤ hd ∧ hd ≤ 2 + 2 * i ∧
    η = [.val (.lst (ds.map .int)), .val (.lst (fs.map .str)), .val (.int n), .own (.lst (ps.map permD)), .val (.int hd), s5] ∧ S' = S) _ _ _ ⟨0, [], x0 % 3, .un, rfl, Nat.zero_le _, rfl, by simp, fun i p h => by simp at h, by show (0 : Int) ≤ _; omega, m3.1, by omega, rfl, rfl⟩ ?_ ?_
  · rintro d r η S' ⟨i, ps, hd, s5, hr, hi, hpl, hok, hmo, hlk, h0, h2, rfl, rfl⟩
    have hlt : i < n := by
      have := congrArg List.length hr
      rw [List.length_drop, rng_len, List.length_cons] at this
      omega
    rw [rng_drop hlt] at hr
    obtain ⟨rfl, rfl⟩ := List.cons.inj hr
    refine ⟨[.val (.lst (ds.map .int)), .val (.lst (fs.map .str)), .val (.int n), .own (.lst (ps.map permD)), .val (.int hd), .val (.int i)], rfl, ?_⟩
    have m7 : mulA (.int 7) (.int i) = some (.int (7 * i)) := mul_ii (.inl ⟨by decide, by decide⟩)
    have c1 : (7 : Int) * i + 1 = ((7 * i + 1 : Nat) : Int) := by omega
    have c7 : (7 : Int) * i + 7 = ((7 * i + 7 : Nat) : Int) := by omega
    have hcut : cutD (.lst (ds.map .int)) (some ((7 : Int) * i + 1)) (some ((7 : Int) * i + 7)) = some (.lst (((ds.drop (7 * i + 1)).take 6).map .int)) := by
      simp only [cutD]
      rw [c1, c7, cut_mid (by rw [List.length_map]; omega) (by omega), show 7 * i + 7 - (7 * i + 1) = 6 from by omega, ← List.map_drop, ← List.map_take]
    obtain ⟨pd, hpd, p, rfl, hpo, hpk, hpt⟩ := law_permit_eq (ds := (ds.drop (7 * i + 1)).take 6) (fs := fs) (kn := hd) (S := S') (by rw [List.length_take, List.length_drop]; omega) hf ⟨h0, by omega⟩
    obtain ⟨x7, e7⟩ := item_d (ds := ds) (n := 7 * i + 7) (by omega)
    have e7 : itemD (.lst (ds.map .int)) (.int ((7 : Int) * i + 7)) = some (.int x7) := by rw [c7]; exact e7
    obtain ⟨y, hy, my⟩ := item_mod (xs := [.int 0, .int 0, .int 1, .int 2]) (a := x7) (n := 4) rfl (by decide)
    have hy : itemD (.lst [.int 0, .int 0, .int 1, .int 2]) (.int (x7 % 4)) = some y := hy
    obtain ⟨z, rfl, hz⟩ : ∃ z, y = .int z ∧ 0 ≤ z ∧ z ≤ 2 := by
      simp only [List.mem_cons, List.not_mem_nil, or_false] at my
      rcases my with rfl | rfl | rfl | rfl
      · exact ⟨_, rfl, by decide⟩
      · exact ⟨_, rfl, by decide⟩
      · exact ⟨_, rfl, by decide⟩
      · exact ⟨_, rfl, by decide⟩
    simp (maxSteps := 2000000) only [ev_ret, ev_bind, ev_lift, ev_ite, ev_var, ev_const, ev_op2, ev_test, ev_opC, ev_rngV, ev_args0, ev_args, ev_frz, ev_callF, ev_seq, nxt_nx, nxt_rt, nxt_bk, nxt_ct, ev_nop, ev_retV, ev_dropV, ev_ifS, ev_iteV, ev_andT, ev_orT, ev_notT, ev_andV, ev_orV, ev_notV, ev_chain, ev_tupV, ev_lstN, ev_put, ev_setV, ev_setO, ev_iterV, ev_negV, ev_revV, ev_listN, ev_sortN, ev_rgN1, ev_enumV, ev_noPart, ev_part, ev_sliceV, ev_par2, ev_freeze, ev_methI, ev_lenO, ev_forS, ev_lc, ev_sc, ev_yes, ev_op2S, ev_opCS, ev_newL, ev_callK, ev_methK, ev_makeK, ev_fldV, ev_setFld, ev_boxL, ev_appB, ev_fail, ex_ret, ex_some, toB_bl, frame, List.map_cons, List.map_nil, List.length_cons, List.length_nil, List.replicate, List.cons_append, List.nil_append, List.getElem?_cons_zero, List.getElem?_cons_succ, slD, Nat.reduceSub, Nat.reduceAdd, List.set_cons_zero, List.set_cons_succ, List.length_set, ownL, m7, add_ii, partD, hcut, hpd, e7, mod_ii (a := x7) (b := 4) (by decide), hy, z4, true_and, ex_some, Nat.reduceLT]
    refine ⟨_, app_i (by rw [List.length_map, sizeLine_eq]; omega), ?_⟩
    simp (maxSteps := 2000000) only [ev_ret, ev_bind, ev_lift, ev_ite, ev_var, ev_const, ev_op2, ev_test, ev_opC, ev_rngV, ev_args0, ev_args, ev_frz, ev_callF, ev_seq, nxt_nx, nxt_rt, nxt_bk, nxt_ct, ev_nop, ev_retV, ev_dropV, ev_ifS, ev_iteV, ev_andT, ev_orT, ev_notT, ev_andV, ev_orV, ev_notV, ev_chain, ev_tupV, ev_lstN, ev_put, ev_setV, ev_setO, ev_iterV, ev_negV, ev_revV, ev_listN, ev_sortN, ev_rgN1, ev_enumV, ev_noPart, ev_part, ev_sliceV, ev_par2, ev_freeze, ev_methI, ev_lenO, ev_forS, ev_lc, ev_sc, ev_yes, ev_op2S, ev_opCS, ev_newL, ev_callK, ev_methK, ev_makeK, ev_fldV, ev_setFld, ev_boxL, ev_appB, ev_fail, ex_ret, ex_some, toB_bl, frame, List.map_cons, List.map_nil, List.length_cons, List.length_nil, List.replicate, List.cons_append, List.nil_append, List.getElem?_cons_zero, List.getElem?_cons_succ, slD, Nat.reduceSub, Nat.reduceAdd, List.set_cons_zero, List.set_cons_succ, List.length_set, ownL, m7, add_ii, partD, hcut, hpd, e7, mod_ii (a := x7) (b := 4) (by decide), hy, z4, true_and, ex_some, Nat.reduceLT]
    refine ⟨i + 1, ps ++ [p], hd + z, _, rfl, hlt, by simp [hpl], fun q hq => ?_, mono_snoc hmo (by rw [hpk]; exact hlk), by rw [last_snoc, hpk]; omega, by omega, by omega, by rw [List.map_append]; rfl, trivial⟩
    rcases List.mem_append.mp hq with hq | hq
    · exact hok q hq
    · rw [List.mem_singleton.mp hq]; exact ⟨hpo, by rw [hpk]; omega, hpt⟩
  · rintro η S' ⟨i, ps, hd, s5, hr, hi, hpl, hok, hmo, hlk, h0, h2, rfl, rfl⟩
    have hge : n ≤ i := by
      have := congrArg List.length hr
      rw [List.length_drop, rng_len, List.length_nil] at this
      omega
    simp (maxSteps := 2000000) only [ev_ret, ev_bind, ev_lift, ev_ite, ev_var, ev_const, ev_op2, ev_test, ev_opC, ev_rngV, ev_args0, ev_args, ev_frz, ev_callF, ev_seq, nxt_nx, nxt_rt, nxt_bk, nxt_ct, ev_nop, ev_retV, ev_dropV, ev_ifS, ev_iteV, ev_andT, ev_orT, ev_notT, ev_andV, ev_orV, ev_notV, ev_chain, ev_tupV, ev_lstN, ev_put, ev_setV, ev_setO, ev_iterV, ev_negV, ev_revV, ev_listN, ev_sortN, ev_rgN1, ev_enumV, ev_noPart, ev_part, ev_sliceV, ev_par2, ev_freeze, ev_methI, ev_lenO, ev_forS, ev_lc, ev_sc, ev_yes, ev_op2S, ev_opCS, ev_newL, ev_callK, ev_methK, ev_makeK, ev_fldV, ev_setFld, ev_boxL, ev_appB, ev_fail, ex_ret, ex_some, toB_bl, frame, List.map_cons, List.map_nil, List.length_cons, List.length_nil, List.replicate, List.cons_append, List.nil_append, List.getElem?_cons_zero, List.getElem?_cons_succ, slD, Nat.reduceSub, Nat.reduceAdd, List.set_cons_zero, List.set_cons_succ, List.length_set, ownL, ex_some]
    exact ⟨_, rfl, trivial, ps, rfl, by omega, hok, hmo⟩
theorem book_put {S : Store} {b l : Nat} {ps : List Pm} {p : Pm} (h : BookAt S b l ps) (hb : b ≠ l) (hs : ps.length < 100) : BookAt (S.put l (.box (.lst ((ps ++ [p]).map permD)))) b l (ps ++ [p]) :=
  ⟨by rw [Store.get_put, if_neg hb]; exact h.ins, by rw [Store.get_put, if_pos rfl], by rw [List.length_append, List.length_singleton]; omega⟩
theorem toPs_perm : ∀ ps : List Pm, toPs (ps.map permD) = some (ps.map permP)
  | [] => by simp only [List.map_nil, toPs]
  | p :: ps => by
    have h1 : (permD p).toP = some (permP p) := by unfold permD permP; cases p.till <;> simp [D.toP, toPs, tillD, tillP]
    simp only [List.map_cons, toPs, h1, toPs_perm ps]
theorem eqv_perms : ∀ ps : List Pm, PyData.eqvAll (ps.map permP) (ps.map permP) = true
  | [] => by simp [PyData.eqvAll]
  | p :: ps => by
    have h1 : PyData.eqv (permP p) (permP p) = true := by unfold permP; cases p.till <;> simp [PyData.eqv, PyData.eqvAll, tillP]
    simp only [List.map_cons, PyData.eqvAll, h1, eqv_perms ps]; rfl
theorem neD_perms {ps : List Pm} : neD (.lst (ps.map permD)) (.lst (ps.map permD)) = some (.bl false) := by
  unfold neD eqP
  have hd : PyData.depth (.list (ps.map permP)) ≤ 64 := by
    have := depth_perms ps
    simp only [PyData.depth]; omega
  simp only [D.toP, toPs_perm, Option.map_some]
  rw [if_pos ⟨hd, hd⟩]
  simp only [PyData.eqv, eqv_perms]; rfl
theorem drop_perm {ps : List Pm} {i : Nat} {p : Pm} (h : ps[i]? = some p) : (ps.map permD).drop i = permD p :: (ps.map permD).drop (i + 1) := by
  have hi := (List.getElem?_eq_some_iff.mp h).1
  rw [List.drop_eq_getElem_cons (by rw [List.length_map]; exact hi)]
  congr 1
  rw [List.getElem_map]
  rw [(List.getElem?_eq_some_iff.mp h).2]
structure Keeps (S S' : Store) : Prop where
  size : S.size ≤ S'.size
  get : ∀ n, n < S.size → S'.get n = S.get n
theorem Keeps.refl {S : Store} : Keeps S S := ⟨Nat.le_refl _, fun _ _ => rfl⟩
theorem Keeps.trans {S S' S'' : Store} (a : Keeps S S') (b : Keeps S' S'') : Keeps S S'' := ⟨Nat.le_trans a.size b.size, fun n h => (b.get n (Nat.lt_of_lt_of_le h a.size)).trans (a.get n h)⟩
structure BookIn (S : Store) (b l : Nat) (ps : List Pm) : Prop extends BookAt S b l ps where
  ne : b ≠ l
  bs : b < S.size
  ls : l < S.size
theorem BookIn.keep {S S' : Store} {b l : Nat} {ps : List Pm} (h : BookIn S b l ps) (k : Keeps S S') : BookIn S' b l ps :=
  ⟨⟨(k.get b h.bs).trans h.ins, (k.get l h.ls).trans h.lst, h.short⟩, h.ne, Nat.lt_of_lt_of_le h.bs k.size, Nat.lt_of_lt_of_le h.ls k.size⟩
theorem init_in {S : Store} : ∃ S', f_Book___init__ [.ob S.size] (S.push (.ins "Book" [])) = some (.ok .non S') ∧ BookIn S' S.size (S.size + 1) [] ∧ Keeps S S' := by
  have h1 : ((S.push (.ins "Book" [])).push (.box (.lst []))).get S.size = some (.ins "Book" []) := by
    rw [Store.get_push, if_neg (by rw [Store.size_push]; omega), Store.get_push, if_pos rfl]
  have hp : putD ((S.push (.ins "Book" [])).push (.box (.lst []))) "Book" "own_permits" (.ob S.size) (.ob (S.size + 1)) = some (((S.push (.ins "Book" [])).push (.box (.lst []))).put S.size (.ins "Book" [("own_permits", .val (.ob (S.size + 1)))])) := by
    simp only [putD, h1]; rfl
  refine ⟨_, fn0_nx (S' := ((S.push (.ins "Book" [])).push (.box (.lst []))).put S.size (.ins "Book" [("own_permits", .val (.ob (S.size + 1)))])) rfl ?_, ⟨⟨?_, ?_, by simp⟩, by omega, ?_, ?_⟩, ?_, ?_⟩
  · unfold m_Book___init__
    have z0 : 0 ≤ sizeLine := Nat.zero_le _
    simp (maxSteps := 2000000) only [ev_ret, ev_bind, ev_lift, ev_ite, ev_var, ev_const, ev_op2, ev_test, ev_opC, ev_rngV, ev_args0, ev_args, ev_frz, ev_callF, ev_seq, nxt_nx, nxt_rt, nxt_bk, nxt_ct, ev_nop, ev_retV, ev_dropV, ev_ifS, ev_iteV, ev_andT, ev_orT, ev_notT, ev_andV, ev_orV, ev_notV, ev_chain, ev_tupV, ev_lstN, ev_put, ev_setV, ev_setO, ev_iterV, ev_negV, ev_revV, ev_listN, ev_sortN, ev_rgN1, ev_enumV, ev_noPart, ev_part, ev_sliceV, ev_par2, ev_freeze, ev_methI, ev_lenO, ev_forS, ev_lc, ev_sc, ev_yes, ev_op2S, ev_opCS, ev_newL, ev_callK, ev_methK, ev_makeK, ev_fldV, ev_setFld, ev_boxL, ev_appB, ev_fail, ex_ret, ex_some, toB_bl, frame, List.map_cons, List.map_nil, List.length_cons, List.length_nil, List.replicate, List.cons_append, List.nil_append, List.getElem?_cons_zero, List.getElem?_cons_succ, slD, Nat.reduceSub, Nat.reduceAdd, List.set_cons_zero, List.set_cons_succ, List.length_set, z0, true_and, Store.size_push, hp, ex_some]
  · rw [Store.get_put, if_pos rfl]
  · rw [Store.get_put, if_neg (by omega), Store.get_push, if_pos (by rw [Store.size_push])]; rfl
  · rw [Store.size_put, Store.size_push, Store.size_push]; omega
  · rw [Store.size_put, Store.size_push, Store.size_push]; omega
  · rw [Store.size_put, Store.size_push, Store.size_push]; omega
  · intro n hn
    rw [Store.get_put, if_neg (by omega), Store.get_push, if_neg (by rw [Store.size_push]; omega), Store.get_push, if_neg (by omega)]
theorem body_nx {n N : Nat} {m : M Fl} {ds : List D} {S S' : Store} (hl : ds.length = n) (h : ev m (frame N ds) S fun f _ S1 => f = .nx ∧ S1 = S') : bodyFn n N m ds S = some (.ok .non S') := by
  obtain ⟨a, η', S1, e, rfl, rfl⟩ := h
  unfold bodyFn
  rw [if_pos hl, e]
  rfl
theorem body_run {n N : Nat} {m : M Fl} {ds : List D} {S : Store} {d : D} {P : Store → Prop} (hl : ds.length = n) (h : ev m (frame N ds) S fun f _ S' => f = .rt d ∧ P S') : ∃ S', bodyFn n N m ds S = some (.ok d S') ∧ P S' := by
  obtain ⟨a, η', S', e, rfl, hp⟩ := h
  refine ⟨S', ?_, hp⟩
  unfold bodyFn
  rw [if_pos hl, e]
  rfl
theorem body_ex {n N : Nat} {m : M Fl} {ds : List D} {S S' : Store} {x : Exn} {η' : Sls} (hl : ds.length = n) (h : m (frame N ds) S = some (.ex x η' S')) : bodyFn n N m ds S = some (.ex x S') := by
  unfold bodyFn
  rw [if_pos hl, h]
  rfl
theorem fn0_run {n N : Nat} {m : M Fl} {ds : List D} {S : Store} {d : D} {P : Store → Prop} (hl : ds.length = n) (h : ev m (frame N ds) S fun f _ S' => f = .rt d ∧ P S') : ∃ S', fn0 n N m ds S = some (.ok d S') ∧ P S' := by
  obtain ⟨a, η', S', e, rfl, hp⟩ := h
  refine ⟨S', ?_, hp⟩
  unfold fn0
  rw [if_pos hl, e]
  rfl
theorem ifS_ex {t : M Bool} {a b : M Fl} {η η1 η' : Sls} {S S1 S' : Store} {x : Exn} (ht : t η S = some (.ok true η1 S1)) (ha : a η1 S1 = some (.ex x η' S')) : ifS t a b η S = some (.ex x η' S') := by
  unfold ifS M.bind
  rw [ht]
  exact ha
theorem ifS_go {t : M Bool} {a b : M Fl} {η η1 : Sls} {S S1 : Store} {c : Bool} {r : Option (Res Fl)} (ht : t η S = some (.ok c η1 S1)) (hr : (if c = true then a else b) η1 S1 = r) : ifS t a b η S = r := by
  unfold ifS M.bind
  rw [ht]
  exact hr
theorem seqS_ex {a b : M Fl} {η η' : Sls} {S S' : Store} {x : Exn} (ha : a η S = some (.ex x η' S')) : seqS a b η S = some (.ex x η' S') := by
  unfold seqS M.bind
  rw [ha]
theorem dropV_ex {m : M D} {η η' : Sls} {S S' : Store} {x : Exn} (h : m η S = some (.ex x η' S')) : dropV m η S = some (.ex x η' S') := by
  unfold dropV M.bind
  rw [h]
theorem eq_str {x y : Str} : eqD (.str x) (.str y) = some (.bl (decide (x = y))) := by
  unfold eqD eqP
  simp [D.toP, PyData.depth, PyData.eqv]
  by_cases h : x = y <;> simp [h]
theorem ne_str {x y : Str} : neD (.str x) (.str y) = some (.bl (!decide (x = y))) := by
  unfold neD eqP
  simp [D.toP, PyData.depth, PyData.eqv]
  by_cases h : x = y <;> simp [h]
end Z
namespace Z
open PySem L2 Y
/-! data that can be shown: depth at most k, size at most n -/
def leafStrs1 : List Str := ["5", "", "ann", "Ann", "ninechars", "a b", "allow", "Allow", "withdraw", "ann\n", "permit", "care", "study"]
def leafStrs2 : List Str := ["bob", "cy", "dot", "zed", "al", "mo", "b", "p", "src", "who", "x"]
def leafStrs : List Str := leafStrs1 ++ leafStrs2
inductive Leaf : D → Prop
  | non : Leaf .non
  | bl (b : Bool) : Leaf (.bl b)
  | int {i : Int} : -1 ≤ i → i ≤ 1000 → Leaf (.int i)
  | str {x : Str} : x ∈ leafStrs → Leaf (.str x)
  | dd : Leaf (.dd [])
mutual
inductive G : Nat → Nat → D → Prop
  | leaf {k n : Nat} {d : D} : Leaf d → 0 < n → G k n d
  | tup {k k' n m : Nat} {xs : List D} : GL k m xs → k < k' → m < n → G k' n (.tup xs)
  | lst {k k' n m : Nat} {xs : List D} : GL k m xs → k < k' → m < n → G k' n (.lst xs)
inductive GL : Nat → Nat → List D → Prop
  | nil {k n : Nat} : GL k n []
  | cons {k a b n : Nat} {x : D} {xs : List D} : G k a x → GL k b xs → a + b ≤ n → GL k n (x :: xs)
end
theorem G.pos {k n : Nat} {d : D} (h : G k n d) : 0 < n := by cases h <;> omega
theorem G.mono {k n k' n' : Nat} {d : D} (h : G k n d) (hk : k ≤ k') (hn : n ≤ n') : G k' n' d := by
  cases h with
  | leaf l p => exact .leaf l (by omega)
  | tup g a b => exact .tup g (by omega) (by omega)
  | lst g a b => exact .lst g (by omega) (by omega)
theorem GL.mono {k k' n' : Nat} (hk : k ≤ k') : ∀ {n : Nat} {xs : List D}, GL k n xs → n ≤ n' → GL k' n' xs
  | _, _, .nil, _ => .nil
  | _, _, .cons (a := a) (b := b) h t e, hn => .cons (h.mono hk (Nat.le_refl _)) (GL.mono (n' := b) hk t (Nat.le_refl _)) (by omega)
theorem GL.append {k : Nat} : ∀ {n m : Nat} {xs ys : List D}, GL k n xs → GL k m ys → GL k (n + m) (xs ++ ys)
  | n, m, _, _, .nil, g => g.mono (Nat.le_refl _) (by omega)
  | n, m, _, _, .cons h t e, g => .cons h (GL.append t g) (by omega)
theorem GL.take {k : Nat} : ∀ {n : Nat} {xs : List D} (i : Nat), GL k n xs → GL k n (xs.take i)
  | _, _, 0, _ => .nil
  | _, _, _ + 1, .nil => .nil
  | _, _, i + 1, .cons h t e => .cons h (GL.take i t) e
theorem GL.drop {k : Nat} : ∀ {n : Nat} {xs : List D} (i : Nat), GL k n xs → GL k n (xs.drop i)
  | _, _, 0, h => h
  | _, _, _ + 1, .nil => .nil
  | _, _, i + 1, .cons h t e => GL.drop i (t.mono (Nat.le_refl _) (by omega))
theorem GL.get {k : Nat} : ∀ {n : Nat} {xs : List D} {x : D}, GL k n xs → x ∈ xs → G k n x
  | _, _, _, .nil, h => by simp at h
  | _, _, _, .cons g t e, h => by
    rcases List.mem_cons.mp h with rfl | h
    · exact g.mono (Nat.le_refl _) (by omega)
    · exact (GL.get t h).mono (Nat.le_refl _) (by omega)
theorem GL.len {k : Nat} : ∀ {n : Nat} {xs : List D}, GL k n xs → xs.length ≤ n
  | _, _, .nil => by simp
  | _, _, .cons g t e => by have := GL.len t; have := g.pos; simp; omega
theorem GL.of {k m : Nat} : ∀ {xs : List D}, (∀ x ∈ xs, G k m x) → GL k (xs.length * m) xs
  | [], _ => .nil
  | x :: xs, h => .cons (h x (by simp)) (GL.of fun y hy => h y (by simp [hy])) (by rw [List.length_cons, Nat.succ_mul]; omega)
/-! texts -/
def hd (x : Str) : Option Nat := x.cps.toList.head?
theorem len_app (a b : Str) : (a ++ b).length = a.length + b.length := Array.size_append
theorem cps_app (a b : Str) : (a ++ b).cps.toList = a.cps.toList ++ b.cps.toList := by
  show (a.cps ++ b.cps).toList = _
  simp
theorem hd_app {a b : Str} {c : Nat} (h : hd a = some c) : hd (a ++ b) = some c := by
  unfold hd at h ⊢
  rw [cps_app, List.head?_append, h]; rfl
theorem ok_app {a b : Str} (h : PyData.strOk a = true) (h' : PyData.strOk b = true) : PyData.strOk (a ++ b) = true := strOk_append h h'
def sumL (ts : List Str) : Nat := (ts.map fun t => t.length + 2).sum
theorem textFrom_sh : ∀ (ts : List Str) (k : Nat) (acc : Str) (c : Nat), PyData.strOk acc = true → (∀ t ∈ ts, PyData.strOk t = true) → hd acc = some c →
    PyData.strOk (textFrom k acc ts) = true ∧ hd (textFrom k acc ts) = some c ∧ (textFrom k acc ts).length ≤ acc.length + sumL ts
  | [], _, acc, c, h, _, hc => ⟨h, hc, by show acc.length ≤ acc.length + 0; omega⟩
  | t :: r, k, acc, c, h, ht, hc => by
    have ok : PyData.strOk (acc ++ (if k > 0 then ", " else "" : String) ++ t) = true := by
      refine ok_app (ok_app h ?_) (ht t (by simp))
      split <;> decide +kernel
    obtain ⟨h1, h2, h3⟩ := textFrom_sh r (k + 1) (acc ++ (if k > 0 then ", " else "" : String) ++ t) c ok (fun x hx => ht x (by simp [hx])) (hd_app (hd_app hc))
    refine ⟨h1, h2, Nat.le_trans h3 ?_⟩
    rw [len_app, len_app]
    have : (Str.ofString (if k > 0 then ", " else "")).length ≤ 2 := by split <;> decide +kernel
    have e : sumL (t :: r) = t.length + 2 + sumL r := by simp [sumL]
    rw [e]
    have e2 : ((if k > 0 then ", " else "" : String) : Str) = Str.ofString (if k > 0 then ", " else "") := by split <;> rfl
    rw [e2]
    omega
theorem listText_sh {ts : List Str} (ht : ∀ t ∈ ts, PyData.strOk t = true) : PyData.strOk (listText ts) = true ∧ hd (listText ts) = some 91 ∧ (listText ts).length ≤ 2 + sumL ts := by
  obtain ⟨h1, h2, h3⟩ := textFrom_sh ts 0 "[" 91 (by decide +kernel) ht (by decide +kernel)
  refine ⟨ok_app h1 (by decide +kernel), hd_app h2, ?_⟩
  unfold listText
  rw [len_app]
  have e1 : ("[" : Str).length = 1 := by decide +kernel
  have e2 : ("]" : Str).length = 1 := by decide +kernel
  rw [e1] at h3
  omega
theorem join_sh : ∀ (ts : List Str), (∀ t ∈ ts, PyData.strOk t = true) → PyData.strOk (Str.join ", " ts) = true ∧ (Str.join ", " ts).length ≤ sumL ts
  | [], _ => ⟨by decide +kernel, by decide +kernel⟩
  | [x], h => ⟨h x (by simp), by show x.length ≤ _; simp [sumL]⟩
  | x :: y :: r, h => by
    obtain ⟨h1, h2⟩ := join_sh (y :: r) fun t ht => h t (by simp [List.mem_cons.mp ht])
    have e : Str.join ", " (x :: y :: r) = x ++ ", " ++ Str.join ", " (y :: r) := rfl
    refine ⟨by rw [e]; exact ok_app (ok_app (h x (by simp)) (by decide +kernel)) h1, ?_⟩
    rw [e, len_app, len_app]
    have e2 : (", " : Str).length = 2 := by decide +kernel
    have e3 : sumL (x :: y :: r) = x.length + 2 + sumL (y :: r) := by simp [sumL]
    rw [e2, e3]; omega
theorem tupleText_sh {ts : List Str} (ht : ∀ t ∈ ts, PyData.strOk t = true) : PyData.strOk (tupleText ts) = true ∧ hd (tupleText ts) = some 40 ∧ (tupleText ts).length ≤ 3 + sumL ts := by
  obtain ⟨h1, h2⟩ := join_sh ts ht
  unfold tupleText
  have e2 : ((if ts.length == 1 then ",)" else ")" : String) : Str).length ≤ 2 := by split <;> decide +kernel
  have e3 : PyData.strOk ((if ts.length == 1 then ",)" else ")" : String) : Str) = true := by split <;> decide +kernel
  refine ⟨ok_app (ok_app (by decide +kernel) h1) e3, hd_app (hd_app (by decide +kernel)), ?_⟩
  rw [len_app, len_app]
  have e1 : ("(" : Str).length = 1 := by decide +kernel
  rw [e1]; omega
/-! what is shown -/
structure Sh (k n : Nat) (d : D) (p : PyData) : Prop where
  to : d.toW = some p
  sh : p.showable = true
  dp : p.depth ≤ k + 1
  ln : p.shown.length + 5 ≤ 70 * n
  ok : PyData.strOk p.shown = true
structure ShL (k n : Nat) (ds : List D) (ps : List PyData) : Prop where
  to : toWs ds = some ps
  sh : PyData.showableAll ps = true
  dp : PyData.depthAll ps ≤ k + 1
  ln : sumL (PyData.shownAll ps) ≤ 70 * n
  ok : ∀ t ∈ PyData.shownAll ps, PyData.strOk t = true
theorem int_sh {i : Int} (h0 : -1 ≤ i) (h1 : i ≤ 1000) : (PyData.int i).showable = true ∧ (PyData.int i).depth ≤ 1 ∧ (PyData.int i).shown.length ≤ 60 ∧ PyData.strOk (PyData.int i).shown = true := by
  have h : ∀ n : Fin 1002, (PyData.int ((n.val : Int) - 1)).showable = true ∧ (PyData.int ((n.val : Int) - 1)).depth ≤ 1 ∧ (PyData.int ((n.val : Int) - 1)).shown.length ≤ 60 ∧ PyData.strOk (PyData.int ((n.val : Int) - 1)).shown = true := by decide +kernel
  obtain ⟨n, hn⟩ := Int.eq_ofNat_of_zero_le (a := i + 1) (by omega)
  have e : ((n : Int) - 1) = i := by omega
  have q := h ⟨n, by omega⟩
  simp only [e] at q
  exact q
theorem leaf_sh {d : D} (h : Leaf d) : ∃ p, d.toW = some p ∧ p.showable = true ∧ p.depth ≤ 1 ∧ p.shown.length ≤ 60 ∧ PyData.strOk p.shown = true := by
  cases h with
  | non => exact ⟨_, rfl, by decide +kernel⟩
  | bl b => exact ⟨_, rfl, by cases b <;> decide +kernel⟩
  | dd => exact ⟨_, rfl, by decide +kernel⟩
  | int h0 h1 =>
    refine ⟨_, rfl, ?_⟩
    exact int_sh h0 h1
  | str hx =>
    refine ⟨_, rfl, ?_⟩
    have : ∀ i ∈ leafStrs, (PyData.str i).showable = true ∧ (PyData.str i).depth ≤ 1 ∧ (PyData.str i).shown.length ≤ 60 ∧ PyData.strOk (PyData.str i).shown = true := by decide +kernel
    exact this _ hx
mutual
theorem G.shows : ∀ {k n : Nat} {d : D}, G k n d → ∃ p, Sh k n d p
  | _, _, _, .leaf l hn => by
    obtain ⟨p, h1, h2, h3, h4, h5⟩ := leaf_sh l
    exact ⟨p, h1, h2, by omega, by omega, h5⟩
  | _, _, _, .tup g hk hn => by
    obtain ⟨ps, h⟩ := GL.shows g
    obtain ⟨t1, t2, t3⟩ := tupleText_sh h.ok
    refine ⟨.tuple ps, by simp only [D.toW, h.to, Option.map_some], by simpa only [PyData.showable] using h.sh, by simp only [PyData.depth]; have := h.dp; omega, ?_, by simpa only [PyData.shown] using t1⟩
    simp only [PyData.shown]
    have := h.ln
    omega
  | _, _, _, .lst g hk hn => by
    obtain ⟨ps, h⟩ := GL.shows g
    obtain ⟨t1, t2, t3⟩ := listText_sh h.ok
    refine ⟨.list ps, by simp only [D.toW, h.to, Option.map_some], by simpa only [PyData.showable] using h.sh, by simp only [PyData.depth]; have := h.dp; omega, ?_, by simpa only [PyData.shown] using t1⟩
    simp only [PyData.shown]
    have := h.ln
    omega
theorem GL.shows : ∀ {k n : Nat} {ds : List D}, GL k n ds → ∃ ps, ShL k n ds ps
  | _, _, _, .nil => ⟨[], rfl, rfl, by simp [PyData.depthAll], by simp [PyData.shownAll, sumL], by simp [PyData.shownAll]⟩
  | _, _, _, .cons g t e => by
    obtain ⟨p, h⟩ := G.shows g
    obtain ⟨ps, q⟩ := GL.shows t
    refine ⟨p :: ps, by simp only [toWs, h.to, q.to], by simp only [PyData.showableAll, h.sh, q.sh, Bool.and_self], ?_, ?_, ?_⟩
    · simp only [PyData.depthAll]; have := h.dp; have := q.dp; omega
    · have e : sumL (PyData.shownAll (p :: ps)) = p.shown.length + 2 + sumL (PyData.shownAll ps) := by simp [sumL, PyData.shownAll]
      rw [e]; have := h.ln; have := q.ln; omega
    · intro x hx
      simp only [PyData.shownAll, List.mem_cons] at hx
      rcases hx with rfl | hx
      · exact h.ok
      · exact q.ok x hx
end
/-- repr of it -/
theorem G.repr {k n : Nat} {d : D} (h : G k n d) (hk : k ≤ 50) (hn : n ≤ 200000) : ∃ p, d.toW = some p ∧ reprW [d] = some (.str p.shown) := by
  obtain ⟨p, s⟩ := h.shows
  refine ⟨p, s.to, ?_⟩
  unfold reprW
  simp only [s.to, Option.bind_some]
  unfold showP
  rw [if_pos ⟨s.sh, Nat.le_trans s.dp (by omega), by have := s.ln; rw [sizeLine_eq]; omega, s.ok⟩]
def strIs (d : D) (x : Str) : Bool := match d with
  | .str y => y == x
  | _ => false
def quoted : List Str := ["allow", "withdraw"]
theorem repr_q {x : Str} (hx : x ∈ quoted) : reprW [.str x] = some (.str (reprText x)) := by
  have : ∀ x ∈ quoted, (PyData.str x).showable = true ∧ (PyData.str x).depth ≤ 60 ∧ (PyData.str x).shown.length ≤ sizeLine ∧ PyData.strOk (PyData.str x).shown = true := by rw [sizeLine_eq]; decide +kernel
  unfold reprW
  simp only [D.toW, Option.bind_some]
  unfold showP
  rw [if_pos (this x hx)]
  rfl
theorem hd_q {x : Str} (hx : x ∈ quoted) : hd (reprText x) = some 39 := by
  have : ∀ x ∈ quoted, hd (reprText x) = some 39 := by decide +kernel
  exact this x hx
/-- what is shown is this text's own just where it is this text -/
theorem G.shown_is {k n : Nat} {d : D} {p : PyData} {x : Str} (h : G k n d) (hp : d.toW = some p) (hx : x ∈ quoted) : (p.shown == reprText x) = strIs d x := by
  have hq := hd_q hx
  have no : ∀ c, hd p.shown = some c → c ≠ 39 → (p.shown == reprText x) = false := fun c hc ne => by
    rw [beq_eq_false_iff_ne]
    intro e
    rw [e, hq] at hc
    exact ne (Option.some.inj hc).symm
  cases h with
  | leaf l _ =>
    cases l with
    | non => cases hp; exact no 78 (by decide +kernel) (by decide)
    | bl b =>
      cases hp
      cases b
      · exact no 70 (by decide +kernel) (by decide)
      · exact no 84 (by decide +kernel) (by decide)
    | dd => cases hp; exact no 123 (by decide +kernel) (by decide)
    | @int i h0 h1 =>
      cases hp
      have h : ∀ n : Fin 1002, ∀ x ∈ quoted, ((PyData.int ((n.val : Int) - 1)).shown == reprText x) = false := by decide +kernel
      obtain ⟨n, hn⟩ := Int.eq_ofNat_of_zero_le (a := i + 1) (by omega)
      have e : ((n : Int) - 1) = i := by omega
      have q := h ⟨n, by omega⟩ x hx
      simp only [e] at q
      exact q
    | @str y hy =>
      cases hp
      have : ∀ y ∈ leafStrs, ∀ x ∈ quoted, ((PyData.str y).shown == reprText x) = (y == x) := by decide +kernel
      exact this y hy x hx
  | tup g _ _ =>
    obtain ⟨ps, q⟩ := g.shows
    simp only [D.toW, q.to, Option.map_some, Option.some.injEq] at hp
    subst hp
    exact no 40 (by simp only [PyData.shown]; exact (tupleText_sh q.ok).2.1) (by decide)
  | lst g _ _ =>
    obtain ⟨ps, q⟩ := g.shows
    simp only [D.toW, q.to, Option.map_some, Option.some.injEq] at hp
    subst hp
    exact no 91 (by simp only [PyData.shown]; exact (listText_sh q.ok).2.1) (by decide)
end Z
namespace Z
open PySem L2 Y
/-! put of anything: let in, or refused -/
theorem ge_ii {a b : Int} : geD (.int a) (.int b) = some (.bl (decide (b ≤ a))) := rfl
theorem It.of_perm {p : Pm} (h : PmOk p) : It (permD p) := by
  refine .tup (fun x hx => ?_) (by simp)
  simp only [List.mem_cons, List.not_mem_nil, or_false] at hx
  rcases hx with rfl | rfl | rfl | rfl | rfl | rfl
  · exact (cell_str h.who).2
  · exact (cell_str h.what).2
  · refine ⟨by simp [D.tyN], fun y e => ?_⟩
    cases e
    rcases h.word with e | e <;> rw [e, sizeLine_eq] <;> decide +kernel
  · exact (cell_int _).2
  · cases p.till with
    | none => exact cell_non.2
    | some t => exact (cell_int t).2
  · exact (cell_int _).2
theorem permB_perm {p : Pm} (h : PmOk p) : permB (permD p) = true := by
  have hw : wordB (.str p.word) = true := by
    rcases h.word with e | e <;> simp [wordB, e]
  have hs : momB (.int p.since) = true := by simp [momB, withinB, h.since.1, h.since.2]
  have hk : momB (.int p.known) = true := by simp [momB, withinB, h.known.1, h.known.2]
  have ht : tillB (.int p.since) (tillD p.till) = true := by
    cases q : p.till with
    | none => rfl
    | some t =>
      obtain ⟨t1, t2, t3⟩ := h.till t q
      simp [tillB, tillD, momB, withinB, ltB, t1, t2, t3, D.isNon]
  unfold permD permB
  simp only [h.who, h.what, hw, hs, hk, ht, Bool.and_self]
/-- what is a permission, is one -/
theorem perm_of {d : D} (h : permB d = true) : ∃ p, d = permD p ∧ PmOk p := by
  unfold permB at h
  split at h
  · rename_i a b c s t k
    simp only [Bool.and_eq_true] at h
    obtain ⟨⟨ha, hb⟩, ⟨hc, hs, hk⟩, ht⟩ := h
    cases a <;> first | (simp [nameB] at ha; done) | skip
    rename_i a
    cases b <;> first | (simp [nameB] at hb; done) | skip
    rename_i b
    cases c <;> first | (simp [wordB] at hc; done) | skip
    rename_i c
    cases s <;> first | (simp [momB, withinB] at hs; done) | skip
    rename_i s
    cases k <;> first | (simp [momB, withinB] at hk; done) | skip
    rename_i k
    simp only [wordB, Bool.or_eq_true, decide_eq_true_eq] at hc
    simp only [momB, withinB, Bool.and_eq_true, decide_eq_true_eq] at hs hk
    unfold tillB at ht
    simp only [Bool.or_eq_true, Bool.and_eq_true] at ht
    rcases ht with ht | ⟨ht, hlt⟩
    · cases t <;> first | (simp [D.isNon] at ht; done) | skip
      exact ⟨⟨a, b, c, s, none, k⟩, rfl, ha, hb, hc, hs, fun t h => (by cases h), hk⟩
    · cases t <;> first | (simp [momB, withinB] at ht; done) | skip
      rename_i t
      simp only [momB, withinB, Bool.and_eq_true, decide_eq_true_eq] at ht
      simp only [ltB, decide_eq_true_eq] at hlt
      exact ⟨⟨a, b, c, s, some t, k⟩, rfl, ha, hb, hc, hs, fun t' h => (by cases h; exact ⟨ht.1, ht.2, hlt⟩), hk⟩
  · cases h
section
variable {S : Store} {b l : Nat} {ps : List Pm} {d : D}
theorem put_from_let {p : Pm} (h : BookAt S b l ps) (hp : PmOk p) (hl : lastKnown ps ≤ p.known) (hs : ps.length < 100) :
    f_Book_put_from [.ob b, permD p, .int 0] S = some (.ok .non (S.put l (.box (.lst ((ps ++ [p]).map permD))))) := by
  refine body_vok rfl ?_
  unfold m_Book_put_from
  have hi := is_permission_eq (S := S) (It.of_perm hp)
  rw [permB_perm hp] at hi
  have h5 : itemD (permD p) (.int 5) = some (.int p.known) := rfl
  have hm := h.meth (mt := "least") (by decide +kernel)
  have hmx : maxD [.int 0, .int (lastKnown ps)] = some (.int (if lastKnown ps > 0 then lastKnown ps else 0)) := rfl
  have hlc : lstC S (.ob l) = some () := by simp only [lstC, h.lst]
  have hap : appS S (.ob l) [permD p] = some (S.put l (.box (.lst ((ps ++ [p]).map permD)))) := by
    simp only [appS, h.lst]
    rw [if_pos (by rw [List.length_map, sizeLine_eq]; omega), List.map_append]; rfl
  have hlt : decide (p.known < if lastKnown ps > 0 then lastKnown ps else 0) = false := by
    apply decide_eq_false
    have := hp.known.1
    split <;> omega
  simp (maxSteps := 2000000) only [vx_ret, vx_bind, vx_lift, vx_ite, vx_var, vx_const, vx_op2, vx_test, vx_opC, vx_rngV, vx_args0, vx_args, vx_frz, vx_callF, vx_seq, vx_nop, vx_retV, vx_dropV, vx_ifS, vx_iteV, vx_andT, vx_orT, vx_notT, vx_andV, vx_orV, vx_notV, vx_chain, vx_tupV, vx_lstN, vx_put, vx_setV, vx_setO, vx_iterV, vx_negV, vx_revV, vx_listN, vx_sortN, vx_rgN1, vx_enumV, vx_noPart, vx_part, vx_sliceV, vx_par2, vx_freeze, vx_methI, vx_lenO, vx_forS, vx_lc, vx_sc, vx_yes, vx_op2S, vx_opCS, vx_newL, vx_callK, vx_methK, vx_makeK, vx_fldV, vx_setFld, vx_boxL, vx_appB, vx_fail, nxt_nx, nxt_rt, nxt_bk, nxt_ct, ex_ret, ex_some, toB_bl, vx_raiseV, vx_tryV, vx_isi2, vx_isiX, vx_xfV, vx_isB, vx_sliceVS, ex_ok, retK_ok, retK_ex, frame, List.map_cons, List.map_nil, List.length_cons, List.length_nil, List.replicate, List.cons_append, List.nil_append, List.getElem?_cons_zero, List.getElem?_cons_succ, slD, Nat.reduceSub, Nat.reduceAdd, List.set_cons_zero, List.set_cons_succ, List.length_set, true_and, and_self, exists_const, Nat.reduceLT, if_true, if_false, Bool.false_eq_true, Bool.not_true, Bool.not_false, hi, h5, hm, pick1, pick3, exists_const, least_eq h, hmx, lt_ii, hlt, h.fld, hlc, hap]
theorem put_from_form (hd : It d) (hf : permB d = false) : f_Book_put_from [.ob b, d, .int 0] S = some (.ex ⟨"NoPermission", [("word", .str "form")]⟩ S) := by
  refine body_vex rfl ?_
  unfold m_Book_put_from
  have hi := is_permission_eq (S := S) hd
  rw [hf] at hi
  simp (maxSteps := 2000000) only [vx_ret, vx_bind, vx_lift, vx_ite, vx_var, vx_const, vx_op2, vx_test, vx_opC, vx_rngV, vx_args0, vx_args, vx_frz, vx_callF, vx_seq, vx_nop, vx_retV, vx_dropV, vx_ifS, vx_iteV, vx_andT, vx_orT, vx_notT, vx_andV, vx_orV, vx_notV, vx_chain, vx_tupV, vx_lstN, vx_put, vx_setV, vx_setO, vx_iterV, vx_negV, vx_revV, vx_listN, vx_sortN, vx_rgN1, vx_enumV, vx_noPart, vx_part, vx_sliceV, vx_par2, vx_freeze, vx_methI, vx_lenO, vx_forS, vx_lc, vx_sc, vx_yes, vx_op2S, vx_opCS, vx_newL, vx_callK, vx_methK, vx_makeK, vx_fldV, vx_setFld, vx_boxL, vx_appB, vx_fail, nxt_nx, nxt_rt, nxt_bk, nxt_ct, ex_ret, ex_some, toB_bl, vx_raiseV, vx_tryV, vx_isi2, vx_isiX, vx_xfV, vx_isB, vx_sliceVS, ex_ok, retK_ok, retK_ex, frame, List.map_cons, List.map_nil, List.length_cons, List.length_nil, List.replicate, List.cons_append, List.nil_append, List.getElem?_cons_zero, List.getElem?_cons_succ, slD, Nat.reduceSub, Nat.reduceAdd, List.set_cons_zero, List.set_cons_succ, List.length_set, true_and, and_self, exists_const, Nat.reduceLT, if_true, if_false, Bool.false_eq_true, Bool.not_true, Bool.not_false, hi]
  exact ⟨_, rfl, rfl, trivial⟩
theorem put_from_known {p : Pm} (h : BookAt S b l ps) (hp : PmOk p) (hl : p.known < lastKnown ps) :
    f_Book_put_from [.ob b, permD p, .int 0] S = some (.ex ⟨"NoPermission", [("word", .str "known")]⟩ S) := by
  refine body_vex rfl ?_
  unfold m_Book_put_from
  have hi := is_permission_eq (S := S) (It.of_perm hp)
  rw [permB_perm hp] at hi
  have h5 : itemD (permD p) (.int 5) = some (.int p.known) := rfl
  have hm := h.meth (mt := "least") (by decide +kernel)
  have hmx : maxD [.int 0, .int (lastKnown ps)] = some (.int (if lastKnown ps > 0 then lastKnown ps else 0)) := rfl
  have hlt : decide (p.known < if lastKnown ps > 0 then lastKnown ps else 0) = true := by
    apply decide_eq_true
    split <;> omega
  simp (maxSteps := 2000000) only [vx_ret, vx_bind, vx_lift, vx_ite, vx_var, vx_const, vx_op2, vx_test, vx_opC, vx_rngV, vx_args0, vx_args, vx_frz, vx_callF, vx_seq, vx_nop, vx_retV, vx_dropV, vx_ifS, vx_iteV, vx_andT, vx_orT, vx_notT, vx_andV, vx_orV, vx_notV, vx_chain, vx_tupV, vx_lstN, vx_put, vx_setV, vx_setO, vx_iterV, vx_negV, vx_revV, vx_listN, vx_sortN, vx_rgN1, vx_enumV, vx_noPart, vx_part, vx_sliceV, vx_par2, vx_freeze, vx_methI, vx_lenO, vx_forS, vx_lc, vx_sc, vx_yes, vx_op2S, vx_opCS, vx_newL, vx_callK, vx_methK, vx_makeK, vx_fldV, vx_setFld, vx_boxL, vx_appB, vx_fail, nxt_nx, nxt_rt, nxt_bk, nxt_ct, ex_ret, ex_some, toB_bl, vx_raiseV, vx_tryV, vx_isi2, vx_isiX, vx_xfV, vx_isB, vx_sliceVS, ex_ok, retK_ok, retK_ex, frame, List.map_cons, List.map_nil, List.length_cons, List.length_nil, List.replicate, List.cons_append, List.nil_append, List.getElem?_cons_zero, List.getElem?_cons_succ, slD, Nat.reduceSub, Nat.reduceAdd, List.set_cons_zero, List.set_cons_succ, List.length_set, true_and, and_self, exists_const, Nat.reduceLT, if_true, if_false, Bool.false_eq_true, Bool.not_true, Bool.not_false, hi, h5, hm, pick1, pick3, exists_const, least_eq h, hmx, lt_ii, hlt]
  exact ⟨_, rfl, rfl, trivial⟩
theorem put_any {r : Ret} (h : BookAt S b l ps) (hr : f_Book_put_from [.ob b, d, .int 0] S = some r) (hk : ∀ e S', r = .ok e S' → e = .non) : f_Book_put [.ob b, d] S = some r := by
  have hm := h.meth (mt := "put_from") (by decide +kernel)
  cases r with
  | ok e S' =>
    cases hk e S' rfl
    refine body_vok rfl ?_
    unfold m_Book_put
    simp (maxSteps := 2000000) only [vx_ret, vx_bind, vx_lift, vx_ite, vx_var, vx_const, vx_op2, vx_test, vx_opC, vx_rngV, vx_args0, vx_args, vx_frz, vx_callF, vx_seq, vx_nop, vx_retV, vx_dropV, vx_ifS, vx_iteV, vx_andT, vx_orT, vx_notT, vx_andV, vx_orV, vx_notV, vx_chain, vx_tupV, vx_lstN, vx_put, vx_setV, vx_setO, vx_iterV, vx_negV, vx_revV, vx_listN, vx_sortN, vx_rgN1, vx_enumV, vx_noPart, vx_part, vx_sliceV, vx_par2, vx_freeze, vx_methI, vx_lenO, vx_forS, vx_lc, vx_sc, vx_yes, vx_op2S, vx_opCS, vx_newL, vx_callK, vx_methK, vx_makeK, vx_fldV, vx_setFld, vx_boxL, vx_appB, vx_fail, nxt_nx, nxt_rt, nxt_bk, nxt_ct, ex_ret, ex_some, toB_bl, vx_raiseV, vx_tryV, vx_isi2, vx_isiX, vx_xfV, vx_isB, vx_sliceVS, ex_ok, retK_ok, retK_ex, frame, List.map_cons, List.map_nil, List.length_cons, List.length_nil, List.replicate, List.cons_append, List.nil_append, List.getElem?_cons_zero, List.getElem?_cons_succ, slD, Nat.reduceSub, Nat.reduceAdd, List.set_cons_zero, List.set_cons_succ, List.length_set, true_and, and_self, exists_const, Nat.reduceLT, if_true, if_false, Bool.false_eq_true, Bool.not_true, Bool.not_false, hm, pick3, hr]
  | ex x S' =>
    refine body_vex rfl ?_
    unfold m_Book_put
    simp (maxSteps := 2000000) only [vx_ret, vx_bind, vx_lift, vx_ite, vx_var, vx_const, vx_op2, vx_test, vx_opC, vx_rngV, vx_args0, vx_args, vx_frz, vx_callF, vx_seq, vx_nop, vx_retV, vx_dropV, vx_ifS, vx_iteV, vx_andT, vx_orT, vx_notT, vx_andV, vx_orV, vx_notV, vx_chain, vx_tupV, vx_lstN, vx_put, vx_setV, vx_setO, vx_iterV, vx_negV, vx_revV, vx_listN, vx_sortN, vx_rgN1, vx_enumV, vx_noPart, vx_part, vx_sliceV, vx_par2, vx_freeze, vx_methI, vx_lenO, vx_forS, vx_lc, vx_sc, vx_yes, vx_op2S, vx_opCS, vx_newL, vx_callK, vx_methK, vx_makeK, vx_fldV, vx_setFld, vx_boxL, vx_appB, vx_fail, nxt_nx, nxt_rt, nxt_bk, nxt_ct, ex_ret, ex_some, toB_bl, vx_raiseV, vx_tryV, vx_isi2, vx_isiX, vx_xfV, vx_isB, vx_sliceVS, ex_ok, retK_ok, retK_ex, frame, List.map_cons, List.map_nil, List.length_cons, List.length_nil, List.replicate, List.cons_append, List.nil_append, List.getElem?_cons_zero, List.getElem?_cons_succ, slD, Nat.reduceSub, Nat.reduceAdd, List.set_cons_zero, List.set_cons_succ, List.length_set, true_and, and_self, exists_const, Nat.reduceLT, if_true, if_false, Bool.false_eq_true, Bool.not_true, Bool.not_false, hm, pick3, hr]
/-- the word that a thing is answered by -/
def dueB (d : D) (last : Int) : Str := if permB d = true then (match d with
  | .tup [_, _, _, _, _, .int k] => if last ≤ k then "let" else "known"
  | _ => "form") else "form"
theorem due_perm {p : Pm} {last : Int} (h : PmOk p) : dueB (permD p) last = (if last ≤ p.known then ("let" : Str) else ("known" : Str)) := by
  unfold dueB
  rw [permB_perm h]
  rfl
theorem isx_lk {c : Str} {r : Bool} {tbl : List (Str × Bool)} {f : Str} {d : D} (h : tbl.lookup c = some r) : isiXD tbl (.exf c f d) = some (.bl r) := by
  simp only [isiXD, h, Option.map_some]
theorem said_ok {e : D} {S' : Store} (h : BookAt S b l ps) (hp : f_Book_put [.ob b, d] S = some (.ok .non S')) : f__law_said [.ob b, d] S = some (.ok (.str "let") S') := by
  have hm := h.meth (mt := "put") (by decide +kernel)
  have e1 : notND .non .non = some (.bl false) := rfl
  have e2 : isND .non .non = some (.bl true) := rfl
  refine fn0_of rfl ?_
  rw [ev_vx]
  unfold m__law_said
  simp (maxSteps := 2000000) only [vx_ret, vx_bind, vx_lift, vx_ite, vx_var, vx_const, vx_op2, vx_test, vx_opC, vx_rngV, vx_args0, vx_args, vx_frz, vx_callF, vx_seq, vx_nop, vx_retV, vx_dropV, vx_ifS, vx_iteV, vx_andT, vx_orT, vx_notT, vx_andV, vx_orV, vx_notV, vx_chain, vx_tupV, vx_lstN, vx_put, vx_setV, vx_setO, vx_iterV, vx_negV, vx_revV, vx_listN, vx_sortN, vx_rgN1, vx_enumV, vx_noPart, vx_part, vx_sliceV, vx_par2, vx_freeze, vx_methI, vx_lenO, vx_forS, vx_lc, vx_sc, vx_yes, vx_op2S, vx_opCS, vx_newL, vx_callK, vx_methK, vx_makeK, vx_fldV, vx_setFld, vx_boxL, vx_appB, vx_fail, nxt_nx, nxt_rt, nxt_bk, nxt_ct, ex_ret, ex_some, toB_bl, vx_raiseV, vx_tryV, vx_isi2, vx_isiX, vx_xfV, vx_isB, vx_sliceVS, ex_ok, retK_ok, retK_ex, frame, List.map_cons, List.map_nil, List.length_cons, List.length_nil, List.replicate, List.cons_append, List.nil_append, List.getElem?_cons_zero, List.getElem?_cons_succ, slD, Nat.reduceSub, Nat.reduceAdd, List.set_cons_zero, List.set_cons_succ, List.length_set, true_and, and_self, exists_const, Nat.reduceLT, if_true, if_false, Bool.false_eq_true, Bool.not_true, Bool.not_false, hm, pick2, hp, e1, e2]
theorem said_ex {w : Str} (h : BookAt S b l ps) (hp : f_Book_put [.ob b, d] S = some (.ex ⟨"NoPermission", [("word", .str w)]⟩ S)) : f__law_said [.ob b, d] S = some (.ok (.str w) S) := by
  have hm := h.meth (mt := "put") (by decide +kernel)
  have e0 : ht_HouseError.lookup ("NoPermission" : Str) = some true := by decide +kernel
  have e2 : isND (.exf "NoPermission" "word" (.str w)) .non = some (.bl false) := rfl
  have e3 : isiXD tb_NoPermission (.exf "NoPermission" "word" (.str w)) = some (.bl true) := isx_lk (by decide +kernel)
  have e4 : isiXD tb_NoEntry (.exf "NoPermission" "word" (.str w)) = some (.bl false) := isx_lk (by decide +kernel)
  have e5 : exfD ft_word "word" (.exf "NoPermission" "word" (.str w)) = some (.str w) := by
    simp only [exfD]
    rw [if_pos ⟨trivial, by decide +kernel⟩]
  have e6 : toX ⟨"NoPermission", [("word", .str w)]⟩ = some (.exf "NoPermission" "word" (.str w)) := rfl
  refine fn0_of rfl ?_
  rw [ev_vx]
  unfold m__law_said
  simp (maxSteps := 2000000) only [vx_ret, vx_bind, vx_lift, vx_ite, vx_var, vx_const, vx_op2, vx_test, vx_opC, vx_rngV, vx_args0, vx_args, vx_frz, vx_callF, vx_seq, vx_nop, vx_retV, vx_dropV, vx_ifS, vx_iteV, vx_andT, vx_orT, vx_notT, vx_andV, vx_orV, vx_notV, vx_chain, vx_tupV, vx_lstN, vx_put, vx_setV, vx_setO, vx_iterV, vx_negV, vx_revV, vx_listN, vx_sortN, vx_rgN1, vx_enumV, vx_noPart, vx_part, vx_sliceV, vx_par2, vx_freeze, vx_methI, vx_lenO, vx_forS, vx_lc, vx_sc, vx_yes, vx_op2S, vx_opCS, vx_newL, vx_callK, vx_methK, vx_makeK, vx_fldV, vx_setFld, vx_boxL, vx_appB, vx_fail, nxt_nx, nxt_rt, nxt_bk, nxt_ct, ex_ret, ex_some, toB_bl, vx_raiseV, vx_tryV, vx_isi2, vx_isiX, vx_xfV, vx_isB, vx_sliceVS, ex_ok, retK_ok, retK_ex, frame, List.map_cons, List.map_nil, List.length_cons, List.length_nil, List.replicate, List.cons_append, List.nil_append, List.getElem?_cons_zero, List.getElem?_cons_succ, slD, Nat.reduceSub, Nat.reduceAdd, List.set_cons_zero, List.set_cons_succ, List.length_set, true_and, and_self, exists_const, Nat.reduceLT, if_true, if_false, Bool.false_eq_true, Bool.not_true, Bool.not_false, hm, pick2, hp, hand, e0, e6, unset, e2, e3, e4, e5]
end
end Z
namespace Z
open PySem L2 Y
/-! the law's own look -/
theorem isi_eq {d : D} {T a : String} {b : Bool} (h1 : d.tyN = some a) (h2 : isTy a T = some b) : isiD [d, .ty T] = some (.bl b) := isi_b h1 h2
theorem eqN_nil {xs : List D} : eqN (.lst xs) (.lst []) = some (.bl xs.isEmpty) := rfl
theorem neN_nil {xs : List D} : neN (.lst xs) (.lst []) = some (.bl (!xs.isEmpty)) := rfl
def badSign (d : D) : Bool := match d with
  | .str x => !x.cps.toList.all isLetter
  | _ => false
theorem law_is_name_eq {d : D} {S : Store} (h : Ok d) : f__law_is_name [d] S = some (.ok (.bl (nameB d)) S) := by
  refine fn0_of rfl ?_
  unfold m__law_is_name
  simp (maxSteps := 2000000) only [ev_ret, ev_bind, ev_lift, ev_ite, ev_var, ev_const, ev_op2, ev_test, ev_opC, ev_rngV, ev_args0, ev_args, ev_frz, ev_callF, ev_seq, nxt_nx, nxt_rt, nxt_bk, nxt_ct, ev_nop, ev_retV, ev_dropV, ev_ifS, ev_iteV, ev_andT, ev_orT, ev_notT, ev_andV, ev_orV, ev_notV, ev_chain, ev_tupV, ev_lstN, ev_put, ev_setV, ev_setO, ev_iterV, ev_negV, ev_revV, ev_listN, ev_sortN, ev_rgN1, ev_enumV, ev_noPart, ev_part, ev_sliceV, ev_par2, ev_freeze, ev_methI, ev_lenO, ev_forS, ev_lc, ev_sc, ev_yes, ev_op2S, ev_opCS, ev_newL, ev_callK, ev_methK, ev_makeK, ev_fldV, ev_setFld, ev_boxL, ev_appB, ev_fail, ex_ret, ex_some, toB_bl, frame, List.map_cons, List.map_nil, List.length_cons, List.length_nil, List.replicate, List.cons_append, List.nil_append, List.getElem?_cons_zero, List.getElem?_cons_succ, slD, Nat.reduceSub, Nat.reduceAdd, List.set_cons_zero, List.set_cons_succ, List.length_set]
  cases d <;> first | exact absurd rfl h.1 | skip
  case str x =>
    have hx := h.2 x rfl
    rw [isi_eq (a := "str") (b := true) rfl (by decide)]
    by_cases q : 1 ≤ x.length <;> by_cases r : x.length ≤ 8
    · have q1 : (1 : Int) ≤ x.length := by omega
      have r1 : (x.length : Int) ≤ 8 := by omega
      simp only [lenA, lenD, hx, leD, int2, if_true, ex_some, toB_bl, q1, r1, decide_true, itemsD, Bool.not_true, Bool.false_eq_true, if_false, nxt_nx]
      refine ev_lcL_filter badSign id (by unfold signs; rw [List.length_map, Array.length_toList]; exact hx) ?_ ?_
      · intro d hd
        obtain ⟨c, hc, rfl⟩ := List.mem_map.mp hd
        refine ⟨[.val (.str x), .val (.str ⟨#[c]⟩)], rfl, ?_⟩
        simp (maxSteps := 2000000) only [ev_ret, ev_bind, ev_lift, ev_ite, ev_var, ev_const, ev_op2, ev_test, ev_opC, ev_rngV, ev_args0, ev_args, ev_frz, ev_callF, ev_seq, nxt_nx, nxt_rt, nxt_bk, nxt_ct, ev_nop, ev_retV, ev_dropV, ev_ifS, ev_iteV, ev_andT, ev_orT, ev_notT, ev_andV, ev_orV, ev_notV, ev_chain, ev_tupV, ev_lstN, ev_put, ev_setV, ev_setO, ev_iterV, ev_negV, ev_revV, ev_listN, ev_sortN, ev_rgN1, ev_enumV, ev_noPart, ev_part, ev_sliceV, ev_par2, ev_freeze, ev_methI, ev_lenO, ev_forS, ev_lc, ev_sc, ev_yes, ev_op2S, ev_opCS, ev_newL, ev_callK, ev_methK, ev_makeK, ev_fldV, ev_setFld, ev_boxL, ev_appB, ev_fail, ex_ret, ex_some, toB_bl, frame, List.map_cons, List.map_nil, List.length_cons, List.length_nil, List.replicate, List.cons_append, List.nil_append, List.getElem?_cons_zero, List.getElem?_cons_succ, slD, Nat.reduceSub, Nat.reduceAdd, List.set_cons_zero, List.set_cons_succ, List.length_set]
        exact ⟨.bl (!isLetter c), rfl, by rw [toB_bl]; exact ⟨by simp [badSign], trivial, rfl, fun _ => ⟨rfl, trivial, rfl⟩⟩⟩
      · intro η' _
        have e : (signs x).filter badSign = (x.cps.toList.filter fun c => !isLetter c).map fun c => D.str ⟨#[c]⟩ := by
          unfold signs
          rw [List.filter_map]
          congr 1
          exact List.filter_congr fun c _ => by simp [badSign]
        rw [List.map_id, e]
        refine ⟨by simp [sizeLine_eq], ?_⟩
        rw [eqN_nil, ex_some]
        refine ⟨?_, rfl⟩
        congr 2
        simp only [nameB, q, r, decide_true, Bool.true_and]
        generalize x.cps.toList = l
        rw [List.isEmpty_map]
        induction l with
        | nil => rfl
        | cons a l ih => by_cases ha : isLetter a = true <;> simp only [List.filter_cons, List.all_cons, ha, Bool.not_true, Bool.false_eq_true, if_false, Bool.true_and, ih, Bool.not_false, if_true, Bool.not_eq_true] at * <;> simp_all
    · have q1 : (1 : Int) ≤ x.length := by omega
      have r1 : ¬ (x.length : Int) ≤ 8 := by omega
      simp only [lenA, lenD, hx, leD, int2, if_true, ex_some, toB_bl, q1, r1, decide_true, decide_false, Bool.false_eq_true, if_false, Bool.not_true, Bool.not_false, nxt_rt]
      simp [nameB, r]
    all_goals
      have q1 : ¬ (1 : Int) ≤ x.length := by omega
      simp only [lenA, lenD, hx, leD, int2, if_true, ex_some, toB_bl, q1, decide_true, decide_false, Bool.false_eq_true, if_false, Bool.not_true, Bool.not_false, nxt_rt]
      simp [nameB, q]
  all_goals simp [isiD, D.tyN, isTy, toB, nameB, nxt_rt]
theorem leafStrs_len : ∀ x ∈ leafStrs, x.length ≤ 100 := by decide +kernel
theorem G.ok {k n : Nat} {d : D} (h : G k n d) : Ok d := by
  cases h with
  | leaf l _ =>
    cases l with
    | non => exact ⟨by simp [D.tyN], fun _ e => by cases e⟩
    | bl b => exact ⟨by simp [D.tyN], fun _ e => by cases e⟩
    | dd => exact ⟨by simp [D.tyN], fun _ e => by cases e⟩
    | int _ => exact ⟨by simp [D.tyN], fun _ e => by cases e⟩
    | str hx => exact ⟨by simp [D.tyN], fun y e => by cases e; have := leafStrs_len _ hx; rw [sizeLine_eq]; omega⟩
  | tup => exact ⟨by simp [D.tyN], fun _ e => by cases e⟩
  | lst => exact ⟨by simp [D.tyN], fun _ e => by cases e⟩
theorem G.items {k n : Nat} {xs : List D} (h : G k n (.tup xs)) : (∀ x ∈ xs, G k n x) ∧ xs.length ≤ n := by
  cases h with
  | leaf l _ => cases l
  | tup g a b => exact ⟨fun x hx => (g.get hx).mono (by omega) (by omega), by have := g.len; omega⟩
theorem eqD_ss {x y : Str} : eqD (.str x) (.str y) = some (.bl (x == y)) := by
  unfold eqD eqP; simp [D.toP, PyData.depth, PyData.eqv]
theorem neD_ii {x y : Int} : neD (.int x) (.int y) = some (.bl (!(x == y))) := by
  unfold neD eqP; simp [D.toP, PyData.depth, PyData.eqv]
theorem eqD_ii {x y : Int} : eqD (.int x) (.int y) = some (.bl (x == y)) := by
  unfold eqD eqP; simp [D.toP, PyData.depth, PyData.eqv]
theorem neD_ss {x y : Str} : neD (.str x) (.str y) = some (.bl (!(x == y))) := by
  unfold neD eqP; simp [D.toP, PyData.depth, PyData.eqv]
theorem strIs_isi {d : D} {x : Str} (h : strIs d x = true) : d = .str x := by
  cases d <;> simp only [strIs, Bool.false_eq_true] at h
  rw [eq_of_beq h]

theorem law_is_moment_eq {d : D} {S : Store} (h : Ok d) : f__law_is_moment [d] S = some (.ok (.bl (momB d)) S) := by
  refine fn0_of rfl ?_
  unfold m__law_is_moment
  simp (maxSteps := 2000000) only [ev_ret, ev_bind, ev_lift, ev_ite, ev_var, ev_const, ev_op2, ev_test, ev_opC, ev_rngV, ev_args0, ev_args, ev_frz, ev_callF, ev_seq, nxt_nx, nxt_rt, nxt_bk, nxt_ct, ev_nop, ev_retV, ev_dropV, ev_ifS, ev_iteV, ev_andT, ev_orT, ev_notT, ev_andV, ev_orV, ev_notV, ev_chain, ev_tupV, ev_lstN, ev_put, ev_setV, ev_setO, ev_iterV, ev_negV, ev_revV, ev_listN, ev_sortN, ev_rgN1, ev_enumV, ev_noPart, ev_part, ev_sliceV, ev_par2, ev_freeze, ev_methI, ev_lenO, ev_forS, ev_lc, ev_sc, ev_yes, ev_op2S, ev_opCS, ev_newL, ev_callK, ev_methK, ev_makeK, ev_fldV, ev_setFld, ev_boxL, ev_appB, ev_fail, ex_ret, ex_some, toB_bl, frame, List.map_cons, List.map_nil, List.length_cons, List.length_nil, List.replicate, List.cons_append, List.nil_append, List.getElem?_cons_zero, List.getElem?_cons_succ, slD, Nat.reduceSub, Nat.reduceAdd, List.set_cons_zero, List.set_cons_succ, List.length_set]
  cases d <;> first | exact absurd rfl h.1 | skip
  case int i => by_cases q : 0 ≤ i <;> by_cases r : i ≤ 999 <;> simp only [isi_eq (d := D.int i) (a := "int") (b := true) (T := "int") rfl (by decide), isi_eq (d := D.int i) (a := "int") (b := false) (T := "bool") rfl (by decide), leD, int2, q, r, toB_bl, ex_some, if_true, decide_true, decide_false, ite_true, ite_false, Bool.false_eq_true, Bool.not_false] <;> simp [momB, withinB, q, r]
  all_goals simp [isiD, D.tyN, isTy, toB, momB, withinB, leD, int2]
theorem mom_int {d : D} (h : momB d = true) : ∃ i, d = .int i := by
  cases d <;> first | exact ⟨_, rfl⟩ | simp [momB, withinB] at h
theorem int6 {n : Nat} : ((n : Int) == 6) = decide (n = 6) := by
  by_cases h : n = 6
  · subst h; rfl
  · rw [decide_eq_false h, beq_eq_false_iff_ne]; omega
theorem wordB_is {d : D} : wordB d = (strIs d "allow" || strIs d "withdraw") := by
  cases d <;> rfl
theorem dueB_no {d : D} {last : Int} (h : permB d = false) : dueB d last = "form" := by
  unfold dueB; rw [h]; rfl
theorem G.it {k n : Nat} {d : D} (h : G k n d) (hn : n ≤ 20) : It d := by
  have hok := h.ok
  cases d <;> first | exact absurd rfl hok.1 | skip
  case tup xs =>
    obtain ⟨h1, h2⟩ := h.items
    exact .tup (fun x hx => (h1 x hx).ok) (by omega)
  all_goals exact .odd rfl (by decide)
theorem law_due_eq {k n : Nat} {d : D} {S : Store} {last : Int} (h : G k n d) (hk : k ≤ 50) (hn : n ≤ 20) : f__law_due [d, .int last] S = some (.ok (.str (dueB d last)) S) := by
  have hok := h.ok
  by_cases ht : ∃ xs, d = .tup xs
  case neg =>
    have i0 : isiD [d, .ty "tuple"] = some (.bl false) := by
      cases d <;> first | exact absurd rfl hok.1 | exact absurd ⟨_, rfl⟩ ht | exact isi_b rfl (by decide)
    have hp : permB d = false := by
      cases d <;> first | rfl | exact absurd ⟨_, rfl⟩ ht
    refine fn0_of rfl ?_
    unfold m__law_due
    simp (maxSteps := 2000000) only [ev_ret, ev_bind, ev_lift, ev_ite, ev_var, ev_const, ev_op2, ev_test, ev_opC, ev_rngV, ev_args0, ev_args, ev_frz, ev_callF, ev_seq, nxt_nx, nxt_rt, nxt_bk, nxt_ct, ev_nop, ev_retV, ev_dropV, ev_ifS, ev_iteV, ev_andT, ev_orT, ev_notT, ev_andV, ev_orV, ev_notV, ev_chain, ev_tupV, ev_lstN, ev_put, ev_setV, ev_setO, ev_iterV, ev_negV, ev_revV, ev_listN, ev_sortN, ev_rgN1, ev_enumV, ev_noPart, ev_part, ev_sliceV, ev_par2, ev_freeze, ev_methI, ev_lenO, ev_forS, ev_lc, ev_sc, ev_yes, ev_op2S, ev_opCS, ev_newL, ev_callK, ev_methK, ev_makeK, ev_fldV, ev_setFld, ev_boxL, ev_appB, ev_fail, ex_ret, ex_some, toB_bl, frame, List.map_cons, List.map_nil, List.length_cons, List.length_nil, List.replicate, List.cons_append, List.nil_append, List.getElem?_cons_zero, List.getElem?_cons_succ, slD, Nat.reduceSub, Nat.reduceAdd, List.set_cons_zero, List.set_cons_succ, List.length_set, true_and, and_self, exists_const, Nat.reduceLT, if_true, if_false, Bool.false_eq_true, Bool.not_true, Bool.not_false, i0, dueB_no hp]
  obtain ⟨xs, rfl⟩ := ht
  obtain ⟨hi, -⟩ := h.items
  have i0 : isiD [D.tup xs, .ty "tuple"] = some (.bl true) := isi_b (a := "tuple") rfl (by decide)
  have l6 : lenA [D.tup xs] = some (.int xs.length) := rfl
  by_cases h6 : xs.length = 6
  case neg =>
    have hp : permB (.tup xs) = false := by
      unfold permB
      split
      · rename_i q; cases q; simp at h6
      · rfl
    refine fn0_of rfl ?_
    unfold m__law_due
    simp (maxSteps := 2000000) only [ev_ret, ev_bind, ev_lift, ev_ite, ev_var, ev_const, ev_op2, ev_test, ev_opC, ev_rngV, ev_args0, ev_args, ev_frz, ev_callF, ev_seq, nxt_nx, nxt_rt, nxt_bk, nxt_ct, ev_nop, ev_retV, ev_dropV, ev_ifS, ev_iteV, ev_andT, ev_orT, ev_notT, ev_andV, ev_orV, ev_notV, ev_chain, ev_tupV, ev_lstN, ev_put, ev_setV, ev_setO, ev_iterV, ev_negV, ev_revV, ev_listN, ev_sortN, ev_rgN1, ev_enumV, ev_noPart, ev_part, ev_sliceV, ev_par2, ev_freeze, ev_methI, ev_lenO, ev_forS, ev_lc, ev_sc, ev_yes, ev_op2S, ev_opCS, ev_newL, ev_callK, ev_methK, ev_makeK, ev_fldV, ev_setFld, ev_boxL, ev_appB, ev_fail, ex_ret, ex_some, toB_bl, frame, List.map_cons, List.map_nil, List.length_cons, List.length_nil, List.replicate, List.cons_append, List.nil_append, List.getElem?_cons_zero, List.getElem?_cons_succ, slD, Nat.reduceSub, Nat.reduceAdd, List.set_cons_zero, List.set_cons_succ, List.length_set, true_and, and_self, exists_const, Nat.reduceLT, if_true, if_false, Bool.false_eq_true, Bool.not_true, Bool.not_false, i0, l6, neD_ii, int6, decide_eq_false h6, dueB_no hp]
  match xs, h6, hi with
  | [a, b, c, s, t, kn], _, hi =>
    have ga := hi a (by simp)
    have gb := hi b (by simp)
    have gc := hi c (by simp)
    have gs := hi s (by simp)
    have gt := hi t (by simp)
    have gk := hi kn (by simp)
    have j0 : itemD (.tup [a, b, c, s, t, kn]) (.int 0) = some a := rfl
    have j1 : itemD (.tup [a, b, c, s, t, kn]) (.int 1) = some b := rfl
    have j2 : itemD (.tup [a, b, c, s, t, kn]) (.int 2) = some c := rfl
    have j3 : itemD (.tup [a, b, c, s, t, kn]) (.int 3) = some s := rfl
    have j4 : itemD (.tup [a, b, c, s, t, kn]) (.int 4) = some t := rfl
    have j5 : itemD (.tup [a, b, c, s, t, kn]) (.int 5) = some kn := rfl
    have n6 : neD (.int 6) (.int 6) = some (.bl false) := rfl
    have l6 : lenA [D.tup [a, b, c, s, t, kn]] = some (.int 6) := rfl
    have z2 : 2 ≤ sizeLine := by rw [sizeLine_eq]; decide
    obtain ⟨p, hp, hr⟩ := gc.repr hk (by omega)
    have g1 := gc.shown_is hp (x := "allow") (by decide +kernel)
    have g2 := gc.shown_is hp (x := "withdraw") (by decide +kernel)
    have e1 : notInX (.str p.shown) (.lst [.str "'allow'", .str "'withdraw'"]) = some (.bl (!wordB c)) := by
      have r1 : ("'allow'" : Str) = reprText "allow" := by decide +kernel
      have r2 : ("'withdraw'" : Str) = reprText "withdraw" := by decide +kernel
      rw [wordB_is, ← g1, ← g2, r1, r2]
      unfold notInX notInD inB; simp [D.flat, eqF, Bool.beq_comm]
    refine fn0_of rfl ?_
    unfold m__law_due
    simp (maxSteps := 2000000) only [ev_ret, ev_bind, ev_lift, ev_ite, ev_var, ev_const, ev_op2, ev_test, ev_opC, ev_rngV, ev_args0, ev_args, ev_frz, ev_callF, ev_seq, nxt_nx, nxt_rt, nxt_bk, nxt_ct, ev_nop, ev_retV, ev_dropV, ev_ifS, ev_iteV, ev_andT, ev_orT, ev_notT, ev_andV, ev_orV, ev_notV, ev_chain, ev_tupV, ev_lstN, ev_put, ev_setV, ev_setO, ev_iterV, ev_negV, ev_revV, ev_listN, ev_sortN, ev_rgN1, ev_enumV, ev_noPart, ev_part, ev_sliceV, ev_par2, ev_freeze, ev_methI, ev_lenO, ev_forS, ev_lc, ev_sc, ev_yes, ev_op2S, ev_opCS, ev_newL, ev_callK, ev_methK, ev_makeK, ev_fldV, ev_setFld, ev_boxL, ev_appB, ev_fail, ex_ret, ex_some, toB_bl, frame, List.map_cons, List.map_nil, List.length_cons, List.length_nil, List.replicate, List.cons_append, List.nil_append, List.getElem?_cons_zero, List.getElem?_cons_succ, slD, Nat.reduceSub, Nat.reduceAdd, List.set_cons_zero, List.set_cons_succ, List.length_set, true_and, and_self, exists_const, Nat.reduceLT, if_true, if_false, Bool.false_eq_true, Bool.not_true, Bool.not_false, i0, l6, n6, j0, j1, law_is_name_eq ga.ok, law_is_name_eq gb.ok]
    cases ha : nameB a with
    | false =>
      have hp : permB (.tup [a, b, c, s, t, kn]) = false := by simp [permB, ha]
      simp [dueB_no hp, nxt_rt]
    | true =>
    cases hb : nameB b with
    | false =>
      have hp : permB (.tup [a, b, c, s, t, kn]) = false := by simp [permB, hb]
      simp [dueB_no hp, nxt_rt]
    | true =>
    simp (maxSteps := 2000000) only [ev_ret, ev_bind, ev_lift, ev_ite, ev_var, ev_const, ev_op2, ev_test, ev_opC, ev_rngV, ev_args0, ev_args, ev_frz, ev_callF, ev_seq, nxt_nx, nxt_rt, nxt_bk, nxt_ct, ev_nop, ev_retV, ev_dropV, ev_ifS, ev_iteV, ev_andT, ev_orT, ev_notT, ev_andV, ev_orV, ev_notV, ev_chain, ev_tupV, ev_lstN, ev_put, ev_setV, ev_setO, ev_iterV, ev_negV, ev_revV, ev_listN, ev_sortN, ev_rgN1, ev_enumV, ev_noPart, ev_part, ev_sliceV, ev_par2, ev_freeze, ev_methI, ev_lenO, ev_forS, ev_lc, ev_sc, ev_yes, ev_op2S, ev_opCS, ev_newL, ev_callK, ev_methK, ev_makeK, ev_fldV, ev_setFld, ev_boxL, ev_appB, ev_fail, ex_ret, ex_some, toB_bl, frame, List.map_cons, List.map_nil, List.length_cons, List.length_nil, List.replicate, List.cons_append, List.nil_append, List.getElem?_cons_zero, List.getElem?_cons_succ, slD, Nat.reduceSub, Nat.reduceAdd, List.set_cons_zero, List.set_cons_succ, List.length_set, true_and, and_self, exists_const, Nat.reduceLT, if_true, if_false, Bool.false_eq_true, Bool.not_true, Bool.not_false, j2, j3, j5, hr, e1, z2, law_is_moment_eq gs.ok, law_is_moment_eq gk.ok]
    cases hc : wordB c with
    | false =>
      have hp : permB (.tup [a, b, c, s, t, kn]) = false := by simp [permB, hc]
      simp [dueB_no hp, nxt_rt]
    | true =>
    cases hs : momB s with
    | false =>
      have hp : permB (.tup [a, b, c, s, t, kn]) = false := by simp [permB, hs]
      simp [dueB_no hp, nxt_rt]
    | true =>
    cases hkn : momB kn with
    | false =>
      have hp : permB (.tup [a, b, c, s, t, kn]) = false := by simp [permB, hkn]
      simp [dueB_no hp, nxt_rt]
    | true =>
    have nn : notND t .non = some (.bl (!t.isNon)) := rfl
    simp (maxSteps := 2000000) only [ev_ret, ev_bind, ev_lift, ev_ite, ev_var, ev_const, ev_op2, ev_test, ev_opC, ev_rngV, ev_args0, ev_args, ev_frz, ev_callF, ev_seq, nxt_nx, nxt_rt, nxt_bk, nxt_ct, ev_nop, ev_retV, ev_dropV, ev_ifS, ev_iteV, ev_andT, ev_orT, ev_notT, ev_andV, ev_orV, ev_notV, ev_chain, ev_tupV, ev_lstN, ev_put, ev_setV, ev_setO, ev_iterV, ev_negV, ev_revV, ev_listN, ev_sortN, ev_rgN1, ev_enumV, ev_noPart, ev_part, ev_sliceV, ev_par2, ev_freeze, ev_methI, ev_lenO, ev_forS, ev_lc, ev_sc, ev_yes, ev_op2S, ev_opCS, ev_newL, ev_callK, ev_methK, ev_makeK, ev_fldV, ev_setFld, ev_boxL, ev_appB, ev_fail, ex_ret, ex_some, toB_bl, frame, List.map_cons, List.map_nil, List.length_cons, List.length_nil, List.replicate, List.cons_append, List.nil_append, List.getElem?_cons_zero, List.getElem?_cons_succ, slD, Nat.reduceSub, Nat.reduceAdd, List.set_cons_zero, List.set_cons_succ, List.length_set, true_and, and_self, exists_const, Nat.reduceLT, if_true, if_false, Bool.false_eq_true, Bool.not_true, Bool.not_false, j4, nn, law_is_moment_eq gt.ok]
    obtain ⟨kn, rfl⟩ := mom_int hkn
    obtain ⟨s, rfl⟩ := mom_int hs
    cases hn : t.isNon with
    | true =>
      have hp : permB (.tup [a, b, c, .int s, t, .int kn]) = true := by simp [permB, ha, hb, hc, hs, hkn, tillB, hn]
      simp (maxSteps := 2000000) only [ev_ret, ev_bind, ev_lift, ev_ite, ev_var, ev_const, ev_op2, ev_test, ev_opC, ev_rngV, ev_args0, ev_args, ev_frz, ev_callF, ev_seq, nxt_nx, nxt_rt, nxt_bk, nxt_ct, ev_nop, ev_retV, ev_dropV, ev_ifS, ev_iteV, ev_andT, ev_orT, ev_notT, ev_andV, ev_orV, ev_notV, ev_chain, ev_tupV, ev_lstN, ev_put, ev_setV, ev_setO, ev_iterV, ev_negV, ev_revV, ev_listN, ev_sortN, ev_rgN1, ev_enumV, ev_noPart, ev_part, ev_sliceV, ev_par2, ev_freeze, ev_methI, ev_lenO, ev_forS, ev_lc, ev_sc, ev_yes, ev_op2S, ev_opCS, ev_newL, ev_callK, ev_methK, ev_makeK, ev_fldV, ev_setFld, ev_boxL, ev_appB, ev_fail, ex_ret, ex_some, toB_bl, frame, List.map_cons, List.map_nil, List.length_cons, List.length_nil, List.replicate, List.cons_append, List.nil_append, List.getElem?_cons_zero, List.getElem?_cons_succ, slD, Nat.reduceSub, Nat.reduceAdd, List.set_cons_zero, List.set_cons_succ, List.length_set, true_and, and_self, exists_const, Nat.reduceLT, if_true, if_false, Bool.false_eq_true, Bool.not_true, Bool.not_false, j5, ge_ii]
      have hd : dueB (.tup [a, b, c, .int s, t, .int kn]) last = (if last ≤ kn then ("let" : Str) else ("known" : Str)) := by unfold dueB; rw [hp]; rfl
      rw [hd]
      by_cases q : last ≤ kn <;> simp [q]
    | false =>
      cases hm : momB t with
      | false =>
        have hp : permB (.tup [a, b, c, .int s, t, .int kn]) = false := by simp [permB, tillB, hn, hm]
        simp (maxSteps := 2000000) only [ev_ret, ev_bind, ev_lift, ev_ite, ev_var, ev_const, ev_op2, ev_test, ev_opC, ev_rngV, ev_args0, ev_args, ev_frz, ev_callF, ev_seq, nxt_nx, nxt_rt, nxt_bk, nxt_ct, ev_nop, ev_retV, ev_dropV, ev_ifS, ev_iteV, ev_andT, ev_orT, ev_notT, ev_andV, ev_orV, ev_notV, ev_chain, ev_tupV, ev_lstN, ev_put, ev_setV, ev_setO, ev_iterV, ev_negV, ev_revV, ev_listN, ev_sortN, ev_rgN1, ev_enumV, ev_noPart, ev_part, ev_sliceV, ev_par2, ev_freeze, ev_methI, ev_lenO, ev_forS, ev_lc, ev_sc, ev_yes, ev_op2S, ev_opCS, ev_newL, ev_callK, ev_methK, ev_makeK, ev_fldV, ev_setFld, ev_boxL, ev_appB, ev_fail, ex_ret, ex_some, toB_bl, frame, List.map_cons, List.map_nil, List.length_cons, List.length_nil, List.replicate, List.cons_append, List.nil_append, List.getElem?_cons_zero, List.getElem?_cons_succ, slD, Nat.reduceSub, Nat.reduceAdd, List.set_cons_zero, List.set_cons_succ, List.length_set, true_and, and_self, exists_const, Nat.reduceLT, if_true, if_false, Bool.false_eq_true, Bool.not_true, Bool.not_false]
        simp [dueB_no hp, nxt_rt]
      | true =>
        obtain ⟨t, rfl⟩ := mom_int hm
        simp (maxSteps := 2000000) only [ev_ret, ev_bind, ev_lift, ev_ite, ev_var, ev_const, ev_op2, ev_test, ev_opC, ev_rngV, ev_args0, ev_args, ev_frz, ev_callF, ev_seq, nxt_nx, nxt_rt, nxt_bk, nxt_ct, ev_nop, ev_retV, ev_dropV, ev_ifS, ev_iteV, ev_andT, ev_orT, ev_notT, ev_andV, ev_orV, ev_notV, ev_chain, ev_tupV, ev_lstN, ev_put, ev_setV, ev_setO, ev_iterV, ev_negV, ev_revV, ev_listN, ev_sortN, ev_rgN1, ev_enumV, ev_noPart, ev_part, ev_sliceV, ev_par2, ev_freeze, ev_methI, ev_lenO, ev_forS, ev_lc, ev_sc, ev_yes, ev_op2S, ev_opCS, ev_newL, ev_callK, ev_methK, ev_makeK, ev_fldV, ev_setFld, ev_boxL, ev_appB, ev_fail, ex_ret, ex_some, toB_bl, frame, List.map_cons, List.map_nil, List.length_cons, List.length_nil, List.replicate, List.cons_append, List.nil_append, List.getElem?_cons_zero, List.getElem?_cons_succ, slD, Nat.reduceSub, Nat.reduceAdd, List.set_cons_zero, List.set_cons_succ, List.length_set, true_and, and_self, exists_const, Nat.reduceLT, if_true, if_false, Bool.false_eq_true, Bool.not_true, Bool.not_false, j3, j4, le_ii]
        by_cases hl : t ≤ s
        · have hp : permB (.tup [a, b, c, .int s, .int t, .int kn]) = false := by
            have : decide (s < t) = false := by simp; omega
            simp [permB, tillB, hn, ltB, this]
          simp [hl, dueB_no hp, nxt_rt]
        · have hp : permB (.tup [a, b, c, .int s, .int t, .int kn]) = true := by
            have : decide (s < t) = true := by simp; omega
            simp [permB, ha, hb, hc, hs, hkn, hm, tillB, ltB, this]
          have hd : dueB (.tup [a, b, c, .int s, .int t, .int kn]) last = (if last ≤ kn then ("let" : Str) else ("known" : Str)) := by unfold dueB; rw [hp]; rfl
          rw [decide_eq_false hl]
          simp (maxSteps := 2000000) only [ev_ret, ev_bind, ev_lift, ev_ite, ev_var, ev_const, ev_op2, ev_test, ev_opC, ev_rngV, ev_args0, ev_args, ev_frz, ev_callF, ev_seq, nxt_nx, nxt_rt, nxt_bk, nxt_ct, ev_nop, ev_retV, ev_dropV, ev_ifS, ev_iteV, ev_andT, ev_orT, ev_notT, ev_andV, ev_orV, ev_notV, ev_chain, ev_tupV, ev_lstN, ev_put, ev_setV, ev_setO, ev_iterV, ev_negV, ev_revV, ev_listN, ev_sortN, ev_rgN1, ev_enumV, ev_noPart, ev_part, ev_sliceV, ev_par2, ev_freeze, ev_methI, ev_lenO, ev_forS, ev_lc, ev_sc, ev_yes, ev_op2S, ev_opCS, ev_newL, ev_callK, ev_methK, ev_makeK, ev_fldV, ev_setFld, ev_boxL, ev_appB, ev_fail, ex_ret, ex_some, toB_bl, frame, List.map_cons, List.map_nil, List.length_cons, List.length_nil, List.replicate, List.cons_append, List.nil_append, List.getElem?_cons_zero, List.getElem?_cons_succ, slD, Nat.reduceSub, Nat.reduceAdd, List.set_cons_zero, List.set_cons_succ, List.length_set, true_and, and_self, exists_const, Nat.reduceLT, if_true, if_false, Bool.false_eq_true, Bool.not_true, Bool.not_false, j5, ge_ii]
          rw [hd]
          by_cases q : last ≤ kn <;> simp [q]
end Z
namespace Z
open PySem L2 Y
/-! permits, book_so, bent -/
theorem leaf_folk {x : Str} (h : x ∈ folkAll) : x ∈ leafStrs := by
  have : ∀ x ∈ folkAll, x ∈ leafStrs := by decide +kernel
  exact this x h
theorem leaf_word {x : Str} (h : x = "allow" ∨ x = "withdraw") : x ∈ leafStrs := by rcases h with rfl | rfl <;> decide +kernel
/-- a drawn permission can be shown -/
theorem perm_cells {p : Pm} (h : PmOk p) (t : Told p) : ∀ x ∈ ([.str p.who, .str p.what, .str p.word, .int p.since, tillD p.till, .int p.known] : List D), Leaf x := by
  intro x hx
  simp only [List.mem_cons, List.not_mem_nil, or_false] at hx
  rcases hx with rfl | rfl | rfl | rfl | rfl | rfl
  · exact .str (leaf_folk t.1)
  · exact .str (leaf_folk t.2)
  · exact .str (leaf_word h.word)
  · have := h.since; exact .int (by omega) (by omega)
  · cases q : p.till with
    | none => exact .non
    | some z => have := h.till z q; exact .int (by omega) (by omega)
  · have := h.known; exact .int (by omega) (by omega)
theorem GL.leaves {xs : List D} (h : ∀ x ∈ xs, Leaf x) {k n : Nat} (hn : xs.length ≤ n) : GL k n xs := (GL.of (m := 1) fun x hx => .leaf (h x hx) (by omega)).mono (Nat.le_refl _) (by omega)
theorem perm_G {p : Pm} (h : PmOk p) (t : Told p) : G 3 20 (permD p) := .tup (GL.leaves (k := 1) (n := 6) (perm_cells h t) (by simp)) (by omega) (by omega)
section
variable {S : Store} {b l n : Nat} {ps : List Pm}
theorem permits_eq (h : BookAt S b l ps) : f_Book_permits [.ob b] S = some (.ok (.ob S.size) (S.push (.box (.lst (ps.map permD))))) := by
  have hv : listS S [.ob l] = some (ps.map permD) := h.view
  refine fn0_of rfl ?_
  unfold m_Book_permits
  simp (maxSteps := 2000000) only [ev_ret, ev_bind, ev_lift, ev_ite, ev_var, ev_const, ev_op2, ev_test, ev_opC, ev_rngV, ev_args0, ev_args, ev_frz, ev_callF, ev_seq, nxt_nx, nxt_rt, nxt_bk, nxt_ct, ev_nop, ev_retV, ev_dropV, ev_ifS, ev_iteV, ev_andT, ev_orT, ev_notT, ev_andV, ev_orV, ev_notV, ev_chain, ev_tupV, ev_lstN, ev_put, ev_setV, ev_setO, ev_iterV, ev_negV, ev_revV, ev_listN, ev_sortN, ev_rgN1, ev_enumV, ev_noPart, ev_part, ev_sliceV, ev_par2, ev_freeze, ev_methI, ev_lenO, ev_forS, ev_lc, ev_sc, ev_yes, ev_op2S, ev_opCS, ev_newL, ev_callK, ev_methK, ev_makeK, ev_fldV, ev_setFld, ev_boxL, ev_appB, ev_fail, ex_ret, ex_some, toB_bl, frame, List.map_cons, List.map_nil, List.length_cons, List.length_nil, List.replicate, List.cons_append, List.nil_append, List.getElem?_cons_zero, List.getElem?_cons_succ, slD, Nat.reduceSub, Nat.reduceAdd, List.set_cons_zero, List.set_cons_succ, List.length_set, true_and, and_self, exists_const, Nat.reduceLT, if_true, if_false, Bool.false_eq_true, Bool.not_true, Bool.not_false, h.fld, hv, ex_some]
theorem kind_book (h : BookAt S b l ps) : kindD "Book" S (.ob b) = some true := by simp only [kindD, h.ins, if_true]
theorem len_eq (h : BookAt S b l ps) : f_Book___len__ [.ob b] S = some (.ok (.int ps.length) S) := by
  have hv : lenSt S [.ob l] = some (.int ps.length) := by show (lstV S (.ob l)).map _ = _; rw [h.view]; simp
  refine fn0_of rfl ?_
  unfold m_Book___len__
  simp (maxSteps := 2000000) only [ev_ret, ev_bind, ev_lift, ev_ite, ev_var, ev_const, ev_op2, ev_test, ev_opC, ev_rngV, ev_args0, ev_args, ev_frz, ev_callF, ev_seq, nxt_nx, nxt_rt, nxt_bk, nxt_ct, ev_nop, ev_retV, ev_dropV, ev_ifS, ev_iteV, ev_andT, ev_orT, ev_notT, ev_andV, ev_orV, ev_notV, ev_chain, ev_tupV, ev_lstN, ev_put, ev_setV, ev_setO, ev_iterV, ev_negV, ev_revV, ev_listN, ev_sortN, ev_rgN1, ev_enumV, ev_noPart, ev_part, ev_sliceV, ev_par2, ev_freeze, ev_methI, ev_lenO, ev_forS, ev_lc, ev_sc, ev_yes, ev_op2S, ev_opCS, ev_newL, ev_callK, ev_methK, ev_makeK, ev_fldV, ev_setFld, ev_boxL, ev_appB, ev_fail, ex_ret, ex_some, toB_bl, frame, List.map_cons, List.map_nil, List.length_cons, List.length_nil, List.replicate, List.cons_append, List.nil_append, List.getElem?_cons_zero, List.getElem?_cons_succ, slD, Nat.reduceSub, Nat.reduceAdd, List.set_cons_zero, List.set_cons_succ, List.length_set, true_and, and_self, exists_const, Nat.reduceLT, if_true, if_false, Bool.false_eq_true, Bool.not_true, Bool.not_false, h.fld, hv, ex_some]
/-- a list of permissions in the store -/
def LstAt (S : Store) (n : Nat) (ps : List Pm) : Prop := S.get n = some (.box (.lst (ps.map permD))) ∧ n < S.size
theorem LstAt.view (h : LstAt S n ps) : lstV S (.ob n) = some (ps.map permD) := by simp only [lstV, h.1]
theorem LstAt.keep {S' : Store} (h : LstAt S n ps) (k : Keeps S S') : LstAt S' n ps := ⟨(k.get n h.2).trans h.1, Nat.lt_of_lt_of_le h.2 k.size⟩
theorem LstAt.toPS (h : LstAt S n ps) : Y.toPS 40 S (.ob n) = some (.list (ps.map permP)) := by
  show ((lstV S (.ob n)).bind fun xs => (mapO (Y.toPS 39 S) xs).map PyData.list) = _
  rw [h.view, Option.bind_some, mapO_perm (k := 37)]; rfl
theorem LstAt.eqPS {m : Nat} (h : LstAt S n ps) (h2 : LstAt S m ps) : Y.eqPS S (.ob n) (.ob m) = some true := by
  unfold Y.eqPS
  rw [h.toPS, h2.toPS]
  have hd : PyData.depth (.list (ps.map permP)) ≤ 64 := by
    have := depth_perms ps
    simp only [PyData.depth]; omega
  simp only
  rw [if_pos ⟨hd, hd⟩]
  simp only [PyData.eqv, eqv_perms]
theorem LstAt.eq {m : Nat} (h : LstAt S n ps) (h2 : LstAt S m ps) : eqS S (.ob n) (.ob m) = some (.bl true) := by
  unfold eqS
  have h0 : eqP (.ob n) (.ob m) = none := by simp [eqP, D.toP]
  rw [h0, h.eqPS h2]; rfl
theorem LstAt.ne {m : Nat} (h : LstAt S n ps) (h2 : LstAt S m ps) : neS S (.ob n) (.ob m) = some (.bl false) := by
  unfold neS
  have h0 : eqP (.ob n) (.ob m) = none := by simp [eqP, D.toP]
  rw [h0, h.eqPS h2]; rfl
theorem keeps_push {o : Ob} : Keeps S (S.push o) := ⟨by rw [Store.size_push]; omega, fun m hm => by rw [Store.get_push, if_neg (by omega)]⟩
theorem lst_push : LstAt (S.push (.box (.lst (ps.map permD)))) S.size ps := ⟨by rw [Store.get_push, if_pos rfl], by rw [Store.size_push]; omega⟩
theorem ev_lenOwn {cn : Str} {fn : Fn} {m : M D} {η : Sls} {Q : D → Sls → Store → Prop} : ev (lenOwn cn fn m) η S Q ↔ ev m η S fun x η S => ∃ (i : Int) (S' : Store), kindD cn S x = some true ∧ fn [x] S = some (.ok (.int i) S') ∧ (0 ≤ i ∧ i < 2 ^ 63) ∧ Q (.int i) η S' := by
  unfold lenOwn
  refine ev_bind.trans ?_
  constructor
  · rintro ⟨x, η1, S1, e1, a, η3, S3, e3, q⟩
    refine ⟨x, η1, S1, e1, ?_⟩
    dsimp only at e3
    split at e3
    · rename_i kx
      split at e3
      · rename_i i S4 hf
        split at e3
        · rename_i hi
          cases e3
          exact ⟨i, _, kx, hf, hi, q⟩
        · cases e3
      · cases e3
    · cases e3
  · rintro ⟨x, η1, S1, e1, i, S4, kx, hf, hi, q⟩
    exact ⟨x, η1, S1, e1, .int i, η1, S4, by simp only [kx, hf]; rw [if_pos hi], q⟩
theorem ne_ii {i : Int} : neD (.int i) (.int i) = some (.bl false) := by
  show some (D.bl _) = _
  simp [PyData.eqv]
theorem book_so_eq (hB : BookIn S b l ps) (hL : LstAt S n ps) : ∃ S', f__law_book_so [.ob b, .ob n] S = some (.ok (.bl true) S') ∧ Keeps S S' := by
  have k1 := keeps_push (S := S) (o := .box (.lst (ps.map permD)))
  obtain ⟨S1, hS1⟩ : ∃ S1, S1 = S.push (.box (.lst (ps.map permD))) := ⟨_, rfl⟩
  have p1 := permits_eq hB.toBookAt
  have l1 : LstAt (S.push (.box (.lst (ps.map permD)))) S.size ps := lst_push
  rw [← hS1] at k1 p1 l1
  have hB1 := hB.keep k1
  have hL1 := hL.keep k1
  have ln : lenSt S1 [.ob n] = some (.int ps.length) := by show (lstV S1 (.ob n)).map _ = _; rw [hL1.view]; simp
  have lc : lstC S1 (.ob S.size) = some () := by simp only [lstC, l1.1]
  have ap : appS S1 (.ob S.size) [.non] = some (S1.put S.size (.box (.lst (ps.map permD ++ [.non])))) := by
    simp only [appS, l1.1]
    rw [if_pos (by rw [List.length_map, sizeLine_eq]; have := hB.short; omega)]
  have k2 : Keeps S (S1.put S.size (.box (.lst (ps.map permD ++ [.non])))) := ⟨by rw [Store.size_put]; exact k1.size, fun m hm => by rw [Store.get_put, if_neg (by omega)]; exact k1.get m hm⟩
  obtain ⟨S2, hS2⟩ : ∃ S2, S2 = S1.put S.size (.box (.lst (ps.map permD ++ [.non]))) := ⟨_, rfl⟩
  rw [← hS2] at k2 ap
  have hB2 := hB.keep k2
  have p2 := permits_eq hB2.toBookAt
  have k3 := keeps_push (S := S2) (o := .box (.lst (ps.map permD)))
  have l3 : LstAt (S2.push (.box (.lst (ps.map permD)))) S2.size ps := lst_push
  have hL3 := (hL.keep k2).keep k3
  have hm := hB.meth (mt := "permits") (by decide +kernel)
  have hm2 := hB2.meth (mt := "permits") (by decide +kernel)
  refine fn0_run rfl ?_
  unfold m__law_book_so
  simp (maxSteps := 2000000) only [ev_ret, ev_bind, ev_lift, ev_ite, ev_var, ev_const, ev_op2, ev_test, ev_opC, ev_rngV, ev_args0, ev_args, ev_frz, ev_callF, ev_seq, nxt_nx, nxt_rt, nxt_bk, nxt_ct, ev_nop, ev_retV, ev_dropV, ev_ifS, ev_iteV, ev_andT, ev_orT, ev_notT, ev_andV, ev_orV, ev_notV, ev_chain, ev_tupV, ev_lstN, ev_put, ev_setV, ev_setO, ev_iterV, ev_negV, ev_revV, ev_listN, ev_sortN, ev_rgN1, ev_enumV, ev_noPart, ev_part, ev_sliceV, ev_par2, ev_freeze, ev_methI, ev_lenO, ev_forS, ev_lc, ev_sc, ev_yes, ev_op2S, ev_opCS, ev_newL, ev_callK, ev_methK, ev_makeK, ev_fldV, ev_setFld, ev_boxL, ev_appB, ev_fail, ex_ret, ex_some, toB_bl, frame, List.map_cons, List.map_nil, List.length_cons, List.length_nil, List.replicate, List.cons_append, List.nil_append, List.getElem?_cons_zero, List.getElem?_cons_succ, slD, Nat.reduceSub, Nat.reduceAdd, List.set_cons_zero, List.set_cons_succ, List.length_set, true_and, and_self, exists_const, Nat.reduceLT, if_true, if_false, Bool.false_eq_true, Bool.not_true, Bool.not_false, hm, pick1, p1, l1.ne hL1, ev_lenOwn]
  refine ⟨ps.length, S1, kind_book hB1.toBookAt, len_eq hB1.toBookAt, ⟨by omega, by have := hB.short; omega⟩, ?_⟩
  simp (maxSteps := 2000000) only [ev_ret, ev_bind, ev_lift, ev_ite, ev_var, ev_const, ev_op2, ev_test, ev_opC, ev_rngV, ev_args0, ev_args, ev_frz, ev_callF, ev_seq, nxt_nx, nxt_rt, nxt_bk, nxt_ct, ev_nop, ev_retV, ev_dropV, ev_ifS, ev_iteV, ev_andT, ev_orT, ev_notT, ev_andV, ev_orV, ev_notV, ev_chain, ev_tupV, ev_lstN, ev_put, ev_setV, ev_setO, ev_iterV, ev_negV, ev_revV, ev_listN, ev_sortN, ev_rgN1, ev_enumV, ev_noPart, ev_part, ev_sliceV, ev_par2, ev_freeze, ev_methI, ev_lenO, ev_forS, ev_lc, ev_sc, ev_yes, ev_op2S, ev_opCS, ev_newL, ev_callK, ev_methK, ev_makeK, ev_fldV, ev_setFld, ev_boxL, ev_appB, ev_fail, ex_ret, ex_some, toB_bl, frame, List.map_cons, List.map_nil, List.length_cons, List.length_nil, List.replicate, List.cons_append, List.nil_append, List.getElem?_cons_zero, List.getElem?_cons_succ, slD, Nat.reduceSub, Nat.reduceAdd, List.set_cons_zero, List.set_cons_succ, List.length_set, true_and, and_self, exists_const, Nat.reduceLT, if_true, if_false, Bool.false_eq_true, Bool.not_true, Bool.not_false, ln, ne_ii, lc, ap, hm2, pick1, p2, l3.eq hL3]
  exact k2.trans k3
end
theorem cells_bent {xs : List D} (hx : ∀ x ∈ xs, Leaf x) (h6 : xs.length = 6) {one : D} (h1 : G 2 3 one) (u v : List D) (hu : ∃ a b, u = cutL xs a b) (hv : ∃ a b, v = cutL xs a b) : G 3 20 (.tup (u ++ [one] ++ v)) ∧ G 3 20 (.tup (u ++ v)) := by
  obtain ⟨a, b, rfl⟩ := hu
  obtain ⟨c, d, rfl⟩ := hv
  have l1 := cut_len xs a b
  have l2 := cut_len xs c d
  have g1 : GL 2 6 (cutL xs a b) := GL.leaves (fun x hx' => hx x (cut_mem hx')) (by omega)
  have g2 : GL 2 6 (cutL xs c d) := GL.leaves (fun x hx' => hx x (cut_mem hx')) (by omega)
  have go : GL 2 3 [one] := .cons h1 (.nil (n := 0)) (by omega)
  exact ⟨.tup ((g1.append go).append g2) (by omega) (by omega), .tup (g1.append g2) (by omega) (by omega)⟩
theorem add_tt {xs ys : List D} (h : xs.length + ys.length ≤ sizeLine) : addD (.tup xs) (.tup ys) = some (.tup (xs ++ ys)) := if_pos h
theorem law_bent_eq {ds : List Int} {p : Pm} {S : Store} (hl : 3 ≤ ds.length) (h : PmOk p) (t : Told p) : ∃ d, f__law_bent [.lst (ds.map .int), permD p] S = some (.ok d S) ∧ G 3 20 d := by
  refine fn0_ex rfl ?_
  obtain ⟨x0, e0⟩ := item_d (ds := ds) (n := 0) (by omega)
  obtain ⟨x1, e1⟩ := item_d (ds := ds) (n := 1) (by omega)
  obtain ⟨x2, e2⟩ := item_d (ds := ds) (n := 2) (by omega)
  have e0 : itemD (.lst (ds.map .int)) (.int 0) = some (.int x0) := e0
  have e1 : itemD (.lst (ds.map .int)) (.int 1) = some (.int x1) := e1
  have e2 : itemD (.lst (ds.map .int)) (.int 2) = some (.int x2) := e2
  have sz : ∀ n : Nat, n ≤ 100 → n ≤ sizeLine := fun n h => by rw [sizeLine_eq]; omega
  have g3 : itemD (permD p) (.int 3) = some (.int p.since) := rfl
  have g5 : itemD (permD p) (.int 5) = some (.int p.known) := rfl
  have ng : negD (.int 1) = some (.int (-1)) := rfl
  have ed : ∀ {η : Sls} {S : Store} {Q : D → Sls → Store → Prop}, ev dict0 η S Q ↔ Q (.dd []) η S := ev_ret
  obtain ⟨xs, hxs⟩ : ∃ xs, xs = ([.str p.who, .str p.what, .str p.word, .int p.since, tillD p.till, .int p.known] : List D) := ⟨_, rfl⟩
  have hx : ∀ x ∈ xs, Leaf x := by rw [hxs]; exact perm_cells h t
  have h6 : xs.length = 6 := by rw [hxs]; rfl
  have hp : permD p = .tup xs := by rw [hxs]; rfl
  obtain ⟨odd, hodd⟩ : ∃ odd, odd = ([.non, .bl true, .int (-1), .int 0, .int 999, .int 1000, .int 5, .str "5", .str "", .str "ann", .str "Ann", .str "ninechars", .str "a b", .str "allow", .str "Allow", .str "withdraw", .tup [.str "allow"], .lst [.str "allow"], .str "ann\n", .int p.since, .int p.known, .dd []] : List D) := ⟨_, rfl⟩
  have ado : addD (.lst [.non, .bl true, .int (-1), .int 0, .int 999, .int 1000, .int 5, .str "5", .str "", .str "ann", .str "Ann", .str "ninechars", .str "a b", .str "allow", .str "Allow", .str "withdraw"]) (.lst [.tup [.str "allow"], .lst [.str "allow"], .str "ann\n", .int p.since, .int p.known, .dd []]) = some (.lst odd) := by
    rw [add_ll (sz _ (by simp)), hodd]; rfl
  obtain ⟨one, h1, m1⟩ := item_mod (xs := odd) (a := x1) (n := 22) (by rw [hodd]; rfl) (by decide)
  have h1 : itemD (.lst odd) (.int (x1 % 22)) = some one := h1
  have go : G 2 3 one := by
    have hs := h.since
    have hk := h.known
    have lf : ∀ {d : D}, Leaf d → G 2 3 d := fun l => .leaf l (by omega)
    have ga : GL 1 1 [.str "allow"] := .cons (a := 1) (b := 0) (.leaf (.str (by decide +kernel)) (by omega)) .nil (by omega)
    rw [hodd] at m1
    simp only [List.mem_cons, List.not_mem_nil, or_false] at m1
    rcases m1 with rfl | rfl | rfl | rfl | rfl | rfl | rfl | rfl | rfl | rfl | rfl | rfl | rfl | rfl | rfl | rfl | rfl | rfl | rfl | rfl | rfl | rfl
    · exact lf .non
    · exact lf (.bl _)
    · exact lf (.int (by omega) (by omega))
    · exact lf (.int (by omega) (by omega))
    · exact lf (.int (by omega) (by omega))
    · exact lf (.int (by omega) (by omega))
    · exact lf (.int (by omega) (by omega))
    · exact lf (.str (by decide +kernel))
    · exact lf (.str (by decide +kernel))
    · exact lf (.str (by decide +kernel))
    · exact lf (.str (by decide +kernel))
    · exact lf (.str (by decide +kernel))
    · exact lf (.str (by decide +kernel))
    · exact lf (.str (by decide +kernel))
    · exact lf (.str (by decide +kernel))
    · exact lf (.str (by decide +kernel))
    · exact .tup ga (by omega) (by omega)
    · exact .lst ga (by omega) (by omega)
    · exact lf (.str (by decide +kernel))
    · exact lf (.int (by omega) (by omega))
    · exact lf (.int (by omega) (by omega))
    · exact lf .dd
  have c1 : cutD (.tup xs) none (some (x0 % 6)) = some (.tup (cutL xs none (some (x0 % 6)))) := rfl
  have c2 : cutD (.tup xs) (some (x0 % 6 + 1)) none = some (.tup (cutL xs (some (x0 % 6 + 1)) none)) := rfl
  have l1 := cut_len xs none (some (x0 % 6))
  have l2 := cut_len xs (some (x0 % 6 + 1)) none
  obtain ⟨q1, q2⟩ := cells_bent hx h6 go (cutL xs none (some (x0 % 6))) (cutL xs (some (x0 % 6 + 1)) none) ⟨_, _, rfl⟩ ⟨_, _, rfl⟩
  obtain ⟨u, hu⟩ : ∃ u, u = cutL xs none (some (x0 % 6)) := ⟨_, rfl⟩
  obtain ⟨v, hv⟩ : ∃ v, v = cutL xs (some (x0 % 6 + 1)) none := ⟨_, rfl⟩
  rw [← hu] at c1 l1 q1 q2
  rw [← hv] at c2 l2 q1 q2
  have a1 : addD (.tup u) (.tup [one]) = some (.tup (u ++ [one])) := add_tt (sz _ (by simp; omega))
  have a2 : addD (.tup (u ++ [one])) (.tup v) = some (.tup (u ++ [one] ++ v)) := add_tt (sz _ (by simp; omega))
  have a3 : addD (.tup u) (.tup v) = some (.tup (u ++ v)) := add_tt (sz _ (by omega))
  have a4 : addD (.tup xs) (.tup [one]) = some (.tup (xs ++ [one])) := add_tt (sz _ (by simp; omega))
  have m8 : mulA (.lst [.tup (u ++ [one] ++ v)]) (.int 8) = some (.lst (List.replicate 8 (.tup (u ++ [one] ++ v)))) := mul_l1 (k := 8) (by decide)
  have a5 : addD (.lst (List.replicate 8 (.tup (u ++ [one] ++ v)))) (.lst [.tup (u ++ v), .tup (xs ++ [one]), .lst xs, one]) = some (.lst (List.replicate 8 (.tup (u ++ [one] ++ v)) ++ [.tup (u ++ v), .tup (xs ++ [one]), .lst xs, one])) := add_ll (sz _ (by simp))
  obtain ⟨d, h2, m2⟩ := item_mod (xs := List.replicate 8 (.tup (u ++ [one] ++ v)) ++ [.tup (u ++ v), .tup (xs ++ [one]), .lst xs, one]) (a := x2) (n := 12) (by simp) (by decide)
  have h2 : itemD (.lst (List.replicate 8 (.tup (u ++ [one] ++ v)) ++ [.tup (u ++ v), .tup (xs ++ [one]), .lst xs, one])) (.int (x2 % 12)) = some d := h2
  obtain ⟨rp, hrp⟩ : ∃ rp, rp = List.replicate 8 (D.tup (u ++ [one] ++ v)) := ⟨_, rfl⟩
  rw [← hrp] at m8 a5 h2 m2
  have ls : listD [.tup xs] = some xs := rfl
  have gx : GL 2 6 xs := GL.leaves hx (by omega)
  have gone : GL 2 3 [one] := .cons go (.nil (n := 0)) (by omega)
  have gd : G 3 20 d := by
    rcases List.mem_append.mp m2 with m2 | m2
    · rw [hrp] at m2; rw [(List.mem_replicate.mp m2).2]; exact q1
    · simp only [List.mem_cons, List.not_mem_nil, or_false] at m2
      rcases m2 with rfl | rfl | rfl | rfl
      · exact q2
      · exact .tup (gx.append gone) (by omega) (by omega)
      · exact .lst gx (by omega) (by omega)
      · exact go.mono (by omega) (by omega)
  unfold m__law_bent
  rw [hp] at g3 g5 ⊢
  have pd0 : partD (.int (x0 % 6)) = some (x0 % 6) := rfl
  have pd1 : partD (.int (x0 % 6 + 1)) = some (x0 % 6 + 1) := rfl
  simp (maxSteps := 2000000) only [ev_ret, ev_bind, ev_lift, ev_ite, ev_var, ev_const, ev_op2, ev_test, ev_opC, ev_rngV, ev_args0, ev_args, ev_frz, ev_callF, ev_seq, nxt_nx, nxt_rt, nxt_bk, nxt_ct, ev_nop, ev_retV, ev_dropV, ev_ifS, ev_iteV, ev_andT, ev_orT, ev_notT, ev_andV, ev_orV, ev_notV, ev_chain, ev_tupV, ev_lstN, ev_put, ev_setV, ev_setO, ev_iterV, ev_negV, ev_revV, ev_listN, ev_sortN, ev_rgN1, ev_enumV, ev_noPart, ev_part, ev_sliceV, ev_par2, ev_freeze, ev_methI, ev_lenO, ev_forS, ev_lc, ev_sc, ev_yes, ev_op2S, ev_opCS, ev_newL, ev_callK, ev_methK, ev_makeK, ev_fldV, ev_setFld, ev_boxL, ev_appB, ev_fail, ex_ret, ex_some, toB_bl, frame, List.map_cons, List.map_nil, List.length_cons, List.length_nil, List.replicate, List.cons_append, List.nil_append, List.getElem?_cons_zero, List.getElem?_cons_succ, slD, Nat.reduceSub, Nat.reduceAdd, List.set_cons_zero, List.set_cons_succ, List.length_set, true_and, and_self, exists_const, Nat.reduceLT, if_true, if_false, Bool.false_eq_true, Bool.not_true, Bool.not_false, e0, e1, e2, mod_ii (a := x0) (b := 6) (by decide), mod_ii (a := x1) (b := 22) (by decide), mod_ii (a := x2) (b := 12) (by decide), add_ii, g3, g5, ng, ed, sz 1 (by decide), sz 4 (by decide), sz 6 (by decide), sz 16 (by decide), ado, h1, c1, c2, pd0, pd1, a1, a2, a3, a4, m8, a5, ls, h2]
  exact ⟨_, rfl, gd⟩
end Z
namespace Z
open PySem L2 Y
/-! one thing handed in -/
def c_item : M Fl := (seqS (setV 12 (opC reprW (args (var 11) args0))) (seqS (par2 14 15 (args (methK "Book" "permits" f_Book_permits [0] [] 1 0 (var 5) args0 args0) (args (opCS reprS (args (var 6) args0)) args0))) (seqS (setV 13 (callF f__law_due (args (var 11) (args (var 9) args0)))) (seqS (ifS (test (op2 eqD (var 13) (const (.str "let")))) (seqS (dropV (appB (var 6) (args (var 11) args0))) (setV 9 (op2 itemD (var 11) (const (.int 5))))) nop) (seqS (ifS (orT (test (op2 neD (callF f__law_said (args (var 5) (args (var 11) args0))) (var 13))) (orT (test (op2 neD (opC reprW (args (var 11) args0)) (var 12))) (notT (test (callF f__law_book_so (args (var 5) (args (var 6) args0))))))) (retV (const (.bl false))) nop) (ifS (test (op2 neD (opCS reprS (args (var 14) args0)) (var 15))) (retV (const (.bl false))) nop))))))
abbrev Fr (ns : List Int) (s1 s2 : Sl) (ds : List Int) (s4 : Sl) (b n : Nat) (s7 s8 : Sl) (last : Int) (s10 s11 s12 s13 s14 s15 : Sl) : Sls :=
  [.val (.scr ns), s1, s2, .val (.lst (ds.map .int)), s4, .val (.ob b), .val (.ob n), s7, s8, .val (.int last), s10, s11, s12, s13, s14, s15]
structure Inv (S : Store) (b l n : Nat) (ps : List Pm) : Prop where
  bk : BookIn S b l ps
  ls : LstAt S n ps
  bn : b ≠ n
  ln : l ≠ n
  ok : ∀ p ∈ ps, PmOk p ∧ G 3 20 (permD p)
section
variable {S : Store} {b l n : Nat} {ps : List Pm} {d : D}
theorem said_no {k m : Nat} (hB : BookAt S b l ps) (hd : G k m d) (hm : m ≤ 20) (h : dueB d (lastKnown ps) ≠ "let") : f__law_said [.ob b, d] S = some (.ok (.str (dueB d (lastKnown ps))) S) := by
  cases hp : permB d with
  | false =>
    rw [dueB_no hp]
    exact said_ex hB (put_any hB (put_from_form (hd.it hm) hp) (fun _ _ e => by cases e))
  | true =>
    obtain ⟨p, rfl, po⟩ := perm_of hp
    rw [due_perm po] at h ⊢
    by_cases q : lastKnown ps ≤ p.known
    · rw [if_pos q] at h; exact absurd rfl h
    · rw [if_neg q]
      exact said_ex hB (put_any hB (put_from_known hB po (by omega)) (fun _ _ e => by cases e))
theorem due_let (h : dueB d (lastKnown ps) = "let") : ∃ p, d = permD p ∧ PmOk p ∧ lastKnown ps ≤ p.known := by
  cases hp : permB d with
  | false => rw [dueB_no hp] at h; exact absurd h (by decide +kernel)
  | true =>
    obtain ⟨p, rfl, po⟩ := perm_of hp
    rw [due_perm po] at h
    by_cases q : lastKnown ps ≤ p.known
    · exact ⟨p, rfl, po, q⟩
    · rw [if_neg q] at h; exact absurd h (by decide +kernel)
theorem repr_lst (hL : LstAt S n ps) {z : Str} (h : reprW [.lst (ps.map permD)] = some (.str z)) : reprS S [.ob n] = some (.str z) := by
  show ((lstV S (.ob n)).bind fun xs => reprW [.lst xs]) = _
  rw [hL.view, Option.bind_some, h]
theorem repr_some (h : ∀ p ∈ ps, PmOk p ∧ G 3 20 (permD p)) (hl : ps.length ≤ 90) : ∃ z, reprW [.lst (ps.map permD)] = some (.str z) := by
  have g : GL 3 ((ps.map permD).length * 20) (ps.map permD) := GL.of fun x hx => by obtain ⟨p, hp, rfl⟩ := List.mem_map.mp hx; exact (h p hp).2
  rw [List.length_map] at g
  obtain ⟨p, _, hr⟩ := (G.lst (k' := 4) (n := ps.length * 20 + 1) g (by omega) (by omega)).repr (by omega) (by omega)
  exact ⟨_, hr⟩
theorem item_ok (hI : Inv S b l n ps) (hl : ps.length ≤ 80) (hd : G 3 20 d) {ns ds : List Int} {s1 s2 s4 s7 s8 s10 s12 s13 s14 s15 : Sl} {Q : Fl → Sls → Store → Prop}
    (hQ : ∀ ps' S' t12 t13 t14 t15, Inv S' b l n ps' → ps'.length ≤ ps.length + 1 → Q .nx (Fr ns s1 s2 ds s4 b n s7 s8 (lastKnown ps') s10 (.val d) t12 t13 t14 t15) S') :
    ev c_item (Fr ns s1 s2 ds s4 b n s7 s8 (lastKnown ps) s10 (.val d) s12 s13 s14 s15) S Q := by
  obtain ⟨hB, hL, hbn, hln, hok⟩ := hI
  obtain ⟨pd, -, hr⟩ := hd.repr (by decide) (by decide)
  obtain ⟨z, hz⟩ := repr_some hok (by omega)
  have k1 := keeps_push (S := S) (o := .box (.lst (ps.map permD)))
  have p1 := permits_eq hB.toBookAt
  have l1 : LstAt (S.push (.box (.lst (ps.map permD)))) S.size ps := lst_push
  obtain ⟨S1, hS1⟩ : ∃ S1, S1 = S.push (.box (.lst (ps.map permD))) := ⟨_, rfl⟩
  rw [← hS1] at k1 p1 l1
  have hB1 := hB.keep k1
  have hL1 := hL.keep k1
  have hm := hB.meth (mt := "permits") (by decide +kernel)
  have hdue := law_due_eq (S := S1) (last := lastKnown ps) hd (by decide) (by decide)
  unfold c_item Fr
  by_cases h : dueB d (lastKnown ps) = "let"
  · obtain ⟨p, rfl, po, hp⟩ := due_let h
    rw [h] at hdue
    have lc : lstC S1 (.ob n) = some () := by simp only [lstC, hL1.1]
    have ap : appS S1 (.ob n) [permD p] = some (S1.put n (.box (.lst ((ps ++ [p]).map permD)))) := by
      simp only [appS, hL1.1]
      rw [if_pos (by rw [List.length_map, sizeLine_eq]; omega), List.map_append]; rfl
    obtain ⟨S2, hS2⟩ : ∃ S2, S2 = S1.put n (.box (.lst ((ps ++ [p]).map permD))) := ⟨_, rfl⟩
    have hnS := hL.2
    have hL2 : LstAt S2 n (ps ++ [p]) := by rw [hS2]; exact ⟨by rw [Store.get_put, if_pos rfl], by rw [Store.size_put]; exact hL1.2⟩
    have hB2 : BookIn S2 b l ps := by
      rw [hS2]
      exact ⟨⟨by rw [Store.get_put, if_neg hbn]; exact hB1.ins, by rw [Store.get_put, if_neg hln]; exact hB1.lst, hB1.short⟩, hB1.ne, hB1.bs, hB1.ls⟩
    have l2 : LstAt S2 S.size ps := by rw [hS2]; exact ⟨by rw [Store.get_put, if_neg (by omega)]; exact l1.1, by rw [Store.size_put]; exact l1.2⟩
    rw [← hS2] at ap
    have sd := said_ok (e := .non) hB2.toBookAt (put_any hB2.toBookAt (put_from_let hB2.toBookAt po hp (by omega)) (fun _ _ e => by cases e; rfl))
    obtain ⟨S3, hS3⟩ : ∃ S3, S3 = S2.put l (.box (.lst ((ps ++ [p]).map permD))) := ⟨_, rfl⟩
    have hlS := hB.ls
    have hL3 : LstAt S3 n (ps ++ [p]) := by rw [hS3]; exact ⟨by rw [Store.get_put, if_neg (Ne.symm hln)]; exact hL2.1, by rw [Store.size_put]; exact hL2.2⟩
    have hB3 : BookIn S3 b l (ps ++ [p]) := by rw [hS3]; exact ⟨book_put hB2.toBookAt hB2.ne (by omega), hB2.ne, hB2.bs, hB2.ls⟩
    have l3 : LstAt S3 S.size ps := by rw [hS3]; exact ⟨by rw [Store.get_put, if_neg (by omega)]; exact l2.1, by rw [Store.size_put]; exact l2.2⟩
    rw [← hS3] at sd
    obtain ⟨S4, bs, k4⟩ := book_so_eq hB3 hL3
    have e1 : eqD (.str "let") (.str "let") = some (.bl true) := by rw [eqD_ss, beq_self_eq_true]
    have g5 : itemD (permD p) (.int 5) = some (.int p.known) := rfl
    simp (maxSteps := 2000000) only [ev_ret, ev_bind, ev_lift, ev_ite, ev_var, ev_const, ev_op2, ev_test, ev_opC, ev_rngV, ev_args0, ev_args, ev_frz, ev_callF, ev_seq, nxt_nx, nxt_rt, nxt_bk, nxt_ct, ev_nop, ev_retV, ev_dropV, ev_ifS, ev_iteV, ev_andT, ev_orT, ev_notT, ev_andV, ev_orV, ev_notV, ev_chain, ev_tupV, ev_lstN, ev_put, ev_setV, ev_setO, ev_iterV, ev_negV, ev_revV, ev_listN, ev_sortN, ev_rgN1, ev_enumV, ev_noPart, ev_part, ev_sliceV, ev_par2, ev_freeze, ev_methI, ev_lenO, ev_forS, ev_lc, ev_sc, ev_yes, ev_op2S, ev_opCS, ev_newL, ev_callK, ev_methK, ev_makeK, ev_fldV, ev_setFld, ev_boxL, ev_appB, ev_fail, ex_ret, ex_some, toB_bl, frame, List.map_cons, List.map_nil, List.length_cons, List.length_nil, List.replicate, List.cons_append, List.nil_append, List.getElem?_cons_zero, List.getElem?_cons_succ, slD, Nat.reduceSub, Nat.reduceAdd, List.set_cons_zero, List.set_cons_succ, List.length_set, true_and, and_self, exists_const, Nat.reduceLT, if_true, if_false, Bool.false_eq_true, Bool.not_true, Bool.not_false, hr, hm, pick1, p1, repr_lst hL1 hz, hdue, e1, lc, ap, g5, sd, neD_str, bs, repr_lst (l3.keep k4) hz]
    refine ⟨_, _, rfl, ?_⟩
    simp (maxSteps := 2000000) only [ev_ret, ev_bind, ev_lift, ev_ite, ev_var, ev_const, ev_op2, ev_test, ev_opC, ev_rngV, ev_args0, ev_args, ev_frz, ev_callF, ev_seq, nxt_nx, nxt_rt, nxt_bk, nxt_ct, ev_nop, ev_retV, ev_dropV, ev_ifS, ev_iteV, ev_andT, ev_orT, ev_notT, ev_andV, ev_orV, ev_notV, ev_chain, ev_tupV, ev_lstN, ev_put, ev_setV, ev_setO, ev_iterV, ev_negV, ev_revV, ev_listN, ev_sortN, ev_rgN1, ev_enumV, ev_noPart, ev_part, ev_sliceV, ev_par2, ev_freeze, ev_methI, ev_lenO, ev_forS, ev_lc, ev_sc, ev_yes, ev_op2S, ev_opCS, ev_newL, ev_callK, ev_methK, ev_makeK, ev_fldV, ev_setFld, ev_boxL, ev_appB, ev_fail, ex_ret, ex_some, toB_bl, frame, List.map_cons, List.map_nil, List.length_cons, List.length_nil, List.replicate, List.cons_append, List.nil_append, List.getElem?_cons_zero, List.getElem?_cons_succ, slD, Nat.reduceSub, Nat.reduceAdd, List.set_cons_zero, List.set_cons_succ, List.length_set, true_and, and_self, exists_const, Nat.reduceLT, if_true, if_false, Bool.false_eq_true, Bool.not_true, Bool.not_false, hr, hm, pick1, p1, repr_lst hL1 hz, hdue, e1, lc, ap, g5, sd, neD_str, bs, repr_lst (l3.keep k4) hz]
    have := hQ (ps ++ [p]) S4 (.val (.str pd.shown)) (.val (.str "let")) (.val (.ob S.size)) (.val (.str z)) ⟨hB3.keep k4, hL3.keep k4, hbn, hln, fun q hq => by
      rcases List.mem_append.mp hq with hq | hq
      · exact hok q hq
      · rw [List.mem_singleton.mp hq]; exact ⟨po, hd⟩⟩ (by simp)
    rw [last_snoc] at this
    exact this
  · have sd := said_no hB1.toBookAt hd (by decide) h
    obtain ⟨S4, bs, k4⟩ := book_so_eq hB1 hL1
    have e1 : eqD (.str (dueB d (lastKnown ps))) (.str "let") = some (.bl false) := by rw [eqD_ss, beq_eq_false_iff_ne.mpr h]
    simp (maxSteps := 2000000) only [ev_ret, ev_bind, ev_lift, ev_ite, ev_var, ev_const, ev_op2, ev_test, ev_opC, ev_rngV, ev_args0, ev_args, ev_frz, ev_callF, ev_seq, nxt_nx, nxt_rt, nxt_bk, nxt_ct, ev_nop, ev_retV, ev_dropV, ev_ifS, ev_iteV, ev_andT, ev_orT, ev_notT, ev_andV, ev_orV, ev_notV, ev_chain, ev_tupV, ev_lstN, ev_put, ev_setV, ev_setO, ev_iterV, ev_negV, ev_revV, ev_listN, ev_sortN, ev_rgN1, ev_enumV, ev_noPart, ev_part, ev_sliceV, ev_par2, ev_freeze, ev_methI, ev_lenO, ev_forS, ev_lc, ev_sc, ev_yes, ev_op2S, ev_opCS, ev_newL, ev_callK, ev_methK, ev_makeK, ev_fldV, ev_setFld, ev_boxL, ev_appB, ev_fail, ex_ret, ex_some, toB_bl, frame, List.map_cons, List.map_nil, List.length_cons, List.length_nil, List.replicate, List.cons_append, List.nil_append, List.getElem?_cons_zero, List.getElem?_cons_succ, slD, Nat.reduceSub, Nat.reduceAdd, List.set_cons_zero, List.set_cons_succ, List.length_set, true_and, and_self, exists_const, Nat.reduceLT, if_true, if_false, Bool.false_eq_true, Bool.not_true, Bool.not_false, hr, hm, pick1, p1, repr_lst hL1 hz, hdue, e1, sd, neD_str, bs, repr_lst (l1.keep k4) hz]
    refine ⟨_, _, rfl, ?_⟩
    simp (maxSteps := 2000000) only [ev_ret, ev_bind, ev_lift, ev_ite, ev_var, ev_const, ev_op2, ev_test, ev_opC, ev_rngV, ev_args0, ev_args, ev_frz, ev_callF, ev_seq, nxt_nx, nxt_rt, nxt_bk, nxt_ct, ev_nop, ev_retV, ev_dropV, ev_ifS, ev_iteV, ev_andT, ev_orT, ev_notT, ev_andV, ev_orV, ev_notV, ev_chain, ev_tupV, ev_lstN, ev_put, ev_setV, ev_setO, ev_iterV, ev_negV, ev_revV, ev_listN, ev_sortN, ev_rgN1, ev_enumV, ev_noPart, ev_part, ev_sliceV, ev_par2, ev_freeze, ev_methI, ev_lenO, ev_forS, ev_lc, ev_sc, ev_yes, ev_op2S, ev_opCS, ev_newL, ev_callK, ev_methK, ev_makeK, ev_fldV, ev_setFld, ev_boxL, ev_appB, ev_fail, ex_ret, ex_some, toB_bl, frame, List.map_cons, List.map_nil, List.length_cons, List.length_nil, List.replicate, List.cons_append, List.nil_append, List.getElem?_cons_zero, List.getElem?_cons_succ, slD, Nat.reduceSub, Nat.reduceAdd, List.set_cons_zero, List.set_cons_succ, List.length_set, true_and, and_self, exists_const, Nat.reduceLT, if_true, if_false, Bool.false_eq_true, Bool.not_true, Bool.not_false, hr, hm, pick1, p1, repr_lst hL1 hz, hdue, e1, sd, neD_str, bs, repr_lst (l1.keep k4) hz]
    exact hQ ps S4 _ _ _ _ ⟨hB1.keep k4, hL1.keep k4, hbn, hln, hok⟩ (by omega)
end
end Z
namespace Z
open PySem L2 Y
/-! the law -/
theorem item5 {p : Pm} : itemD (permD p) (.int 5) = some (.int p.known) := rfl
theorem last_mem {ps : List Pm} {q : Pm} (h : ps.getLast? = some q) : lastKnown ps = q.known := by unfold lastKnown; rw [h]
def zeros : D := .tup [.int 0, .int 0, .int 0, .int 0, .int 0, .int 0]
theorem cut_end {α : Type} {l : List α} : cutL l (some (-1)) none = l.drop (l.length - 1) := by
  unfold cutL
  have e1 : HT.sIx l.length 0 (some (-1)) = l.length - 1 := by unfold HT.sIx; cases l <;> simp <;> omega
  have e2 : HT.sIx l.length l.length none = l.length := by unfold HT.sIx; rfl
  rw [e1, e2, List.take_of_length_le (by rw [List.length_drop]; omega)]
theorem last5 {qs : List Pm} (hs : qs.length ≤ 100) : ∃ c z, cutD (.lst (qs.map permD)) (some (-1)) none = some (.lst c) ∧ addD (.lst c) (.lst [zeros]) = some (.lst (c ++ [zeros])) ∧ itemD (.lst (c ++ [zeros])) (.int 0) = some z ∧ itemD z (.int 5) = some (.int (lastKnown qs)) := by
  have sz : ∀ n : Nat, n ≤ 1000 → n ≤ sizeLine := fun n h => by rw [sizeLine_eq]; omega
  have it : ∀ {xs : List D} {x : D}, xs[0]? = some x → itemD (.lst xs) (.int 0) = some x := fun h => atI_at (i := 0) h
  have hc : cutD (.lst (qs.map permD)) (some (-1)) none = some (.lst ((qs.drop (qs.length - 1)).map permD)) := by
    show some (D.lst (cutL _ _ _)) = _
    rw [cut_end, List.length_map, ← List.map_drop]
  have hl : ((qs.drop (qs.length - 1)).map permD).length + [zeros].length ≤ sizeLine := sz _ (by simp; omega)
  cases hq : qs.getLast? with
  | none =>
    have : qs = [] := List.getLast?_eq_none_iff.mp hq
    subst this
    exact ⟨_, zeros, hc, add_ll hl, it rfl, rfl⟩
  | some p =>
    have hd : qs.drop (qs.length - 1) = [p] := by
      obtain ⟨q, rfl⟩ := List.getLast?_eq_some_iff.mp hq
      simp
    refine ⟨_, permD p, hc, add_ll hl, it ?_, ?_⟩
    · rw [hd]; rfl
    · rw [item5, show lastKnown qs = p.known from last_mem hq]

def c_turn : M Fl := (seqS (setV 9 (op2 itemD (op2 itemD (op2 addD (sliceVS (var 6) (part (negV (const (.int 1)))) noPart) (frz (lstN (args (tupV (args (const (.int 0)) (args (const (.int 0)) (args (const (.int 0)) (args (const (.int 0)) (args (const (.int 0)) (args (const (.int 0)) args0))))))) args0)))) (const (.int 0))) (const (.int 5)))) (seqS (setV 10 (callF f__law_bent (args (sliceV (var 3) (part (op2 addD (const (.int 100)) (op2 mulA (const (.int 3)) (var 7)))) noPart) (args (var 8) args0)))) (forS (iterV (frz (lstN (args (var 10) (args (var 8) (args (op2 addD (sliceV (var 8) noPart (part (const (.int 5)))) (tupV (args (op2 subD (op2 itemD (var 8) (const (.int 5))) (const (.int 1))) args0))) (args (const .non) (args (const (.str "permit")) args0)))))))) (gN 11) c_item)))
def c_cell : M Fl := (seqS (setV 3 (callF f__law_numbers (args (var 2) (args (op2 addD (const (.int 3700)) (var 1)) (args (op2 mulA (frz (lstN (args (const (.int 420)) args0))) (const (.int 200))) args0))))) (seqS (setV 4 (callF f__law_folk (args (var 3) args0))) (seqS (setV 5 (makeK "Book" f_Book___init__ [0] [] 1 0 args0 args0)) (seqS (setV 6 (boxL (lstN args0))) (forS (enumV (args (callF f__law_permits (args (sliceV (var 3) (part (const (.int 2))) noPart) (args (var 4) (args (op2 addD (const (.int 3)) (op2 modD (op2 itemD (var 3) (const (.int 1))) (const (.int 10)))) args0)))) args0)) (gT 2 (gsCons (gN 7) (gsCons (gN 8) gsNil))) c_turn)))))
theorem m_law_eq : m_law = seqS (forS (enumV (args (op2 addD (sliceV (var 0) noPart (part (const (.int 8)))) (op2 mulA (frz (lstN (args (const (.int 7)) args0))) (opC intD (args (op2 eqN (var 0) (frz (lstN args0))) args0)))) args0)) (gT 2 (gsCons (gN 1) (gsCons (gN 2) gsNil))) c_cell) (retV (const (.bl true))) := rfl
section
variable {S : Store} {b l n : Nat} {ps : List Pm} {d : D} {ns ds : List Int} {s1 s2 s4 : Sl}
theorem cutS_lst (hL : LstAt S n ps) {a b : Option Int} : cutS S (.ob n) a b = cutD (.lst (ps.map permD)) a b := by
  show ((lstV S (.ob n)).map fun xs => D.lst (cutL xs a b)) = _
  rw [hL.view]; rfl
theorem turn_ok (hI : Inv S b l n ps) (hl : ps.length ≤ 60) (hd : 160 ≤ ds.length) {p : Pm} (hp : PmOk p) (ht : Told p) {i : Nat} (hi : i ≤ 12) {s9 s10 s11 s12 s13 s14 s15 : Sl} {Q : Fl → Sls → Store → Prop}
    (hQ : ∀ ps' S' t9 t10 t11 t12 t13 t14 t15, Inv S' b l n ps' → ps'.length ≤ ps.length + 5 → Q .nx [.val (.scr ns), s1, s2, .val (.lst (ds.map .int)), s4, .val (.ob b), .val (.ob n), .val (.int i), .val (permD p), t9, t10, t11, t12, t13, t14, t15] S') :
    ev c_turn [.val (.scr ns), s1, s2, .val (.lst (ds.map .int)), s4, .val (.ob b), .val (.ob n), .val (.int i), .val (permD p), s9, s10, s11, s12, s13, s14, s15] S Q := by
  obtain ⟨cc, z, c1, c2, c3, c4⟩ := last5 (qs := ps) (by omega)
  have ng : negD (.int 1) = some (.int (-1)) := rfl
  have pd : partD (.int (-1)) = some (-1) := rfl
  have pd5 : partD (.int 5) = some 5 := rfl
  have sz : ∀ n : Nat, n ≤ 100 → n ≤ sizeLine := fun n h => by rw [sizeLine_eq]; omega
  have c0 := cutS_lst hI.ls (a := some (-1)) (b := none)
  have m3 : mulA (.int 3) (.int i) = some (.int (3 * i)) := mul_ii (.inl ⟨by decide, by decide⟩)
  have pd3 : partD (.int (100 + 3 * (i : Int))) = some (100 + 3 * (i : Int)) := rfl
  have ck : cutD (.lst (ds.map .int)) (some (100 + 3 * (i : Int))) none = some (.lst ((ds.drop (100 + 3 * i)).map .int)) := by
    have e : (100 + 3 * (i : Int)) = ((100 + 3 * i : Nat) : Int) := by omega
    show some (D.lst (cutL (ds.map D.int) _ none)) = _
    rw [e, cut_from, ← List.map_drop]
  obtain ⟨bd, hb, gb⟩ := law_bent_eq (ds := ds.drop (100 + 3 * i)) (p := p) (S := S) (by rw [List.length_drop]; omega) hp ht
  have g5 : itemD (permD p) (.int 5) = some (.int p.known) := rfl
  have ct : cutD (permD p) none (some 5) = some (.tup [.str p.who, .str p.what, .str p.word, .int p.since, tillD p.till]) := by
    show some (D.tup (cutL _ none (some ((5 : Nat) : Int)))) = _
    rw [cut_to]; rfl
  have ad : addD (.tup [.str p.who, .str p.what, .str p.word, .int p.since, tillD p.till]) (.tup [.int (p.known - 1)]) = some (.tup [.str p.who, .str p.what, .str p.word, .int p.since, tillD p.till, .int (p.known - 1)]) := add_tt (sz _ (by simp))
  have gp := perm_G hp ht
  have gt : G 3 20 (.tup [.str p.who, .str p.what, .str p.word, .int p.since, tillD p.till, .int (p.known - 1)]) := by
    refine .tup (GL.leaves (k := 1) (n := 6) (fun x hx => ?_) (by simp)) (by omega) (by omega)
    simp only [List.mem_cons, List.not_mem_nil, or_false] at hx
    have hc := perm_cells hp ht
    rcases hx with rfl | rfl | rfl | rfl | rfl | rfl
    · exact hc _ (by simp)
    · exact hc _ (by simp)
    · exact hc _ (by simp)
    · exact hc _ (by simp)
    · exact hc _ (by simp)
    · have := hp.known; exact .int (by omega) (by omega)
  have gn : G 3 20 .non := .leaf .non (by omega)
  have gs : G 3 20 (.str "permit") := .leaf (.str (by decide +kernel)) (by omega)
  unfold c_turn
  simp (maxSteps := 2000000) only [ev_ret, ev_bind, ev_lift, ev_ite, ev_var, ev_const, ev_op2, ev_test, ev_opC, ev_rngV, ev_args0, ev_args, ev_frz, ev_callF, ev_seq, nxt_nx, nxt_rt, nxt_bk, nxt_ct, ev_nop, ev_retV, ev_dropV, ev_ifS, ev_iteV, ev_andT, ev_orT, ev_notT, ev_andV, ev_orV, ev_notV, ev_chain, ev_tupV, ev_lstN, ev_put, ev_setV, ev_setO, ev_iterV, ev_negV, ev_revV, ev_listN, ev_sortN, ev_rgN1, ev_enumV, ev_noPart, ev_part, ev_sliceV, ev_par2, ev_freeze, ev_methI, ev_lenO, ev_forS, ev_lc, ev_sc, ev_yes, ev_op2S, ev_opCS, ev_newL, ev_callK, ev_methK, ev_makeK, ev_fldV, ev_setFld, ev_boxL, ev_appB, ev_fail, ex_ret, ex_some, toB_bl, frame, List.map_cons, List.map_nil, List.length_cons, List.length_nil, List.replicate, List.cons_append, List.nil_append, List.getElem?_cons_zero, List.getElem?_cons_succ, slD, Nat.reduceSub, Nat.reduceAdd, List.set_cons_zero, List.set_cons_succ, List.length_set, true_and, and_self, exists_const, Nat.reduceLT, if_true, if_false, Bool.false_eq_true, Bool.not_true, Bool.not_false, ev_sliceVS, ng, pd, pd5, c0, c1, show D.tup [.int 0, .int 0, .int 0, .int 0, .int 0, .int 0] = zeros from rfl, c2, c3, c4, sz 1 (by decide), sz 5 (by decide), sz 6 (by decide), m3, add_ii, pd3, ck, hb, g5, sub_ii, ct, ad, itemsD, ex_some]
  refine ev_forL (fun r η S' => (∀ d ∈ r, G 3 20 d) ∧ ∃ ps' t11 t12 t13 t14 t15, Inv S' b l n ps' ∧ ps'.length + r.length ≤ ps.length + 5 ∧ η = Fr ns s1 s2 ds s4 b n (.val (.int i)) (.val (permD p)) (lastKnown ps') (.val bd) t11 t12 t13 t14 t15) _ _ _ ⟨?_, ps, s11, s12, s13, s14, s15, hI, Nat.le_refl _, rfl⟩ ?_ ?_
  · intro d hd
    simp only [List.mem_cons, List.not_mem_nil, or_false] at hd
    rcases hd with rfl | rfl | rfl | rfl | rfl
    · exact gb
    · exact gp
    · exact gt
    · exact gn
    · exact gs
  · rintro d r η S' ⟨hr, ps', t11, t12, t13, t14, t15, hI', hlen, rfl⟩
    rw [List.length_cons] at hlen
    refine ⟨Fr ns s1 s2 ds s4 b n (.val (.int i)) (.val (permD p)) (lastKnown ps') (.val bd) (.val d) t12 t13 t14 t15, rfl, ?_⟩
    refine item_ok hI' (by omega) (hr d (by simp)) fun ps2 S2 u12 u13 u14 u15 hI2 hl2 => ?_
    exact ⟨fun x hx => hr x (by simp [hx]), ps2, _, _, _, _, _, hI2, by omega, rfl⟩
  · rintro η S' ⟨_, ps', t11, t12, t13, t14, t15, hI', hlen, rfl⟩
    rw [List.length_nil] at hlen
    exact hQ ps' S' _ _ _ _ _ _ _ hI' (by omega)
theorem cell_ok {k : Nat} {c : Int} {t : List Sl} (ht : t.length = 13) (hk : k ≤ 100) {Q : Fl → Sls → Store → Prop}
    (hQ : ∀ t' S', t'.length = 13 → Q .nx (.val (.scr ns) :: .val (.int k) :: .val (.int c) :: t') S') : ev c_cell (.val (.scr ns) :: .val (.int k) :: .val (.int c) :: t) S Q := by
  match t, ht with
  | [s3, s4, s5, s6, s7, s8, s9, s10, s11, s12, s13, s14, s15], _ =>
  have sz : ∀ n : Nat, n ≤ 100 → n ≤ sizeLine := fun n h => by rw [sizeLine_eq]; omega
  have a37 : addD (.int 3700) (.int k) = some (.int (3700 + k)) := rfl
  have m200 : mulA (.lst [.int 420]) (.int 200) = some (.lst (List.replicate 200 (.int 420))) := mul_l1 (k := 200) (by decide)
  obtain ⟨d, hn, ds, rfl, hdl, hdb⟩ := law_numbers_eq (c := c) (salt := 3700 + k) (n := 200) (S := S) (by omega) (by omega) (by decide)
  obtain ⟨rl, hrl⟩ : ∃ rl, rl = List.replicate 200 (D.int 420) := ⟨_, rfl⟩
  rw [← hrl] at m200 hn
  obtain ⟨d, hfo, fs, rfl, hf⟩ := law_folk_eq (ds := ds) (S := S) (by omega)
  obtain ⟨x1, e1⟩ := item_d (ds := ds) (n := 1) (by omega)
  have e1 : itemD (.lst (ds.map .int)) (.int 1) = some (.int x1) := e1
  have m10 := emod_lt (a := x1) (b := 10) (by decide)
  obtain ⟨m, hm3⟩ := Int.eq_ofNat_of_zero_le (a := 3 + x1 % 10) (by omega)
  have hc2 : cutD (.lst (ds.map .int)) (some 2) none = some (.lst ((ds.drop 2).map .int)) := by
    show some (D.lst (cutL (ds.map D.int) (some ((2 : Nat) : Int)) none)) = _
    rw [cut_from, ← List.map_drop]
  have pd2 : partD (.int 2) = some 2 := rfl
  have a3 : addD (.int 3) (.int (x1 % 10)) = some (.int m) := by rw [add_ii, hm3]
  obtain ⟨S1, hin, hB1, hK1⟩ := init_in (S := S)
  obtain ⟨S2, hS2⟩ : ∃ S2, S2 = S1.push (.box (.lst (([] : List Pm).map permD))) := ⟨_, rfl⟩
  have k2 : Keeps S1 S2 := by rw [hS2]; exact keeps_push
  have hB2 := hB1.keep k2
  have hL2 : LstAt S2 S1.size [] := by rw [hS2]; exact lst_push
  have hbS := hB1.bs
  have hlS := hB1.ls
  have hI : Inv S2 S.size (S.size + 1) S1.size [] := ⟨hB2, hL2, by omega, by omega, by simp⟩
  have hS2' : S1.push (.box (.lst [])) = S2 := by rw [hS2]; rfl
  obtain ⟨d, hpe, ps, rfl, hpl, hpo, -⟩ := law_permits_eq (ds := ds.drop 2) (fs := fs) (n := m) (S := S2) (by omega) (by rw [List.length_drop]; omega) hf
  unfold c_cell
  simp (maxSteps := 2000000) only [ev_ret, ev_bind, ev_lift, ev_ite, ev_var, ev_const, ev_op2, ev_test, ev_opC, ev_rngV, ev_args0, ev_args, ev_frz, ev_callF, ev_seq, nxt_nx, nxt_rt, nxt_bk, nxt_ct, ev_nop, ev_retV, ev_dropV, ev_ifS, ev_iteV, ev_andT, ev_orT, ev_notT, ev_andV, ev_orV, ev_notV, ev_chain, ev_tupV, ev_lstN, ev_put, ev_setV, ev_setO, ev_iterV, ev_negV, ev_revV, ev_listN, ev_sortN, ev_rgN1, ev_enumV, ev_noPart, ev_part, ev_sliceV, ev_par2, ev_freeze, ev_methI, ev_lenO, ev_forS, ev_lc, ev_sc, ev_yes, ev_op2S, ev_opCS, ev_newL, ev_callK, ev_methK, ev_makeK, ev_fldV, ev_setFld, ev_boxL, ev_appB, ev_fail, ex_ret, ex_some, toB_bl, frame, List.map_cons, List.map_nil, List.length_cons, List.length_nil, List.replicate, List.cons_append, List.nil_append, List.getElem?_cons_zero, List.getElem?_cons_succ, slD, Nat.reduceSub, Nat.reduceAdd, List.set_cons_zero, List.set_cons_succ, List.length_set, true_and, and_self, exists_const, Nat.reduceLT, if_true, if_false, Bool.false_eq_true, Bool.not_true, Bool.not_false, a37, m200, hn, hfo, pick1, hin, sz 0 (by decide), sz 1 (by decide), Nat.zero_add, ex_some]
  refine ⟨S1, rfl, ?_⟩
  simp (maxSteps := 2000000) only [ev_ret, ev_bind, ev_lift, ev_ite, ev_var, ev_const, ev_op2, ev_test, ev_opC, ev_rngV, ev_args0, ev_args, ev_frz, ev_callF, ev_seq, nxt_nx, nxt_rt, nxt_bk, nxt_ct, ev_nop, ev_retV, ev_dropV, ev_ifS, ev_iteV, ev_andT, ev_orT, ev_notT, ev_andV, ev_orV, ev_notV, ev_chain, ev_tupV, ev_lstN, ev_put, ev_setV, ev_setO, ev_iterV, ev_negV, ev_revV, ev_listN, ev_sortN, ev_rgN1, ev_enumV, ev_noPart, ev_part, ev_sliceV, ev_par2, ev_freeze, ev_methI, ev_lenO, ev_forS, ev_lc, ev_sc, ev_yes, ev_op2S, ev_opCS, ev_newL, ev_callK, ev_methK, ev_makeK, ev_fldV, ev_setFld, ev_boxL, ev_appB, ev_fail, ex_ret, ex_some, toB_bl, frame, List.map_cons, List.map_nil, List.length_cons, List.length_nil, List.replicate, List.cons_append, List.nil_append, List.getElem?_cons_zero, List.getElem?_cons_succ, slD, Nat.reduceSub, Nat.reduceAdd, List.set_cons_zero, List.set_cons_succ, List.length_set, true_and, and_self, exists_const, Nat.reduceLT, if_true, if_false, Bool.false_eq_true, Bool.not_true, Bool.not_false, hS2', hc2, pd2, e1, mod_ii (a := x1) (b := 10) (by decide), a3, hpe, enumA, ex_some, sz 0 (by decide)]
  refine ev_forL (fun r η S' => (∀ d ∈ r, ∃ (i : Nat) (p : Pm), d = D.tup [.int i, permD p] ∧ i ≤ 12 ∧ PmOk p ∧ Told p) ∧ ∃ qs t7 t8 t9 t10 t11 t12 t13 t14 t15, Inv S' S.size (S.size + 1) S1.size qs ∧ qs.length + 5 * r.length ≤ 60 ∧
    η = [.val (.scr ns), .val (.int k), .val (.int c), .val (.lst (ds.map .int)), .val (.lst (fs.map .str)), .val (.ob S.size), .val (.ob S1.size), t7, t8, t9, t10, t11, t12, t13, t14, t15]) _ _ _ ⟨?_, [], s7, s8, s9, s10, s11, s12, s13, s14, s15, hI, by rw [enum_len, List.length_map, List.length_nil]; omega, rfl⟩ ?_ ?_
  · intro d hd
    obtain ⟨i, x, rfl, hi, hx⟩ := enum_mem hd
    obtain ⟨p, hp, rfl⟩ := List.mem_map.mp hx
    rw [List.length_map] at hi
    exact ⟨i, p, rfl, by omega, (hpo p hp).1, (hpo p hp).2.2⟩
  · rintro d r η S' ⟨hr, qs, t7, t8, t9, t10, t11, t12, t13, t14, t15, hI', hlen, rfl⟩
    obtain ⟨i, p, rfl, hi, po, pt⟩ := hr d (by simp)
    rw [List.length_cons] at hlen
    refine ⟨[.val (.scr ns), .val (.int k), .val (.int c), .val (.lst (ds.map .int)), .val (.lst (fs.map .str)), .val (.ob S.size), .val (.ob S1.size), .val (.int i), .val (permD p), t9, t10, t11, t12, t13, t14, t15], rfl, ?_⟩
    refine turn_ok hI' (by omega) (by omega) po pt hi fun qs2 S2 u9 u10 u11 u12 u13 u14 u15 hI2 hl2 => ?_
    exact ⟨fun x hx => hr x (by simp [hx]), qs2, _, _, _, _, _, _, _, _, _, hI2, by omega, rfl⟩
  · rintro η S' ⟨_, qs, t7, t8, t9, t10, t11, t12, t13, t14, t15, _, _, rfl⟩
    exact hQ [.val (.lst (ds.map .int)), .val (.lst (fs.map .str)), .val (.ob S.size), .val (.ob S1.size), t7, t8, t9, t10, t11, t12, t13, t14, t15] S' rfl
end
theorem law_true {ns : List Int} (h : ns.length ≤ 63) : ∃ S, f_law [.scr ns] Store.emp = some (.ok (.bl true) S) := by
  obtain ⟨b, hb⟩ := eq_scr (ns := ns)
  have hb : eqN (.scr ns) (.lst []) = some (.bl b) := hb
  have sz : ∀ n : Nat, n ≤ 100 → n ≤ sizeLine := fun n h => by rw [sizeLine_eq]; omega
  have ib : intD [.bl b] = some (.int ((if b then 1 else 0 : Nat) : Int)) := by cases b <;> rfl
  have cs : cutD (.scr ns) none (some 8) = some (.lst ((ns.take 8).map .int)) := by
    show some (D.lst ((cutL ns none (some ((8 : Nat) : Int))).map D.int)) = _
    rw [cut_to]
  have m7 : mulA (.lst [.int 7]) (.int ((if b then 1 else 0 : Nat) : Int)) = some (.lst (List.replicate (if b then 1 else 0) (.int 7))) := mul_l1 (by split <;> omega)
  have hl : ((ns.take 8).map D.int ++ List.replicate (if b then 1 else 0) (D.int 7)).length ≤ 11 := by
    rw [List.length_append, List.length_map, List.length_take, List.length_replicate]; split <;> omega
  have ha := add_ll (xs := (ns.take 8).map D.int) (ys := List.replicate (if b then 1 else 0) (D.int 7)) (by rw [← List.length_append]; exact sz _ (by omega))
  have hm : ∀ d ∈ (ns.take 8).map D.int ++ List.replicate (if b then 1 else 0) (D.int 7), ∃ c, d = D.int c := by
    intro d hd
    rcases List.mem_append.mp hd with hd | hd
    · obtain ⟨c, _, rfl⟩ := List.mem_map.mp hd; exact ⟨c, rfl⟩
    · exact ⟨7, (List.mem_replicate.mp hd).2⟩
  have hev : ev m_law (frame 16 [.scr ns]) Store.emp fun f _ _ => f = .rt (.bl true) := by
    rw [m_law_eq]
    simp (maxSteps := 2000000) only [ev_ret, ev_bind, ev_lift, ev_ite, ev_var, ev_const, ev_op2, ev_test, ev_opC, ev_rngV, ev_args0, ev_args, ev_frz, ev_callF, ev_seq, nxt_nx, nxt_rt, nxt_bk, nxt_ct, ev_nop, ev_retV, ev_dropV, ev_ifS, ev_iteV, ev_andT, ev_orT, ev_notT, ev_andV, ev_orV, ev_notV, ev_chain, ev_tupV, ev_lstN, ev_put, ev_setV, ev_setO, ev_iterV, ev_negV, ev_revV, ev_listN, ev_sortN, ev_rgN1, ev_enumV, ev_noPart, ev_part, ev_sliceV, ev_par2, ev_freeze, ev_methI, ev_lenO, ev_forS, ev_lc, ev_sc, ev_yes, ev_op2S, ev_opCS, ev_newL, ev_callK, ev_methK, ev_makeK, ev_fldV, ev_setFld, ev_boxL, ev_appB, ev_fail, ex_ret, ex_some, toB_bl, frame, List.map_cons, List.map_nil, List.length_cons, List.length_nil, List.replicate, List.cons_append, List.nil_append, List.getElem?_cons_zero, List.getElem?_cons_succ, slD, Nat.reduceSub, Nat.reduceAdd, List.set_cons_zero, List.set_cons_succ, List.length_set, hb, ib, cs, m7, ha, partD, enumA, ex_some, sz 0 (by decide), sz 1 (by decide), true_and]
    refine ev_forL (fun r η S' => (∀ d ∈ r, ∃ (i : Nat) (c : Int), d = D.tup [.int i, .int c] ∧ i ≤ 100) ∧ ∃ s1 s2 t, List.length t = 13 ∧ η = .val (.scr ns) :: s1 :: s2 :: t) _ _ _ ⟨?_, .un, .un, _, (by rfl), rfl⟩ ?_ ?_
    · intro d hd
      obtain ⟨i, x, rfl, hi, hx⟩ := enum_mem hd
      obtain ⟨c, rfl⟩ := hm x hx
      exact ⟨i, c, rfl, by omega⟩
    · rintro d r η S ⟨hr, s1, s2, t, ht, rfl⟩
      obtain ⟨k, c, rfl, hk⟩ := hr d (by simp)
      refine ⟨.val (.scr ns) :: .val (.int k) :: .val (.int c) :: t, rfl, ?_⟩
      exact cell_ok ht hk fun t' S' ht' => ⟨fun x hx => hr x (by simp [hx]), _, _, t', ht', rfl⟩
    · rintro η S' ⟨_, s1, s2, t, ht, rfl⟩
      simp (maxSteps := 2000000) only [ev_ret, ev_bind, ev_lift, ev_ite, ev_var, ev_const, ev_op2, ev_test, ev_opC, ev_rngV, ev_args0, ev_args, ev_frz, ev_callF, ev_seq, nxt_nx, nxt_rt, nxt_bk, nxt_ct, ev_nop, ev_retV, ev_dropV, ev_ifS, ev_iteV, ev_andT, ev_orT, ev_notT, ev_andV, ev_orV, ev_notV, ev_chain, ev_tupV, ev_lstN, ev_put, ev_setV, ev_setO, ev_iterV, ev_negV, ev_revV, ev_listN, ev_sortN, ev_rgN1, ev_enumV, ev_noPart, ev_part, ev_sliceV, ev_par2, ev_freeze, ev_methI, ev_lenO, ev_forS, ev_lc, ev_sc, ev_yes, ev_op2S, ev_opCS, ev_newL, ev_callK, ev_methK, ev_makeK, ev_fldV, ev_setFld, ev_boxL, ev_appB, ev_fail, ex_ret, ex_some, toB_bl, frame, List.map_cons, List.map_nil, List.length_cons, List.length_nil, List.replicate, List.cons_append, List.nil_append, List.getElem?_cons_zero, List.getElem?_cons_succ, slD, Nat.reduceSub, Nat.reduceAdd, List.set_cons_zero, List.set_cons_succ, List.length_set, true_and, and_self, exists_const, Nat.reduceLT, if_true, if_false, Bool.false_eq_true, Bool.not_true, Bool.not_false]
  obtain ⟨a, η', S', e, rfl⟩ := hev
  refine ⟨S', ?_⟩
  show fn0 1 16 m_law [.scr ns] Store.emp = _
  unfold fn0
  rw [if_pos (by rfl), e]
  rfl
end Z
namespace Z
open PySem L2 Y

theorem all_mk {l : PySem.W.OpenLaw} {w : World} {K : PySem.W.Frag} {h : Heap} {mg : Str → Option Value} {fa : Addr} {t_ALLOW : Tok} {t_MOST_MOMENT : Tok} {t_MOST_SIGNS : Tok} {t_SIGNS : Tok} {t_WITHDRAW : Tok} {C_Book : Addr} {f0 : Addr} {od0 an0 : Option Addr} {sl0 : Array (Option Value)} {oc0 dc0 pm0 cd0 ct0 : Value} {kV0 : Value} {f1 : Addr} {od1 an1 : Option Addr} {sl1 : Array (Option Value)} {oc1 dc1 pm1 cd1 ct1 : Value} {kV1 : Value} {f2 : Addr} {od2 an2 : Option Addr} {sl2 : Array (Option Value)} {oc2 dc2 pm2 cd2 ct2 : Value} {kV2 : Value} {f3 : Addr} {od3 an3 : Option Addr} {sl3 : Array (Option Value)} {oc3 dc3 pm3 cd3 ct3 : Value} {kV3 : Value} {f4 : Addr} {od4 an4 : Option Addr} {sl4 : Array (Option Value)} {oc4 dc4 pm4 cd4 ct4 : Value} {kV4 : Value} {f5 : Addr} {od5 an5 : Option Addr} {sl5 : Array (Option Value)} {oc5 dc5 pm5 cd5 ct5 : Value} {kV5 : Value} {f6 : Addr} {od6 an6 : Option Addr} {sl6 : Array (Option Value)} {oc6 dc6 pm6 cd6 ct6 : Value} {kV6 : Value} {f7 : Addr} {od7 an7 : Option Addr} {sl7 : Array (Option Value)} {oc7 dc7 pm7 cd7 ct7 : Value} {kV7 : Value} {f8 : Addr} {od8 an8 : Option Addr} {sl8 : Array (Option Value)} {oc8 dc8 pm8 cd8 ct8 : Value} {kV8 : Value} {f9 : Addr} {od9 an9 : Option Addr} {sl9 : Array (Option Value)} {oc9 dc9 pm9 cd9 ct9 : Value} {kV9 : Value} {f10 : Addr} {od10 an10 : Option Addr} {sl10 : Array (Option Value)} {oc10 dc10 pm10 cd10 ct10 : Value} {kV10 : Value} {f11 : Addr} {od11 an11 : Option Addr} {sl11 : Array (Option Value)} {oc11 dc11 pm11 cd11 ct11 : Value} {kV11 : Value} {f12 : Addr} {od12 an12 : Option Addr} {sl12 : Array (Option Value)} {oc12 dc12 pm12 cd12 ct12 : Value} {kV12 : Value} {f13 : Addr} {od13 an13 : Option Addr} {sl13 : Array (Option Value)} {oc13 dc13 pm13 cd13 ct13 : Value} {kV13 : Value} {f14 : Addr} {od14 an14 : Option Addr} {sl14 : Array (Option Value)} {oc14 dc14 pm14 cd14 ct14 : Value} {kV14 : Value} {f15 : Addr} {od15 an15 : Option Addr} {sl15 : Array (Option Value)} {oc15 dc15 pm15 cd15 ct15 : Value} {kV15 : Value} {f16 : Addr} {od16 an16 : Option Addr} {sl16 : Array (Option Value)} {oc16 dc16 pm16 cd16 ct16 : Value} {kV16 : Value} {f17 : Addr} {od17 an17 : Option Addr} {sl17 : Array (Option Value)} {oc17 dc17 pm17 cd17 ct17 : Value} {kV17 : Value} {f18 : Addr} {od18 an18 : Option Addr} {sl18 : Array (Option Value)} {oc18 dc18 pm18 cd18 ct18 : Value} {kV18 : Value} {f19 : Addr} {od19 an19 : Option Addr} {sl19 : Array (Option Value)} {oc19 dc19 pm19 cd19 ct19 : Value} {kV19 : Value} {f20 : Addr} {od20 an20 : Option Addr} {sl20 : Array (Option Value)} {oc20 dc20 pm20 cd20 ct20 : Value} {kV20 : Value} {f21 : Addr} {od21 an21 : Option Addr} {sl21 : Array (Option Value)} {oc21 dc21 pm21 cd21 ct21 : Value} {kV21 : Value} {X_HouseError : Addr} {X_NoEntry : Addr} {X_NoPermission : Addr} {xJ_NoPermission XN_NoPermission : Addr} {xnm_NoPermission xq_NoPermission : Str} {xbs_NoPermission xbm_NoPermission xsu_NoPermission : List Value} {xsn_NoPermission : List Str} {xab_NoPermission : Bool} {xcl_NoPermission : Option Bool} {xdd_NoPermission xod_NoPermission xan_NoPermission : Option Addr} {xk0_NoPermission xk1_NoPermission xk2_NoPermission xk3_NoPermission xk5_NoPermission : Option Value} {xsl_NoPermission : Array (Option Value)} {xoc_NoPermission xkv_NoPermission xdc_NoPermission xpm_NoPermission xcd_NoPermission xct_NoPermission : Value} (X : K.In h) (G : h.Ns mainGlobals mg) (hfa : mg "law" = some (.ref fa))
    (z_all : PySem.W.nsIn K mainGlobals "all" = some none)
    (z_bool : PySem.W.nsIn K mainGlobals "bool" = some none)
    (z_enumerate : PySem.W.nsIn K mainGlobals "enumerate" = some none)
    (z_int : PySem.W.nsIn K mainGlobals "int" = some none)
    (z_isinstance : PySem.W.nsIn K mainGlobals "isinstance" = some none)
    (z_len : PySem.W.nsIn K mainGlobals "len" = some none)
    (z_list : PySem.W.nsIn K mainGlobals "list" = some none)
    (z_max : PySem.W.nsIn K mainGlobals "max" = some none)
    (z_range : PySem.W.nsIn K mainGlobals "range" = some none)
    (z_repr : PySem.W.nsIn K mainGlobals "repr" = some none)
    (z_str : PySem.W.nsIn K mainGlobals "str" = some none)
    (z_tuple : PySem.W.nsIn K mainGlobals "tuple" = some none)
    (g_ALLOW : PySem.W.nsIn K mainGlobals "ALLOW" = some (some (.str "allow" t_ALLOW)))
    (g_MOST_MOMENT : PySem.W.nsIn K mainGlobals "MOST_MOMENT" = some (some (.int 999 t_MOST_MOMENT)))
    (g_MOST_SIGNS : PySem.W.nsIn K mainGlobals "MOST_SIGNS" = some (some (.int 8 t_MOST_SIGNS)))
    (g_SIGNS : PySem.W.nsIn K mainGlobals "SIGNS" = some (some (.str "abcdefghijklmnopqrstuvwxyz" t_SIGNS)))
    (g_WITHDRAW : PySem.W.nsIn K mainGlobals "WITHDRAW" = some (some (.str "withdraw" t_WITHDRAW)))
    (aC_Book : PySem.W.nsIn K mainGlobals "Book" = some (some (.ref C_Book)))
    (pg_Book : PySem.W.plainGet K C_Book Str.empty = true)
    (hd_Book : PySem.W.hasDictIn K C_Book = true)
    (po_Book : PySem.W.plainOver K C_Book = true)
    (sa_Book : PySem.W.findIn K (.ref C_Book) "__setattr__" = some (some (.builtin "object.__setattr__")))
    (mk_Book : PySem.W.makesIn K C_Book = true)
    (kc_Book : PySem.W.keepIn K (.ref C_Book) = true)
    (na_Book_own_permits : PySem.W.findIn K (.ref C_Book) "own_permits" = some none)
    (a0 : PySem.W.findIn K (.ref C_Book) "__init__" = some (some (.ref f0))) (l0 : K.lookup f0 = some ⟨oc0, od0, .func (PySem.W.fnOf "__init__" "Book.__init__" (defArgs s_Book___init__) (defBody s_Book___init__) (defScope s_Book___init__) .none kV0 dc0 pm0 an0 cd0 ct0), sl0⟩) (c0 : PySem.W.codeIn K cd0 "Book.__init__" = true) (k0 : PySem.W.keepIn K (.ref f0) = true)
    (i0 : PySem.W.isFn K (.ref f0) = true)
    (a1 : PySem.W.findIn K (.ref C_Book) "permits" = some (some (.ref f1))) (l1 : K.lookup f1 = some ⟨oc1, od1, .func (PySem.W.fnOf "permits" "Book.permits" (defArgs s_Book_permits) (defBody s_Book_permits) (defScope s_Book_permits) .none kV1 dc1 pm1 an1 cd1 ct1), sl1⟩) (c1 : PySem.W.codeIn K cd1 "Book.permits" = true) (k1 : PySem.W.keepIn K (.ref f1) = true)
    (i1 : PySem.W.isFn K (.ref f1) = true)
    (a2 : PySem.W.nsIn K mainGlobals "_law_bent" = some (some (.ref f2))) (l2 : K.lookup f2 = some ⟨oc2, od2, .func (PySem.W.fnOf "_law_bent" "_law_bent" (defArgs s__law_bent) (defBody s__law_bent) (defScope s__law_bent) .none kV2 dc2 pm2 an2 cd2 ct2), sl2⟩) (c2 : PySem.W.codeIn K cd2 "_law_bent" = true) (k2 : PySem.W.keepIn K (.ref f2) = true)
    (a3 : PySem.W.findIn K (.ref C_Book) "__len__" = some (some (.ref f3))) (l3 : K.lookup f3 = some ⟨oc3, od3, .func (PySem.W.fnOf "__len__" "Book.__len__" (defArgs s_Book___len__) (defBody s_Book___len__) (defScope s_Book___len__) .none kV3 dc3 pm3 an3 cd3 ct3), sl3⟩) (c3 : PySem.W.codeIn K cd3 "Book.__len__" = true) (k3 : PySem.W.keepIn K (.ref f3) = true)
    (i3 : PySem.W.isFn K (.ref f3) = true)
    (a4 : PySem.W.nsIn K mainGlobals "_law_book_so" = some (some (.ref f4))) (l4 : K.lookup f4 = some ⟨oc4, od4, .func (PySem.W.fnOf "_law_book_so" "_law_book_so" (defArgs s__law_book_so) (defBody s__law_book_so) (defScope s__law_book_so) .none kV4 dc4 pm4 an4 cd4 ct4), sl4⟩) (c4 : PySem.W.codeIn K cd4 "_law_book_so" = true) (k4 : PySem.W.keepIn K (.ref f4) = true)
    (a5 : PySem.W.nsIn K mainGlobals "_law_is_moment" = some (some (.ref f5))) (l5 : K.lookup f5 = some ⟨oc5, od5, .func (PySem.W.fnOf "_law_is_moment" "_law_is_moment" (defArgs s__law_is_moment) (defBody s__law_is_moment) (defScope s__law_is_moment) .none kV5 dc5 pm5 an5 cd5 ct5), sl5⟩) (c5 : PySem.W.codeIn K cd5 "_law_is_moment" = true) (k5 : PySem.W.keepIn K (.ref f5) = true)
    (a6 : PySem.W.nsIn K mainGlobals "_law_is_name" = some (some (.ref f6))) (l6 : K.lookup f6 = some ⟨oc6, od6, .func (PySem.W.fnOf "_law_is_name" "_law_is_name" (defArgs s__law_is_name) (defBody s__law_is_name) (defScope s__law_is_name) .none kV6 dc6 pm6 an6 cd6 ct6), sl6⟩) (c6 : PySem.W.codeIn K cd6 "_law_is_name" = true) (k6 : PySem.W.keepIn K (.ref f6) = true)
    (a7 : PySem.W.nsIn K mainGlobals "_law_due" = some (some (.ref f7))) (l7 : K.lookup f7 = some ⟨oc7, od7, .func (PySem.W.fnOf "_law_due" "_law_due" (defArgs s__law_due) (defBody s__law_due) (defScope s__law_due) .none kV7 dc7 pm7 an7 cd7 ct7), sl7⟩) (c7 : PySem.W.codeIn K cd7 "_law_due" = true) (k7 : PySem.W.keepIn K (.ref f7) = true)
    (a8 : PySem.W.nsIn K mainGlobals "_law_folk" = some (some (.ref f8))) (l8 : K.lookup f8 = some ⟨oc8, od8, .func (PySem.W.fnOf "_law_folk" "_law_folk" (defArgs s__law_folk) (defBody s__law_folk) (defScope s__law_folk) .none kV8 dc8 pm8 an8 cd8 ct8), sl8⟩) (c8 : PySem.W.codeIn K cd8 "_law_folk" = true) (k8 : PySem.W.keepIn K (.ref f8) = true)
    (a9 : PySem.W.nsIn K mainGlobals "_law_numbers" = some (some (.ref f9))) (l9 : K.lookup f9 = some ⟨oc9, od9, .func (PySem.W.fnOf "_law_numbers" "_law_numbers" (defArgs s__law_numbers) (defBody s__law_numbers) (defScope s__law_numbers) .none kV9 dc9 pm9 an9 cd9 ct9), sl9⟩) (c9 : PySem.W.codeIn K cd9 "_law_numbers" = true) (k9 : PySem.W.keepIn K (.ref f9) = true)
    (a10 : PySem.W.nsIn K mainGlobals "_law_permit" = some (some (.ref f10))) (l10 : K.lookup f10 = some ⟨oc10, od10, .func (PySem.W.fnOf "_law_permit" "_law_permit" (defArgs s__law_permit) (defBody s__law_permit) (defScope s__law_permit) .none kV10 dc10 pm10 an10 cd10 ct10), sl10⟩) (c10 : PySem.W.codeIn K cd10 "_law_permit" = true) (k10 : PySem.W.keepIn K (.ref f10) = true)
    (a11 : PySem.W.nsIn K mainGlobals "_law_permits" = some (some (.ref f11))) (l11 : K.lookup f11 = some ⟨oc11, od11, .func (PySem.W.fnOf "_law_permits" "_law_permits" (defArgs s__law_permits) (defBody s__law_permits) (defScope s__law_permits) .none kV11 dc11 pm11 an11 cd11 ct11), sl11⟩) (c11 : PySem.W.codeIn K cd11 "_law_permits" = true) (k11 : PySem.W.keepIn K (.ref f11) = true)
    (a12 : PySem.W.findIn K (.ref C_Book) "least" = some (some (.ref f12))) (l12 : K.lookup f12 = some ⟨oc12, od12, .func (PySem.W.fnOf "least" "Book.least" (defArgs s_Book_least) (defBody s_Book_least) (defScope s_Book_least) .none kV12 dc12 pm12 an12 cd12 ct12), sl12⟩) (c12 : PySem.W.codeIn K cd12 "Book.least" = true) (k12 : PySem.W.keepIn K (.ref f12) = true)
    (i12 : PySem.W.isFn K (.ref f12) = true)
    (a13 : PySem.W.nsIn K mainGlobals "is_whole" = some (some (.ref f13))) (l13 : K.lookup f13 = some ⟨oc13, od13, .func (PySem.W.fnOf "is_whole" "is_whole" (defArgs s_is_whole) (defBody s_is_whole) (defScope s_is_whole) .none kV13 dc13 pm13 an13 cd13 ct13), sl13⟩) (c13 : PySem.W.codeIn K cd13 "is_whole" = true) (k13 : PySem.W.keepIn K (.ref f13) = true)
    (a14 : PySem.W.nsIn K mainGlobals "is_within" = some (some (.ref f14))) (l14 : K.lookup f14 = some ⟨oc14, od14, .func (PySem.W.fnOf "is_within" "is_within" (defArgs s_is_within) (defBody s_is_within) (defScope s_is_within) .none kV14 dc14 pm14 an14 cd14 ct14), sl14⟩) (c14 : PySem.W.codeIn K cd14 "is_within" = true) (k14 : PySem.W.keepIn K (.ref f14) = true)
    (a15 : PySem.W.nsIn K mainGlobals "is_moment" = some (some (.ref f15))) (l15 : K.lookup f15 = some ⟨oc15, od15, .func (PySem.W.fnOf "is_moment" "is_moment" (defArgs s_is_moment) (defBody s_is_moment) (defScope s_is_moment) .none kV15 dc15 pm15 an15 cd15 ct15), sl15⟩) (c15 : PySem.W.codeIn K cd15 "is_moment" = true) (k15 : PySem.W.keepIn K (.ref f15) = true)
    (a16 : PySem.W.nsIn K mainGlobals "is_name" = some (some (.ref f16))) (l16 : K.lookup f16 = some ⟨oc16, od16, .func (PySem.W.fnOf "is_name" "is_name" (defArgs s_is_name) (defBody s_is_name) (defScope s_is_name) .none kV16 dc16 pm16 an16 cd16 ct16), sl16⟩) (c16 : PySem.W.codeIn K cd16 "is_name" = true) (k16 : PySem.W.keepIn K (.ref f16) = true)
    (a17 : PySem.W.nsIn K mainGlobals "is_permission" = some (some (.ref f17))) (l17 : K.lookup f17 = some ⟨oc17, od17, .func (PySem.W.fnOf "is_permission" "is_permission" (defArgs s_is_permission) (defBody s_is_permission) (defScope s_is_permission) .none kV17 dc17 pm17 an17 cd17 ct17), sl17⟩) (c17 : PySem.W.codeIn K cd17 "is_permission" = true) (k17 : PySem.W.keepIn K (.ref f17) = true)
    (a18 : PySem.W.findIn K (.ref C_Book) "put_from" = some (some (.ref f18))) (l18 : K.lookup f18 = some ⟨oc18, od18, .func (PySem.W.fnOf "put_from" "Book.put_from" (defArgs s_Book_put_from) (defBody s_Book_put_from) (defScope s_Book_put_from) .none kV18 dc18 pm18 an18 cd18 ct18), sl18⟩) (c18 : PySem.W.codeIn K cd18 "Book.put_from" = true) (k18 : PySem.W.keepIn K (.ref f18) = true)
    (i18 : PySem.W.isFn K (.ref f18) = true)
    (a19 : PySem.W.findIn K (.ref C_Book) "put" = some (some (.ref f19))) (l19 : K.lookup f19 = some ⟨oc19, od19, .func (PySem.W.fnOf "put" "Book.put" (defArgs s_Book_put) (defBody s_Book_put) (defScope s_Book_put) .none kV19 dc19 pm19 an19 cd19 ct19), sl19⟩) (c19 : PySem.W.codeIn K cd19 "Book.put" = true) (k19 : PySem.W.keepIn K (.ref f19) = true)
    (i19 : PySem.W.isFn K (.ref f19) = true)
    (a20 : PySem.W.nsIn K mainGlobals "_law_said" = some (some (.ref f20))) (l20 : K.lookup f20 = some ⟨oc20, od20, .func (PySem.W.fnOf "_law_said" "_law_said" (defArgs s__law_said) (defBody s__law_said) (defScope s__law_said) .none kV20 dc20 pm20 an20 cd20 ct20), sl20⟩) (c20 : PySem.W.codeIn K cd20 "_law_said" = true) (k20 : PySem.W.keepIn K (.ref f20) = true)
    (a21 : PySem.W.nsIn K mainGlobals "law" = some (some (.ref f21))) (l21 : K.lookup f21 = some ⟨oc21, od21, .func (PySem.W.fnOf "law" "law" (defArgs s_law) (defBody s_law) (defScope s_law) .none kV21 dc21 pm21 an21 cd21 ct21), sl21⟩) (c21 : PySem.W.codeIn K cd21 "law" = true) (k21 : PySem.W.keepIn K (.ref f21) = true)
    (xa_HouseError : PySem.W.nsIn K mainGlobals "HouseError" = some (some (.ref X_HouseError)))
    (xa_NoEntry : PySem.W.nsIn K mainGlobals "NoEntry" = some (some (.ref X_NoEntry)))
    (xa_NoPermission : PySem.W.nsIn K mainGlobals "NoPermission" = some (some (.ref X_NoPermission)))
    (brd_HouseError : PySem.W.readsIn K X_HouseError (.type "type") = true)
    (bga_HouseError : PySem.W.specialIn K (.ref X_HouseError) "__getattribute__" = some (some (.builtin "type.__getattribute__")))
    (bfc_HouseError : PySem.W.findCls K (.ref X_HouseError) (.type "type") "__init__" = some (.val (.builtin "ValueError.__init__")))
    (xi_NoPermission : PySem.W.findIn K (.ref X_NoPermission) "__init__" = some (some (.ref xJ_NoPermission)))
    (xl_NoPermission : K.lookup X_NoPermission = some (excClassObj xnm_NoPermission xq_NoPermission X_NoPermission XN_NoPermission xbs_NoPermission xbm_NoPermission true xsn_NoPermission xsu_NoPermission xab_NoPermission xcl_NoPermission xdd_NoPermission xk0_NoPermission xk1_NoPermission xk2_NoPermission xk3_NoPermission xk5_NoPermission "ValueError.__new__"))
    (xt_NoPermission : endsT tVE xbm_NoPermission = true)
    (xp_NoPermission : xcB K X_NoPermission xJ_NoPermission = true)
    (xe_NoPermission : excB K X_NoPermission = true)
    (xg_NoPermission : K.lookup xJ_NoPermission = some ⟨xoc_NoPermission, xod_NoPermission, .func (PySem.W.fnOf "__init__" "NoPermission.__init__" (defArgs xs_NoPermission) (defBody xs_NoPermission) (defScope xs_NoPermission) .none xkv_NoPermission xdc_NoPermission xpm_NoPermission xan_NoPermission xcd_NoPermission xct_NoPermission), xsl_NoPermission⟩)
    (xw_NoPermission : PySem.W.codeIn K xcd_NoPermission "NoPermission.__init__" = true)
    (xy_NoPermission : PySem.W.keepIn K (.ref xJ_NoPermission) = true)
    (xo_NoPermission : PySem.W.findIn K (.ref X_NoPermission) "word" = some none)
    (xz_NoEntry : kitZ K (.ref X_NoEntry) [("NoPermission", X_NoPermission)] [false] = true)
    (xz_NoPermission : kitZ K (.ref X_NoPermission) [("NoPermission", X_NoPermission)] [true] = true)
    (xu_HouseError : exmZ K (.ref X_HouseError) [("NoPermission", X_NoPermission)] [true] = true)
    (kb_Book : kindB K C_Book = true)
    (nq_Book : PySem.W.findIn K (.ref C_Book) "__ne__" = some (some (.builtin "object.__ne__"))) :
    ∃ fd : FuncData, (∀ (s : Shared) (u : Value), BindsTo s fd ⟨[u], []⟩ [("_law_script", u)]) ∧ ∀ base : Heap, K.In base → base.Ns mainGlobals mg → FnG l.prog w K mg base CX0 8 fa fd ["_law_script"] (spF (K, w) mg 1 f_law) := by
  have e : fa = f21 := Value.ref.inj (Option.some.inj (hfa.symm.trans (PySem.W.mg_of X G a21)))
  subst fa
  have xpl : XpL K [("NoPermission", X_NoPermission)] := (xpl_cons ⟨xa_NoPermission, excB_ok xe_NoPermission⟩ xpl_nil)
  have xml : XmL mg [("NoPermission", X_NoPermission)] := (xml_cons (PySem.W.mg_of X G xa_NoPermission) xml_nil)
  let T : Txt K mg := {
    z_all := PySem.W.mg_none_of X G z_all
    z_bool := PySem.W.mg_none_of X G z_bool
    z_enumerate := PySem.W.mg_none_of X G z_enumerate
    z_int := PySem.W.mg_none_of X G z_int
    z_isinstance := PySem.W.mg_none_of X G z_isinstance
    z_len := PySem.W.mg_none_of X G z_len
    z_list := PySem.W.mg_none_of X G z_list
    z_max := PySem.W.mg_none_of X G z_max
    z_range := PySem.W.mg_none_of X G z_range
    z_repr := PySem.W.mg_none_of X G z_repr
    z_str := PySem.W.mg_none_of X G z_str
    z_tuple := PySem.W.mg_none_of X G z_tuple
    g_ALLOW := ⟨_, PySem.W.mg_of X G g_ALLOW⟩
    g_MOST_MOMENT := ⟨_, PySem.W.mg_of X G g_MOST_MOMENT⟩
    g_MOST_SIGNS := ⟨_, PySem.W.mg_of X G g_MOST_SIGNS⟩
    g_SIGNS := ⟨_, PySem.W.mg_of X G g_SIGNS⟩
    g_WITHDRAW := ⟨_, PySem.W.mg_of X G g_WITHDRAW⟩
    C_Book := C_Book
    c_Book := ⟨PySem.W.mg_of X G aC_Book, ⟨pg_Book, hd_Book, po_Book, sa_Book⟩⟩
    na_Book_own_permits := na_Book_own_permits
    a_Book___init__ := f0
    d_Book___init__ := _
    h_Book___init__ := ⟨(fun_mk (st := s_Book___init__) l0 c0 k0), ⟨mk_Book, a0, i0, kc_Book⟩⟩
    a_Book_permits := f1
    d_Book_permits := _
    h_Book_permits := ⟨(fun_mk (st := s_Book_permits) l1 c1 k1), ⟨a1, i1, k1⟩⟩
    a__law_bent := f2
    d__law_bent := _
    h__law_bent := ⟨PySem.W.mg_of X G a2, (fun_mk (st := s__law_bent) l2 c2 k2), k2, (fun_mk (st := s__law_bent) l2 c2 k2).binds (ps := ["_law_digits", "_law_permit_here"]) fun _ _ _ _ _ _ us hl => match us, hl with | [_, _], _ => rfl⟩
    a_Book___len__ := f3
    d_Book___len__ := _
    h_Book___len__ := ⟨(fun_mk (st := s_Book___len__) l3 c3 k3), ⟨a3, i3, k3⟩⟩
    a__law_book_so := f4
    d__law_book_so := _
    h__law_book_so := ⟨PySem.W.mg_of X G a4, (fun_mk (st := s__law_book_so) l4 c4 k4), k4, (fun_mk (st := s__law_book_so) l4 c4 k4).binds (ps := ["_law_book", "_law_permits_here"]) fun _ _ _ _ _ _ us hl => match us, hl with | [_, _], _ => rfl⟩
    a__law_is_moment := f5
    d__law_is_moment := _
    h__law_is_moment := ⟨PySem.W.mg_of X G a5, (fun_mk (st := s__law_is_moment) l5 c5 k5), k5, (fun_mk (st := s__law_is_moment) l5 c5 k5).binds (ps := ["_law_item"]) fun _ _ _ _ _ _ us hl => match us, hl with | [_], _ => rfl⟩
    a__law_is_name := f6
    d__law_is_name := _
    h__law_is_name := ⟨PySem.W.mg_of X G a6, (fun_mk (st := s__law_is_name) l6 c6 k6), k6, (fun_mk (st := s__law_is_name) l6 c6 k6).binds (ps := ["_law_item"]) fun _ _ _ _ _ _ us hl => match us, hl with | [_], _ => rfl⟩
    a__law_due := f7
    d__law_due := _
    h__law_due := ⟨PySem.W.mg_of X G a7, (fun_mk (st := s__law_due) l7 c7 k7), k7, (fun_mk (st := s__law_due) l7 c7 k7).binds (ps := ["_law_item", "_law_last"]) fun _ _ _ _ _ _ us hl => match us, hl with | [_, _], _ => rfl⟩
    a__law_folk := f8
    d__law_folk := _
    h__law_folk := ⟨PySem.W.mg_of X G a8, (fun_mk (st := s__law_folk) l8 c8 k8), k8, (fun_mk (st := s__law_folk) l8 c8 k8).binds (ps := ["_law_digits"]) fun _ _ _ _ _ _ us hl => match us, hl with | [_], _ => rfl⟩
    a__law_numbers := f9
    d__law_numbers := _
    h__law_numbers := ⟨PySem.W.mg_of X G a9, (fun_mk (st := s__law_numbers) l9 c9 k9), k9, (fun_mk (st := s__law_numbers) l9 c9 k9).binds (ps := ["_law_cell", "_law_salt", "_law_sizes"]) fun _ _ _ _ _ _ us hl => match us, hl with | [_, _, _], _ => rfl⟩
    a__law_permit := f10
    d__law_permit := _
    h__law_permit := ⟨PySem.W.mg_of X G a10, (fun_mk (st := s__law_permit) l10 c10 k10), k10, (fun_mk (st := s__law_permit) l10 c10 k10).binds (ps := ["_law_digits", "_law_folk_here", "_law_known"]) fun _ _ _ _ _ _ us hl => match us, hl with | [_, _, _], _ => rfl⟩
    a__law_permits := f11
    d__law_permits := _
    h__law_permits := ⟨PySem.W.mg_of X G a11, (fun_mk (st := s__law_permits) l11 c11 k11), k11, (fun_mk (st := s__law_permits) l11 c11 k11).binds (ps := ["_law_digits", "_law_folk_here", "_law_many"]) fun _ _ _ _ _ _ us hl => match us, hl with | [_, _, _], _ => rfl⟩
    a_Book_least := f12
    d_Book_least := _
    h_Book_least := ⟨(fun_mk (st := s_Book_least) l12 c12 k12), ⟨a12, i12, k12⟩⟩
    a_is_whole := f13
    d_is_whole := _
    h_is_whole := ⟨PySem.W.mg_of X G a13, (fun_mk (st := s_is_whole) l13 c13 k13), k13, (fun_mk (st := s_is_whole) l13 c13 k13).binds (ps := ["thing"]) fun _ _ _ _ _ _ us hl => match us, hl with | [_], _ => rfl⟩
    a_is_within := f14
    d_is_within := _
    h_is_within := ⟨PySem.W.mg_of X G a14, (fun_mk (st := s_is_within) l14 c14 k14), k14, (fun_mk (st := s_is_within) l14 c14 k14).binds (ps := ["thing", "least", "most"]) fun _ _ _ _ _ _ us hl => match us, hl with | [_, _, _], _ => rfl⟩
    a_is_moment := f15
    d_is_moment := _
    h_is_moment := ⟨PySem.W.mg_of X G a15, (fun_mk (st := s_is_moment) l15 c15 k15), k15, (fun_mk (st := s_is_moment) l15 c15 k15).binds (ps := ["thing"]) fun _ _ _ _ _ _ us hl => match us, hl with | [_], _ => rfl⟩
    a_is_name := f16
    d_is_name := _
    h_is_name := ⟨PySem.W.mg_of X G a16, (fun_mk (st := s_is_name) l16 c16 k16), k16, (fun_mk (st := s_is_name) l16 c16 k16).binds (ps := ["thing"]) fun _ _ _ _ _ _ us hl => match us, hl with | [_], _ => rfl⟩
    a_is_permission := f17
    d_is_permission := _
    h_is_permission := ⟨PySem.W.mg_of X G a17, (fun_mk (st := s_is_permission) l17 c17 k17), k17, (fun_mk (st := s_is_permission) l17 c17 k17).binds (ps := ["thing"]) fun _ _ _ _ _ _ us hl => match us, hl with | [_], _ => rfl⟩
    a_Book_put_from := f18
    d_Book_put_from := _
    h_Book_put_from := ⟨(fun_mk (st := s_Book_put_from) l18 c18 k18), ⟨a18, i18, k18⟩⟩
    a_Book_put := f19
    d_Book_put := _
    h_Book_put := ⟨(fun_mk (st := s_Book_put) l19 c19 k19), ⟨a19, i19, k19⟩⟩
    a__law_said := f20
    d__law_said := _
    h__law_said := ⟨PySem.W.mg_of X G a20, (fun_mk (st := s__law_said) l20 c20 k20), k20, (fun_mk (st := s__law_said) l20 c20 k20).binds (ps := ["_law_book", "_law_item"]) fun _ _ _ _ _ _ us hl => match us, hl with | [_, _], _ => rfl⟩
    a_law := f21
    d_law := _
    h_law := ⟨PySem.W.mg_of X G a21, (fun_mk (st := s_law) l21 c21 k21), k21, (fun_mk (st := s_law) l21 c21 k21).binds (ps := ["_law_script"]) fun _ _ _ _ _ _ us hl => match us, hl with | [_], _ => rfl⟩
    X_HouseError := X_HouseError
    xm_HouseError := PySem.W.mg_of X G xa_HouseError
    X_NoEntry := X_NoEntry
    xm_NoEntry := PySem.W.mg_of X G xa_NoEntry
    X_NoPermission := X_NoPermission
    xm_NoPermission := PySem.W.mg_of X G xa_NoPermission
    xb_HouseError := ⟨PySem.W.mg_of X G xa_HouseError, brd_HouseError, bga_HouseError, bfc_HouseError⟩
    xj_NoPermission := xJ_NoPermission
    xd_NoPermission := _
    xh_NoPermission := (fun_mk (st := xs_NoPermission) xg_NoPermission xw_NoPermission xy_NoPermission)
    xc_NoPermission := xcB_ok xbVE noVE xl_NoPermission xt_NoPermission xp_NoPermission (PySem.W.mg_of X G xa_NoPermission) xa_NoPermission xi_NoPermission ((fun_mk (st := xs_NoPermission) xg_NoPermission xw_NoPermission xy_NoPermission).binds (ps := ["self", "word"]) fun _ _ _ _ _ _ us hl => match us, hl with | [_, _], _ => rfl)
    xn_NoPermission := xo_NoPermission
    xtb_NoEntry := tblZ_ok xpl xz_NoEntry
    xtb_NoPermission := tblZ_ok xpl xz_NoPermission
    xht_HouseError := hitZ_ok xpl xml xu_HouseError
    kd_Book := kindB_ok kb_Book
    ne_Book := nq_Book
    sp_Book___len__ := ⟨a3, i3, (fun_mk (st := s_Book___len__) l3 c3 k3).binds (ps := ["self"]) fun _ _ _ _ _ _ us hl => match us, hl with | [_], _ => rfl⟩
    xft_word := (fldT_cons ⟨xa_NoPermission, excB_ok xe_NoPermission⟩ xo_NoPermission fldT_nil)
    kb_Book___init___1 := KB.all fun us ws h1 h2 => match us, ws, h1, h2 with | [_], [], _, _ => rfl
    kb_Book_least_1 := KB.all fun us ws h1 h2 => match us, ws, h1, h2 with | [_], [], _, _ => rfl
    kb_Book_permits_1 := KB.all fun us ws h1 h2 => match us, ws, h1, h2 with | [_], [], _, _ => rfl
    kb_Book_put_2 := KB.all fun us ws h1 h2 => match us, ws, h1, h2 with | [_, _], [], _, _ => rfl
    kb_Book_put_from_3 := KB.all fun us ws h1 h2 => match us, ws, h1, h2 with | [_, _, _], [], _, _ => rfl }
  exact ⟨T.d_law, fun s u => .of_eq rfl, fun base _ _ => ok_law T⟩
end Z
open PySem PySem.W PyProof.Rows
set_option maxRecDepth 100000 in
set_option maxHeartbeats 0 in
theorem PySem.Challenge.cw_asnevertold_k37_permissions_let_in_holds : PySem.Challenge.rw_asnevertold_k37_permissions_let_in.Holds := by
  w_on; o_law; k_head; (case hw => w_witness2)
  k_fill
  refine Y.walk_G (l := PySem.Challenge.rw_asnevertold_k37_permissions_let_in) (k := 8) (x := "_law_script") (fn := Z.f_law) rfl (by decide) rfl ⟨rfl, by decide, by decide⟩ (fun w h Y => PySem.W.kIn_of Y) ?F ?hfn
  case hfn => exact fun ns hl => Z.law_true (ns := ns) hl
  case F =>
    intro w mg fa h KX G hmg
    refine' Z.all_mk KX G hmg ?z_all ?z_bool ?z_enumerate ?z_int ?z_isinstance ?z_len ?z_list ?z_max ?z_range ?z_repr ?z_str ?z_tuple ?g_ALLOW ?g_MOST_MOMENT ?g_MOST_SIGNS ?g_SIGNS ?g_WITHDRAW ?aC_Book ?pg_Book ?hd_Book ?po_Book ?sa_Book ?mk_Book ?kc_Book ?na_Book_own_permits ?a0 ?l0 ?c0 ?k0 ?i0 ?a1 ?l1 ?c1 ?k1 ?i1 ?a2 ?l2 ?c2 ?k2 ?a3 ?l3 ?c3 ?k3 ?i3 ?a4 ?l4 ?c4 ?k4 ?a5 ?l5 ?c5 ?k5 ?a6 ?l6 ?c6 ?k6 ?a7 ?l7 ?c7 ?k7 ?a8 ?l8 ?c8 ?k8 ?a9 ?l9 ?c9 ?k9 ?a10 ?l10 ?c10 ?k10 ?a11 ?l11 ?c11 ?k11 ?a12 ?l12 ?c12 ?k12 ?i12 ?a13 ?l13 ?c13 ?k13 ?a14 ?l14 ?c14 ?k14 ?a15 ?l15 ?c15 ?k15 ?a16 ?l16 ?c16 ?k16 ?a17 ?l17 ?c17 ?k17 ?a18 ?l18 ?c18 ?k18 ?i18 ?a19 ?l19 ?c19 ?k19 ?i19 ?a20 ?l20 ?c20 ?k20 ?a21 ?l21 ?c21 ?k21 ?xa_HouseError ?xa_NoEntry ?xa_NoPermission ?brd_HouseError ?bga_HouseError ?bfc_HouseError ?xi_NoPermission ?xl_NoPermission ?xt_NoPermission ?xp_NoPermission ?xe_NoPermission ?xg_NoPermission ?xw_NoPermission ?xy_NoPermission ?xo_NoPermission ?xz_NoEntry ?xz_NoPermission ?xu_HouseError ?kb_Book ?nq_Book
    case z_all => k_is
    case z_bool => k_is
    case z_enumerate => k_is
    case z_int => k_is
    case z_isinstance => k_is
    case z_len => k_is
    case z_list => k_is
    case z_max => k_is
    case z_range => k_is
    case z_repr => k_is
    case z_str => k_is
    case z_tuple => k_is
    case g_ALLOW => k_is
    case g_MOST_MOMENT => k_is
    case g_MOST_SIGNS => k_is
    case g_SIGNS => k_is
    case g_WITHDRAW => k_is
    case aC_Book => k_is
    case pg_Book => k_is
    case hd_Book => k_is
    case po_Book => k_is
    case sa_Book => k_is
    case mk_Book => k_is
    case kc_Book => k_is
    case na_Book_own_permits => k_is
    case a0 => k_is
    case l0 => k_is
    case c0 => k_is
    case k0 => k_is
    case i0 => k_is
    case a1 => k_is
    case l1 => k_is
    case c1 => k_is
    case k1 => k_is
    case i1 => k_is
    case a2 => k_is
    case l2 => k_is
    case c2 => k_is
    case k2 => k_is
    case a3 => k_is
    case l3 => k_is
    case c3 => k_is
    case k3 => k_is
    case i3 => k_is
    case a4 => k_is
    case l4 => k_is
    case c4 => k_is
    case k4 => k_is
    case a5 => k_is
    case l5 => k_is
    case c5 => k_is
    case k5 => k_is
    case a6 => k_is
    case l6 => k_is
    case c6 => k_is
    case k6 => k_is
    case a7 => k_is
    case l7 => k_is
    case c7 => k_is
    case k7 => k_is
    case a8 => k_is
    case l8 => k_is
    case c8 => k_is
    case k8 => k_is
    case a9 => k_is
    case l9 => k_is
    case c9 => k_is
    case k9 => k_is
    case a10 => k_is
    case l10 => k_is
    case c10 => k_is
    case k10 => k_is
    case a11 => k_is
    case l11 => k_is
    case c11 => k_is
    case k11 => k_is
    case a12 => k_is
    case l12 => k_is
    case c12 => k_is
    case k12 => k_is
    case i12 => k_is
    case a13 => k_is
    case l13 => k_is
    case c13 => k_is
    case k13 => k_is
    case a14 => k_is
    case l14 => k_is
    case c14 => k_is
    case k14 => k_is
    case a15 => k_is
    case l15 => k_is
    case c15 => k_is
    case k15 => k_is
    case a16 => k_is
    case l16 => k_is
    case c16 => k_is
    case k16 => k_is
    case a17 => k_is
    case l17 => k_is
    case c17 => k_is
    case k17 => k_is
    case a18 => k_is
    case l18 => k_is
    case c18 => k_is
    case k18 => k_is
    case i18 => k_is
    case a19 => k_is
    case l19 => k_is
    case c19 => k_is
    case k19 => k_is
    case i19 => k_is
    case a20 => k_is
    case l20 => k_is
    case c20 => k_is
    case k20 => k_is
    case a21 => k_is
    case l21 => k_is
    case c21 => k_is
    case k21 => k_is
    case xa_HouseError => k_is
    case xa_NoEntry => k_is
    case xa_NoPermission => k_is
    case brd_HouseError => k_is
    case bga_HouseError => k_is
    case bfc_HouseError => k_is
    case xi_NoPermission => k_is
    case xl_NoPermission => k_is
    case xt_NoPermission => rfl
    case xp_NoPermission => (first | kernel_rfl | decide +kernel | rfl)
    case xe_NoPermission => (first | kernel_rfl | decide +kernel | rfl)
    case xg_NoPermission => k_is
    case xw_NoPermission => k_is
    case xy_NoPermission => k_is
    case xo_NoPermission => k_is
    case xz_NoEntry => (first | kernel_rfl | decide +kernel | rfl)
    case xz_NoPermission => (first | kernel_rfl | decide +kernel | rfl)
    case xu_HouseError => (first | kernel_rfl | decide +kernel | rfl)
    case kb_Book => (first | kernel_rfl | decide +kernel | rfl)
    case nq_Book => k_is
