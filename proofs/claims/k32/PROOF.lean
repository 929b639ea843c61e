import PyProof.Rows.All
import Wide.All
import OpenK.AllK
import Wide.FinOn
import HandS.ForMost
import HandS.ForExc
import HandS.TupAny
import HandS.TupMul
import HandS.Deep
import HandS.Flow
import HandS.SortInts
import HandS.IsInst
import HandS.Star
import HandS.Style
import HandS.Conv
import HandS.ExcInit
import HandS.ExcField
import HandS.ExcIs
import HandS.TryMany
import HandS.Lambda
import HandS.RaiseMore
import HandS.Zip
import HandS.Rev
import HandS.Small
import KE.GoesEnum
import HandS.Defaults
import HandS.HeadHook4
import HandS.ReCall
import HandS.Strs
import KE.KExcSuper
import HandS.WordsExc
import PyProof.ReprLen
import HandS.SetBool
import HandS.SetFor
import HandS.Dict
import KE.KItemsList
import HandS.ListItems
import HandS.EndTab
import HandS.Head0
import HandS.Head1
import HandS.Head2
import KE.KStateDown
import Lean
import PySem.Challenge.RW_owedapart_k32_rooms_and_tight_sets
section
set_option Elab.async false
set_option linter.all false
set_option maxRecDepth 100000
/-! DL1: a layer of data over the hand layer: tuples and lists that no one changes any more are values (D), what changes stands in a small heap of its own (DHp). -/
namespace DL
open PySem PySem.Spec L2

/-- data: a tuple, a list that stays as it is, a list that may only be read (the script), a tuple on which no dict hangs (xtp), or a thing with an address -/
inductive D where
  | non
  | bl (b : Bool)
  | int (i : Int)
  | str (x : Str)
  | tup (xs : List D)
  | lst (xs : List D)
  | rol (xs : List D)
  | xtp (xs : List D)
  | exc (a : Addr) (d : Option Addr) (ns : List Str) (xs : List D)
  | lam (f c : Addr) (q : Str) (vs : List V) (xs : List D)
  | ref (a : Addr)

/-- what may change -/
inductive MO where
  | lst (xs : List D)
  | ins (C : Addr) (fs : List (Str × D))
  | tbl (q : Str)
  | busy
  | dK (kvs : List (Key × D))
  | dT (kvs : List (List Key × D))

abbrev DHp := Addr → Option MO
def updD (M : DHp) (a : Addr) (o : MO) : DHp := fun b => if b = a then some o else M b
theorem updD_same {M : DHp} {a : Addr} {o : MO} : updD M a o a = some o := by unfold updD; rw [if_pos rfl]
theorem updD_ne {M : DHp} {a b : Addr} {o : MO} (h : b ≠ a) : updD M a o b = M b := by unfold updD; rw [if_neg h]
theorem updD_updD {M : DHp} {a : Addr} {o u : MO} : updD (updD M a o) a u = updD M a u := by
  funext b; unfold updD; split <;> rfl
theorem neD_of_none {M : DHp} {a b : Addr} {o : MO} (h : M a = some o) (h' : M b = none) : a ≠ b := by
  intro e; subst e; rw [h] at h'; cases h'

def FzT (K : PySem.W.Frag) (H : Hp) (M : DHp) (a : Addr) (xs : List V) : Prop :=
  (Rd H a (.tup xs) ∧ M a = none) ∨
    ∃ (o : Obj) (its : Array Value) (n : Nat), K.lookup a = some o ∧ o.cls = .type "tuple" ∧ o.data = .seq its n ∧ its.size ≤ sizeLine ∧ Vals xs its.toList
def FzL (K : PySem.W.Frag) (H : Hp) (M : DHp) (a : Addr) (xs : List V) : Prop :=
  (Rd H a (.lst xs) ∧ M a = none) ∨
    ∃ (o : Obj) (its : Array Value) (n : Nat), K.lookup a = some o ∧ o.cls = .type "list" ∧ o.dict = none ∧ o.data = .seq its n ∧ its.size ≤ sizeLine ∧ Vals xs its.toList
theorem FzT.seq {K : PySem.W.Frag} {H : Hp} {M : DHp} {a : Addr} {xs : List V} (h : FzT K H M a xs) : SqT K H a xs := by
  rcases h with ⟨h, _⟩ | h
  · exact .inl h
  · exact .inr h
theorem FzL.seq {K : PySem.W.Frag} {H : Hp} {M : DHp} {a : Addr} {xs : List V} (h : FzL K H M a xs) : SqL K H a xs := by
  rcases h with ⟨h, _⟩ | h
  · exact .inl h
  · exact .inr h

mutual
inductive Rep (K : PySem.W.Frag) (H : Hp) (M : DHp) : V → D → Prop
  | non : Rep K H M .non .non
  | bl (b : Bool) : Rep K H M (.bl b) (.bl b)
  | int (i : Int) : Rep K H M (.int i) (.int i)
  | str (x : Str) : Rep K H M (.str x) (.str x)
  | ref (a : Addr) : Rep K H M (.ref a) (.ref a)
  | tup {a : Addr} {xs : List V} {ds : List D} : FzT K H M a xs → RepL K H M xs ds → Rep K H M (.ref a) (.tup ds)
  | lst {a : Addr} {xs : List V} {ds : List D} : H a = some (.lst xs) → M a = none → RepL K H M xs ds → Rep K H M (.ref a) (.lst ds)
  | rol {a : Addr} {xs : List V} {ds : List D} : FzL K H M a xs → RepL K H M xs ds → Rep K H M (.ref a) (.rol ds)
  | xtp {a : Addr} {xs : List V} {ds : List D} {o : Obj} : H a = some (.frz o (.tup xs)) → o.dict = none → M a = none → RepL K H M xs ds → Rep K H M (.ref a) (.xtp ds)
  | lam {f c : Addr} {q : Str} {vs : List V} {ds : List D} : H c = some (LamX.CodeO c q) → M c = none → RepL K H M vs ds → Rep K H M (.ref f) (.lam f c q vs ds)
  | exc0 (a : Addr) : Rep K H M (.ref a) (.exc a none [] [])
  | exc1 {a d : Addr} {fs : List (Str × V)} {ds : List D} : H d = some (.xd fs) → M d = none → RepL K H M (fs.map (·.2)) ds → Rep K H M (.ref a) (.exc a (some d) (fs.map (·.1)) ds)
inductive RepL (K : PySem.W.Frag) (H : Hp) (M : DHp) : List V → List D → Prop
  | nil : RepL K H M [] []
  | cons {v : V} {vs : List V} {d : D} {ds : List D} : Rep K H M v d → RepL K H M vs ds → RepL K H M (v :: vs) (d :: ds)
end

/-- from one moment to a later one: what was not among the things that change is as it was, and is still not among them; what is busy is as it was, and busy -/
structure Ext (M : DHp) (H : Hp) (M' : DHp) (H' : Hp) : Prop where
  keep : ∀ a o, H a = some o → M a = none → (∀ ps, o ≠ .tbl ps) → H' a = some o ∧ M' a = none
  busy : ∀ a, M a = some .busy → H' a = H a ∧ M' a = some .busy
theorem Ext.kp {M M' : DHp} {H H' : Hp} (x : Ext M H M' H') {a : Addr} {o : HO} (h : H a = some o) (n : M a = none) (t : ∀ ps, o ≠ .tbl ps := by intro _ z; cases z) : H' a = some o ∧ M' a = none := x.keep a o h n t
theorem Ext.refl (M : DHp) (H : Hp) : Ext M H M H := ⟨fun _ _ h n _ => ⟨h, n⟩, fun _ h => ⟨rfl, h⟩⟩
theorem Ext.trans {M M1 M2 : DHp} {H H1 H2 : Hp} (a : Ext M H M1 H1) (b : Ext M1 H1 M2 H2) : Ext M H M2 H2 :=
  ⟨fun c o h n t => let ⟨h1, n1⟩ := a.keep c o h n t; b.keep c o h1 n1 t, fun c h => let ⟨h1, n1⟩ := a.busy c h; let ⟨h2, n2⟩ := b.busy c n1; ⟨h2.trans h1, n2⟩⟩

/-- .. but for what is busy -/
structure ExtW (M : DHp) (H : Hp) (M' : DHp) (H' : Hp) : Prop where
  keep : ∀ a o, H a = some o → M a = none → (∀ ps, o ≠ .tbl ps) → H' a = some o ∧ M' a = none
theorem Ext.w {M M' : DHp} {H H' : Hp} (x : Ext M H M' H') : ExtW M H M' H' := ⟨x.keep⟩
theorem ExtW.kp {M M' : DHp} {H H' : Hp} (x : ExtW M H M' H') {a : Addr} {o : HO} (h : H a = some o) (n : M a = none) (t : ∀ ps, o ≠ .tbl ps := by intro _ z; cases z) : H' a = some o ∧ M' a = none := x.keep a o h n t
theorem ExtW.refl (M : DHp) (H : Hp) : ExtW M H M H := ⟨fun _ _ h n _ => ⟨h, n⟩⟩
theorem ExtW.trans {M M1 M2 : DHp} {H H1 H2 : Hp} (a : ExtW M H M1 H1) (b : ExtW M1 H1 M2 H2) : ExtW M H M2 H2 :=
  ⟨fun c o h n t => let ⟨h1, n1⟩ := a.keep c o h n t; b.keep c o h1 n1 t⟩
theorem Rd.extW {M M' : DHp} {H H' : Hp} {a : Addr} {u : HO} (x : ExtW M H M' H') (r : Rd H a u) (n : M a = none) (hu : ∀ ps, u ≠ .tbl ps := by intro _ z; cases z) : Rd H' a u ∧ M' a = none := by
  rcases r with r | ⟨o, r⟩
  · exact ⟨.inl (x.keep _ _ r n hu).1, (x.keep _ _ r n hu).2⟩
  · exact ⟨.inr ⟨o, (x.kp r n).1⟩, (x.kp r n).2⟩
theorem FzT.extW {K : PySem.W.Frag} {M M' : DHp} {H H' : Hp} {a : Addr} {xs : List V} (x : ExtW M H M' H') (h : FzT K H M a xs) : FzT K H' M' a xs := by
  rcases h with ⟨h, n⟩ | h
  · exact .inl (Rd.extW x h n)
  · exact .inr h
theorem FzL.extW {K : PySem.W.Frag} {M M' : DHp} {H H' : Hp} {a : Addr} {xs : List V} (x : ExtW M H M' H') (h : FzL K H M a xs) : FzL K H' M' a xs := by
  rcases h with ⟨h, n⟩ | h
  · exact .inl (Rd.extW x h n)
  · exact .inr h

section
variable {K : PySem.W.Frag} {M M' : DHp} {H H' : Hp}
mutual
theorem Rep.extW (x : ExtW M H M' H') : ∀ {v : V} {d : D}, Rep K H M v d → Rep K H' M' v d
  | _, _, .non => .non
  | _, _, .bl b => .bl b
  | _, _, .int i => .int i
  | _, _, .str y => .str y
  | _, _, .ref a => .ref a
  | _, _, .tup f r => .tup (f.extW x) (RepL.extW x r)
  | _, _, .lst f n r => .lst (x.kp f n).1 (x.kp f n).2 (RepL.extW x r)
  | _, _, .rol f r => .rol (f.extW x) (RepL.extW x r)
  | _, _, .xtp f e n r => .xtp (x.kp f n).1 e (x.kp f n).2 (RepL.extW x r)
  | _, _, .lam f n r => .lam (x.keep _ _ f n LamX.codeO_ne).1 (x.keep _ _ f n LamX.codeO_ne).2 (RepL.extW x r)
  | _, _, .exc0 a => .exc0 a
  | _, _, .exc1 f n r => .exc1 (x.kp f n).1 (x.kp f n).2 (RepL.extW x r)
theorem RepL.extW (x : ExtW M H M' H') : ∀ {vs : List V} {ds : List D}, RepL K H M vs ds → RepL K H' M' vs ds
  | _, _, .nil => .nil
  | _, _, .cons r t => .cons (Rep.extW x r) (RepL.extW x t)
end
theorem Rep.ext (x : Ext M H M' H') {v : V} {d : D} (r : Rep K H M v d) : Rep K H' M' v d := r.extW x.w
theorem RepL.ext (x : Ext M H M' H') {vs : List V} {ds : List D} (r : RepL K H M vs ds) : RepL K H' M' vs ds := r.extW x.w
theorem FzT.ext (x : Ext M H M' H') {a : Addr} {xs : List V} (r : FzT K H M a xs) : FzT K H' M' a xs := r.extW x.w
theorem FzL.ext (x : Ext M H M' H') {a : Addr} {xs : List V} (r : FzL K H M a xs) : FzL K H' M' a xs := r.extW x.w
theorem RepL.length : ∀ {vs : List V} {ds : List D}, RepL K H M vs ds → vs.length = ds.length
  | _, _, .nil => rfl
  | _, _, .cons _ t => by simp [t.length]
theorem RepL.get : ∀ {vs : List V} {ds : List D} {i : Nat} {d : D}, RepL K H M vs ds → ds[i]? = some d → ∃ v, vs[i]? = some v ∧ Rep K H M v d
  | _, _, _, _, .nil, e => by simp at e
  | _, _, 0, _, .cons r _, e => by simp at e; subst e; exact ⟨_, rfl, r⟩
  | _, _, i + 1, _, .cons _ t, e => by
    obtain ⟨v, h1, h2⟩ := RepL.get (i := i) t (by simpa using e)
    exact ⟨v, by simpa using h1, h2⟩
theorem RepL.get' : ∀ {vs : List V} {ds : List D} {i : Nat} {v : V}, RepL K H M vs ds → vs[i]? = some v → ∃ d, ds[i]? = some d ∧ Rep K H M v d
  | _, _, _, _, .nil, e => by simp at e
  | _, _, 0, _, .cons r _, e => by simp at e; subst e; exact ⟨_, rfl, r⟩
  | _, _, i + 1, _, .cons _ t, e => by
    obtain ⟨v, h1, h2⟩ := RepL.get' (i := i) t (by simpa using e)
    exact ⟨v, by simpa using h1, h2⟩
theorem RepL.append : ∀ {vs ws : List V} {ds es : List D}, RepL K H M vs ds → RepL K H M ws es → RepL K H M (vs ++ ws) (ds ++ es)
  | _, _, _, _, .nil, s => s
  | _, _, _, _, .cons r t, s => .cons r (t.append s)
theorem RepL.take : ∀ {vs : List V} {ds : List D} (n : Nat), RepL K H M vs ds → RepL K H M (vs.take n) (ds.take n)
  | _, _, 0, _ => .nil
  | _, _, _ + 1, .nil => .nil
  | _, _, n + 1, .cons r t => .cons r (t.take n)
theorem RepL.drop : ∀ {vs : List V} {ds : List D} (n : Nat), RepL K H M vs ds → RepL K H M (vs.drop n) (ds.drop n)
  | _, _, 0, r => r
  | _, _, _ + 1, .nil => .nil
  | _, _, n + 1, .cons _ t => t.drop n
theorem RepL.set : ∀ {vs : List V} {ds : List D} {v : V} {d : D} (n : Nat), RepL K H M vs ds → Rep K H M v d → RepL K H M (vs.set n v) (ds.set n d)
  | _, _, _, _, _, .nil, _ => .nil
  | _, _, _, _, 0, .cons _ t, r => .cons r t
  | _, _, _, _, n + 1, .cons q t, r => .cons q (t.set n r)
theorem RepL.eraseIdx : ∀ {vs : List V} {ds : List D} (n : Nat), RepL K H M vs ds → RepL K H M (vs.eraseIdx n) (ds.eraseIdx n)
  | _, _, _, .nil => .nil
  | _, _, 0, .cons _ t => t
  | _, _, n + 1, .cons r t => .cons r (t.eraseIdx n)
theorem RepL.dropLast {vs : List V} {ds : List D} (r : RepL K H M vs ds) : RepL K H M vs.dropLast ds.dropLast := by
  rw [List.dropLast_eq_take, List.dropLast_eq_take, r.length]
  exact r.take _
theorem RepL.replicate {vs : List V} {ds : List D} (n : Nat) (r : RepL K H M vs ds) : RepL K H M (List.replicate n vs).flatten (List.replicate n ds).flatten := by
  induction n with
  | zero => exact .nil
  | succ n ih =>
    rw [List.replicate_succ, List.replicate_succ, List.flatten_cons, List.flatten_cons]
    exact r.append ih
end

/-- fields -/
def RepF (K : PySem.W.Frag) (H : Hp) (M : DHp) (fs : List (Str × V)) (gs : List (Str × D)) : Prop := Paired (fun (p : Str × V) (q : Str × D) => p.1 = q.1 ∧ Rep K H M p.2 q.2) fs gs
theorem RepF.ext {K : PySem.W.Frag} {M M' : DHp} {H H' : Hp} (x : Ext M H M' H') : ∀ {fs : List (Str × V)} {gs : List (Str × D)}, RepF K H M fs gs → RepF K H' M' fs gs
  | _, _, .nil => .nil
  | _, _, .cons r t => .cons ⟨r.1, r.2.ext x⟩ (RepF.ext x t)
theorem RepF.lookup {K : PySem.W.Frag} {M : DHp} {H : Hp} {f : Str} {d : D} : ∀ {fs : List (Str × V)} {gs : List (Str × D)}, RepF K H M fs gs → gs.lookup f = some d → ∃ v, fs.lookup f = some v ∧ Rep K H M v d
  | _, _, .nil, e => by simp at e
  | (a, v) :: fs, (b, c) :: gs, .cons r t, e => by
    obtain ⟨r1, r2⟩ := r
    have r1 : a = b := r1
    subst r1
    rw [List.lookup_cons] at e ⊢
    cases hb : f == a with
    | true =>
      rw [hb] at e
      simp only at e ⊢
      cases e
      exact ⟨v, rfl, r2⟩
    | false =>
      rw [hb] at e
      simp only at e ⊢
      exact RepF.lookup t e
theorem RepF.lookup_none {K : PySem.W.Frag} {M : DHp} {H : Hp} {f : Str} : ∀ {fs : List (Str × V)} {gs : List (Str × D)}, RepF K H M fs gs → gs.lookup f = none → fs.lookup f = none
  | _, _, .nil, e => by simp
  | (a, v) :: fs, (b, c) :: gs, .cons r t, e => by
    obtain ⟨r1, r2⟩ := r
    have r1 : a = b := r1
    subst r1
    rw [List.lookup_cons] at e ⊢
    cases hb : f == a with
    | true => rw [hb] at e; simp at e
    | false =>
      rw [hb] at e
      simp only at e ⊢
      exact RepF.lookup_none t e
def putFD (f : Str) (v : D) : List (Str × D) → List (Str × D)
  | [] => [(f, v)]
  | (g, u) :: r => if g = f then (g, v) :: r else (g, u) :: putFD f v r
theorem RepF.length {K : PySem.W.Frag} {M : DHp} {H : Hp} : ∀ {fs : List (Str × V)} {gs : List (Str × D)}, RepF K H M fs gs → fs.length = gs.length := fun r => Paired.length r

/-- what a dict holds -/
def RepK (K : PySem.W.Frag) {κ : Type} (H : Hp) (M : DHp) (fs : List (κ × V)) (gs : List (κ × D)) : Prop := Paired (fun (p : κ × V) (q : κ × D) => p.1 = q.1 ∧ Rep K H M p.2 q.2) fs gs
theorem RepK.ext {K : PySem.W.Frag} {κ : Type} {M M' : DHp} {H H' : Hp} (x : Ext M H M' H') : ∀ {fs : List (κ × V)} {gs : List (κ × D)}, RepK K H M fs gs → RepK K H' M' fs gs
  | _, _, .nil => .nil
  | _, _, .cons r t => .cons ⟨r.1, r.2.ext x⟩ (RepK.ext x t)
/-- neither a table nor a code object -/
def PlainO (o : HO) : Prop := (∀ ps, o ≠ .tbl ps) ∧ ∀ c q, o ≠ LamX.CodeO c q
theorem plain_lst {xs : List V} : PlainO (.lst xs) := ⟨(fun _ z => nomatch z), fun c q z => by unfold LamX.CodeO at z; cases z⟩
def RepO (K : PySem.W.Frag) (H : Hp) (M : DHp) (a : Addr) : MO → Prop
  | .lst ds => ∃ xs, H a = some (.lst xs) ∧ RepL K H M xs ds
  | .ins C gs => ∃ dx fs, H a = some (.ins C dx fs) ∧ RepF K H M fs gs
  | .tbl q => ∃ ps : Array Value, H a = some (.tbl ps) ∧ TriplesOk ps.toList ∧ ∀ (pos : Pos) (cv : Value), codeAmong pos ps.toList = some cv → ∃ c, cv = .ref c ∧ H c = some (LamX.CodeO c q) ∧ M c = none
  | .busy => ∃ o, H a = some o ∧ PlainO o
  | .dK kvs => ∃ vs, H a = some (.dK vs) ∧ RepK K H M vs kvs
  | .dT kvs => ∃ vs, H a = some (.dT vs) ∧ RepK K H M vs kvs
def RepM (K : PySem.W.Frag) (H : Hp) (M : DHp) : Prop := ∀ a o, M a = some o → RepO K H M a o
theorem RepM.there {K : PySem.W.Frag} {H : Hp} {M : DHp} {a : Addr} {o : MO} (r : RepM K H M) (h : M a = some o) : ∃ u, H a = some u := by
  have q := r a o h
  cases o with
  | lst ds => obtain ⟨xs, e, _⟩ := q; exact ⟨_, e⟩
  | ins C gs => obtain ⟨dx, fs, e, _⟩ := q; exact ⟨_, e⟩
  | tbl q' => obtain ⟨ps, e, _⟩ := q; exact ⟨_, e⟩
  | busy => obtain ⟨o, e, _⟩ := q; exact ⟨_, e⟩
  | dK kvs => obtain ⟨o, e, _⟩ := q; exact ⟨_, e⟩
  | dT kvs => obtain ⟨o, e, _⟩ := q; exact ⟨_, e⟩
theorem RepM.fresh {K : PySem.W.Frag} {H : Hp} {M : DHp} {a : Addr} (r : RepM K H M) (h : H a = none) : M a = none := by
  cases e : M a with
  | none => rfl
  | some o =>
    obtain ⟨u, q⟩ := r.there e
    rw [h] at q; cases q
theorem RepM.lst {K : PySem.W.Frag} {H : Hp} {M : DHp} {a : Addr} {ds : List D} (r : RepM K H M) (h : M a = Option.some (.lst ds)) : ∃ xs, H a = Option.some (.lst xs) ∧ RepL K H M xs ds := r a _ h
theorem RepM.nil {K : PySem.W.Frag} {H : Hp} : RepM K H (fun _ => none) := fun _ _ h => nomatch h

section
variable {K : PySem.W.Frag} {M M' : DHp} {H H' : Hp} {p : Addr} {o : HO} {mo : MO}
/-- a new thing is laid that stays as it is -/
theorem Ext.laid (r : RepM K H M) (h : H p = none) : Ext M H M (upd H p o) := ⟨fun a u e n _ => ⟨by rw [upd_ne (ne_of_none e h)]; exact e, n⟩, fun a e => by
  obtain ⟨u, q⟩ := r.there e
  exact ⟨upd_ne (ne_of_none q h), e⟩⟩
theorem RepO.ext (x : Ext M H M' H') {a : Addr} (e : H' a = H a) (q : RepO K H M a mo) : RepO K H' M' a mo := by
  cases mo with
  | lst ds => obtain ⟨xs, h, l⟩ := q; exact ⟨xs, e.trans h, l.ext x⟩
  | ins C gs => obtain ⟨dx, fs, h, l⟩ := q; exact ⟨dx, fs, e.trans h, l.ext x⟩
  | tbl q' =>
    obtain ⟨ps, h, t, l⟩ := q
    refine ⟨ps, e.trans h, t, fun pos cv hc => ?_⟩
    obtain ⟨c, e1, e2, e3⟩ := l pos cv hc
    exact ⟨c, e1, (x.keep c _ e2 e3 LamX.codeO_ne).1, (x.keep c _ e2 e3 LamX.codeO_ne).2⟩
  | busy => obtain ⟨o, h, z⟩ := q; exact ⟨o, e.trans h, z⟩
  | dK kvs => obtain ⟨vs, h, l⟩ := q; exact ⟨vs, e.trans h, l.ext x⟩
  | dT kvs => obtain ⟨vs, h, l⟩ := q; exact ⟨vs, e.trans h, l.ext x⟩
theorem RepM.laid (r : RepM K H M) (h : H p = none) : RepM K (upd H p o) M := fun a mo e => by
  obtain ⟨u, q⟩ := r.there e
  exact (r a mo e).ext (Ext.laid r h) (upd_ne (ne_of_none q h))
/-- a new thing is laid that may change -/
theorem Ext.laidM (r : RepM K H M) (h : H p = none) : Ext M H (updD M p mo) (upd H p o) := ⟨fun a u e n _ => by
  have ne := ne_of_none e h
  exact ⟨by rw [upd_ne ne]; exact e, by rw [updD_ne ne]; exact n⟩, fun a e => by
  obtain ⟨u, q⟩ := r.there e
  have ne := ne_of_none q h
  exact ⟨upd_ne ne, by rw [updD_ne ne]; exact e⟩⟩
theorem RepM.laidM (r : RepM K H M) (h : H p = none) (q : RepO K (upd H p o) (updD M p mo) p mo) : RepM K (upd H p o) (updD M p mo) := fun a m e => by
  by_cases ha : a = p
  · subst ha
    rw [updD_same] at e; cases e
    exact q
  · rw [updD_ne ha] at e
    exact (r a m e).ext (Ext.laidM r h) (upd_ne ha)
/-- a thing that may change is written -/
theorem Ext.write (e : M p = some mo) {mo' : MO} (nb : mo ≠ .busy := by intro z; cases z) : Ext M H (updD M p mo') (upd H p o) := ⟨fun a u h n _ => by
  have ne : a ≠ p := fun z => by subst z; rw [e] at n; cases n
  exact ⟨by rw [upd_ne ne]; exact h, by rw [updD_ne ne]; exact n⟩, fun a h => by
  have ne : a ≠ p := fun z => by subst z; rw [e] at h; exact nb (Option.some.inj h)
  exact ⟨upd_ne ne, by rw [updD_ne ne]; exact h⟩⟩
theorem RepM.write (r : RepM K H M) (e : M p = some mo) {mo' : MO} (nb : mo ≠ .busy := by intro z; cases z) (q : RepO K (upd H p o) (updD M p mo') p mo') : RepM K (upd H p o) (updD M p mo') := fun a m h => by
  by_cases ha : a = p
  · subst ha
    rw [updD_same] at h; cases h
    exact q
  · rw [updD_ne ha] at h
    exact (r a m h).ext (Ext.write e nb) (upd_ne ha)
end

/-! ### fewer things that change -/
def delD (M : DHp) (a : Addr) : DHp := fun b => if b = a then none else M b
theorem delD_same {M : DHp} {a : Addr} : delD M a a = none := by unfold delD; rw [if_pos rfl]
theorem delD_ne {M : DHp} {a b : Addr} (h : b ≠ a) : delD M a b = M b := by unfold delD; rw [if_neg h]
theorem delD_upd {M : DHp} {a : Addr} {o : MO} (h : M a = none) : delD (updD M a o) a = M := by
  funext b
  unfold delD updD
  by_cases e : b = a
  · rw [if_pos e, e, h]
  · rw [if_neg e, if_neg e]
theorem updD_comm {M : DHp} {a b : Addr} {o u : MO} (h : a ≠ b) : updD (updD M a o) b u = updD (updD M b u) a o := by
  funext c
  unfold updD
  by_cases e1 : c = b
  · rw [if_pos e1, if_neg (by rw [e1]; exact Ne.symm h), if_pos e1]
  · rw [if_neg e1]
    by_cases e2 : c = a
    · rw [if_pos e2, if_pos e2]
    · rw [if_neg e2, if_neg e2, if_neg e1]
/-- M' has of M's things just some, as they are -/
def Sub (M' M : DHp) : Prop := ∀ a o, M' a = some o → M a = some o
theorem Sub.refl (M : DHp) : Sub M M := fun _ _ h => h
theorem Sub.trans {M1 M2 M3 : DHp} (a : Sub M1 M2) (b : Sub M2 M3) : Sub M1 M3 := fun c o h => b c o (a c o h)
theorem Sub.none {M' M : DHp} (s : Sub M' M) {a : Addr} (h : M a = Option.none) : M' a = Option.none := by
  cases e : M' a with
  | none => rfl
  | some o => rw [s a o e] at h; cases h
theorem Sub.upd {M : DHp} {a : Addr} {o : MO} (h : M a = Option.none) : Sub M (updD M a o) := fun b u e => by
  rw [updD_ne (neD_of_none e h)]; exact e
theorem Sub.del (M : DHp) (a : Addr) : Sub (delD M a) M := fun b o e => by
  by_cases h : b = a
  · subst h; rw [delD_same] at e; cases e
  · rw [delD_ne h] at e; exact e
section
variable {K : PySem.W.Frag} {M M' : DHp} {H : Hp}
theorem FzT.sub (s : Sub M' M) {a : Addr} {xs : List V} (h : FzT K H M a xs) : FzT K H M' a xs := by
  rcases h with ⟨h, n⟩ | h
  · exact .inl ⟨h, s.none n⟩
  · exact .inr h
theorem FzL.sub (s : Sub M' M) {a : Addr} {xs : List V} (h : FzL K H M a xs) : FzL K H M' a xs := by
  rcases h with ⟨h, n⟩ | h
  · exact .inl ⟨h, s.none n⟩
  · exact .inr h
mutual
theorem Rep.sub (x : Sub M' M) : ∀ {v : V} {d : D}, Rep K H M v d → Rep K H M' v d
  | _, _, .non => .non
  | _, _, .bl b => .bl b
  | _, _, .int i => .int i
  | _, _, .str y => .str y
  | _, _, .ref a => .ref a
  | _, _, .tup f r => .tup (f.sub x) (RepL.sub x r)
  | _, _, .lst f n r => .lst f (x.none n) (RepL.sub x r)
  | _, _, .rol f r => .rol (f.sub x) (RepL.sub x r)
  | _, _, .xtp f e n r => .xtp f e (x.none n) (RepL.sub x r)
  | _, _, .lam f n r => .lam f (x.none n) (RepL.sub x r)
  | _, _, .exc0 a => .exc0 a
  | _, _, .exc1 f n r => .exc1 f (x.none n) (RepL.sub x r)
theorem RepL.sub (x : Sub M' M) : ∀ {vs : List V} {ds : List D}, RepL K H M vs ds → RepL K H M' vs ds
  | _, _, .nil => .nil
  | _, _, .cons r t => .cons (Rep.sub x r) (RepL.sub x t)
end
theorem RepF.sub (x : Sub M' M) : ∀ {fs : List (Str × V)} {gs : List (Str × D)}, RepF K H M fs gs → RepF K H M' fs gs
  | _, _, .nil => .nil
  | _, _, .cons r t => .cons ⟨r.1, r.2.sub x⟩ (RepF.sub x t)
theorem RepK.sub {κ : Type} (x : Sub M' M) : ∀ {fs : List (κ × V)} {gs : List (κ × D)}, RepK K H M fs gs → RepK K H M' fs gs
  | _, _, .nil => .nil
  | _, _, .cons r t => .cons ⟨r.1, r.2.sub x⟩ (RepK.sub x t)
theorem RepM.sub (x : Sub M' M) (r : RepM K H M) : RepM K H M' := fun a mo e => by
  have q := r a mo (x a mo e)
  cases mo with
  | lst ds => obtain ⟨xs, h, l⟩ := q; exact ⟨xs, h, l.sub x⟩
  | ins C gs => obtain ⟨dx, fs, h, l⟩ := q; exact ⟨dx, fs, h, l.sub x⟩
  | tbl q' =>
    obtain ⟨ps, h, t, l⟩ := q
    refine ⟨ps, h, t, fun pos cv hc => ?_⟩
    obtain ⟨c, e1, e2, e3⟩ := l pos cv hc
    exact ⟨c, e1, e2, x.none e3⟩
  | busy => exact q
  | dK kvs => obtain ⟨xs, h, l⟩ := q; exact ⟨xs, h, l.sub x⟩
  | dT kvs => obtain ⟨xs, h, l⟩ := q; exact ⟨xs, h, l.sub x⟩
theorem Ext.sub {M1 : DHp} {H1 : Hp} (x : Sub M' M) (kb : ∀ a, M1 a = some .busy → M' a = some .busy) (e : Ext M1 H1 M H) : Ext M1 H1 M' H := ⟨fun a o h n t => ⟨(e.keep a o h n t).1, x.none (e.keep a o h n t).2⟩, fun a h => ⟨(e.busy a h).1, kb a h⟩⟩
end

/-! ### slots -/
abbrev DSt := List (Option D)
structure RepS (K : PySem.W.Frag) (H : Hp) (M : DHp) (σ : St) (δ : DSt) : Prop where
  len : σ.length = δ.length
  at_ : ∀ (i : Nat) (d : D), δ[i]? = some (some d) → ∃ v, σ[i]? = some (some v) ∧ Rep K H M v d
theorem RepS.ext {K : PySem.W.Frag} {M M' : DHp} {H H' : Hp} {σ : St} {δ : DSt} (x : Ext M H M' H') (r : RepS K H M σ δ) : RepS K H' M' σ δ :=
  ⟨r.len, fun i d e => let ⟨v, h, q⟩ := r.at_ i d e; ⟨v, h, q.ext x⟩⟩
theorem RepS.set {K : PySem.W.Frag} {M : DHp} {H : Hp} {σ : St} {δ : DSt} (r : RepS K H M σ δ) (i : Nat) {v : V} {d : D} (q : Rep K H M v d) : RepS K H M (σ.set i (some v)) (δ.set i (some d)) := by
  refine ⟨by rw [List.length_set, List.length_set]; exact r.len, fun j e h => ?_⟩
  by_cases hj : i = j
  · subst hj
    by_cases hi : i < δ.length
    · rw [List.getElem?_set_self hi] at h
      cases h
      exact ⟨v, by rw [List.getElem?_set_self (by rw [r.len]; exact hi)], q⟩
    · rw [List.getElem?_eq_none (by rw [List.length_set]; omega)] at h
      cases h
  · rw [List.getElem?_set_ne hj] at h ⊢
    exact r.at_ j e h
theorem RepS.forget {K : PySem.W.Frag} {M : DHp} {H : Hp} {σ : St} {δ δ' : DSt} (r : RepS K H M σ δ) (hl : δ'.length = δ.length) (h : ∀ (i : Nat) d, δ'[i]? = some (some d) → δ[i]? = some (some d)) : RepS K H M σ δ' :=
  ⟨r.len.trans hl.symm, fun i d e => r.at_ i d (h i d e)⟩

/-! ### what is wanted -/
abbrev DVK := D → DHp → Prop
/-- of an exception: its class, its fields -/
abbrev DXK := Value → List (Str × D) → DHp → Prop
abbrev DW := Value → List (Str × D) → DSt → DHp → Prop
abbrev DTE := DSt → DHp → DVK → DW → Prop
abbrev DTT := DSt → DHp → (Bool → DHp → Prop) → DW → Prop
abbrev DTA := DSt → DHp → (List D → DHp → Prop) → DW → Prop
structure DEnds where
  nx : DSt → DHp → Prop
  rt : DVK
  bk : DSt → DHp → Prop := fun _ _ => False
  ct : DSt → DHp → Prop := fun _ _ => False
abbrev DTS := DEnds → DSt → DHp → DW → Prop
abbrev DSp := List D → DHp → DVK → DXK → Prop
abbrev WF : WX := fun _ _ _ _ => False

def XRep (K : PySem.W.Frag) (H : Hp) (M : DHp) (pd : Option Addr) (gs : List (Str × D)) : Prop :=
  (pd = none ∧ gs = []) ∨ ∃ d fs, pd = some d ∧ H d = some (.xd fs) ∧ M d = none ∧ RepF K H M fs gs
theorem XRep.ext {K : PySem.W.Frag} {M M' : DHp} {H H' : Hp} {pd : Option Addr} {gs : List (Str × D)} (x : Ext M H M' H') (r : XRep K H M pd gs) : XRep K H' M' pd gs := by
  rcases r with r | ⟨d, fs, e, h, n, f⟩
  · exact .inl r
  · exact .inr ⟨d, fs, e, (x.kp h n).1, (x.kp h n).2, f.ext x⟩

/-- what is wanted of a value, of data -/
def OkV (K : PySem.W.Frag) (M : DHp) (H : Hp) (Q : DVK) (Q0 : VK) : Prop := ∀ v H' d M', Ext M H M' H' → RepM K H' M' → Rep K H' M' v d → Q d M' → Q0 v H'
def OkW (K : PySem.W.Frag) (M : DHp) (H : Hp) (W : DW) (W0 : WX) : Prop := ∀ c pd σ' H' gs δ' M', Ext M H M' H' → RepS K H' M' σ' δ' → RepM K H' M' → XRep K H' M' pd gs → W c gs δ' M' → W0 c pd σ' H'
theorem OkV.ext {K : PySem.W.Frag} {M M' : DHp} {H H' : Hp} {Q : DVK} {Q0 : VK} (x : Ext M H M' H') (h : OkV K M H Q Q0) : OkV K M' H' Q Q0 := fun v H2 d M2 y => h v H2 d M2 (x.trans y)
theorem OkW.ext {K : PySem.W.Frag} {M M' : DHp} {H H' : Hp} {W : DW} {W0 : WX} (x : Ext M H M' H') (h : OkW K M H W W0) : OkW K M' H' W W0 := fun c pd σ H2 gs δ M2 y => h c pd σ H2 gs δ M2 (x.trans y)

/-- the state of the hand layer bears that of the data -/
structure At (K : PySem.W.Frag) (σ : St) (H : Hp) (δ : DSt) (M : DHp) : Prop where
  s : RepS K H M σ δ
  m : RepM K H M

/-- a reading of data as one of the hand layer -/
def lfE (K : PySem.W.Frag) (W0 : WX) (t : DTE) : TE := fun σ H Q0 => ∃ δ M Q W, At K σ H δ M ∧ t δ M Q W ∧ OkV K M H Q Q0 ∧ OkW K M H W W0
def lfT (K : PySem.W.Frag) (W0 : WX) (t : DTT) : TT := fun σ H Q0 => ∃ δ M Q W, At K σ H δ M ∧ t δ M Q W ∧ (∀ b H' M', Ext M H M' H' → RepM K H' M' → Q b M' → Q0 b H') ∧ OkW K M H W W0
def lfA (K : PySem.W.Frag) (W0 : WX) (t : DTA) : TA := fun σ H Q0 => ∃ δ M Q W, At K σ H δ M ∧ t δ M Q W ∧ (∀ vs H' ds M', Ext M H M' H' → RepM K H' M' → RepL K H' M' vs ds → Q ds M' → Q0 vs H') ∧ OkW K M H W W0
def OkS (K : PySem.W.Frag) (M : DHp) (H : Hp) (Q : DSt → DHp → Prop) (Q0 : St → Hp → Prop) : Prop := ∀ σ' H' δ' M', Ext M H M' H' → At K σ' H' δ' M' → Q δ' M' → Q0 σ' H'
theorem OkS.ext {K : PySem.W.Frag} {M M' : DHp} {H H' : Hp} {Q : DSt → DHp → Prop} {Q0 : St → Hp → Prop} (x : Ext M H M' H') (h : OkS K M H Q Q0) : OkS K M' H' Q Q0 := fun σ H2 δ M2 y => h σ H2 δ M2 (x.trans y)
structure OkD (K : PySem.W.Frag) (M : DHp) (H : Hp) (D' : DEnds) (D0 : Ends) : Prop where
  nx : OkS K M H D'.nx D0.nx
  rt : OkV K M H D'.rt D0.rt
  bk : OkS K M H D'.bk D0.bk
  ct : OkS K M H D'.ct D0.ct
theorem OkD.ext {K : PySem.W.Frag} {M M' : DHp} {H H' : Hp} {D' : DEnds} {D0 : Ends} (x : Ext M H M' H') (h : OkD K M H D' D0) : OkD K M' H' D' D0 := ⟨h.nx.ext x, h.rt.ext x, h.bk.ext x, h.ct.ext x⟩
def lfS (K : PySem.W.Frag) (W0 : WX) (t : DTS) : TS := fun D0 σ H => ∃ δ M D' W, At K σ H δ M ∧ t D' δ M W ∧ OkD K M H D' D0 ∧ OkW K M H W W0

structure DE (X : Cx) (W0 : WX) (e : Expr) (t : DTE) : Prop where
  pe : PE X e (lfE X.K W0 t)
structure DT (X : Cx) (W0 : WX) (e : Expr) (t : DTT) : Prop where
  pt : PT X e (lfT X.K W0 t)
structure DPW (X : Cx) (W0 : WX) (e : Expr) (t : DTT) : Prop where
  pw : PW X e (lfT X.K W0 t)
structure DA (X : Cx) (W0 : WX) (es : List Expr) (t : DTA) : Prop where
  pa : PA X es (lfA X.K W0 t)
structure DS (X : Cx) (W0 : WX) (st : Stmt) (t : DTS) : Prop where
  ps : PS X st (lfS X.K W0 t)
structure DSs (X : Cx) (W0 : WX) (st : List Stmt) (t : DTS) : Prop where
  pss : PSs X st (lfS X.K W0 t)

theorem PE.imp {X : Cx} {e : Expr} {t t' : TE} (h : PE X e t) (f : ∀ σ H Q, t' σ H Q → t σ H Q) : PE X e t' := ⟨fun pins s σ H Q I q => h.run pins s σ H Q I (f σ H Q q)⟩
theorem PT.imp {X : Cx} {e : Expr} {t t' : TT} (h : PT X e t) (f : ∀ σ H Q, t' σ H Q → t σ H Q) : PT X e t' := ⟨fun pins s σ H Q I q => h.run pins s σ H Q I (f σ H Q q)⟩
theorem PW.imp {X : Cx} {e : Expr} {t t' : TT} (h : PW X e t) (f : ∀ σ H Q, t' σ H Q → t σ H Q) : PW X e t' := ⟨fun wh pins s σ H Q I q => h.run wh pins s σ H Q I (f σ H Q q)⟩
theorem PA.imp {X : Cx} {e : List Expr} {t t' : TA} (h : PA X e t) (f : ∀ σ H Q, t' σ H Q → t σ H Q) : PA X e t' := ⟨fun pos pins s σ H Q I q => h.run pos pins s σ H Q I (f σ H Q q)⟩
theorem PS.imp {X : Cx} {e : Stmt} {t t' : TS} (h : PS X e t) (f : ∀ D σ H, t' D σ H → t D σ H) : PS X e t' := ⟨fun pins s σ H D I q => h.run pins s σ H D I (f D σ H q)⟩
theorem PSs.imp {X : Cx} {e : List Stmt} {t t' : TS} (h : PSs X e t) (f : ∀ D σ H, t' D σ H → t D σ H) : PSs X e t' := ⟨fun pins s σ H D I q => h.run pins s σ H D I (f D σ H q)⟩

/-- one step of data: the rule of the hand layer is read from the data's -/
theorem DE.mk' {X : Cx} {W0 : WX} {e : Expr} {t : DTE} {t0 : TE} (h : PE X e t0) (f : ∀ σ H Q0 δ M Q W, At X.K σ H δ M → t δ M Q W → OkV X.K M H Q Q0 → OkW X.K M H W W0 → t0 σ H Q0) : DE X W0 e t :=
  ⟨PE.imp h fun σ H Q0 ⟨δ, M, Q, W, a, q, k, w⟩ => f σ H Q0 δ M Q W a q k w⟩
theorem DT.mk' {X : Cx} {W0 : WX} {e : Expr} {t : DTT} {t0 : TT} (h : PT X e t0) (f : ∀ σ H Q0 δ M Q W, At X.K σ H δ M → t δ M Q W → (∀ b H' M', Ext M H M' H' → RepM X.K H' M' → Q b M' → Q0 b H') → OkW X.K M H W W0 → t0 σ H Q0) : DT X W0 e t :=
  ⟨PT.imp h fun σ H Q0 ⟨δ, M, Q, W, a, q, k, w⟩ => f σ H Q0 δ M Q W a q k w⟩
theorem DPW.mk' {X : Cx} {W0 : WX} {e : Expr} {t : DTT} {t0 : TT} (h : PW X e t0) (f : ∀ σ H Q0 δ M Q W, At X.K σ H δ M → t δ M Q W → (∀ b H' M', Ext M H M' H' → RepM X.K H' M' → Q b M' → Q0 b H') → OkW X.K M H W W0 → t0 σ H Q0) : DPW X W0 e t :=
  ⟨PW.imp h fun σ H Q0 ⟨δ, M, Q, W, a, q, k, w⟩ => f σ H Q0 δ M Q W a q k w⟩
theorem DA.mk' {X : Cx} {W0 : WX} {e : List Expr} {t : DTA} {t0 : TA} (h : PA X e t0) (f : ∀ σ H Q0 δ M Q W, At X.K σ H δ M → t δ M Q W → (∀ vs H' ds M', Ext M H M' H' → RepM X.K H' M' → RepL X.K H' M' vs ds → Q ds M' → Q0 vs H') → OkW X.K M H W W0 → t0 σ H Q0) : DA X W0 e t :=
  ⟨PA.imp h fun σ H Q0 ⟨δ, M, Q, W, a, q, k, w⟩ => f σ H Q0 δ M Q W a q k w⟩
theorem DS.mk' {X : Cx} {W0 : WX} {e : Stmt} {t : DTS} {t0 : TS} (h : PS X e t0) (f : ∀ D0 σ H δ M D' W, At X.K σ H δ M → t D' δ M W → OkD X.K M H D' D0 → OkW X.K M H W W0 → t0 D0 σ H) : DS X W0 e t :=
  ⟨PS.imp h fun D0 σ H ⟨δ, M, D', W, a, q, k, w⟩ => f D0 σ H δ M D' W a q k w⟩
theorem DSs.mk' {X : Cx} {W0 : WX} {e : List Stmt} {t : DTS} {t0 : TS} (h : PSs X e t0) (f : ∀ D0 σ H δ M D' W, At X.K σ H δ M → t D' δ M W → OkD X.K M H D' D0 → OkW X.K M H W W0 → t0 D0 σ H) : DSs X W0 e t :=
  ⟨PSs.imp h fun D0 σ H ⟨δ, M, D', W, a, q, k, w⟩ => f D0 σ H δ M D' W a q k w⟩
theorem At.ext {K : PySem.W.Frag} {σ : St} {H H' : Hp} {δ : DSt} {M M' : DHp} (a : At K σ H δ M) (x : Ext M H M' H') (m : RepM K H' M') : At K σ H' δ M' := ⟨a.s.ext x, m⟩
/-- a part is used: from what it is read as -/
theorem lfE.use {K : PySem.W.Frag} {W0 : WX} {t : DTE} {σ : St} {H : Hp} {δ : DSt} {M : DHp} {Q : DVK} {W : DW} {Q0 : VK} (a : At K σ H δ M) (q : t δ M Q W) (k : ∀ v H' d M', Ext M H M' H' → RepM K H' M' → Rep K H' M' v d → Q d M' → Q0 v H') (w : OkW K M H W W0) : lfE K W0 t σ H Q0 := ⟨δ, M, Q, W, a, q, k, w⟩
theorem lfT.use {K : PySem.W.Frag} {W0 : WX} {t : DTT} {σ : St} {H : Hp} {δ : DSt} {M : DHp} {Q : Bool → DHp → Prop} {W : DW} {Q0 : Bool → Hp → Prop} (a : At K σ H δ M) (q : t δ M Q W) (k : ∀ b H' M', Ext M H M' H' → RepM K H' M' → Q b M' → Q0 b H') (w : OkW K M H W W0) : lfT K W0 t σ H Q0 := ⟨δ, M, Q, W, a, q, k, w⟩
theorem lfA.use {K : PySem.W.Frag} {W0 : WX} {t : DTA} {σ : St} {H : Hp} {δ : DSt} {M : DHp} {Q : List D → DHp → Prop} {W : DW} {Q0 : List V → Hp → Prop} (a : At K σ H δ M) (q : t δ M Q W) (k : ∀ vs H' ds M', Ext M H M' H' → RepM K H' M' → RepL K H' M' vs ds → Q ds M' → Q0 vs H') (w : OkW K M H W W0) : lfA K W0 t σ H Q0 := ⟨δ, M, Q, W, a, q, k, w⟩
theorem lfS.use {K : PySem.W.Frag} {W0 : WX} {t : DTS} {D0 : Ends} {σ : St} {H : Hp} {δ : DSt} {M : DHp} {D' : DEnds} {W : DW} (a : At K σ H δ M) (q : t D' δ M W) (k : OkD K M H D' D0) (w : OkW K M H W W0) : lfS K W0 t D0 σ H := ⟨δ, M, D', W, a, q, k, w⟩
end DL
end

section
set_option Elab.async false
set_option linter.all false
set_option maxRecDepth 100000
/-! DL2: expressions. -/
namespace DL
open PySem PySem.Spec L2

/-! ### names, constants -/
def dVar (i : Nat) : DTE := fun δ M Q _ => match δ[i]? with
  | some (some d) => Q d M
  | _ => False
def dC (d : D) : DTE := fun _ M Q _ => Q d M
section
variable {X : Cx} {W0 : WX}
theorem de_var (i : Nat) {x : Str} {pos : Pos} (hN : X.N[i]? = some x := by rfl) (hv : Vis X.env.scope x := by first | exact Or.inl rfl | exact Or.inr (Or.inl rfl) | exact Or.inr (Or.inr rfl)) (hd : (x == ("__debug__" : Str)) = false := by decide)
    (hcd : (x == ("__classdict__" : Str)) = false := by decide) : DE X W0 (.Name x pos) (dVar i) :=
  .mk' (pe_var hN hv hd hcd) fun σ H Q0 δ M Q W a q k w => by
    unfold dVar at q
    split at q
    · rename_i d e
      obtain ⟨v, e', r⟩ := a.s.at_ i d e
      exact ⟨v, e', k v H d M (Ext.refl _ _) a.m r q⟩
    · exact q.elim
theorem de_int {i j pos} : DE X W0 (.Constant (.int i) j pos) (dC (.int i)) := .mk' pe_int fun σ H Q0 δ M Q W a q k w => k _ H _ M (Ext.refl _ _) a.m (.int i) q
theorem de_bl {b j pos} : DE X W0 (.Constant (.bool b) j pos) (dC (.bl b)) := .mk' pe_bl fun σ H Q0 δ M Q W a q k w => k _ H _ M (Ext.refl _ _) a.m (.bl b) q
theorem de_non {j pos} : DE X W0 (.Constant .none j pos) (dC .non) := .mk' pe_non fun σ H Q0 δ M Q W a q k w => k _ H _ M (Ext.refl _ _) a.m .non q
theorem de_str {x j pos} : DE X W0 (.Constant (.str x) j pos) (dC (.str x)) := .mk' pe_str fun σ H Q0 δ M Q W a q k w => k _ H _ M (Ext.refl _ _) a.m (.str x) q
/-- a module's constant: a number, a text, a def, a class -/
theorem de_globInt {x : Str} {i : Int} {t : Tok} {pos : Pos} (hg : Gl X x) (hm : X.mg x = some (.int i t)) (hd : (x == ("__debug__" : Str)) = false := by decide) : DE X W0 (.Name x pos) (dC (.int i)) :=
  .mk' (pe_glob (v := .int i) hg hm ⟨_, rfl⟩ hd) fun σ H Q0 δ M Q W a q k w => k _ H _ M (Ext.refl _ _) a.m (.int i) q
theorem de_globStr {x : Str} {i : Str} {t : Tok} {pos : Pos} (hg : Gl X x) (hm : X.mg x = some (.str i t)) (hd : (x == ("__debug__" : Str)) = false := by decide) : DE X W0 (.Name x pos) (dC (.str i)) :=
  .mk' (pe_glob (v := .str i) hg hm ⟨_, rfl⟩ hd) fun σ H Q0 δ M Q W a q k w => k _ H _ M (Ext.refl _ _) a.m (.str i) q
theorem de_globRef {x : Str} {i : Addr} {pos : Pos} (hg : Gl X x) (hm : X.mg x = some (.ref i)) (hd : (x == ("__debug__" : Str)) = false := by decide) : DE X W0 (.Name x pos) (dC (.ref i)) :=
  .mk' (pe_glob (v := .ref i) hg hm rfl hd) fun σ H Q0 δ M Q W a q k w => k _ H _ M (Ext.refl _ _) a.m (.ref i) q
end

/-! ### by values -/
abbrev DR2 := D → D → DHp → DVK → Prop
abbrev DR1 := D → DHp → DVK → Prop
abbrev DRs := List D → DHp → DVK → Prop
def LR2 (K : PySem.W.Frag) (r : R2) (dr : DR2) : Prop := ∀ (H : Hp) (M : DHp) (x y : V) (d e : D) (Q0 : VK) (Q : DVK), RepM K H M → Rep K H M x d → Rep K H M y e → dr d e M Q → OkV K M H Q Q0 → r x y H Q0
def LR1 (K : PySem.W.Frag) (r : V → Hp → VK → Prop) (dr : DR1) : Prop := ∀ (H : Hp) (M : DHp) (x : V) (d : D) (Q0 : VK) (Q : DVK), RepM K H M → Rep K H M x d → dr d M Q → OkV K M H Q Q0 → r x H Q0
def LRs (K : PySem.W.Frag) (r : List V → Hp → VK → Prop) (dr : DRs) : Prop := ∀ (H : Hp) (M : DHp) (xs : List V) (ds : List D) (Q0 : VK) (Q : DVK), RepM K H M → RepL K H M xs ds → dr ds M Q → OkV K M H Q Q0 → r xs H Q0
/-- nothing new -/
theorem OkV.here {K : PySem.W.Frag} {M : DHp} {H : Hp} {Q : DVK} {Q0 : VK} (k : OkV K M H Q Q0) (m : RepM K H M) {v : V} {d : D} (r : Rep K H M v d) (q : Q d M) : Q0 v H := k v H d M (Ext.refl _ _) m r q
theorem OkV.tup {K : PySem.W.Frag} {M : DHp} {H : Hp} {Q : DVK} {Q0 : VK} (k : OkV K M H Q Q0) (m : RepM K H M) {p : Addr} {vs : List V} {ds : List D} (hp : H p = none) (r : RepL K H M vs ds) (q : Q (.tup ds) M) : Q0 (.ref p) (upd H p (.tup vs)) :=
  k _ _ _ M (Ext.laid m hp) (m.laid hp) (.tup (.inl ⟨.inl upd_same, m.fresh hp⟩) (r.ext (Ext.laid m hp))) q
theorem OkV.lst {K : PySem.W.Frag} {M : DHp} {H : Hp} {Q : DVK} {Q0 : VK} (k : OkV K M H Q Q0) (m : RepM K H M) {p : Addr} {vs : List V} {ds : List D} (hp : H p = none) (r : RepL K H M vs ds) (q : Q (.lst ds) M) : Q0 (.ref p) (upd H p (.lst vs)) :=
  k _ _ _ M (Ext.laid m hp) (m.laid hp) (.lst upd_same (m.fresh hp) (r.ext (Ext.laid m hp))) q
/-- a list that may change -/
theorem OkV.mut {K : PySem.W.Frag} {M : DHp} {H : Hp} {Q : DVK} {Q0 : VK} (k : OkV K M H Q Q0) (m : RepM K H M) {p : Addr} {vs : List V} {ds : List D} (hp : H p = none) (r : RepL K H M vs ds) (q : Q (.ref p) (updD M p (.lst ds))) : Q0 (.ref p) (upd H p (.lst vs)) :=
  k _ _ _ _ (Ext.laidM m hp) (m.laidM (mo := .lst ds) hp ⟨vs, upd_same, r.ext (Ext.laidM m hp)⟩) (.ref p) q
theorem OkV.wr {K : PySem.W.Frag} {M : DHp} {H : Hp} {Q : DVK} {Q0 : VK} (k : OkV K M H Q Q0) (m : RepM K H M) {p : Addr} {es : List D} {vs : List V} {ds : List D} {v : V} {d : D} (hp : M p = some (.lst es)) (r : RepL K H M vs ds) (rv : Rep K H M v d) (q : Q d (updD M p (.lst ds))) : Q0 v (upd H p (.lst vs)) :=
  k _ _ _ _ (Ext.write hp) (m.write (mo' := .lst ds) hp (q := ⟨vs, upd_same, r.ext (Ext.write hp)⟩)) (rv.ext (Ext.write hp)) q

def dOp (dr : DR2) (ta tb : DTE) : DTE := fun δ M Q W => ta δ M (fun x M1 => tb δ M1 (fun y M2 => dr x y M2 Q) W) W
def dUn (dr : DR1) (ta : DTE) : DTE := fun δ M Q W => ta δ M (fun x M1 => dr x M1 Q) W
def DOpR (X : Cx) (f : Value → Value → Sem Value) (dr : DR2) : Prop := ∃ r, OpR X f r ∧ LR2 X.K r dr
def DUnR (X : Cx) (f : Value → Sem Value) (dr : DR1) : Prop := ∃ r, UnR X f r ∧ LR1 X.K r dr
section
variable {X : Cx} {W0 : WX} {a b : Expr} {ta tb : DTE} {pos : Pos}
theorem two {K : PySem.W.Frag} {ta tb : DTE} {r : R2} {dr : DR2} (l : LR2 K r dr) {σ : St} {H : Hp} {Q0 : VK} {δ : DSt} {M : DHp} {Q : DVK} {W : DW} (a : At K σ H δ M) (q : dOp dr ta tb δ M Q W) (k : OkV K M H Q Q0) (w : OkW K M H W W0) : tOp r (lfE K W0 ta) (lfE K W0 tb) σ H Q0 :=
  lfE.use a q (fun v H1 d M1 x m1 r1 q1 => lfE.use (a.ext x m1) q1 (fun v2 H2 d2 M2 x2 m2 r2 q2 => l H2 M2 v v2 d d2 _ _ m2 (r1.ext x2) r2 q2 (k.ext (x.trans x2))) (w.ext x)) w
theorem de_op {op : Operator} {dr : DR2} (ho : DOpR X (binaryOp op) dr) (ha : DE X W0 a ta) (hb : DE X W0 b tb) : DE X W0 (.BinOp a op b pos) (dOp dr ta tb) := by
  obtain ⟨r, ho, l⟩ := ho
  exact .mk' (pe_op ho ha.pe hb.pe) fun σ H Q0 δ M Q W a q k w => two l a q k w
theorem de_un {op : UnaryOp} {dr : DR1} (ho : DUnR X (unaryOp op) dr) (ha : DE X W0 a ta) : DE X W0 (.UnaryOp op a pos) (dUn dr ta) := by
  obtain ⟨r, ho, l⟩ := ho
  exact .mk' (pe_un ho ha.pe) fun σ H Q0 δ M Q W a q k w => lfE.use a q (fun v H1 d M1 x m1 r1 q1 => l H1 M1 v d _ _ m1 r1 q1 (k.ext x)) w
theorem de_cmp {op : CmpOp} {dr : DR2} (ho : DOpR X (compareOp op) dr) (ha : DE X W0 a ta) (hb : DE X W0 b tb) (hm : behindInMarks op b = false) : DE X W0 (.Compare a [op] [b] pos) (dOp dr ta tb) := by
  obtain ⟨r, ho, l⟩ := ho
  exact .mk' (pe_cmpR ho ha.pe hb.pe hm) fun σ H Q0 δ M Q W a q k w => two l a q k w
/-- a value that is a bool, as a test -/
def dB (t : DTE) : DTT := fun δ M Q W => t δ M (fun x M1 => match x with
  | .bl c => Q c M1
  | _ => False) W
theorem dt_cmp {op : CmpOp} {dr : DR2} (ho : DOpR X (compareOp op) dr) (ha : DE X W0 a ta) (hb : DE X W0 b tb) (hm : behindInMarks op b = false) : DT X W0 (.Compare a [op] [b] pos) (dB (dOp dr ta tb)) := by
  obtain ⟨r, ho, l⟩ := ho
  refine .mk' (pt_cmpR ho ha.pe hb.pe hm) fun σ H Q0 δ M Q W a q k w => two l a q (fun v H1 d M1 x m1 r1 q1 => ?_) w
  cases r1 with
  | bl c => exact ⟨c, rfl, k c H1 M1 x m1 q1⟩
  | non => exact q1.elim
  | int i => exact q1.elim
  | str i => exact q1.elim
  | ref i => exact q1.elim
  | tup f r => exact q1.elim
  | lst f n r => exact q1.elim
  | rol f r => exact q1.elim
  | xtp f e n r => exact q1.elim
  | lam f n r => exact q1.elim
  | exc0 a => exact q1.elim
  | exc1 f n r => exact q1.elim
end

/-! ### lists of the data -/
/-- a list, changing or not -/
def lstOf (M : DHp) : D → Option (List D)
  | .lst xs => some xs
  | .ref p => match M p with
    | some (.lst xs) => some xs
    | _ => none
  | _ => none
/-- a list or a tuple -/
def seqOf (M : DHp) : D → Option (List D)
  | .tup xs => some xs
  | .lst xs => some xs
  | .rol xs => some xs
  | .xtp xs => some xs
  | .ref p => match M p with
    | some (.lst xs) => some xs
    | _ => none
  | _ => none
theorem lstOf_rep {K : PySem.W.Frag} {H : Hp} {M : DHp} {d : D} {ds : List D} (h : lstOf M d = some ds) (m : RepM K H M) {v : V} (r : Rep K H M v d) : ∃ a vs, v = .ref a ∧ H a = some (.lst vs) ∧ RepL K H M vs ds := by
  cases r with
  | lst f n l => cases h; exact ⟨_, _, rfl, f, l⟩
  | ref a =>
    simp only [lstOf] at h
    split at h
    · rename_i xs e
      cases h
      obtain ⟨vs, e2, l⟩ := m.lst e
      exact ⟨a, vs, rfl, e2, l⟩
    · cases h
  | non => cases h
  | bl b => cases h
  | int i => cases h
  | str x => cases h
  | tup f r => cases h
  | rol f r => cases h
  | xtp f e n r => cases h
  | lam f n r => cases h
  | exc0 a => cases h
  | exc1 f n r => cases h
theorem seqOf_rep {K : PySem.W.Frag} {H : Hp} {M : DHp} {d : D} {ds : List D} (h : seqOf M d = some ds) (m : RepM K H M) {v : V} (r : Rep K H M v d) : ∃ a vs, v = .ref a ∧ (SqL K H a vs ∨ SqT K H a vs) ∧ RepL K H M vs ds := by
  cases r with
  | lst f n l => cases h; exact ⟨_, _, rfl, .inl (SqL.of f), l⟩
  | ref a =>
    simp only [seqOf] at h
    split at h
    · rename_i xs e
      cases h
      obtain ⟨vs, e2, l⟩ := m.lst e
      exact ⟨a, vs, rfl, .inl (SqL.of e2), l⟩
    · cases h
  | non => cases h
  | bl b => cases h
  | int i => cases h
  | str x => cases h
  | tup f r => cases h; exact ⟨_, _, rfl, .inr f.seq, r⟩
  | rol f r => cases h; exact ⟨_, _, rfl, .inl f.seq, r⟩
  | xtp f e n r => cases h; exact ⟨_, _, rfl, .inr (.inl (.inr ⟨_, f⟩)), r⟩
  | lam f n r => cases h
  | exc0 a => cases h
  | exc1 f n r => cases h

/-! ### + - * // % ** -/
def rAddD : DR2 := fun x y M Q => match x, y with
  | .int i, .int j => Q (.int (i + j)) M
  | .str i, .str j => i.length + j.length ≤ sizeLine ∧ Q (.str (i ++ j)) M
  | .tup a, .tup b => a.length + b.length ≤ sizeLine ∧ Q (.tup (a ++ b)) M
  | x, y => ∃ a b, lstOf M x = some a ∧ lstOf M y = some b ∧ a.length + b.length ≤ sizeLine ∧ Q (.lst (a ++ b)) M
theorem Rep.intI {K : PySem.W.Frag} {H : Hp} {M : DHp} {v : V} {i : Int} (r : Rep K H M v (.int i)) : v = .int i := by cases r; rfl
theorem Rep.strI {K : PySem.W.Frag} {H : Hp} {M : DHp} {v : V} {i : Str} (r : Rep K H M v (.str i)) : v = .str i := by cases r; rfl
theorem Rep.blI {K : PySem.W.Frag} {H : Hp} {M : DHp} {v : V} {i : Bool} (r : Rep K H M v (.bl i)) : v = .bl i := by cases r; rfl
theorem Rep.nonI {K : PySem.W.Frag} {H : Hp} {M : DHp} {v : V} (r : Rep K H M v .non) : v = .non := by cases r; rfl
theorem Rep.refI {K : PySem.W.Frag} {H : Hp} {M : DHp} {v : V} {a : Addr} (r : Rep K H M v (.ref a)) : v = .ref a := by cases r; rfl
theorem Rep.tupI {K : PySem.W.Frag} {H : Hp} {M : DHp} {v : V} {ds : List D} (r : Rep K H M v (.tup ds)) : ∃ a vs, v = .ref a ∧ FzT K H M a vs ∧ RepL K H M vs ds := by cases r with | tup f l => exact ⟨_, _, rfl, f, l⟩
theorem Rep.lstI {K : PySem.W.Frag} {H : Hp} {M : DHp} {v : V} {ds : List D} (r : Rep K H M v (.lst ds)) : ∃ a vs, v = .ref a ∧ H a = some (.lst vs) ∧ M a = none ∧ RepL K H M vs ds := by cases r with | lst f n l => exact ⟨_, _, rfl, f, n, l⟩
theorem Rep.xtpI {K : PySem.W.Frag} {H : Hp} {M : DHp} {v : V} {ds : List D} (r : Rep K H M v (.xtp ds)) : ∃ a vs o, v = .ref a ∧ H a = some (.frz o (.tup vs)) ∧ o.dict = none ∧ M a = none ∧ RepL K H M vs ds := by cases r with | xtp f e n l => exact ⟨_, _, _, rfl, f, e, n, l⟩
theorem Rep.rolI {K : PySem.W.Frag} {H : Hp} {M : DHp} {v : V} {ds : List D} (r : Rep K H M v (.rol ds)) : ∃ a vs, v = .ref a ∧ FzL K H M a vs ∧ RepL K H M vs ds := by cases r with | rol f l => exact ⟨_, _, rfl, f, l⟩
section
variable {X : Cx}
theorem do_add : DOpR X (binaryOp .Add) rAddD := by
  refine ⟨_, OpR.or op_add (OpR.or op_add_str (OpR.or op_catA op_cat)), ?_⟩
  intro H M x y d e Q0 Q m rx ry q k
  unfold rAddD at q
  split at q
  · rw [rx.intI, ry.intI]
    exact .inl ⟨_, _, rfl, rfl, k.here m (.int _) q⟩
  · rw [rx.strI, ry.strI]
    exact .inr (.inl ⟨_, _, rfl, rfl, q.1, k.here m (.str _) q.2⟩)
  · obtain ⟨a, vs, rfl, f, l⟩ := rx.tupI
    obtain ⟨b, ws, rfl, g, l'⟩ := ry.tupI
    refine .inr (.inr (.inl ⟨a, b, vs, ws, rfl, rfl, f.seq, g.seq, ?_, fun e => ?_, fun e e' => ?_, fun e e' p hp => ?_⟩))
    · rw [l.length, l'.length]; exact q.1
    · subst e
      cases l
      exact k.here m ry q.2
    · subst e'
      cases l'
      rw [List.append_nil] at q
      exact k.here m rx q.2
    · exact k.tup m hp (l.append l') q.2
  · obtain ⟨a, b, ea, eb, z, q⟩ := q
    obtain ⟨p, vs, rfl, f, l⟩ := lstOf_rep ea m rx
    obtain ⟨p', ws, rfl, g, l'⟩ := lstOf_rep eb m ry
    refine .inr (.inr (.inr ⟨p, p', vs, ws, rfl, rfl, f, g, ?_, fun p hp => k.lst m hp (l.append l') q⟩))
    rw [l.length, l'.length]; exact z
end
end DL
end

section
set_option Elab.async false
set_option linter.all false
set_option maxRecDepth 100000
/-! DL3: operators, comparisons, tests, subscripts, displays. -/
namespace DL
open PySem PySem.Spec L2
section
variable {X : Cx}
/-! ### arithmetic -/
def rSubD : DR2 := fun x y M Q => match x, y with
  | .int i, .int j => Q (.int (i - j)) M
  | _, _ => False
def rMulD : DR2 := fun x y M Q => match x, y with
  | .int i, .int j => CMul i j ∧ Q (.int (i * j)) M
  | .tup xs, .int k => xs ≠ [] ∧ 2 ≤ k ∧ k ≤ 1000 ∧ xs.length ≤ 1000 ∧ Q (.tup (List.replicate k.toNat xs).flatten) M
  | x, .int k => ∃ xs, lstOf M x = some xs ∧ -(2 ^ 63) ≤ k ∧ k < 2 ^ 63 ∧ xs.length * k.toNat ≤ sizeLine ∧ Q (.lst (List.replicate k.toNat xs).flatten) M
  | _, _ => False
def rDivD : DR2 := fun x y M Q => match x, y with
  | .int i, .int j => CDiv i j ∧ Q (.int (i / j)) M
  | _, _ => False
def rModD : DR2 := fun x y M Q => match x, y with
  | .int i, .int j => 0 < j ∧ Q (.int (i % j)) M
  | _, _ => False
def rPowD : DR2 := fun x y M Q => match x, y with
  | .int i, .int j => CPow i j ∧ Q (.int (i ^ j.toNat)) M
  | _, _ => False
def rNegD : DR1 := fun x M Q => match x with
  | .int i => Q (.int (-i)) M
  | _ => False
theorem do_sub : DOpR X (binaryOp .Sub) rSubD := by
  refine ⟨_, op_sub, fun H M x y d e Q0 Q m rx ry q k => ?_⟩
  unfold rSubD at q
  split at q
  · rw [rx.intI, ry.intI]
    exact ⟨_, _, rfl, rfl, k.here m (.int _) q⟩
  · exact q.elim
theorem do_mul : DOpR X (binaryOp .Mult) rMulD := by
  refine ⟨_, OpR.or op_mul (OpR.or op_repT op_rep), fun H M x y d e Q0 Q m rx ry q k => ?_⟩
  unfold rMulD at q
  split at q
  · rw [rx.intI, ry.intI]
    exact .inl ⟨_, _, rfl, rfl, q.1, k.here m (.int _) q.2⟩
  · obtain ⟨a, vs, rfl, f, l⟩ := rx.tupI
    rw [ry.intI]
    obtain ⟨h1, h2, h3, h4, q⟩ := q
    refine .inr (.inl ⟨a, _, vs, rfl, rfl, f.seq, fun e => h1 ?_, h2, h3, by rw [l.length]; exact h4, fun p hp => k.tup m hp (l.replicate _) q⟩)
    subst e; cases l; rfl
  · obtain ⟨xs, ex, h1, h2, h3, q⟩ := q
    obtain ⟨p, vs, rfl, f, l⟩ := lstOf_rep ex m rx
    rw [ry.intI]
    exact .inr (.inr ⟨p, _, vs, rfl, rfl, f, h1, h2, by rw [l.length]; exact h3, fun p hp => k.lst m hp (l.replicate _) q⟩)
  · exact q.elim
theorem do_div : DOpR X (binaryOp .FloorDiv) rDivD := by
  refine ⟨_, op_fdiv, fun H M x y d e Q0 Q m rx ry q k => ?_⟩
  unfold rDivD at q
  split at q
  · rw [rx.intI, ry.intI]
    exact ⟨_, _, rfl, rfl, q.1, k.here m (.int _) q.2⟩
  · exact q.elim
theorem do_mod : DOpR X (binaryOp .Mod) rModD := by
  refine ⟨_, op_mod, fun H M x y d e Q0 Q m rx ry q k => ?_⟩
  unfold rModD at q
  split at q
  · rw [rx.intI, ry.intI]
    exact ⟨_, _, rfl, rfl, q.1, k.here m (.int _) q.2⟩
  · exact q.elim
theorem do_pow : DOpR X (binaryOp .Pow) rPowD := by
  refine ⟨_, op_pow, fun H M x y d e Q0 Q m rx ry q k => ?_⟩
  unfold rPowD at q
  split at q
  · rw [rx.intI, ry.intI]
    exact ⟨_, _, rfl, rfl, q.1, k.here m (.int _) q.2⟩
  · exact q.elim
theorem du_neg : DUnR X (unaryOp .USub) rNegD := by
  refine ⟨_, un_neg, fun H M x d Q0 Q m rx q k => ?_⟩
  unfold rNegD at q
  split at q
  · rw [rx.intI]
    exact ⟨_, rfl, k.here m (.int _) q⟩
  · exact q.elim
/-! ### op= -/
def rAddI : DR2 := fun x y M Q => match x, y with
  | .int i, .int j => Q (.int (i + j)) M
  | _, _ => False
theorem di_add : DOpR X (inplaceOp .Add) rAddI := by
  refine ⟨_, iop_add, fun H M x y d e Q0 Q m rx ry q k => ?_⟩
  unfold rAddI at q
  split at q
  · rw [rx.intI, ry.intI]
    exact ⟨_, _, rfl, rfl, k.here m (.int _) q⟩
  · exact q.elim
theorem di_sub : DOpR X (inplaceOp .Sub) rSubD := by
  refine ⟨_, iop_sub, fun H M x y d e Q0 Q m rx ry q k => ?_⟩
  unfold rSubD at q
  split at q
  · rw [rx.intI, ry.intI]
    exact ⟨_, _, rfl, rfl, k.here m (.int _) q⟩
  · exact q.elim

/-! ### pure data -/
mutual
def D.py : D → PyData
  | .non => .none
  | .bl b => .bool b
  | .int i => .int i
  | .str x => .str x
  | .tup xs => .tuple (pys xs)
  | .lst xs => .list (pys xs)
  | .rol xs => .list (pys xs)
  | .xtp xs => .tuple (pys xs)
  | .exc _ _ _ _ => .none
  | .lam _ _ _ _ _ => .none
  | .ref _ => .none
def pys : List D → List PyData
  | [] => []
  | x :: xs => x.py :: pys xs
end
mutual
def D.pure : D → Bool
  | .non => true
  | .bl _ => true
  | .int _ => true
  | .str _ => true
  | .tup xs => pures xs
  | .lst xs => pures xs
  | .rol xs => pures xs
  | .xtp xs => pures xs
  | .exc _ _ _ _ => false
  | .lam _ _ _ _ _ => false
  | .ref _ => false
def pures : List D → Bool
  | [] => true
  | x :: xs => x.pure && pures xs
end
section
variable {K : PySem.W.Frag} {H : Hp} {M : DHp}
mutual
theorem Rep.dp : ∀ {v : V} {d : D}, Rep K H M v d → d.pure = true → Dp K H v d.py
  | _, _, .non, _ => by unfold D.py; exact .non
  | _, _, .bl b, _ => by unfold D.py; exact .bl b
  | _, _, .int i, _ => by unfold D.py; exact .int i
  | _, _, .str y, _ => by unfold D.py; exact .str y
  | _, _, .ref a, h => by unfold D.pure at h; cases h
  | _, _, .tup f r, h => by unfold D.py; unfold D.pure at h; exact .tup f.seq (RepL.dp r h)
  | _, _, .lst f n r, h => by unfold D.py; unfold D.pure at h; exact .lst (SqL.of f) (RepL.dp r h)
  | _, _, .rol f r, h => by unfold D.py; unfold D.pure at h; exact .lst f.seq (RepL.dp r h)
  | _, _, .xtp (o := o) f e n r, h => by unfold D.py; unfold D.pure at h; exact .tup (.inl (.inr ⟨o, f⟩)) (RepL.dp r h)
  | _, _, .lam f n r, h => by unfold D.pure at h; cases h
  | _, _, .exc0 a, h => by unfold D.pure at h; cases h
  | _, _, .exc1 f n r, h => by unfold D.pure at h; cases h
theorem RepL.dp : ∀ {vs : List V} {ds : List D}, RepL K H M vs ds → pures ds = true → DpAll K H vs (pys ds)
  | _, _, .nil, _ => by unfold pys; exact .nil
  | _, _, .cons r t, h => by
    unfold pys
    unfold pures at h
    obtain ⟨h1, h2⟩ := Bool.and_eq_true_iff.mp h
    exact .cons (Rep.dp r h1) (RepL.dp t h2)
end
end
/-- a changing list as the list that it is now -/
def frz (M : DHp) : D → D
  | .ref p => match M p with
    | some (.lst xs) => .lst xs
    | _ => .ref p
  | d => d
theorem Rep.frz {K : PySem.W.Frag} {H : Hp} {M : DHp} {v : V} {d : D} (r : Rep K H M v d) (m : RepM K H M) (h : (frz M d).pure = true) : Dp K H v (DL.frz M d).py := by
  cases r with
  | ref a =>
    cases e : M a with
    | none => simp [DL.frz, e, D.pure] at h
    | some o =>
      cases o with
      | lst xs =>
        have ef : DL.frz M (.ref a) = .lst xs := by simp [DL.frz, e]
        rw [ef] at h ⊢
        obtain ⟨vs, e2, l⟩ := m.lst e
        unfold D.py
        unfold D.pure at h
        exact .lst (SqL.of e2) (l.dp h)
      | ins C fs => simp [DL.frz, e, D.pure] at h
      | tbl q => simp [DL.frz, e, D.pure] at h
      | busy => simp [DL.frz, e, D.pure] at h
      | dK q => simp [DL.frz, e, D.pure] at h
      | dT q => simp [DL.frz, e, D.pure] at h
  | non => exact Rep.dp (M := M) .non h
  | bl b => exact Rep.dp (M := M) (.bl b) h
  | int i => exact Rep.dp (M := M) (.int i) h
  | str x => exact Rep.dp (M := M) (.str x) h
  | tup f r => exact Rep.dp (.tup f r) h
  | lst f n r => exact Rep.dp (.lst f n r) h
  | rol f r => exact Rep.dp (.rol f r) h
  | xtp f e n r => exact Rep.dp (.xtp f e n r) h
  | lam f n r => exact Rep.dp (.lam f n r) h
  | exc0 a => exact Rep.dp (M := M) (.exc0 a) h
  | exc1 f n r => exact Rep.dp (.exc1 f n r) h
/-- fit for == -/
def EqOk (M : DHp) (d : D) : Prop := (frz M d).pure = true ∧ SeqAt.shaped (frz M d).py = true
def eqD (M : DHp) (x y : D) : Bool := PyData.eqv (frz M x).py (frz M y).py
def rEqD' (neg : Bool) : DR2 := fun x y M Q => match x, y with
  | .int i, .int j => Q (.bl (if neg then !decide (i = j) else decide (i = j))) M
  | .str i, .str j => Q (.bl (if neg then !decide (i = j) else decide (i = j))) M
  | .bl i, .bl j => Q (.bl (if neg then !decide (i = j) else decide (i = j))) M
  | x, y => EqOk M x ∧ EqOk M y ∧ Q (.bl (if neg then !eqD M x y else eqD M x y)) M
abbrev rEqq : DR2 := rEqD' false
abbrev rNee : DR2 := rEqD' true
theorem do_eq (hu : X.A.units + 64 < cLine) : DOpR X (compareOp .Eq) rEqq := by
  refine ⟨_, OpR.or op_eq (op_eqD hu), fun H M x y d e Q0 Q m rx ry q k => ?_⟩
  unfold rEqq rEqD' at q
  split at q
  · rw [rx.intI, ry.intI]
    refine .inl ⟨rfl, k.here m (.bl _) ?_⟩
    simpa [V.int.injEq] using q
  · rw [rx.strI, ry.strI]
    refine .inl ⟨rfl, k.here m (.bl _) ?_⟩
    simpa [V.str.injEq] using q
  · rw [rx.blI, ry.blI]
    refine .inl ⟨rfl, k.here m (.bl _) ?_⟩
    simpa [V.bl.injEq] using q
  · obtain ⟨⟨p1, s1⟩, ⟨p2, s2⟩, q⟩ := q
    exact .inr ⟨_, _, rx.frz m p1, ry.frz m p2, s1, s2, k.here m (.bl _) q⟩
theorem do_ne (hu : X.A.units + 64 < cLine) : DOpR X (compareOp .NotEq) rNee := by
  refine ⟨_, OpR.or op_ne (op_neD hu), fun H M x y d e Q0 Q m rx ry q k => ?_⟩
  unfold rNee rEqD' at q
  split at q
  · rw [rx.intI, ry.intI]
    refine .inl ⟨rfl, k.here m (.bl _) ?_⟩
    simpa [V.int.injEq] using q
  · rw [rx.strI, ry.strI]
    refine .inl ⟨rfl, k.here m (.bl _) ?_⟩
    simpa [V.str.injEq] using q
  · rw [rx.blI, ry.blI]
    refine .inl ⟨rfl, k.here m (.bl _) ?_⟩
    simpa [V.bl.injEq] using q
  · obtain ⟨⟨p1, s1⟩, ⟨p2, s2⟩, q⟩ := q
    exact .inr ⟨_, _, rx.frz m p1, ry.frz m p2, s1, s2, k.here m (.bl _) q⟩
def rCmpD (p : Int → Int → Bool) : DR2 := fun x y M Q => match x, y with
  | .int i, .int j => Q (.bl (p i j)) M
  | _, _ => False
abbrev rLtD : DR2 := rCmpD fun i j => decide (i < j)
abbrev rLeD : DR2 := rCmpD fun i j => decide (i ≤ j)
abbrev rGtD : DR2 := rCmpD fun i j => decide (j < i)
abbrev rGeD : DR2 := rCmpD fun i j => decide (j ≤ i)
theorem lr_cmp {K : PySem.W.Frag} {p : Int → Int → Bool} : LR2 K (rI0 fun i j => .bl (p i j)) (rCmpD p) := by
  intro H M x y d e Q0 Q m rx ry q k
  unfold rCmpD at q
  split at q
  · rw [rx.intI, ry.intI]
    exact ⟨_, _, rfl, rfl, k.here m (.bl _) q⟩
  · exact q.elim
theorem do_lt : DOpR X (compareOp .Lt) rLtD := ⟨_, op_lt, lr_cmp⟩
theorem do_le : DOpR X (compareOp .LtE) rLeD := ⟨_, op_le, lr_cmp⟩
theorem do_gt : DOpR X (compareOp .Gt) rGtD := ⟨_, op_gt, lr_cmp⟩
theorem do_ge : DOpR X (compareOp .GtE) rGeD := ⟨_, op_ge, lr_cmp⟩
/-- is None -/
def isNonD : D → Bool
  | .non => true
  | _ => false
def rIsD (neg : Bool) : DR2 := fun x y M Q => isNonD y = true ∧ Q (.bl (if neg then !isNonD x else isNonD x)) M
theorem Rep.isNon {K : PySem.W.Frag} {H : Hp} {M : DHp} {v : V} {d : D} (r : Rep K H M v d) : decide (v = .non) = isNonD d := by
  cases r <;> first | rfl | exact decide_eq_false (by intro h; cases h)
theorem do_is : DOpR X (compareOp .Is) (rIsD false) := by
  refine ⟨_, op_isN, fun H M x y d e Q0 Q m rx ry q k => ?_⟩
  obtain ⟨h, q⟩ := q
  refine ⟨of_decide_eq_true (ry.isNon.trans h), ?_⟩
  rw [rx.isNon]
  exact k.here m (.bl _) q
theorem do_isnot : DOpR X (compareOp .IsNot) (rIsD true) := by
  refine ⟨_, op_notN, fun H M x y d e Q0 Q m rx ry q k => ?_⟩
  obtain ⟨h, q⟩ := q
  refine ⟨of_decide_eq_true (ry.isNon.trans h), ?_⟩
  rw [rx.isNon]
  exact k.here m (.bl _) q
/-! ### x in s -/
def flatD : D → Bool
  | .non => true
  | .bl _ => true
  | .int _ => true
  | .str _ => true
  | _ => false
def eqF : D → D → Bool
  | .non, .non => true
  | .bl a, .bl b => a == b
  | .bl a, .int b => (if a then 1 else 0) == b
  | .int a, .bl b => a == (if b then 1 else 0)
  | .int a, .int b => a == b
  | .str a, .str b => a == b
  | _, _ => false
theorem Rep.flat {K : PySem.W.Frag} {H : Hp} {M : DHp} {v : V} {d : D} (r : Rep K H M v d) (h : flatD d = true) : flatV v = true := by
  cases r <;> first | rfl | cases h
theorem RepL.flat {K : PySem.W.Frag} {H : Hp} {M : DHp} : ∀ {vs : List V} {ds : List D}, RepL K H M vs ds → ds.all flatD = true → vs.all flatV = true
  | _, _, .nil, _ => rfl
  | _, _, .cons r t, h => by
    rw [List.all_cons] at h ⊢
    obtain ⟨h1, h2⟩ := Bool.and_eq_true_iff.mp h
    rw [r.flat h1, t.flat h2]; rfl
theorem Rep.eqF {K : PySem.W.Frag} {H : Hp} {M : DHp} {v w : V} {d e : D} (r : Rep K H M v d) (s : Rep K H M w e) (h : flatD d = true) (h' : flatD e = true) : eqV v w = DL.eqF d e := by
  cases r <;> first | (cases h; done) | (cases s <;> first | rfl | cases h')
theorem RepL.inV {K : PySem.W.Frag} {H : Hp} {M : DHp} {v : V} {d : D} (r : Rep K H M v d) (h : flatD d = true) : ∀ {vs : List V} {ds : List D}, RepL K H M vs ds → ds.all flatD = true → L2.inV v vs = ds.any fun z => DL.eqF z d
  | _, _, .nil, _ => rfl
  | _, _, .cons s t, h' => by
    rw [List.all_cons] at h'
    obtain ⟨h1, h2⟩ := Bool.and_eq_true_iff.mp h'
    have e := t.inV r h h2
    unfold L2.inV at e ⊢
    rw [List.any_cons, List.any_cons, s.eqF r h1 h, e]
def rInDD (neg : Bool) : DR2 := fun x y M Q => ∃ ds, seqOf M y = some ds ∧ flatD x = true ∧ ds.all flatD = true ∧ Q (.bl (if neg then !ds.any fun z => eqF z x else ds.any fun z => eqF z x)) M
theorem do_in : DOpR X (compareOp .In) (rInDD false) := by
  refine ⟨_, op_in_seq, fun H M x y d e Q0 Q m rx ry q k => ?_⟩
  obtain ⟨ds, hs, h1, h2, q⟩ := q
  obtain ⟨a, vs, rfl, hq, l⟩ := seqOf_rep hs m ry
  refine ⟨a, vs, rfl, hq, rx.flat h1, l.flat h2, ?_⟩
  simp only [Bool.false_eq_true, if_false] at q ⊢
  rw [l.inV rx h1 h2]
  exact k.here m (.bl _) q
theorem do_notin : DOpR X (compareOp .NotIn) (rInDD true) := by
  refine ⟨_, op_notIn_seq, fun H M x y d e Q0 Q m rx ry q k => ?_⟩
  obtain ⟨ds, hs, h1, h2, q⟩ := q
  obtain ⟨a, vs, rfl, hq, l⟩ := seqOf_rep hs m ry
  refine ⟨a, vs, rfl, hq, rx.flat h1, l.flat h2, ?_⟩
  simp only [if_true] at q ⊢
  rw [l.inV rx h1 h2]
  exact k.here m (.bl _) q
end
end DL
end

section
set_option Elab.async false
set_option linter.all false
set_option maxRecDepth 100000
/-! DL4: tests, subscripts, displays, argument lists. -/
namespace DL
open PySem PySem.Spec L2
section
variable {X : Cx} {W0 : WX} {a b c : Expr} {pos : Pos} {rest : List Expr}
/-! ### truth -/
def dTru (t : DTE) : DTT := fun δ M Q W => t δ M (fun x M1 => match x with
  | .non => Q false M1
  | .bl k => Q k M1
  | .int i => Q (i != 0) M1
  | .str y => y.length ≤ sizeLine ∧ Q ((y.length : Int) != 0) M1
  | x => ∃ ds, seqOf M1 x = some ds ∧ Q (!ds.isEmpty) M1) W
theorem RepL.isEmpty {K : PySem.W.Frag} {H : Hp} {M : DHp} {vs : List V} {ds : List D} (r : RepL K H M vs ds) : vs.isEmpty = ds.isEmpty := by cases r <;> rfl
theorem dt_truth {ta : DTE} (ha : DE X W0 a ta) (he : ∀ whole, isTrue a X.env whole = (do let v ← whole; standAt a.pos; holding [v] (truthy v)) := by intro _; rfl) : DT X W0 a (dTru ta) :=
  .mk' (pt_truth ha.pe he) fun σ H Q0 δ M Q W at_ q k w => lfE.use at_ q (fun v H1 d M1 x m1 r1 q1 => by
    split at q1
    · rw [r1.nonI]; exact ⟨false, rfl, k _ _ _ x m1 q1⟩
    · rw [r1.blI]; exact ⟨_, rfl, k _ _ _ x m1 q1⟩
    · rw [r1.intI]; exact ⟨_, rfl, k _ _ _ x m1 q1⟩
    · rw [r1.strI]; exact ⟨_, ⟨q1.1, rfl⟩, k _ _ _ x m1 q1.2⟩
    · obtain ⟨ds, hs, q1⟩ := q1
      obtain ⟨p, vs, rfl, hq, l⟩ := seqOf_rep hs m1 r1
      refine ⟨!ds.isEmpty, ?_, k _ _ _ x m1 q1⟩
      rcases hq with hq | hq
      · exact .inl ⟨vs, hq, by rw [l.isEmpty]⟩
      · exact .inr (.inl ⟨vs, hq, by rw [l.isEmpty]⟩)) w

/-! ### and, or, not -/
def dAnd (t u : DTT) : DTT := fun δ M Q W => t δ M (fun c M1 => if c = true then u δ M1 Q W else Q false M1) W
def dOr (t u : DTT) : DTT := fun δ M Q W => t δ M (fun c M1 => if c = true then Q true M1 else u δ M1 Q W) W
def dNot (t : DTT) : DTT := fun δ M Q W => t δ M (fun c M1 => Q (!c) M1) W
variable {tA tB : DTT} {ta tb : DTE}
theorem dw_and1 (ha : DT X W0 a tA) : DPW X W0 (.BoolOp .And [a] pos) tA := ⟨pw_and1 ha.pt⟩
theorem dw_or1 (ha : DT X W0 a tA) : DPW X W0 (.BoolOp .Or [a] pos) tA := ⟨pw_or1 ha.pt⟩
theorem dw_and (ha : DT X W0 a tA) (hb : DPW X W0 (.BoolOp .And (b :: rest) pos) tB) : DPW X W0 (.BoolOp .And (a :: b :: rest) pos) (dAnd tA tB) :=
  .mk' (pw_and ha.pt hb.pw) fun σ H Q0 δ M Q W a q k w => lfT.use a q (fun c H1 M1 x m1 q1 => by
    cases c with
    | true => exact lfT.use (a.ext x m1) q1 (fun c2 H2 M2 x2 => k c2 H2 M2 (x.trans x2)) (w.ext x)
    | false => exact k false H1 M1 x m1 q1) w
theorem dw_or (ha : DT X W0 a tA) (hb : DPW X W0 (.BoolOp .Or (b :: rest) pos) tB) : DPW X W0 (.BoolOp .Or (a :: b :: rest) pos) (dOr tA tB) :=
  .mk' (pw_or ha.pt hb.pw) fun σ H Q0 δ M Q W a q k w => lfT.use a q (fun c H1 M1 x m1 q1 => by
    cases c with
    | false => exact lfT.use (a.ext x m1) q1 (fun c2 H2 M2 x2 => k c2 H2 M2 (x.trans x2)) (w.ext x)
    | true => exact k true H1 M1 x m1 q1) w
theorem DPW.dt {e : Expr} (h : DPW X W0 e tA) : DT X W0 e tA := ⟨h.pw.pt⟩
theorem dt_not (ha : DT X W0 a tA) : DT X W0 (.UnaryOp .Not a pos) (dNot tA) :=
  .mk' (pt_not ha.pt) fun σ H Q0 δ M Q W a q k w => lfT.use a q (fun c H1 M1 x m1 q1 => k (!c) H1 M1 x m1 q1) w
/-- .. as values -/
def dAndV (ta tb : DTE) : DTE := fun δ M Q W => ta δ M (fun x M1 => match x with
  | .bl c => if c = true then tb δ M1 Q W else Q (.bl false) M1
  | _ => False) W
def dOrV (ta tb : DTE) : DTE := fun δ M Q W => ta δ M (fun x M1 => match x with
  | .bl c => if c = true then Q (.bl true) M1 else tb δ M1 Q W
  | _ => False) W
def dNotV (tA : DTT) : DTE := fun δ M Q W => tA δ M (fun c M1 => Q (.bl (!c)) M1) W
theorem de_one {op} (h : DE X W0 a ta) : DE X W0 (.BoolOp op [a] pos) ta := ⟨pe_one h.pe⟩
theorem de_and (ha : DE X W0 a ta) (hb : DE X W0 (.BoolOp .And (b :: rest) pos) tb) : DE X W0 (.BoolOp .And (a :: b :: rest) pos) (dAndV ta tb) :=
  .mk' (pe_and ha.pe hb.pe) fun σ H Q0 δ M Q W a q k w => lfE.use a q (fun v H1 d M1 x m1 r1 q1 => by
    split at q1
    · rename_i c
      rw [r1.blI]
      refine ⟨c, rfl, ?_⟩
      cases c with
      | true => exact lfE.use (a.ext x m1) q1 (k.ext x) (w.ext x)
      | false => exact k _ H1 _ M1 x m1 (.bl false) q1
    · exact q1.elim) w
theorem de_or (ha : DE X W0 a ta) (hb : DE X W0 (.BoolOp .Or (b :: rest) pos) tb) : DE X W0 (.BoolOp .Or (a :: b :: rest) pos) (dOrV ta tb) :=
  .mk' (pe_or ha.pe hb.pe) fun σ H Q0 δ M Q W a q k w => lfE.use a q (fun v H1 d M1 x m1 r1 q1 => by
    split at q1
    · rename_i c
      rw [r1.blI]
      refine ⟨c, rfl, ?_⟩
      cases c with
      | false => exact lfE.use (a.ext x m1) q1 (k.ext x) (w.ext x)
      | true => exact k _ H1 _ M1 x m1 (.bl true) q1
    · exact q1.elim) w
def dNotE (ta : DTE) : DTE := fun δ M Q W => ta δ M (fun x M1 => match x with
  | .bl c => Q (.bl (!c)) M1
  | _ => False) W
theorem de_not (ha : DE X W0 a ta) : DE X W0 (.UnaryOp .Not a pos) (dNotE ta) :=
  .mk' (pe_not ha.pe) fun σ H Q0 δ M Q W a q k w => lfE.use a q (fun v H1 d M1 x m1 r1 q1 => by
    split at q1
    · rename_i c
      rw [r1.blI]
      exact ⟨c, rfl, k _ H1 _ M1 x m1 (.bl _) q1⟩
    · exact q1.elim) w
def dIfE (t : DTT) (ta tb : DTE) : DTE := fun δ M Q W => t δ M (fun c M1 => if c = true then ta δ M1 Q W else tb δ M1 Q W) W
theorem de_ifExp (hc : DT X W0 c tA) (ha : DE X W0 a ta) (hb : DE X W0 b tb) : DE X W0 (.IfExp c a b pos) (dIfE tA ta tb) :=
  .mk' (pe_ifExp hc.pt ha.pe hb.pe) fun σ H Q0 δ M Q W a q k w => lfT.use a q (fun d H1 M1 x m1 q1 => by
    cases d with
    | true => exact lfE.use (a.ext x m1) q1 (k.ext x) (w.ext x)
    | false => exact lfE.use (a.ext x m1) q1 (k.ext x) (w.ext x)) w
end

/-! ### subscripts -/
theorem RepL.atI {K : PySem.W.Frag} {H : Hp} {M : DHp} {vs : List V} {ds : List D} {i : Int} {d : D} (r : RepL K H M vs ds) (h : L2.atI ds i = some d) : ∃ v, L2.atI vs i = some v ∧ Rep K H M v d := by
  unfold L2.atI at h ⊢
  rw [r.length]
  cases e : ixN ds.length i with
  | none => rw [e] at h; cases h
  | some j =>
    rw [e] at h
    exact r.get h
def cutG {α : Type} (xs : List α) (lo hi : Option Int) : List α := (xs.drop (HT.sIx xs.length 0 lo)).take (HT.sIx xs.length xs.length hi - HT.sIx xs.length 0 lo)
theorem cutG_whole {α : Type} {xs : List α} {lo hi : Option Int} (h : HT.sIx xs.length 0 lo = 0 ∧ HT.sIx xs.length xs.length hi = xs.length) : cutG xs lo hi = xs := by
  unfold cutG
  rw [h.1, h.2]
  simp
theorem RepL.cut {K : PySem.W.Frag} {H : Hp} {M : DHp} {vs : List V} {ds : List D} (lo hi : Option Int) (r : RepL K H M vs ds) : RepL K H M (cutV vs lo hi) (cutG ds lo hi) := by
  unfold cutV cutG
  rw [r.length]
  exact (r.drop _).take _
def rIxDD : DR2 := fun x y M Q => match x, y with
  | .str z, .int i => z.length ≤ sizeLine ∧ ∃ c, L2.atI z.cps.toList i = some c ∧ Q (.str ⟨#[c]⟩) M
  | x, .int i => ∃ ds d, seqOf M x = some ds ∧ L2.atI ds i = some d ∧ Q d M
  | _, _ => False
section
variable {X : Cx} {W0 : WX} {a b : Expr} {ta tb : DTE} {pos : Pos}
theorem de_ix (ha : DE X W0 a ta) (hb : DE X W0 b tb) (hs : PlainIx b := by intro _ _; rfl) : DE X W0 (.Subscript a b pos) (dOp rIxDD ta tb) := by
  refine .mk' (pe_ix ix_seq ha.pe hb.pe hs) fun σ H Q0 δ M Q W a q k w => two (r := rIx X.K) (dr := rIxDD) (fun H M x y d e Q0 Q m rx ry q k => ?_) a q k w
  unfold rIxDD at q
  split at q
  · obtain ⟨h1, c, h2, q⟩ := q
    rw [rx.strI, ry.intI]
    exact .inr (.inr ⟨_, _, c, rfl, rfl, h1, h2, k.here m (.str _) q⟩)
  · obtain ⟨ds, d, hs, hd, q⟩ := q
    obtain ⟨p, vs, rfl, hq, l⟩ := seqOf_rep hs m rx
    obtain ⟨v, hv, rv⟩ := l.atI hd
    rw [ry.intI]
    rcases hq with hq | hq
    · exact .inl ⟨p, vs, _, v, rfl, rfl, hq, hv, k.here m rv q⟩
    · exact .inr (.inl ⟨p, vs, _, v, rfl, rfl, hq, hv, k.here m rv q⟩)
  · exact q.elim
/-- a bound of a slice -/
abbrev DTO := DSt → DHp → (Option Int → DHp → Prop) → DW → Prop
def lfO (K : PySem.W.Frag) (W0 : WX) (t : DTO) : TO := fun σ H Q0 => ∃ δ M Q W, At K σ H δ M ∧ t δ M Q W ∧ (∀ o H' M', Ext M H M' H' → RepM K H' M' → Q o M' → Q0 o H') ∧ OkW K M H W W0
structure DO (X : Cx) (W0 : WX) (e : Option Expr) (t : DTO) : Prop where
  po : PO X e (lfO X.K W0 t)
def dNoPart : DTO := fun _ M Q _ => Q none M
def dPart (te : DTE) : DTO := fun δ M Q W => te δ M (fun x M1 => match x with
  | .int i => Q (some i) M1
  | _ => False) W
theorem PO.imp {X : Cx} {e : Option Expr} {t t' : TO} (h : PO X e t) (f : ∀ σ H Q, t' σ H Q → t σ H Q) : PO X e t' := ⟨fun pins s σ H Q I q => h.run pins s σ H Q I (f σ H Q q)⟩
theorem do_none : DO X W0 none dNoPart := ⟨PO.imp po_none fun σ H Q0 ⟨δ, M, Q, W, a, q, k, w⟩ => k none H M (Ext.refl _ _) a.m q⟩
theorem do_some {e : Expr} {te : DTE} (h : DE X W0 e te) : DO X W0 (some e) (dPart te) := ⟨PO.imp (po_some h.pe) fun σ H Q0 ⟨δ, M, Q, W, a, q, k, w⟩ => lfE.use a q (fun v H1 d M1 x m1 r1 q1 => by
    split at q1
    · rw [r1.intI]
      exact ⟨_, rfl, k _ H1 M1 x m1 q1⟩
    · exact q1.elim) w⟩
def rSlD (x : D) (lo hi : Option Int) (M : DHp) (Q : DVK) : Prop := match x with
  | .str z => z.length ≤ sizeLine ∧ Q (.str (cutS z lo hi)) M
  | .tup ds => Q (.tup (cutG ds lo hi)) M
  | .rol ds => Q (.lst (cutG ds lo hi)) M
  | x => ∃ ds, lstOf M x = some ds ∧ Q (.lst (cutG ds lo hi)) M
def dSl (te : DTE) (tl th : DTO) : DTE := fun δ M Q W => te δ M (fun x M1 => tl δ M1 (fun l M2 => th δ M2 (fun u M3 => rSlD x l u M3 Q) W) W) W
theorem de_slice {e : Expr} {lo hi : Option Expr} {p2 : Pos} {te : DTE} {tl th : DTO} (he : DE X W0 e te) (hl : DO X W0 lo tl) (hu : DO X W0 hi th) : DE X W0 (.Subscript e (.Slice lo hi none p2) pos) (dSl te tl th) := by
  refine .mk' (pe_slice (SlR.or sl_str (SlR.or sl_tupA sl_list)) he.pe hl.po hu.po) fun σ H Q0 δ M Q W a q k w => ?_
  refine lfE.use a q (fun v H1 d M1 x1 m1 r1 q1 => ?_) w
  refine ⟨δ, M1, _, W, a.ext x1 m1, q1, fun l H2 M2 x2 m2 q2 => ?_, w.ext x1⟩
  refine ⟨δ, M2, _, W, a.ext (x1.trans x2) m2, q2, fun u H3 M3 x3 m3 q3 => ?_, w.ext (x1.trans x2)⟩
  have r3 := r1.ext (x2.trans x3)
  have k3 := k.ext ((x1.trans x2).trans x3)
  unfold rSlD at q3
  split at q3
  · rw [r3.strI]
    exact .inl ⟨_, rfl, q3.1, k3.here m3 (.str _) q3.2⟩
  · obtain ⟨p, vs, rfl, f, l⟩ := r3.tupI
    refine .inr (.inl ⟨p, vs, rfl, f.seq, fun e => ?_, fun _ p hp => k3.tup m3 hp (l.cut _ _) q3⟩)
    rw [l.length] at e
    rw [cutG_whole e] at q3
    exact k3.here m3 r3 q3
  · obtain ⟨p, vs, rfl, f, l⟩ := r3.rolI
    exact .inr (.inr ⟨p, vs, rfl, f.seq, fun p hp => k3.lst m3 hp (l.cut _ _) q3⟩)
  · obtain ⟨ds, hs, q3⟩ := q3
    obtain ⟨p, vs, rfl, f, l⟩ := lstOf_rep hs m3 r3
    exact .inr (.inr ⟨p, vs, rfl, SqL.of f, fun p hp => k3.lst m3 hp (l.cut _ _) q3⟩)
end

/-! ### argument lists, displays -/
def dNil : DTA := fun _ M Q _ => Q [] M
def dCons (ta : DTE) (tr : DTA) : DTA := fun δ M Q W => ta δ M (fun x M1 => tr δ M1 (fun xs M2 => Q (x :: xs) M2) W) W
def dStar (ta : DTE) (tr : DTA) : DTA := fun δ M Q W => ta δ M (fun x M1 => ∃ ds, seqOf M1 x = some ds ∧ tr δ M1 (fun xs M2 => Q (ds ++ xs) M2) W) W
section
variable {X : Cx} {W0 : WX} {e : Expr} {es : List Expr} {te : DTE} {t : DTA} {pos p : Pos}
theorem da_nil : DA X W0 [] dNil := .mk' pa_nil fun σ H Q0 δ M Q W a q k w => k [] H [] M (Ext.refl _ _) a.m .nil q
theorem da_cons (ha : DE X W0 e te) (hr : DA X W0 es t) (hs : starEach (e :: es) X.env = (false, eval e X.env) :: starEach es X.env := by rfl) : DA X W0 (e :: es) (dCons te t) :=
  .mk' (pa_cons ha.pe hr.pa hs) fun σ H Q0 δ M Q W a q k w => lfE.use a q (fun v H1 d M1 x1 m1 r1 q1 => lfA.use (a.ext x1 m1) q1 (fun vs H2 ds M2 x2 m2 r2 q2 => k _ H2 _ M2 (x1.trans x2) m2 (.cons (r1.ext x2) r2) q2) (w.ext x1)) w
theorem da_star (ha : DE X W0 e te) (hr : DA X W0 es t) (hs : starEach (.Starred e p :: es) X.env = (true, eval e X.env) :: starEach es X.env := by rfl) : DA X W0 (.Starred e p :: es) (dStar te t) :=
  .mk' (StX.pa_star ha.pe hr.pa hs) fun σ H Q0 δ M Q W a q k w => lfE.use a q (fun v H1 d M1 x1 m1 r1 q1 => by
    obtain ⟨ds, hs, q1⟩ := q1
    obtain ⟨b, vs, rfl, hq, l⟩ := seqOf_rep hs m1 r1
    exact ⟨b, vs, rfl, hq.symm, lfA.use (a.ext x1 m1) q1 (fun vs2 H2 ds2 M2 x2 m2 r2 q2 => k _ H2 _ M2 (x1.trans x2) m2 ((l.ext x2).append r2) q2) (w.ext x1)⟩) w
def dTup (t : DTA) : DTE := fun δ M Q W => t δ M (fun ds M1 => ds.length ≤ sizeLine ∧ Q (.tup ds) M1) W
/-- a list that stays as it is -/
def dLst (t : DTA) : DTE := fun δ M Q W => t δ M (fun ds M1 => ds.length ≤ sizeLine ∧ Q (.lst ds) M1) W
/-- a list that may change -/
def dLstM (t : DTA) : DTE := fun δ M Q W => t δ M (fun ds M1 => ds.length ≤ sizeLine ∧ ∀ p, M1 p = none → Q (.ref p) (updD M1 p (.lst ds))) W
theorem de_tup {x1} (h : DA X W0 es t) : DE X W0 (.Tuple es x1 pos) (dTup t) :=
  .mk' (pe_tup h.pa) fun σ H Q0 δ M Q W a q k w => lfA.use a q (fun vs H1 ds M1 x1 m1 r1 q1 => ⟨by rw [r1.length]; exact q1.1, fun p hp => (k.ext x1).tup m1 hp r1 q1.2⟩) w
theorem de_lst (h : DA X W0 es t) : DE X W0 (.List es pos) (dLst t) :=
  .mk' (pe_lst h.pa) fun σ H Q0 δ M Q W a q k w => lfA.use a q (fun vs H1 ds M1 x1 m1 r1 q1 => ⟨by rw [r1.length]; exact q1.1, fun p hp => (k.ext x1).lst m1 hp r1 q1.2⟩) w
theorem de_lstM (h : DA X W0 es t) : DE X W0 (.List es pos) (dLstM t) :=
  .mk' (pe_lst h.pa) fun σ H Q0 δ M Q W a q k w => lfA.use a q (fun vs H1 ds M1 x1 m1 r1 q1 => ⟨by rw [r1.length]; exact q1.1, fun p hp => (k.ext x1).mut m1 hp r1 (q1.2 p (m1.fresh hp))⟩) w
end
end DL
end

section
set_option Elab.async false
set_option linter.all false
set_option maxRecDepth 100000
/-! DL5: targets, statements, loops, comprehensions. -/
namespace DL
open PySem PySem.Spec L2
/-! ### targets: names and tuples of them -/
inductive Pat where
  | nm (i : Nat)
  | tp (ps : List Pat)
mutual
def gOf (K : PySem.W.Frag) : Pat → TG
  | .nm i => gName i
  | .tp ps => gTup K ps.length (gsOf K ps)
def gsOf (K : PySem.W.Frag) : List Pat → TGs
  | [] => gNil
  | p :: ps => gCons (gOf K p) (gsOf K ps)
end
mutual
def putP : Pat → D → DSt → Option DSt
  | .nm i, d, δ => some (δ.set i (some d))
  | .tp ps, d, δ => match d with
    | .tup ds => putPs ps ds δ
    | _ => none
def putPs : List Pat → List D → DSt → Option DSt
  | [], ds, δ => match ds with
    | [] => some δ
    | _ :: _ => none
  | p :: ps, ds, δ => match ds with
    | [] => none
    | d :: ds => match putP p d δ with
      | some δ' => putPs ps ds δ'
      | none => none
end
mutual
def slotsP : Pat → List Nat
  | .nm i => [i]
  | .tp ps => slotsPs ps
def slotsPs : List Pat → List Nat
  | [] => []
  | p :: ps => slotsP p ++ slotsPs ps
end
section
variable {K : PySem.W.Frag} {H : Hp} {M : DHp}
theorem putPs_len : ∀ {ps : List Pat} {ds : List D} {δ δ' : DSt}, putPs ps ds δ = some δ' → ds.length = ps.length
  | [], [], _, _, _ => rfl
  | [], _ :: _, _, _, h => by unfold putPs at h; cases h
  | p :: ps, [], _, _, h => by unfold putPs at h; cases h
  | p :: ps, d :: ds, δ, δ', h => by
    simp only [putPs] at h
    cases e : putP p d δ with
    | none => rw [e] at h; cases h
    | some δ1 =>
      rw [e] at h
      rw [List.length_cons, List.length_cons, putPs_len (δ := δ1) h]
mutual
theorem gOf_ok (m : RepM K H M) : ∀ (p : Pat) {d : D} {δ δ' : DSt} {v : V} {σ : St} {Q : St → Hp → Prop}, putP p d δ = some δ' → RepS K H M σ δ → Rep K H M v d →
    (∀ σ', RepS K H M σ' δ' → σ'.length = σ.length → (∀ j, j ∉ slotsP p → σ'[j]? = σ[j]?) → Q σ' H) → gOf K p v σ H Q
  | .nm i, d, δ, δ', v, σ, Q, h, s, r, k => by
    unfold putP at h
    cases h
    unfold gOf
    refine k _ (s.set i r) (List.length_set ..) fun j hj => ?_
    unfold slotsP at hj
    rw [List.getElem?_set_ne (by intro e; exact hj (by simp [e]))]
  | .tp ps, d, δ, δ', v, σ, Q, h, s, r, k => by
    unfold putP at h
    split at h
    · rename_i ds
      obtain ⟨a, vs, rfl, f, l⟩ := r.tupI
      unfold gOf
      refine ⟨a, vs, rfl, f.seq, by rw [l.length, putPs_len h], gsOf_ok m ps h s l fun σ' s' e1 e2 => k σ' s' e1 fun j hj => e2 j (by unfold slotsP at hj; exact hj)⟩
    · cases h
theorem gsOf_ok (m : RepM K H M) : ∀ (ps : List Pat) {ds : List D} {δ δ' : DSt} {vs : List V} {σ : St} {Q : St → Hp → Prop}, putPs ps ds δ = some δ' → RepS K H M σ δ → RepL K H M vs ds →
    (∀ σ', RepS K H M σ' δ' → σ'.length = σ.length → (∀ j, j ∉ slotsPs ps → σ'[j]? = σ[j]?) → Q σ' H) → gsOf K ps vs σ H Q
  | [], ds, δ, δ', vs, σ, Q, h, s, r, k => by
    unfold putPs at h
    split at h
    · cases h
      cases r
      unfold gsOf
      exact ⟨rfl, k σ s rfl fun _ _ => rfl⟩
    · cases h
  | p :: ps, ds, δ, δ', vs, σ, Q, h, s, r, k => by
    cases ds with
    | nil => simp only [putPs] at h; cases h
    | cons d ds =>
      cases r with
      | cons r t =>
        simp only [putPs] at h
        cases e : putP p d δ with
        | none => rw [e] at h; cases h
        | some δ1 =>
          rw [e] at h
          simp only at h
          unfold gsOf
          refine ⟨_, _, rfl, gOf_ok m p e s r fun σ1 s1 e1 e2 => gsOf_ok m ps h s1 t fun σ2 s2 e3 e4 => k σ2 s2 (e3.trans e1) fun j hj => ?_⟩
          unfold slotsPs at hj
          rw [List.mem_append, not_or] at hj
          rw [e4 j hj.2, e2 j hj.1]
end
end
structure DG (X : Cx) (tg : Expr) (p : Pat) : Prop where
  pg : PG X tg (gOf X.K p)
structure DGs (X : Cx) (tgs : List Expr) (ps : List Pat) : Prop where
  pgs : PGs X tgs (gsOf X.K ps)
section
variable {X : Cx} {W0 : WX} {pos : Pos}
theorem dg_name {i : Nat} {x : Str} (hN : X.N.Nodup) (hi : X.N[i]? = some x) (hx : Loc X.env.scope x) (hf : X.fn x = true ∨ X.env.scope.names.lookup x = some .local := by first | exact .inl rfl | exact .inr rfl | assumption) : DG X (.Name x pos) (.nm i) :=
  ⟨by unfold gOf; exact pg_name hN hi hx hf⟩
theorem dgs_nil : DGs X [] [] := ⟨by unfold gsOf; exact pgs_nil⟩
theorem dgs_cons {e : Expr} {es : List Expr} {p : Pat} {ps : List Pat} (h1 : DG X e p) (h2 : DGs X es ps) (hs : (assignEach (e :: es) X.env).map (·.2) = assign e X.env :: (assignEach es X.env).map (·.2) := by rfl) : DGs X (e :: es) (p :: ps) :=
  ⟨by unfold gsOf; exact pgs_cons h1.pg h2.pgs hs⟩
theorem dg_tup {es : List Expr} {k : Nat} {ps : List Pat} (hc : X.calm = true) (h : DGs X es ps) (hn : (assignEach es X.env).length = ps.length := by rfl) (hst : (assignEach es X.env).findIdx? (·.1) = none := by rfl) : DG X (.Tuple es k pos) (.tp ps) :=
  ⟨by unfold gOf; exact pg_tup hc h.pgs hn hst⟩

/-! ### plain statements -/
def dNext : DTS := fun D δ M _ => D.nx δ M
def dSeq (t u : DTS) : DTS := fun D δ M W => t { D with nx := fun δ' M' => u D δ' M' W } δ M W
variable {st : Stmt} {rest : List Stmt} {t u : DTS} {e : Expr} {te : DTE}
theorem dss_nil : DSs X W0 [] dNext := .mk' pss_nil fun D0 σ H δ M D' W a q k w => k.nx σ H δ M (Ext.refl _ _) a q
theorem dss_cons (h1 : DS X W0 st t) (h2 : DSs X W0 rest u) : DSs X W0 (st :: rest) (dSeq t u) :=
  .mk' (pss_cons h1.ps h2.pss) fun D0 σ H δ M D' W a q k w => lfS.use a q ⟨fun σ' H' δ' M' x a' q' => lfS.use a' q' (k.ext x) (w.ext x), k.rt, k.bk, k.ct⟩ w
theorem dss_one (h1 : DS X W0 st t) : DSs X W0 [st] t := ⟨pss_one h1.ps⟩
def dBreak : DTS := fun D δ M _ => D.bk δ M
def dCont : DTS := fun D δ M _ => D.ct δ M
theorem ds_pass : DS X W0 (.Pass pos) dNext := .mk' ps_pass fun D0 σ H δ M D' W a q k w => k.nx σ H δ M (Ext.refl _ _) a q
theorem ds_break : DS X W0 (.Break pos) dBreak := .mk' ps_break fun D0 σ H δ M D' W a q k w => k.bk σ H δ M (Ext.refl _ _) a q
theorem ds_continue : DS X W0 (.Continue pos) dCont := .mk' ps_continue fun D0 σ H δ M D' W a q k w => k.ct σ H δ M (Ext.refl _ _) a q
def dDrop (te : DTE) : DTS := fun D δ M W => te δ M (fun _ M1 => D.nx δ M1) W
theorem ds_expr (he : DE X W0 e te) (hs : swapsWith e none pos.line X.env = pure false := by rfl) : DS X W0 (.Expr e pos) (dDrop te) :=
  .mk' (ps_expr he.pe hs) fun D0 σ H δ M D' W a q k w => lfE.use a q (fun v H1 d M1 x m1 r1 q1 => k.nx σ H1 δ M1 x (a.ext x m1) q1) w
def dRet (te : DTE) : DTS := fun D δ M W => te δ M D.rt W
theorem ds_ret (he : DE X W0 e te) : DS X W0 (.Return (some e) pos) (dRet te) :=
  .mk' (ps_ret he.pe) fun D0 σ H δ M D' W a q k w => lfE.use a q k.rt w
def dRetN : DTS := fun D _ M _ => D.rt .non M
theorem ds_retN : DS X W0 (.Return none pos) dRetN := .mk' ps_retN fun D0 σ H δ M D' W a q k w => k.rt _ H _ M (Ext.refl _ _) a.m .non q
def dIfS (c : DTT) (t u : DTS) : DTS := fun D δ M W => c δ M (fun b M1 => if b = true then t D δ M1 W else u D δ M1 W) W
theorem ds_if {c : Expr} {a b : List Stmt} {tc : DTT} (hc : DT X W0 c tc) (ha : DSs X W0 a t) (hb : DSs X W0 b u) : DS X W0 (.If c a b pos) (dIfS tc t u) :=
  .mk' (ps_if hc.pt ha.pss hb.pss) fun D0 σ H δ M D' W a q k w => lfT.use a q (fun d H1 M1 x m1 q1 => by
    cases d with
    | true => exact lfS.use (a.ext x m1) q1 (k.ext x) (w.ext x)
    | false => exact lfS.use (a.ext x m1) q1 (k.ext x) (w.ext x)) w
/-- name = value -/
def dSet (i : Nat) (te : DTE) : DTS := fun D δ M W => te δ M (fun d M1 => D.nx (δ.set i (some d)) M1) W
theorem ds_set {i : Nat} {x : Str} {pos' : Pos} (hN : X.N.Nodup) (hi : X.N[i]? = some x) (hx : Loc X.env.scope x) (he : DE X W0 e te) (hs : swapsWith e (some (.Name x pos')) pos.line X.env = pure false := by rfl) (hf : X.fn x = true ∨ X.env.scope.names.lookup x = some .local := by first | exact .inl rfl | exact .inr rfl | assumption) :
    DS X W0 (.Assign [.Name x pos'] e pos) (dSet i te) :=
  .mk' (ps_set hN hi hx he.pe hs hf) fun D0 σ H δ M D' W a q k w => lfE.use a q (fun v H1 d M1 x m1 r1 q1 => k.nx _ H1 _ M1 x ⟨(a.s.ext x).set i r1, m1⟩ q1) w
/-- names = value, a tuple -/
def dUnp (p : Pat) (te : DTE) : DTS := fun D δ M W => te δ M (fun d M1 => match putP p d δ with
  | some δ' => D.nx δ' M1
  | none => False) W
theorem ds_unp {tg : Expr} {p : Pat} (he : DE X W0 e te) (hg : DG X tg p) (hs : swapsWithSole [tg] e pos.line X.env = pure false := by rfl) (hw : swappedStores [tg] e X.env = pure none := by rfl) (h1 : (assignEach [tg] X.env).map (·.2) = [assign tg X.env] := by rfl) :
    DS X W0 (.Assign [tg] e pos) (dUnp p te) :=
  .mk' (ps_asg he.pe hg.pg hs hw h1) fun D0 σ H δ M D' W a q k w => lfE.use a q (fun v H1 d M1 x m1 r1 q1 => by
    split at q1
    · rename_i δ' e'
      exact gOf_ok m1 p e' (a.s.ext x) r1 fun σ' s' _ _ => k.nx σ' H1 δ' M1 x ⟨s', m1⟩ q1
    · exact q1.elim) w
/-- a, b = x, y -/
def dPar (i j : Nat) (ta : DTA) : DTS := fun D δ M W => ta δ M (fun ds M1 => match ds with
  | [d, e] => D.nx ((δ.set i (some d)).set j (some e)) M1
  | _ => False) W
theorem ds_par {i j : Nat} {x y : Str} {a b : Expr} {ta : DTA} {px py pt : Pos} {kt k2 pt2} (hc : X.calm = true) (hN : X.N.Nodup) (hi : X.N[i]? = some x) (hj : X.N[j]? = some y) (hij : i ≠ j)
    (hx : X.env.scope.names.lookup x = some .local) (hy : X.env.scope.names.lookup y = some .local) (ha : DA X W0 [a, b] ta)
    (hw : swappedStores [.Tuple [.Name x px, .Name y py] kt pt] (.Tuple [a, b] k2 pt2) X.env = pure (some [x, y]))
    (hs : swapsWithSole [.Tuple [.Name x px, .Name y py] kt pt] (.Tuple [a, b] k2 pt2) pos.line X.env = pure false := by rfl) :
    DS X W0 (.Assign [.Tuple [.Name x px, .Name y py] kt pt] (.Tuple [a, b] k2 pt2) pos) (dPar i j ta) :=
  .mk' (ps_par hc hN hi hj hij hx hy ha.pa hw hs) fun D0 σ H δ M D' W a q k w => lfA.use a q (fun vs H1 ds M1 x m1 r1 q1 => by
    split at q1
    · cases r1 with
      | cons ra t =>
        cases t with
        | cons rb t =>
          cases t
          exact ⟨_, _, rfl, k.nx _ H1 _ M1 x ⟨((a.s.ext x).set _ ra).set _ rb, m1⟩ q1⟩
    · exact q1.elim) w
/-- a, b, c = x, y, z -/
def dPar3 (i j l : Nat) (ta : DTA) : DTS := fun D δ M W => ta δ M (fun ds M1 => match ds with
  | [d, e, f] => D.nx (((δ.set i (some d)).set j (some e)).set l (some f)) M1
  | _ => False) W
theorem ds_par3 {i j l : Nat} {x y z : Str} {a b c : Expr} {ta : DTA} {px py pz pt : Pos} {kt k2 pt2} (hc : X.calm = true) (hN : X.N.Nodup) (hi : X.N[i]? = some x) (hj : X.N[j]? = some y) (hl : X.N[l]? = some z) (hij : i ≠ j) (hil : i ≠ l) (hjl : j ≠ l)
    (hx : X.env.scope.names.lookup x = some .local) (hy : X.env.scope.names.lookup y = some .local) (hz : X.env.scope.names.lookup z = some .local) (ha : DA X W0 [a, b, c] ta)
    (hw : swappedStores [.Tuple [.Name x px, .Name y py, .Name z pz] kt pt] (.Tuple [a, b, c] k2 pt2) X.env = pure (some [x, y, z]))
    (hs : swapsWithSole [.Tuple [.Name x px, .Name y py, .Name z pz] kt pt] (.Tuple [a, b, c] k2 pt2) pos.line X.env = pure false := by rfl) :
    DS X W0 (.Assign [.Tuple [.Name x px, .Name y py, .Name z pz] kt pt] (.Tuple [a, b, c] k2 pt2) pos) (dPar3 i j l ta) :=
  .mk' (ps_par3 hc hN hi hj hl hij hil hjl hx hy hz ha.pa hw hs) fun D0 σ H δ M D' W a q k w => lfA.use a q (fun vs H1 ds M1 x m1 r1 q1 => by
    split at q1
    · cases r1 with
      | cons ra t =>
        cases t with
        | cons rb t =>
          cases t with
          | cons rc t =>
            cases t
            exact ⟨_, _, _, rfl, k.nx _ H1 _ M1 x ⟨(((a.s.ext x).set _ ra).set _ rb).set _ rc, m1⟩ q1⟩
    · exact q1.elim) w
/-- name op= e -/
def dAug (i : Nat) (te : DTE) (r : DR2) : DTS := fun D δ M W => match δ[i]? with
  | some (some x) => te δ M (fun y M1 => r x y M1 fun z M2 => D.nx (δ.set i (some z)) M2) W
  | _ => False
theorem pip_of {op : Operator} {r : R2} (ho : OpR X (inplaceOp op) r) : PIp X op r := fun pins s σ H x y v u Q I r1 r2 h => ho pins s σ H x y v u Q I r1 r2 h
theorem ds_aug {i : Nat} {x : Str} {op : Operator} {r : DR2} {pos' : Pos} (hN : X.N.Nodup) (hi : X.N[i]? = some x) (hx : Loc X.env.scope x) (he : DE X W0 e te) (ho : DOpR X (inplaceOp op) r) (hf : X.fn x = true ∨ X.env.scope.names.lookup x = some .local := by first | exact .inl rfl | exact .inr rfl | assumption) :
    DS X W0 (.AugAssign (.Name x pos') op e pos) (dAug i te r) := by
  obtain ⟨r0, ho, l⟩ := ho
  refine .mk' (ps_aug hN hi hx he.pe (pip_of ho) hf) fun D0 σ H δ M D' W a q k w => ?_
  unfold dAug at q
  split at q
  · rename_i d ed
    obtain ⟨v, ev, rv⟩ := a.s.at_ i d ed
    exact ⟨v, ev, lfE.use a q (fun v1 H1 d1 M1 x1 m1 r1 q1 => l H1 M1 v v1 d d1 _ _ m1 (rv.ext x1) r1 q1 (fun v2 H2 d2 M2 x2 m2 r2 q2 => k.nx _ H2 _ M2 (x1.trans x2) ⟨(a.s.ext (x1.trans x2)).set i r2, m2⟩ q2)) w⟩
  · exact q.elim
/-- xs[i] = e, xs a list that changes -/
def dStI (to ti te : DTE) : DTS := fun D δ M W => te δ M (fun y M1 => to δ M1 (fun x M2 => ti δ M2 (fun i M3 => match x, i with
  | .ref p, .int k => ∃ ds j, M3 p = some (.lst ds) ∧ ixN ds.length k = some j ∧ D.nx δ (updD M3 p (.lst (ds.set j y)))
  | _, _ => False) W) W) W
theorem ds_stI {o i : Expr} {to ti : DTE} {tpos : Pos} (ho : DE X W0 o to) (hi : DE X W0 i ti) (he : DE X W0 e te)
    (hs : swapsWithSole [.Subscript o i tpos] e pos.line X.env = pure false := by rfl) (hw : swappedStores [.Subscript o i tpos] e X.env = pure none := by rfl) (h1 : (assignEach [.Subscript o i tpos] X.env).map (·.2) = [assign (.Subscript o i tpos) X.env] := by rfl)
    (ha : ∀ v, assign (.Subscript o i tpos) X.env v = (do
      let ov ← holding [v] (eval o X.env)
      let iv ← holding [v, ov] (eval i X.env)
      standAt tpos
      holding [v, ov, iv] (setItem ov iv v)
      release [v, ov, iv] []) := by intro _; rfl) : DS X W0 (.Assign [.Subscript o i tpos] e pos) (dStI to ti te) := by
  refine .mk' (ps_asg he.pe (pg_sub ho.pe hi.pe set_list ha) hs hw h1) fun D0 σ H δ M D' W a q k w => ?_
  refine lfE.use a q (fun v H1 d M1 x1 m1 r1 q1 => ?_) w
  refine lfE.use (a.ext x1 m1) q1 (fun v2 H2 d2 M2 x2 m2 r2 q2 => ?_) (w.ext x1)
  refine lfE.use (a.ext (x1.trans x2) m2) q2 (fun v3 H3 d3 M3 x3 m3 r3 q3 => ?_) (w.ext (x1.trans x2))
  split at q3
  · obtain ⟨ds, j, hp, hj, q3⟩ := q3
    rw [(r2.ext x3).refI, r3.intI]
    obtain ⟨vs, hv, l⟩ := m3.lst hp
    refine ⟨_, vs, _, j, rfl, rfl, hv, by rw [l.length]; exact hj, ?_⟩
    have y := Ext.write (H := H3) (o := .lst (vs.set j v)) hp (mo' := .lst (ds.set j d))
    exact k.nx _ _ _ _ (((x1.trans x2).trans x3).trans y) ⟨a.s.ext (((x1.trans x2).trans x3).trans y), m3.write hp (q := ⟨_, upd_same, (l.set j (r1.ext (x2.trans x3))).ext y⟩)⟩ q3
  · exact q3.elim
/-- xs[i] op= e, xs a list that changes -/
def dAugI (to ti te : DTE) (r : DR2) : DTS := fun D δ M W => to δ M (fun x M1 => ti δ M1 (fun i M2 => match x, i with
  | .ref p, .int k => ∃ ds j d, M2 p = some (.lst ds) ∧ ixN ds.length k = some j ∧ ds[j]? = some d ∧ te δ M2 (fun y M3 => r d y M3 fun z M4 => ∃ ds', M4 p = some (.lst ds') ∧ ds'.length = ds.length ∧ D.nx δ (updD M4 p (.lst (ds'.set j z)))) W
  | _, _ => False) W) W
theorem pget_list : PGet X (rIxL X.K) := by
  intro pins s σ H o i ov iv Q I ro ri h
  obtain ⟨p, xs, k, v, rfl, rfl, hq, he, q⟩ := h
  cases ro
  obtain ⟨t, rfl⟩ := ri
  obtain ⟨its, r, pl, hz⟩ := I.list hq
  obtain ⟨j, h1, h2, h3, h4, h5⟩ := atI_get he
  obtain ⟨w', ew, rw'⟩ := r.get h2
  have hl := r.length
  have hb : (sizeLine : Nat) < 2 ^ 63 := line63
  have fin : EP X pins σ Q w' s := ⟨v, H, I, rw', q⟩
  by_cases h0 : 0 ≤ k
  · have hj : k.toNat = j := by
      rw [seqIndex_of h0 h5] at h1
      exact Option.some.inj h1
    exact wpAny_getItem_list pl.isList h0 (by omega) (by rw [hj]; simpa using ew) fin
  · have hj : (k + (its.toArray.size : Int)).toNat = j := by
      rw [seqIndex_neg (by omega) h4] at h1
      rw [List.size_toArray, ← hl]
      exact Option.some.inj h1
    exact wpAny_getItem_list_neg pl.isList (by omega) (by rw [List.size_toArray] <;> omega) (by omega) (by rw [hj]; simpa using ew) fin
theorem ds_augI {o i : Expr} {to ti : DTE} {op : Operator} {r : DR2} {tpos : Pos} (ho : DE X W0 o to) (hi : DE X W0 i ti) (he : DE X W0 e te) (hp : DOpR X (inplaceOp op) r)
    (ha : ∀ ov iv new, augStore i ov iv new = (do holding [new, ov, iv] (setItem ov iv new); release [new, ov, iv] []; pure .next) := by intros; rfl) : DS X W0 (.AugAssign (.Subscript o i tpos) op e pos) (dAugI to ti te r) := by
  obtain ⟨r0, hp, l⟩ := hp
  refine .mk' (ps_augS ho.pe hi.pe pget_list he.pe (pip_of hp) set_list ha) fun D0 σ H δ M D' W a q k w => ?_
  refine lfE.use a q (fun v1 H1 d1 M1 x1 m1 r1 q1 => ?_) w
  refine lfE.use (a.ext x1 m1) q1 (fun v2 H2 d2 M2 x2 m2 r2 q2 => ?_) (w.ext x1)
  split at q2
  · rename_i p kk
    obtain ⟨ds, j, d, hp, hj, hd, q2⟩ := q2
    have e1 := (r1.ext x2).refI
    have e2 := r2.intI
    subst e1 e2
    obtain ⟨vs, hv, lv⟩ := m2.lst hp
    obtain ⟨z, hz, rz⟩ := lv.get hd
    refine ⟨p, vs, kk, z, rfl, rfl, SqL.of hv, by unfold L2.atI; rw [lv.length, hj]; exact hz, ?_⟩
    refine lfE.use (a.ext (x1.trans x2) m2) q2 (fun v3 H3 d3 M3 x3 m3 r3 q3 => ?_) (w.ext (x1.trans x2))
    refine l H3 M3 z v3 d d3 _ _ m3 (rz.ext x3) r3 q3 (fun v4 H4 d4 M4 x4 m4 r4 q4 => ?_)
    obtain ⟨ds', hp', hl', q4⟩ := q4
    obtain ⟨ws, hw, lw⟩ := m4.lst hp'
    refine ⟨p, ws, kk, j, rfl, rfl, hw, by rw [lw.length, hl']; exact hj, ?_⟩
    have y := Ext.write (H := H4) (o := .lst (ws.set j v4)) hp' (mo' := .lst (ds'.set j d4))
    have xx := ((x1.trans x2).trans (x3.trans x4)).trans y
    exact k.nx _ _ _ _ xx ⟨a.s.ext xx, m4.write hp' (q := ⟨_, upd_same, (lw.set j r4).ext y⟩)⟩ q4
  · exact q2.elim

/-! ### while -/
/-- the invariant by its measure -/
def dWhile (c : DTT) (tb : DTS) : DTS := fun D δ M W => ∃ Iv : Nat → DSt → DHp → Prop, (∃ m, Iv m δ M) ∧ ∀ m δ M, Iv m δ M →
  c δ M (fun b M1 => if b = true then tb { D with nx := fun δ' M' => ∃ m', m' < m ∧ Iv m' δ' M', ct := fun δ' M' => ∃ m', m' < m ∧ Iv m' δ' M', bk := D.nx } δ M1 W else D.nx δ M1) W
theorem ds_while {c : Expr} {body : List Stmt} {tc : DTT} {tb : DTS} (hp : PassesOwn (model X.prog X.w) X.A X.env X.xe) (hc : DT X W0 c tc) (hb : DSs X W0 body tb) : DS X W0 (.While c body [] pos) (dWhile tc tb) := by
  refine .mk' (ps_while hp hc.pt hb.pss) fun D0 σ H δ M D' W a q k w => ?_
  obtain ⟨Iv, ⟨m0, i0⟩, turn⟩ := q
  refine ⟨fun m σ' H' => ∃ δ' M', Ext M H M' H' ∧ At X.K σ' H' δ' M' ∧ Iv m δ' M', ⟨m0, δ, M, Ext.refl _ _, a, i0⟩, ?_⟩
  rintro m σ1 H1 ⟨δ1, M1, x1, a1, i1⟩
  refine lfT.use a1 (turn m δ1 M1 i1) (fun b H2 M2 x2 m2 q2 => ?_) (w.ext x1)
  cases b with
  | false => exact k.nx σ1 H2 δ1 M2 (x1.trans x2) (a1.ext x2 m2) q2
  | true =>
    refine ⟨fun σ' H' => ∃ m', m' < m ∧ ∃ δ' M', Ext M H M' H' ∧ At X.K σ' H' δ' M' ∧ Iv m' δ' M', fun σ' H' ⟨m', h1, h2⟩ => ⟨m', h1, h2⟩, ?_⟩
    refine lfS.use (a1.ext x2 m2) q2 ⟨?_, k.rt.ext (x1.trans x2), k.nx.ext (x1.trans x2), ?_⟩ (w.ext (x1.trans x2))
    · exact fun σ3 H3 δ3 M3 x3 a3 ⟨m', h1, h2⟩ => ⟨m', h1, δ3, M3, (x1.trans x2).trans x3, a3, h2⟩
    · exact fun σ3 H3 δ3 M3 x3 a3 ⟨m', h1, h2⟩ => ⟨m', h1, δ3, M3, (x1.trans x2).trans x3, a3, h2⟩

/-! ### what is walked -/
/-- an iterator yields these data, as long as chk holds -/
def Wlk (K : PySem.W.Frag) (J : It) (H1 : Hp) (M1 : DHp) (ds : List D) (chk : DHp → Prop) : Prop := ∀ H M, ExtW M1 H1 M H → RepM K H M → chk M →
  (∀ i d, ds[i]? = some d → J.go i H ∧ ∀ x H', J.yld i H x H' → Ext M H M H' ∧ RepM K H' M ∧ Rep K H' M x d) ∧ J.stop ds.length H
abbrev DTI := DSt → DHp → (List D → (DHp → Prop) → DHp → Prop) → DW → Prop
def lfI (K : PySem.W.Frag) (W0 : WX) (t : DTI) : TI := fun σ H R0 => ∃ δ M R W, At K σ H δ M ∧ t δ M R W ∧ (∀ J H' ds chk M', Ext M H M' H' → RepM K H' M' → Wlk K J H' M' ds chk → R ds chk M' → R0 J H') ∧ OkW K M H W W0
structure DI (X : Cx) (W0 : WX) (tg iter : Expr) (t : DTI) : Prop where
  pi : PI X tg iter (lfI X.K W0 t)
theorem PI.imp {X : Cx} {tg iter : Expr} {t t' : TI} (h : PI X tg iter t) (f : ∀ σ H R, t' σ H R → t σ H R) : PI X tg iter t' := ⟨fun pins s σ H R I q => h.run pins s σ H R I (f σ H R q)⟩
theorem DI.mk' {tg iter : Expr} {t : DTI} {t0 : TI} (h : PI X tg iter t0) (f : ∀ σ H R0 δ M R W, At X.K σ H δ M → t δ M R W → (∀ J H' ds chk M', Ext M H M' H' → RepM X.K H' M' → Wlk X.K J H' M' ds chk → R ds chk M' → R0 J H') → OkW X.K M H W W0 → t0 σ H R0) : DI X W0 tg iter t :=
  ⟨PI.imp h fun σ H R0 ⟨δ, M, R, W, a, q, k, w⟩ => f σ H R0 δ M R W a q k w⟩

/-! ### for -/
def dForL (p : Pat) (tb : DTS) (Z : DEnds) (W : DW) (chk : DHp → Prop) : List D → DSt → DHp → Prop
  | [], δ, M => chk M ∧ Z.nx δ M
  | d :: r, δ, M => chk M ∧ ∃ δ', putP p d δ = some δ' ∧ tb { nx := fun δ2 M2 => dForL p tb Z W chk r δ2 M2, ct := fun δ2 M2 => dForL p tb Z W chk r δ2 M2, bk := Z.nx, rt := Z.rt } δ' M W
def dFor (ti : DTI) (p : Pat) (tb : DTS) : DTS := fun D δ M W => ti δ M (fun ds chk M1 => dForL p tb D W chk ds δ M1) W
theorem drop_at {α : Type} {l r : List α} {d : α} {i : Nat} (h : l.drop i = d :: r) : l[i]? = some d ∧ l.drop (i + 1) = r ∧ i < l.length := by
  have hi : i < l.length := by
    by_cases hi : i < l.length
    · exact hi
    · rw [List.drop_of_length_le (by omega)] at h; cases h
  rw [List.drop_eq_getElem_cons hi] at h
  have h1 := (List.cons.inj h).1
  have h2 := (List.cons.inj h).2
  exact ⟨by rw [List.getElem?_eq_getElem hi, h1], h2, hi⟩
theorem ds_for {tg iter : Expr} {body : List Stmt} {ti : DTI} {p : Pat} {tb : DTS} (hp : PassesOwn (model X.prog X.w) X.A X.env X.xe) (hc : X.calm = true) (hi : DI X W0 tg iter ti) (hg : DG X tg p) (hb : DSs X W0 body tb)
    (hs : ∀ x, foldedSetIterable iter X.env x = pure x := by intro _; rfl) : DS X W0 (.For tg iter body [] pos) (dFor ti p tb) := by
  refine .mk' (ps_for hp hc hi.pi hg.pg hb.pss hs) fun D0 σ H δ M D' W a q k w => ?_
  refine ⟨δ, M, _, W, a, q, fun J H1 ds chk M1 x1 m1 wk q1 => ?_, w⟩
  refine ⟨fun i n σ' H' => ∃ δ' M', n + i = ds.length ∧ Ext M1 H1 M' H' ∧ At X.K σ' H' δ' M' ∧ dForL p tb D' W chk (ds.drop i) δ' M', ⟨ds.length, δ, M1, rfl, Ext.refl _ _, a.ext x1 m1, q1⟩, ?_⟩
  rintro i n σ2 H2 ⟨δ2, M2, hn, x2, a2, q2⟩
  cases e : ds.drop i with
  | nil =>
    have hi : i = ds.length := by
      have := List.drop_eq_nil_iff.mp e
      omega
    rw [e] at q2
    obtain ⟨c2, q2⟩ := q2
    subst hi
    exact .inl ⟨(wk H2 M2 x2.w a2.m c2).2, k.nx σ2 H2 δ2 M2 (x1.trans x2) a2 q2⟩
  | cons d r =>
    obtain ⟨ed, er, hlt⟩ := drop_at e
    rw [e] at q2
    obtain ⟨c2, δ', ep, q2⟩ := q2
    obtain ⟨go, yl⟩ := (wk H2 M2 x2.w a2.m c2).1 i d ed
    refine .inr ⟨go, fun σ' H' => ∃ δ' M', Ext M1 H1 M' H' ∧ At X.K σ' H' δ' M' ∧ dForL p tb D' W chk r δ' M', fun σ' H' ⟨δ', M', h1, h2, h3⟩ => ⟨n - 1, by omega, δ', M', by omega, h1, h2, by rw [er]; exact h3⟩, fun v H3 hy => ?_⟩
    obtain ⟨x3, m3, r3⟩ := yl v H3 hy
    refine gOf_ok m3 p ep (a2.s.ext x3) r3 fun σ' s' _ _ => ?_
    have xx := x2.trans x3
    exact lfS.use ⟨s', m3⟩ q2 ⟨fun σ4 H4 δ4 M4 x4 a4 q4 => ⟨δ4, M4, xx.trans x4, a4, q4⟩, k.rt.ext (x1.trans xx), k.nx.ext (x1.trans xx), fun σ4 H4 δ4 M4 x4 a4 q4 => ⟨δ4, M4, xx.trans x4, a4, q4⟩⟩ (w.ext (x1.trans xx))

/-! ### [elt for target in iter if test] -/
def wipeD (δ : DSt) : List Nat → DSt
  | [] => δ
  | v :: vs => (wipeD δ vs).set v none
theorem wipeD_length (δ : DSt) : ∀ vs : List Nat, (wipeD δ vs).length = δ.length
  | [] => rfl
  | v :: vs => by unfold wipeD; rw [List.length_set, wipeD_length δ vs]
theorem RepS.wipe {K : PySem.W.Frag} {H : Hp} {M : DHp} {σ : St} {δ : DSt} (r : RepS K H M σ δ) : ∀ vs : List Nat, RepS K H M (L2.wipe σ vs) (wipeD δ vs)
  | [] => r
  | v :: vs => by
    have ih := r.wipe vs
    refine ⟨by rw [wipe_length, wipeD_length]; exact r.len, fun i d e => ?_⟩
    unfold wipeD at e
    by_cases hv : v = i
    · subst hv
      by_cases hlt : v < (wipeD δ vs).length
      · rw [List.getElem?_set_self hlt] at e; cases e
      · rw [List.getElem?_eq_none (by simpa using hlt)] at e; cases e
    · rw [List.getElem?_set_ne hv] at e
      obtain ⟨u, h1, h2⟩ := ih.at_ i d e
      refine ⟨u, ?_, h2⟩
      unfold L2.wipe
      rw [List.getElem?_set_ne hv]
      exact h1
theorem wipe_agree {σ σ' : St} : ∀ {vs : List Nat}, σ'.length = σ.length → (∀ j, j ∉ vs → σ'[j]? = σ[j]?) → wipe σ' vs = wipe σ vs := by
  intro vs hl h
  apply List.ext_getElem?
  intro j
  by_cases hj : j ∈ vs
  · have aux : ∀ (τ : St) (ws : List Nat), j ∈ ws → (wipe τ ws)[j]? = if j < τ.length then some none else none := by
      intro τ ws
      induction ws with
      | nil => intro h; cases h
      | cons v ws ih =>
        intro h
        unfold wipe
        by_cases hv : v = j
        · subst hv
          by_cases hlt : v < τ.length
          · rw [List.getElem?_set_self (by rw [wipe_length]; exact hlt), if_pos hlt]
          · rw [List.getElem?_eq_none (by rw [List.length_set, wipe_length]; omega), if_neg hlt]
        · rw [List.getElem?_set_ne hv]
          exact ih ((List.mem_cons.mp h).resolve_left (Ne.symm hv))
    rw [aux σ' vs hj, aux σ vs hj, hl]
  · rw [wipe_out hj, wipe_out hj]
    exact h j hj
section
variable {K : PySem.W.Frag} {M M' : DHp} {H : Hp} {A : Addr} {o : HO}
theorem FzT.grow (h : M A ≠ none) {a : Addr} {xs : List V} (f : FzT K H M a xs) : FzT K (upd H A o) M a xs := by
  rcases f with ⟨f, n⟩ | f
  · have ne : a ≠ A := fun z => by rw [z] at n; exact h n
    refine .inl ⟨?_, n⟩
    rcases f with f | ⟨u, f⟩
    · exact .inl (by rw [upd_ne ne]; exact f)
    · exact .inr ⟨u, by rw [upd_ne ne]; exact f⟩
  · exact .inr f
theorem FzL.grow (h : M A ≠ none) {a : Addr} {xs : List V} (f : FzL K H M a xs) : FzL K (upd H A o) M a xs := by
  rcases f with ⟨f, n⟩ | f
  · have ne : a ≠ A := fun z => by rw [z] at n; exact h n
    refine .inl ⟨?_, n⟩
    rcases f with f | ⟨u, f⟩
    · exact .inl (by rw [upd_ne ne]; exact f)
    · exact .inr ⟨u, by rw [upd_ne ne]; exact f⟩
  · exact .inr f
mutual
theorem Rep.grow0 (h : M A ≠ none) : ∀ {v : V} {d : D}, Rep K H M v d → Rep K (upd H A o) M v d
  | _, _, .non => .non
  | _, _, .bl b => .bl b
  | _, _, .int i => .int i
  | _, _, .str y => .str y
  | _, _, .ref a => .ref a
  | _, _, .tup f r => .tup (f.grow h) (RepL.grow0 h r)
  | _, _, .lst (a := a) f n r => .lst (by rw [upd_ne (fun z => by rw [z] at n; exact h n)]; exact f) n (RepL.grow0 h r)
  | _, _, .rol f r => .rol (f.grow h) (RepL.grow0 h r)
  | _, _, .xtp f e n r => .xtp (by rw [upd_ne (fun z => by rw [z] at n; exact h n)]; exact f) e n (RepL.grow0 h r)
  | _, _, .lam f n r => .lam (by rw [upd_ne (fun z => by rw [z] at n; exact h n)]; exact f) n (RepL.grow0 h r)
  | _, _, .exc0 a => .exc0 a
  | _, _, .exc1 (d := d) f n r => .exc1 (by rw [upd_ne (fun z => by rw [z] at n; exact h n)]; exact f) n (RepL.grow0 h r)
theorem RepL.grow0 (h : M A ≠ none) : ∀ {vs : List V} {ds : List D}, RepL K H M vs ds → RepL K (upd H A o) M vs ds
  | _, _, .nil => .nil
  | _, _, .cons r t => .cons (Rep.grow0 h r) (RepL.grow0 h t)
end
theorem RepF.grow0 (h : M A ≠ none) : ∀ {fs : List (Str × V)} {gs : List (Str × D)}, RepF K H M fs gs → RepF K (upd H A o) M fs gs
  | _, _, .nil => .nil
  | _, _, .cons r t => .cons ⟨r.1, r.2.grow0 h⟩ (RepF.grow0 h t)
theorem RepK.grow0 {κ : Type} (h : M A ≠ none) : ∀ {fs : List (κ × V)} {gs : List (κ × D)}, RepK K H M fs gs → RepK K (upd H A o) M fs gs
  | _, _, .nil => .nil
  | _, _, .cons r t => .cons ⟨r.1, r.2.grow0 h⟩ (RepK.grow0 h t)
theorem Rep.grow {mo : MO} (h : M A = some mo) {v : V} {d : D} (r : Rep K H M v d) : Rep K (upd H A o) M v d := r.grow0 (by rw [h]; exact fun z => nomatch z)
theorem RepL.grow {mo : MO} (h : M A = some mo) {v : List V} {d : List D} (r : RepL K H M v d) : RepL K (upd H A o) M v d := r.grow0 (by rw [h]; exact fun z => nomatch z)
theorem RepO.grow {mo mo' : MO} (h : M A = some mo) {b : Addr} (r : RepO K H M b mo') (e : (upd H A o) b = H b) : RepO K (upd H A o) M b mo' := by
  cases mo' with
  | lst ds => obtain ⟨xs, h', l⟩ := r; exact ⟨xs, e.trans h', l.grow h⟩
  | ins C gs => obtain ⟨dx, fs, h', l⟩ := r; exact ⟨dx, fs, e.trans h', l.grow0 (by rw [h]; exact fun z => nomatch z)⟩
  | tbl q' =>
    obtain ⟨ps, h', t, l⟩ := r
    refine ⟨ps, e.trans h', t, fun pos cv hc => ?_⟩
    obtain ⟨c, e1, e2, e3⟩ := l pos cv hc
    exact ⟨c, e1, by rw [upd_ne (fun z => by rw [z, h] at e3; cases e3)]; exact e2, e3⟩
  | busy => obtain ⟨o', h', z⟩ := r; exact ⟨o', e.trans h', z⟩
  | dK kvs => obtain ⟨xs, h', l⟩ := r; exact ⟨xs, e.trans h', l.grow0 (by rw [h]; exact fun z => nomatch z)⟩
  | dT kvs => obtain ⟨xs, h', l⟩ := r; exact ⟨xs, e.trans h', l.grow0 (by rw [h]; exact fun z => nomatch z)⟩
mutual
theorem Rep.less (z : ∀ b, M b = none → M' b = none) : ∀ {v : V} {d : D}, Rep K H M v d → Rep K H M' v d
  | _, _, .non => .non
  | _, _, .bl b => .bl b
  | _, _, .int i => .int i
  | _, _, .str y => .str y
  | _, _, .ref a => .ref a
  | _, _, .tup f r => .tup (f.imp (fun ⟨f, n⟩ => ⟨f, z _ n⟩) id) (RepL.less z r)
  | _, _, .lst f n r => .lst f (z _ n) (RepL.less z r)
  | _, _, .rol f r => .rol (f.imp (fun ⟨f, n⟩ => ⟨f, z _ n⟩) id) (RepL.less z r)
  | _, _, .xtp f e n r => .xtp f e (z _ n) (RepL.less z r)
  | _, _, .lam f n r => .lam f (z _ n) (RepL.less z r)
  | _, _, .exc0 a => .exc0 a
  | _, _, .exc1 f n r => .exc1 f (z _ n) (RepL.less z r)
theorem RepL.less (z : ∀ b, M b = none → M' b = none) : ∀ {vs : List V} {ds : List D}, RepL K H M vs ds → RepL K H M' vs ds
  | _, _, .nil => .nil
  | _, _, .cons r t => .cons (Rep.less z r) (RepL.less z t)
end
theorem RepF.less (z : ∀ b, M b = none → M' b = none) : ∀ {fs : List (Str × V)} {gs : List (Str × D)}, RepF K H M fs gs → RepF K H M' fs gs
  | _, _, .nil => .nil
  | _, _, .cons r t => .cons ⟨r.1, r.2.less z⟩ (RepF.less z t)
theorem RepK.less {κ : Type} (z : ∀ b, M b = none → M' b = none) : ∀ {fs : List (κ × V)} {gs : List (κ × D)}, RepK K H M fs gs → RepK K H M' fs gs
  | _, _, .nil => .nil
  | _, _, .cons r t => .cons ⟨r.1, r.2.less z⟩ (RepK.less z t)
theorem RepO.less {mo : MO} (z : ∀ b, M b = none → M' b = none) {b : Addr} (r : RepO K H M b mo) : RepO K H M' b mo := by
  cases mo with
  | lst ds => obtain ⟨xs, h', l⟩ := r; exact ⟨xs, h', l.less z⟩
  | ins C gs => obtain ⟨dx, fs, h', l⟩ := r; exact ⟨dx, fs, h', l.less z⟩
  | tbl q' =>
    obtain ⟨ps, h', t, l⟩ := r
    refine ⟨ps, h', t, fun pos cv hc => ?_⟩
    obtain ⟨c, e1, e2, e3⟩ := l pos cv hc
    exact ⟨c, e1, e2, z _ e3⟩
  | busy => exact r
  | dK kvs => obtain ⟨xs, h', l⟩ := r; exact ⟨xs, h', l.less z⟩
  | dT kvs => obtain ⟨xs, h', l⟩ := r; exact ⟨xs, h', l.less z⟩
end
abbrev WN : DW := fun _ _ _ _ => False
def dLcT (p : Pat) (tt : DTT) (te : DTE) (δ0 : DSt) (k : Option D → DHp → Prop) (d : D) (M : DHp) : Prop := ∃ δ', putP p d δ0 = some δ' ∧ tt δ' M (fun b M1 => if b = true then te δ' M1 (fun y M2 => k (some y) M2) WN else k none M1) WN
def addO (acc : List D) : Option D → List D
  | some y => acc ++ [y]
  | none => acc
def dLcL (p : Pat) (tt : DTT) (te : DTE) (δ0 : DSt) (Q : List D → DHp → Prop) (chk : DHp → Prop) : List D → List D → DHp → Prop
  | [], acc, M => chk M ∧ Q acc M
  | d :: r, acc, M => chk M ∧ acc.length < sizeLine ∧ dLcT p tt te δ0 (fun o M' => dLcL p tt te δ0 Q chk r (addO acc o) M') d M
def dLc (ti : DTI) (p : Pat) (tt : DTT) (te : DTE) (vs : List Nat) : DTE := fun δ M Q W => ti δ M (fun ds chk M1 => ∀ A, M1 A = none → dLcL p tt te (wipeD δ vs) (fun acc M2 => Q (.lst acc) (delD M2 A)) chk ds [] (updD M1 A .busy)) W
/-- .. whose list may change later -/
def dLcM (ti : DTI) (p : Pat) (tt : DTT) (te : DTE) (vs : List Nat) : DTE := fun δ M Q W => ti δ M (fun ds chk M1 => ∀ A, M1 A = none → dLcL p tt te (wipeD δ vs) (fun acc M2 => Q (.ref A) (updD M2 A (.lst acc))) chk ds [] (updD M1 A .busy)) W
def dYes : DTT := fun _ M Q _ => Q true M
structure DTs (X : Cx) (W0 : WX) (ifs : List Expr) (t : DTT) : Prop where
  pts : PTs X ifs (lfT X.K W0 t)
theorem PTs.imp {X : Cx} {e : List Expr} {t t' : TT} (h : PTs X e t) (f : ∀ σ H Q, t' σ H Q → t σ H Q) : PTs X e t' := ⟨fun pins s σ H Q I q => h.run pins s σ H Q I (f σ H Q q)⟩
theorem dts_nil : DTs X W0 [] dYes := ⟨PTs.imp pts_nil fun σ H Q0 ⟨δ, M, Q, W, a, q, k, w⟩ => k true H M (Ext.refl _ _) a.m q⟩
theorem dts_one {c : Expr} {t : DTT} (h : DT X W0 c t) : DTs X W0 [c] t := ⟨pts_one h.pt⟩
theorem lc_run {K : PySem.W.Frag} {ti : DTI} {p : Pat} {tt : DTT} {te : DTE} {vs : List Nat} {W0 : WX} (hsl : ∀ j, j ∈ slotsP p → j ∈ vs) {σ : St} {H : Hp} {Q0 : VK} {δ : DSt} {M : DHp} {W : DW} {Qe : Addr → List D → DHp → Prop} (a : At K σ H δ M)
    (q : ti δ M (fun ds chk M1 => ∀ A, M1 A = none → dLcL p tt te (wipeD δ vs) (Qe A) chk ds [] (updD M1 A .busy)) W)
    (k : ∀ A H' M' acc ws, Ext M H M' H' → (∀ b, M b = some .busy → b ≠ A) → RepM K H' M' → H' A = some (.lst ws) → M' A = some .busy → RepL K H' M' ws acc → Qe A acc M' → Q0 (.ref A) H') (w : OkW K M H W W0) :
    tLc (lfI K W0 ti) (gOf K p) (lfT K WF tt) (lfE K WF te) vs σ H Q0 := by
  refine ⟨δ, M, _, W, a, q, fun J H1 ds chk M1 x1 m1 wk q1 => ?_, w⟩
  intro A hA
  have nA := m1.fresh hA
  have yA : Ext M1 H1 (updD M1 A .busy) (upd H1 A (.lst [])) := Ext.laidM m1 hA
  have mA : RepM K (upd H1 A (.lst [])) (updD M1 A .busy) := m1.laidM hA ⟨_, upd_same, plain_lst⟩
  have wf : ∀ M H, OkW K M H WN WF := fun M H c pd σ' H' gs δ' M' _ _ _ _ z => z
  refine ⟨fun i n H' => ∃ M' acc vs', n + i = ds.length ∧ Ext M1 H1 M' H' ∧ RepM K H' M' ∧ H' A = some (.lst vs') ∧ M' A = some .busy ∧ RepL K H' M' vs' acc ∧ dLcL p tt te (wipeD δ vs) (Qe A) chk (ds.drop i) acc M', ⟨ds.length, updD M1 A .busy, [], [], rfl, yA, mA, upd_same, updD_same, .nil, q1 A nA⟩, ?_⟩
  rintro i n H2 ⟨M2, acc, vs', hn, x2, m2, eA, nA2, l2, q2⟩
  have xx := x1.trans x2
  cases e : ds.drop i with
  | nil =>
    have hi : i = ds.length := by
      have := List.drop_eq_nil_iff.mp e
      omega
    rw [e] at q2
    obtain ⟨c2, q2⟩ := q2
    subst hi
    refine .inl ⟨(wk H2 M2 x2.w m2 c2).2, k A H2 M2 acc vs' xx (fun b hb => ?_) m2 eA nA2 l2 q2⟩
    exact fun z => by
      have := (x1.busy b hb).2
      rw [z, nA] at this
      cases this
  | cons d r =>
    obtain ⟨ed, er, hlt⟩ := drop_at e
    rw [e] at q2
    obtain ⟨c2, hacc, δ', ep, q2⟩ := q2
    obtain ⟨go, yl⟩ := (wk H2 M2 x2.w m2 c2).1 i d ed
    refine .inr ⟨go, fun H' => ∃ M' acc vs', Ext M1 H1 M' H' ∧ RepM K H' M' ∧ H' A = some (.lst vs') ∧ M' A = some .busy ∧ RepL K H' M' vs' acc ∧ dLcL p tt te (wipeD δ vs) (Qe A) chk r acc M', fun H' ⟨M', acc, vs', h1, h2, h3, h4, h5, h6⟩ => ⟨n - 1, by omega, M', acc, vs', by omega, h1, h2, h3, h4, h5, by rw [er]; exact h6⟩, fun v H3 hy => ?_⟩
    obtain ⟨x3, m3, r3⟩ := yl v H3 hy
    have x23 := x2.trans x3
    refine gOf_ok m3 p ep ((a.s.wipe vs).ext (x1.trans x23)) r3 fun σ' s' hl' hag => ⟨?_, ?_⟩
    · rw [wipe_agree (vs := vs) hl' fun j hj => hag j fun z => hj (hsl j z)]
      exact wipe_agree (wipe_length _ _) fun j hj => by rw [wipe_out hj]
    · refine lfT.use ⟨s', m3⟩ q2 (fun b H4 M4 x4 m4 q4 => ?_) (wf _ _)
      have x34 := x3.trans x4
      obtain ⟨b4, nb4⟩ := x34.busy A nA2
      cases b with
      | false =>
        simp only [Bool.false_eq_true, if_false] at q4 ⊢
        exact ⟨M4, acc, vs', x23.trans x4, m4, b4.trans eA, nb4, l2.ext x34, q4⟩
      | true =>
        simp only [if_true] at q4 ⊢
        refine lfE.use ⟨s'.ext x4, m4⟩ q4 (fun v5 H5 d5 M5 x5 m5 r5 q5 => ?_) (wf _ _)
        have x35 := x34.trans x5
        obtain ⟨b5, nb5⟩ := x35.busy A nA2
        have l5 := l2.ext x35
        have e5 : H5 A = some (.lst vs') := b5.trans eA
        refine ⟨vs', e5, by rw [l5.length]; exact hacc, M5, addO acc (some d5), vs' ++ [v5], ?_, ?_, upd_same, nb5, ?_, q5⟩
        · have x25 := (x2.trans x34).trans x5
          refine ⟨fun b o h n t => ?_, fun b h => ?_⟩
          · have hb : b ≠ A := ne_of_none h hA
            rw [upd_ne hb]
            exact x25.keep b o h n t
          · have hb : b ≠ A := fun z => by rw [z, nA] at h; cases h
            rw [upd_ne hb]
            exact x25.busy b h
        · intro b mo e
          by_cases hb : b = A
          · subst hb
            rw [nb5] at e
            cases e
            exact ⟨_, upd_same, plain_lst⟩
          · exact (m5 b mo e).grow nb5 (upd_ne hb)
        · exact (l5.grow nb5).append (.cons (r5.grow nb5) .nil)
theorem de_lc {elt tg iter : Expr} {ifs : List Expr} {scope : Scope} {own : List (Str × Nat)} {ti : DTI} {p : Pat} {tt : DTT} {te : DTE} (hc : X.calm = true) (hN : X.N.Nodup) (hi : DI X W0 tg iter ti) (ok : BlkOk X.N X.env.scope scope own) (hsl : ∀ j, j ∈ slotsP p → j ∈ own.map (·.2))
    (hg : ∀ (s : Shared) (H : Hp) (C : Addr) (cl : List (Str × Addr)) (fp : List Addr), DG (X.blk s H scope (compEnvC scope cl C X.env) fp) tg p) (ht : ∀ (s : Shared) (H : Hp) (C : Addr) (cl : List (Str × Addr)) (fp : List Addr), DTs (X.blk s H scope (compEnvC scope cl C X.env) fp) WF ifs tt)
    (he : ∀ (s : Shared) (H : Hp) (C : Addr) (cl : List (Str × Addr)) (fp : List Addr), DE (X.blk s H scope (compEnvC scope cl C X.env) fp) WF elt te) (hs : ∀ x, foldedSetIterable iter X.env x = pure x := by intro _; rfl) :
    DE X W0 (.ListComp elt [⟨tg, iter, ifs, 0⟩] scope pos) (dLc ti p tt te (own.map (·.2))) :=
  .mk' (pe_lc hc hN hi.pi ok (fun s H C cl fp => (hg s H C cl fp).pg) (fun s H C cl fp => (ht s H C cl fp).pts) (fun s H C cl fp => (he s H C cl fp).pe) hs) fun σ H Q0 δ M Q W a q k w =>
    lc_run hsl a q (fun A H' M' acc ws x nb m e eb l q' => by
      have sb := Sub.del M' A
      exact k _ H' _ _ (x.sub sb fun b hb => by rw [delD_ne (nb b hb)]; exact (x.busy b hb).2) (m.sub sb) (.lst e delD_same (l.sub sb)) q') w
theorem de_lcM {elt tg iter : Expr} {ifs : List Expr} {scope : Scope} {own : List (Str × Nat)} {ti : DTI} {p : Pat} {tt : DTT} {te : DTE} (hc : X.calm = true) (hN : X.N.Nodup) (hi : DI X W0 tg iter ti) (ok : BlkOk X.N X.env.scope scope own) (hsl : ∀ j, j ∈ slotsP p → j ∈ own.map (·.2))
    (hg : ∀ (s : Shared) (H : Hp) (C : Addr) (cl : List (Str × Addr)) (fp : List Addr), DG (X.blk s H scope (compEnvC scope cl C X.env) fp) tg p) (ht : ∀ (s : Shared) (H : Hp) (C : Addr) (cl : List (Str × Addr)) (fp : List Addr), DTs (X.blk s H scope (compEnvC scope cl C X.env) fp) WF ifs tt)
    (he : ∀ (s : Shared) (H : Hp) (C : Addr) (cl : List (Str × Addr)) (fp : List Addr), DE (X.blk s H scope (compEnvC scope cl C X.env) fp) WF elt te) (hs : ∀ x, foldedSetIterable iter X.env x = pure x := by intro _; rfl) :
    DE X W0 (.ListComp elt [⟨tg, iter, ifs, 0⟩] scope pos) (dLcM ti p tt te (own.map (·.2))) :=
  .mk' (pe_lc hc hN hi.pi ok (fun s H C cl fp => (hg s H C cl fp).pg) (fun s H C cl fp => (ht s H C cl fp).pts) (fun s H C cl fp => (he s H C cl fp).pe) hs) fun σ H Q0 δ M Q W a q k w =>
    lc_run hsl a q (fun A H' M' acc ws x nb m e eb l q' => by
      have y : Ext M H (updD M' A (.lst acc)) H' := ⟨fun b o h n t => by
        have hb : b ≠ A := fun z => by
          have := (x.keep b o h n t).2
          rw [z, eb] at this; cases this
        rw [updD_ne hb]
        exact x.keep b o h n t, fun b hb => by rw [updD_ne (nb b hb)]; exact x.busy b hb⟩
      have z : ∀ b, M' b = none → updD M' A (.lst acc) b = none := fun b hb => by
        rw [updD_ne (fun z => by rw [z, eb] at hb; cases hb)]; exact hb
      refine k _ H' _ _ y (fun b mo hb => ?_) (.ref A) q'
      by_cases h : b = A
      · subst h
        rw [updD_same] at hb
        cases hb
        exact ⟨ws, e, l.less z⟩
      · rw [updD_ne h] at hb
        exact (m b mo hb).less z) w
end
end DL
end

section
set_option Elab.async false
set_option linter.all false
set_option maxRecDepth 100000
/-! DM: what the hand layer lacks: sum, min, max, sorted, enumerate of tuples, repr of data. -/
namespace DM
open PySem PySem.Spec PyProof.Rows L2
open PySem.Sem (wp)
set_option maxHeartbeats 1000000 in
theorem meets_enumerate_new1B {v : Value} {o : Obj} {H : Heap → Prop} (B : Begins v o H) :
    Meets (Builtin.«enumerate.__new__» ⟨[.type "enumerate", v], []⟩) (fun _ R s => H s.heap ∧
      R (.ok (.ret (.ref (s.heap.push o).objs.size))) { s with heap := (s.heap.push o).push { cls := .type "enumerate", data := .fields #[.none, .bool false, .ref s.heap.objs.size, rawInt 0, .none, .none] } }) :=
  .of_wp fun prog w A R s h => by
    obtain ⟨hp, g, d, tk, os⟩ := s; obtain ⟨h1, h⟩ := h
    have hsub := sub_enumerate
    have q1 : ∀ {A' : Around} {E : Value → Shared → Prop} {Q : Value → Shared → Prop}, Q (.ref hp.objs.size) ⟨hp.push o, g, d, tk, os⟩ → wpAny (model prog w) A' (pyIter v) Q E ⟨hp, g, d, tk, os⟩ :=
      fun q => B.iter prog w _ _ ⟨hp, g, d, tk, os⟩ _ h1 q
    wp_walk using q1
    refine wpAny_stack_any fun st => wpAny_pure ?_
    split
    · rename_i c _ _ _ _ _
      cases (c == Value.type "enumerate")
      · wp_walk using q1
        exact ⟨_, rfl, h⟩
      · wp_walk using q1
        exact ⟨_, rfl, h⟩
    · wp_walk using q1
      exact ⟨_, rfl, h⟩
section
variable {prog : Program} {w : World} {A : Around} {E : Value → Shared → Prop} {s : Shared}
theorem enum_begins1 {v : Value} {o : Obj} {H : Heap → Prop} {Q : Value → Shared → Prop} (B : Begins v o H) (h1 : H s.heap)
    (h : ∀ h', IsEnum h' (s.heap.objs.size + 1) s.heap.objs.size 0 .none → h'.get? s.heap.objs.size = some o → h'.objs.size = s.heap.objs.size + 2 →
      (∀ b o, s.heap.get? b = some o → h'.get? b = some o) → Q (.ref (s.heap.objs.size + 1)) { s with heap := h' }) :
    wpAny (model prog w) A (call (.type "enumerate") [v]) Q E s := by
  refine callType_new F.called_enumerate (by decide) (F.typeCall_enumerate_1 _) (F.newCall_enumerate_1 _) (fun obj => F.args_object_init_2 obj _) F.entry_enumerate_new
    (meets_enumerate_new1B B) ⟨h1, ?_⟩
  have hz : (s.heap.push o).objs.size = s.heap.objs.size + 1 := Heap.size_push ..
  show _ ∧ _
  rw [hz]
  have he : IsEnum ((s.heap.push o).push { cls := .type "enumerate", data := .fields #[.none, .bool false, .ref s.heap.objs.size, rawInt 0, .none, .none] }) (s.heap.objs.size + 1) s.heap.objs.size 0 .none := by
    have := Heap.get?_push_size (s.heap.push o) (o := { cls := .type "enumerate", data := .fields #[.none, .bool false, .ref s.heap.objs.size, rawInt 0, .none, .none] }) rfl
    rw [hz] at this; exact this
  refine ⟨⟨_, he, rfl⟩, h _ he (Heap.get?_push_of_some _ (Heap.get?_push_size _ B.free)) (by rw [Heap.size_push, hz]) fun b o x => Heap.get?_push_of_some _ (Heap.get?_push_of_some _ x)⟩
end

/-! ### enumerate(tuple) -/
def IteT (K : PySem.W.Frag) (a : Addr) : It :=
  ⟨fun i H => ∃ (xs : List V) (x : V), SqT K H a xs ∧ xs[i]? = some x, fun i H v H' => ∃ T x, v = .ref T ∧ H T = none ∧ H' = upd H T (.tup [.int (i : Nat), x]) ∧ ∀ xs, SqT K H a xs → xs[i]? = some x, fun i H => ∃ xs : List V, SqT K H a xs ∧ xs.length ≤ i⟩
theorem turn_enumT {P : Program} {w : World} {K : PySem.W.Frag} {elts : List Expr} {kk : Nat} {tpos : Pos} (a e it : Addr) :
    Turn P w K (.Tuple elts kk tpos) (IteT K a) [e, it] e (fun i h => (∃ old, IsEnum h e it ((i : Nat) : Int) old) ∧ h.IsTupleIter it a i ∧ e ≠ it ∧ e ≠ a ∧ a ≠ it) where
  mem := by simp
  obj := fun i h st b hb => by
    obtain ⟨⟨old, he⟩, ⟨o, ho, hc, hd⟩, _⟩ := st
    have e' : b = e ∨ b = it := by simpa using hb
    rcases e' with z | z
    · rw [z]; exact ⟨_, he, fun v q => nomatch q⟩
    · rw [z]; exact ⟨o, ho, fun v q => by rw [hd] at q; cases q⟩
  keep := fun i h h' st k => let ⟨⟨old, he⟩, hi, hne⟩ := st; ⟨⟨old, k e (by simp) _ he⟩, hi.at fun o q => k it (by simp) o q, hne⟩
  item := by
    intro X hP hw hK hc i pins s σ H E I hf st hg
    subst hP hw hK
    obtain ⟨⟨old, he⟩, hit, hne, hea, hai⟩ := st
    obtain ⟨xs, x, hq, hx⟩ := hg
    obtain ⟨its, rv, p, hz⟩ := I.tuple hq
    obtain ⟨u, hu, ru⟩ := rv.get hx
    have hel : e < s.heap.objs.size := Heap.lt_size he
    have hil : it < s.heap.objs.size := by obtain ⟨_, q, _⟩ := hit; exact Heap.lt_size q
    have hlt : i < its.toArray.size := by
      have := (List.getElem?_eq_some_iff.mp hu).1
      simpa using this
    have D : Draws X.prog X.w X.A.in1 it [it, a] its.toArray.size (fun i v => its.toArray[i]? = some v) (fun i h => h.IsTupleIter it a i ∧ h.IsTuple a its.toArray) := Draws.tuple (A := X.A.in1) (I.ok.hd hc) it a hai its.toArray
    refine wpAny_pyNext_enum_itemD D he ⟨hit, p⟩ hlt hne (by simp [hne, hea]) fun y h' tk hy ho hit' hT hsz hk => ?_
    have ey : y = u := by
      have : its.toArray[i]? = some u := by simpa using hu
      rw [this] at hy; exact (Option.some.inj hy).symm
    subst ey
    refine ⟨_, rfl, wpAny_letOwnedTupleGo_enum (s := { s with heap := h', toks := tk + 1 }) ho fun h'' he' sb => ?_⟩
    have hT2 : h''.get? s.heap.objs.size = some { cls := .type "tuple", data := .seq #[.int i tk, y] } := (sb.2 _ (Nat.ne_of_gt hel)).trans hT
    have new : ObjOk X.prog X.w (upd H s.heap.objs.size (.tup [.int (i : Nat), x])) h'' s.heap.objs.size (.tup [.int (i : Nat), x]) :=
      ⟨by show 2 ≤ sizeLine; decide, [.int i tk, y], .cons ⟨_, rfl⟩ (.cons ru .nil), ⟨_, hT2, rfl, _, rfl⟩⟩
    have I1 : Inv X pins σ (upd H s.heap.objs.size (.tup [.int (i : Nat), x])) { s with heap := h'', toks := tk + 1 } :=
      I.turnedNew (ch := [e, it]) (fun b ob hb q => (sb.2 b (fun z => hb (by simp [z]))).trans (hk b ob (fun z => hb (by simp [z])) (fun z => hb (by simp [z])) q)) hf (Nat.le_refl _) new
    refine ⟨.ref s.heap.objs.size, _, I1, rfl, ⟨_, x, rfl, I.hok.fresh (Nat.le_refl _), rfl, fun ys hy => by rw [I.tuple_inj hy hq]; exact hx⟩, ⟨⟨y, ?_⟩, hit'.1.at fun o q => (sb.2 it (Ne.symm hne)).trans q, hne, hea, hai⟩, fun b hb => ?_⟩
    · have e1 : ((i + 1 : Nat) : Int) = (i : Int) + 1 := by omega
      rw [e1]; exact he'
    · have hb' : b < s.heap.objs.size := by
        have e' : b = e ∨ b = it := by simpa using hb
        rcases e' with z | z
        · rw [z]; exact hel
        · rw [z]; exact hil
      rw [upd_ne (Nat.ne_of_lt hb')]
      exact (hf b hb).1
  done := by
    intro X hP hw hK hc i pins s σ H E I hf st hg
    subst hP hw hK
    obtain ⟨⟨old, he⟩, hit, hne, hea, hai⟩ := st
    obtain ⟨xs, hq, hx⟩ := hg
    obtain ⟨its, rv, p, hz⟩ := I.tuple hq
    obtain ⟨f0, f1, f2, f3, f4, f5⟩ := hf it (by simp)
    have hl := rv.length
    unfold pyNext
    have hT : s.TypeIs (.ref e) "enumerate" := ⟨_, he, rfl⟩
    refine wpAny_bind (wpAny_attempt (wpAny_callSpecial?_slot (name := Str.ofString "__next__") hT F.slot_enumerate_next
      (wpAny_call_entry F.slot_enumerate_next hT F.entry_enumerate_next ?_ (F.args_enumerate_next_1 _))))
    show wpAny _ _ (field (.ref e) 2 >>= _) _ _ _
    refine wpAny_bind (wpAny_field he rfl (x := .ref it) rfl ?_)
    refine wpAny_bind (wpAny_nextOf_tuple_end (I.ok.hd hc) hit p (by simp; omega) fun h' x he' hx' => ?_)
    obtain ⟨o, ho, hc'⟩ := hx'
    refine wpAny_bind (wpAny_isInstance (T := "StopIteration") (b := true) ⟨o, ho, hc'⟩ isSubtype_stop ?_)
    exact wpAny_pure ⟨rfl, I.turned (t' := s.toks) (fun b o hb q => he' b o hb q) f0 f1 f3 f4 f5⟩
  self := fun A i s Q E st h => let ⟨⟨_, he⟩, _⟩ := st; wpAny_pyIter_enum he h
def iEnumA (K : PySem.W.Frag) (ta : TA) : TI := fun σ H R => ta σ H fun vs H1 => ∃ a xs, vs = [.ref a] ∧ ((SqL K H1 a xs ∧ R (Ite K a) H1) ∨ (SqT K H1 a xs ∧ R (IteT K a) H1))
theorem pi_enumA {X : Cx} {e : Expr} {ta : TA} {p pos tpos : Pos} {elts : List Expr} {kk : Nat} (hg : Gl X "enumerate") (hm : X.mg "enumerate" = none) (ha : PA X [e] ta) (hs : starEach [e] X.env = [(false, eval e X.env)] := by rfl) :
    PI X (.Tuple elts kk tpos) (.Call (.Name "enumerate" p) [e] [] pos) (iEnumA X.K ta) := by
  refine ⟨fun pins s σ H R I h => ?_⟩
  refine Call_ (ld_blt I hg hm boot_enumerate (PyProof.Rows.callWith_type1 (thn (ha.run pos pins s σ H _ I h) fun us s1 ⟨vs, H1, I1, r1, q1⟩ => ?_) hs rfl))
  obtain ⟨a, xs, ex, q1⟩ := q1
  subst ex
  have fresh2 : ∀ b, b ∈ [s1.heap.objs.size + 1, s1.heap.objs.size] → FpOk X pins H1 b := fun b hb => by
    have e' : b = s1.heap.objs.size + 1 ∨ b = s1.heap.objs.size := by simpa using hb
    have hle : s1.heap.objs.size ≤ b := by
      rcases e' with z | z
      · rw [z]; exact Nat.le_add_right _ _
      · rw [z]; exact Nat.le_refl _
    exact I1.fpOk hle (I1.hok.fresh hle)
  cases r1 with
  | cons r rr =>
    cases rr
    cases r
    rcases q1 with ⟨hq, q⟩ | ⟨hq, q⟩
    · obtain ⟨its, rv, p', hz⟩ := I1.list hq
      refine call_enumerate_list p'.isList fun h' he hit hsz hk => wpAny_pyIter_enum he ?_
      have I2 : Inv X pins σ H1 { s1 with heap := h' } := I1.kept (t' := s1.toks) hk
      exact ⟨s1.heap.objs.size + 1, [s1.heap.objs.size + 1, s1.heap.objs.size], _, _, H1, rfl, I2, turn_enum a (s1.heap.objs.size + 1) s1.heap.objs.size, ⟨⟨.none, he⟩, hit, Nat.succ_ne_self _⟩, fresh2, q⟩
    · obtain ⟨its, rv, p', hz⟩ := I1.tuple hq
      have hlt : a < s1.heap.objs.size := by obtain ⟨_, q, _⟩ := id p'; exact Heap.lt_size q
      refine enum_begins1 (begins_tuple a its.toArray) (show s1.heap.IsTuple a its.toArray from p') fun h' he hit hsz hk => wpAny_pyIter_enum he ?_
      have I2 : Inv X pins σ H1 { s1 with heap := h' } := I1.kept (t' := s1.toks) hk
      exact ⟨s1.heap.objs.size + 1, [s1.heap.objs.size + 1, s1.heap.objs.size], _, _, H1, rfl, I2, turn_enumT a (s1.heap.objs.size + 1) s1.heap.objs.size, ⟨⟨.none, he⟩, ⟨_, hit, rfl, rfl⟩, Nat.succ_ne_self _, Nat.ne_of_gt (Nat.lt_succ_of_lt hlt), Nat.ne_of_lt hlt⟩, fresh2, q⟩

/-! ### a list or a tuple walked -/
def iSeq (K : PySem.W.Frag) (tl : TE) : TI := fun σ H R => tl σ H fun x H1 => ∃ a xs, x = .ref a ∧ ((SqL K H1 a xs ∧ R (Itl K a) H1) ∨ (SqT K H1 a xs ∧ R (Itt K a) H1))
theorem pi_seq {X : Cx} {tg l : Expr} {tl : TE} (hl : PE X l tl) : PI X tg l (iSeq X.K tl) := by
  refine ⟨fun pins s σ H R I h => ?_⟩
  refine thn (hl.run pins s σ H _ I h) fun v s1 ⟨x, H1, I1, r1, q1⟩ => ?_
  obtain ⟨a, xs, e, q1⟩ := q1
  subst e
  cases r1
  rcases q1 with ⟨hq, q⟩ | ⟨hq, q⟩
  · obtain ⟨its, rv, p, hz⟩ := I1.list hq
    refine wpAny_pyIter_list p.isList ?_
    refine ⟨s1.heap.objs.size, [s1.heap.objs.size], _, _, H1, rfl, I1.kept (t' := s1.toks) fun b o e => Heap.get?_push_of_some _ e, turn_list a _, ⟨_, Heap.get?_push_size _ rfl, rfl, rfl⟩, fun b hb => ?_, q⟩
    have e : b = s1.heap.objs.size := by simpa using hb
    subst e
    exact I1.fpOk (Nat.le_refl _) (I1.hok.fresh (Nat.le_refl _))
  · obtain ⟨its, rv, p, hz⟩ := I1.tuple hq
    refine wpAny_pyIter_tuple (show s1.heap.IsTuple a its.toArray from p) ?_
    refine ⟨s1.heap.objs.size, [s1.heap.objs.size], _, _, H1, rfl, I1.kept (t' := s1.toks) fun b o e => Heap.get?_push_of_some _ e, turn_tuple a _, ⟨_, Heap.get?_push_size _ rfl, rfl, rfl⟩, fun b hb => ?_, q⟩
    have e : b = s1.heap.objs.size := by simpa using hb
    subst e
    exact I1.fpOk (Nat.le_refl _) (I1.hok.fresh (Nat.le_refl _))

/-! ### sum, max, min of a tuple of ints -/
section
variable {prog : Program} {w : World} {A : Around} {E : Value → Shared → Prop} {s : Shared} {l : Addr} {xs : Array (Int × Tok)} {its : List Value} {ns : List Int}
theorem iter_intTup {Q : Value → Shared → Prop} (hl : s.heap.IsTuple l (intItems xs))
    (h : ∀ s₂ : Shared, s₂ = { s with heap := s.heap.push { cls := .type "tuple_iterator", data := .fields #[.ref l, .int 0 0] } } →
      (s₂.heap.IsTupleIter s.heap.objs.size l 0 ∧ s₂.heap.IsTuple l (intItems xs)) → (∀ b ∈ [s.heap.objs.size, l], b < s₂.heap.objs.size) → l ≠ s.heap.objs.size → Q (.ref s.heap.objs.size) s₂) :
    wpAny (model prog w) A (pyIter (.ref l)) Q E s := by
  have hlt : l < s.heap.objs.size := by obtain ⟨_, e, _⟩ := hl; exact Heap.lt_size e
  refine wpAny_pyIter_tuple hl (h _ rfl ⟨⟨_, Heap.get?_push_size _ rfl, rfl, rfl⟩, hl.at fun o e => Heap.get?_push_of_some _ e⟩ (fun b hb => ?_) (Nat.ne_of_lt hlt))
  show b < (s.heap.push _).objs.size
  rw [Heap.size_push]
  rcases List.mem_cons.mp hb with rfl | hb
  · exact Nat.lt_succ_self _
  · rcases List.mem_cons.mp hb with rfl | hb
    · exact Nat.lt_succ_of_lt hlt
    · cases hb
theorem old_keptT {h' : Heap} (hk : ∀ b o, b ∉ [s.heap.objs.size] → (s.heap.push { cls := .type "tuple_iterator", data := .fields #[.ref l, .int 0 0] }).get? b = some o → h'.get? b = some o) :
    ∀ b o, s.heap.get? b = some o → h'.get? b = some o := fun b o e => by
  refine hk b o (fun hm => ?_) (Heap.get?_push_of_some _ e)
  rcases List.mem_cons.mp hm with e1 | hm
  · exact absurd (e1 ▸ Heap.lt_size e) (Nat.lt_irrefl _)
  · cases hm
theorem sum_rawT {Q : Value → Shared → Prop} (hh : A.handled = none) (hl : s.heap.IsTuple l its.toArray) (hi : IntsAre its ns)
    (h : ∀ h' tk t', (∀ b o, s.heap.get? b = some o → h'.get? b = some o) → Q (.int ns.sum t') { s with heap := h', toks := tk }) : wpAny (model prog w) A (call (.builtin "sum") [.ref l]) Q E s := by
  obtain ⟨xs, e⟩ := hi.allInts.items
  have hn : numsOf (intItems xs).toList = ns := by rw [← e]; exact hi.numsOf
  rw [nums_intItems] at hn
  rw [e] at hl
  refine call_sum_walkG (iter_intTup hl fun s₂ e st hfp hlI => ?_)
  subst e
  refine ⟨_, _, _, _, _, _, numAt xs, rfl, Walks.tuple (A := A.in1) hh _ l hlI (intItems xs), st, hfp, (fun _ _ => intItems_at), fun h' tk t' hk => ?_⟩
  have := h h' tk t' (old_keptT hk)
  rw [preSum_eq, List.take_of_length_le (by simp [intItems]), hn]
  exact this
theorem max_rawT {Q : Value → Shared → Prop} (hh : A.handled = none) (hl : s.heap.IsTuple l its.toArray) (hi : IntsAre its ns) (hne : 0 < ns.length)
    (h : ∀ h' tk M t', (∀ b o, s.heap.get? b = some o → h'.get? b = some o) → M ∈ ns → (∀ a, a ∈ ns → a ≤ M) → Q (.int M t') { s with heap := h', toks := tk }) : wpAny (model prog w) A (call (.builtin "max") [.ref l]) Q E s := by
  obtain ⟨xs, e⟩ := hi.allInts.items
  have hn : numsOf (intItems xs).toList = ns := by rw [← e]; exact hi.numsOf
  rw [nums_intItems] at hn
  subst hn
  rw [e] at hl
  have hsz : 0 < xs.size := by simpa using hne
  refine call_max_walk (iter_intTup hl fun s₂ e st hfp hlI => ?_)
  subst e
  refine ⟨_, _, _, _, _, _, _, rfl, Walks.tuple (A := A.in1) hh _ l hlI (intItems xs), st, hfp, by simpa [intItems] using hsz, CmpOf.ints_gt (numAt xs) (fun _ _ => intItems_at), fun v h' tk hP hk => ?_⟩
  have hv : (intItems xs)[argBest (fun i j => decide (numAt xs i > numAt xs j)) (xs.size - 1)]? = some v := by simpa [intItems] using hP
  obtain ⟨t, rfl⟩ := intItems_at hv
  obtain ⟨h1, h2⟩ := argBest_gt (numAt xs) (xs.size - 1)
  refine h h' tk _ t (old_keptT hk) ?_ fun a ha => ?_
  · rw [numAt_eq]; exact PySem.getD_mem (by rw [List.length_map, Array.length_toList]; omega)
  · obtain ⟨j, hj, rfl⟩ := mem_getD ha
    rw [List.length_map, Array.length_toList] at hj
    rw [← numAt_eq]; exact h2 j (by omega)
theorem min_rawT {Q : Value → Shared → Prop} (hh : A.handled = none) (hl : s.heap.IsTuple l its.toArray) (hi : IntsAre its ns) (hne : 0 < ns.length)
    (h : ∀ h' tk M t', (∀ b o, s.heap.get? b = some o → h'.get? b = some o) → M ∈ ns → (∀ a, a ∈ ns → M ≤ a) → Q (.int M t') { s with heap := h', toks := tk }) : wpAny (model prog w) A (call (.builtin "min") [.ref l]) Q E s := by
  obtain ⟨xs, e⟩ := hi.allInts.items
  have hn : numsOf (intItems xs).toList = ns := by rw [← e]; exact hi.numsOf
  rw [nums_intItems] at hn
  subst hn
  rw [e] at hl
  have hsz : 0 < xs.size := by simpa using hne
  refine call_min_walk (iter_intTup hl fun s₂ e st hfp hlI => ?_)
  subst e
  refine ⟨_, _, _, _, _, _, _, rfl, Walks.tuple (A := A.in1) hh _ l hlI (intItems xs), st, hfp, by simpa [intItems] using hsz, CmpOf.ints_lt (numAt xs) (fun _ _ => intItems_at), fun v h' tk hP hk => ?_⟩
  have hv : (intItems xs)[argBest (fun i j => decide (numAt xs i < numAt xs j)) (xs.size - 1)]? = some v := by simpa [intItems] using hP
  obtain ⟨t, rfl⟩ := intItems_at hv
  obtain ⟨h1, h2⟩ := argBest_lt (numAt xs) (xs.size - 1)
  refine h h' tk _ t (old_keptT hk) ?_ fun a ha => ?_
  · rw [numAt_eq]; exact PySem.getD_mem (by rw [List.length_map, Array.length_toList]; omega)
  · obtain ⟨j, hj, rfl⟩ := mem_getD ha
    rw [List.length_map, Array.length_toList] at hj
    rw [← numAt_eq]; exact h2 j (by omega)
end
section
variable {X : Cx}
/-- .. of a list or a tuple -/
def rSumA (K : PySem.W.Frag) : List V → Hp → VK → Prop := fun vs H Q => ∃ (a : Addr) (ns : List Int), vs = [V.ref a] ∧ (SqL K H a (ns.map V.int) ∨ SqT K H a (ns.map V.int)) ∧ Q (.int ns.sum) H
def rMaxA (K : PySem.W.Frag) : List V → Hp → VK → Prop := fun vs H Q => ∃ (a : Addr) (ns : List Int), vs = [V.ref a] ∧ (SqL K H a (ns.map V.int) ∨ SqT K H a (ns.map V.int)) ∧ 0 < ns.length ∧ ∀ m, m ∈ ns → (∀ y, y ∈ ns → y ≤ m) → Q (.int m) H
def rMinA (K : PySem.W.Frag) : List V → Hp → VK → Prop := fun vs H Q => ∃ (a : Addr) (ns : List Int), vs = [V.ref a] ∧ (SqL K H a (ns.map V.int) ∨ SqT K H a (ns.map V.int)) ∧ 0 < ns.length ∧ ∀ m, m ∈ ns → (∀ y, y ∈ ns → m ≤ y) → Q (.int m) H
theorem cr_sumA (hc : X.calm = true) : CallR X (.builtin "sum") (rSumA X.K) := by
  intro pins s σ H vs us Q I r h
  obtain ⟨a, ns, rfl, hs, q⟩ := h
  rcases hs with hs | hs
  · exact cr_sum hc pins s σ H _ us Q I r ⟨a, ns, rfl, hs, q⟩
  · obtain ⟨its, rv, hl, _⟩ := I.tuple hs
    rw [Vals.ref1 r]
    exact sum_rawT (I.ok.hd hc) hl rv.ints fun h' tk t' hk => ⟨.int _, H, I.kept hk, ⟨_, rfl⟩, q⟩
theorem cr_maxA (hc : X.calm = true) : CallR X (.builtin "max") (rMaxA X.K) := by
  intro pins s σ H vs us Q I r h
  obtain ⟨a, ns, rfl, hs, hne, q⟩ := h
  rcases hs with hs | hs
  · exact cr_max hc pins s σ H _ us Q I r ⟨a, ns, rfl, hs, hne, q⟩
  · obtain ⟨its, rv, hl, _⟩ := I.tuple hs
    rw [Vals.ref1 r]
    exact max_rawT (I.ok.hd hc) hl rv.ints hne fun h' tk m t' hk h1 h2 => ⟨.int _, H, I.kept hk, ⟨_, rfl⟩, q m h1 h2⟩
theorem cr_minA (hc : X.calm = true) : CallR X (.builtin "min") (rMinA X.K) := by
  intro pins s σ H vs us Q I r h
  obtain ⟨a, ns, rfl, hs, hne, q⟩ := h
  rcases hs with hs | hs
  · exact cr_min hc pins s σ H _ us Q I r ⟨a, ns, rfl, hs, hne, q⟩
  · obtain ⟨its, rv, hl, _⟩ := I.tuple hs
    rw [Vals.ref1 r]
    exact min_rawT (I.ok.hd hc) hl rv.ints hne fun h' tk m t' hk h1 h2 => ⟨.int _, H, I.kept hk, ⟨_, rfl⟩, q m h1 h2⟩
end
end DM
end

section
set_option Elab.async false
set_option linter.all false
set_option maxRecDepth 100000
/-! DM2: sorted of a tuple; repr of data. -/
namespace DM
open PySem PySem.Spec PyProof.Rows L2
open PySem.Sem (wp)
section
variable {prog : Program} {w : World} {A : Around} {E : Value → Shared → Prop} {s : Shared}
/-- as collect_list, of a tuple -/
theorem collect_tuple {l : Addr} {vs : List Value} {Q : List Value → Shared → Prop} (hl : s.heap.IsTuple l vs.toArray)
    (h : Q vs { s with heap := (s.heap.push (seqObj "list" #[] 0)).update s.heap.objs.size (Obj.mapSeq (· ++ vs.toArray)) }) (hsz : vs.length ≤ sizeLine) :
    wpAny (model prog w) A (collect (.ref l)) Q E s := by
  obtain ⟨o, ho, hc, n, hd⟩ := id hl
  unfold collect
  refine wpAny_bind (wpAny_runValue (codeAny_builtin entry_proto_collect' ?_))
  show wpAny _ _ (do again (.builtin "list.__iadd__" ⟨[← newList [], .ref l], []⟩)) _ _ s
  refine wpAny_bind (wpAny_newList (wpAny_pure ⟨Code.quiet_builtin _ (by decide +kernel), codeAny_builtin entry_list_iadd' ?_⟩))
  show wpAny _ _ (Builtin.List.listExtendWith (.ref s.heap.objs.size) (.ref l) (.ref s.heap.objs.size)) _ _ { s with heap := s.heap.push (seqObj "list" #[] 0) }
  unfold Builtin.List.listExtendWith
  have ho' : (s.heap.push (seqObj "list" #[] 0)).get? l = some o := Heap.get?_push_of_some _ ho
  refine wpAny_bind (wpAny_typeOf (T := "tuple") ⟨o, ho', hc⟩ ?_)
  have ht : (Value.type "tuple" == Value.type "tuple") = true := by rfl
  rw [if_pos (by rw [ht]; simp)]
  refine wpAny_bind (listItems_at ho' hd ?_)
  refine wpAny_bind (listItems_at (xs := #[]) (n := 0) (Heap.get?_push_size _ rfl) rfl ?_)
  rw [if_neg (by simp)]
  refine wpAny_bind (listUpdate_at (xs := #[]) (n := 0) (Heap.get?_push_size _ rfl) rfl ?_ (Nat.zero_le _) (by show (#[] ++ vs.toArray).size ≤ sizeLine + 1; simp only [Array.size_append, List.size_toArray, List.length_nil]; omega))
  refine wpAny_pure ?_
  show wpAny (model prog w) A (do
      let o ← load s.heap.objs.size
      match o.data with
      | .seq xs _ => pure xs.toList
      | _ => unsupported "internal:collect") Q E { s with heap := (s.heap.push (seqObj "list" #[] 0)).update s.heap.objs.size (Obj.mapSeq (· ++ vs.toArray)) }
  refine wpAny_bind (wpAny_load (get?_update_seq (Heap.get?_push_size _ rfl) _) ?_)
  show wpAny _ _ (pure ((#[] : Array Value) ++ vs.toArray).toList) Q E _
  rw [show ((#[] : Array Value) ++ vs.toArray).toList = vs by simp]
  exact wpAny_pure h
open SrtO Srt in
theorem sorted_ordT {l : Addr} {vs : List Value} {ltv : Value → Value → Bool} {Q : Value → Shared → Prop} (O : Swo ltv) (hl : s.heap.IsTuple l vs.toArray) (hz : vs.length ≤ sizeLine)
    (hS : 2 ≤ vs.length → ∀ (h₁ : Heap) (a : Addr), h₁.get? a = some (seqObj "list" vs.toArray 0) → (∀ b o, s.heap.get? b = some o → b ≠ a ∧ h₁.get? b = some o) → SortableO prog w A.in1.in1 { s with heap := h₁ } a vs ltv)
    (h : ∀ out : List Value, Srtd ltv out → Stb ltv out vs → Q (.ref (s.heap.objs.size + 1)) { s with heap := sortedAll s.heap vs out.toArray }) :
    wpAny (model prog w) A (call (.builtin "sorted") [.ref l]) Q E s := by
  refine Calls.call_function_entry kind_sorted plain_sorted entry_sorted (args_sorted1 _) ?_
  unfold Builtin.«sorted»
  refine wpAny_bind (m := checkCount "sorted" 1 1 _) (wpAny_pure ?_)
  refine wpAny_bind (collect_tuple hl ?_ hz)
  refine wpAny_bind (wpAny_newList ?_ hz)
  have hsz : ((s.heap.push (seqObj "list" #[] 0)).update s.heap.objs.size (Obj.mapSeq (· ++ vs.toArray))).objs.size = s.heap.objs.size + 1 := by
    rw [Heap.size_update, size_push']
  have hoL : (((s.heap.push (seqObj "list" #[] 0)).update s.heap.objs.size (Obj.mapSeq (· ++ vs.toArray))).push (seqObj "list" vs.toArray 0)).get? (s.heap.objs.size + 1) = some (seqObj "list" vs.toArray 0) := by
    rw [← hsz]; exact Heap.get?_push_size _ rfl
  have keep : ∀ b o, s.heap.get? b = some o → b ≠ s.heap.objs.size + 1 ∧ (((s.heap.push (seqObj "list" #[] 0)).update s.heap.objs.size (Obj.mapSeq (· ++ vs.toArray))).push (seqObj "list" vs.toArray 0)).get? b = some o := fun b o q => by
    have hlt : b < s.heap.objs.size := Heap.lt_size q
    refine ⟨Nat.ne_of_lt (Nat.lt_succ_of_lt hlt), Heap.get?_push_of_some _ ?_⟩
    rw [Heap.get?_update_ne _ _ _ _ (Nat.ne_of_lt hlt)]
    exact Heap.get?_push_of_some _ q
  show wpAny _ _ _ _ _ { s with heap := ((s.heap.push (seqObj "list" #[] 0)).update s.heap.objs.size (Obj.mapSeq (· ++ vs.toArray))).push (seqObj "list" vs.toArray 0) }
  rw [hsz]
  refine wpAny_bind (wpAny_holding (wpAny_call_entry slot_list_sort ⟨_, hoL, rfl⟩ entry_list_sort (list_sort_ord O hoL hz (fun h2 => hS h2 _ _ hoL keep) fun out hs hb => ⟨_, rfl, ?_⟩) (args_list_sort _)))
  exact wpAny_pure ⟨_, rfl, h out hs hb⟩
end
section
variable {X : Cx}
def rSortedIA (K : PySem.W.Frag) : List V → Hp → VK → Prop := fun vs H Q => ∃ (a : Addr) (ns : List Int), vs = [V.ref a] ∧ (SqL K H a (ns.map V.int) ∨ SqT K H a (ns.map V.int)) ∧
  ∀ (ns' : List Int) (p : Addr), ns'.Perm ns → ns'.Pairwise (· ≤ ·) → H p = none → Q (.ref p) (upd H p (.lst (ns'.map V.int)))
theorem cr_sortedIA : CallR X (.builtin "sorted") (rSortedIA X.K) := by
  intro pins s σ H vs us Q I r h
  obtain ⟨a, ns, rfl, hs, q⟩ := h
  rcases hs with hs | hs
  · exact cr_sortedI pins s σ H _ us Q I r ⟨a, ns, rfl, hs, q⟩
  · obtain ⟨its, rv, hl, hz⟩ := I.tuple hs
    rw [Vals.ref1 r]
    have hi := rv.ints
    refine sorted_ordT SrtO.swo_int hl (by rw [← rv.length]; exact hz) (fun h2 h₁ a' _ _ => SrtO.ints_sortable hi h2) fun out h1 h2 => ?_
    obtain ⟨k1, k2, k3⟩ := SrtO.ints_out hi h1 h2
    obtain ⟨ep, he'⟩ := PyProof.Rows.sortedAll_at s.heap its out.toArray
    have hlen : ((out.map SrtO.iv).map V.int).length ≤ sizeLine := by
      rw [List.length_map, k2.length_eq]
      rw [List.length_map] at hz
      exact hz
    exact ⟨.ref _, upd H (s.heap.objs.size + 1) (.lst ((out.map SrtO.iv).map V.int)), I.laid (t' := s.toks) (fun _ _ => PyProof.Rows.sortedAll_old) (Nat.le_succ _) ⟨hlen, out, ep, vals_of_ints k1, he'⟩, rfl, q _ _ k2 k3 (I.hok.fresh (Nat.le_succ _))⟩
/-- repr of data -/
def rReprD (K : PySem.W.Frag) : List V → Hp → VK → Prop := fun vs H Q => ∃ (x : V) (d : PyData), vs = [x] ∧ Dp K H x d ∧ d.showable = true ∧ d.hasDict = false ∧ d.depth ≤ 60 ∧ d.shown.length ≤ sizeLine ∧ Q (.str d.shown) H
theorem cr_repr (hc : X.calm = true) (hg : X.A.guards = some []) (hu : X.A.units + 64 < cLine) : CallR X (.builtin "repr") (rReprD X.K) := by
  intro pins s σ H vs us Q I r h
  obtain ⟨x, d, rfl, hd, hsh, hnd, hdp, hlen, q⟩ := h
  obtain ⟨u, rfl, rx⟩ := vals1 r
  obtain ⟨as, rd⟩ := Dp.reads I d x u hd rx
  cases rx' : x with
  | ref a =>
    subst rx'
    cases rx
    exact PySem.repr_of_reads' (h₀ := s.heap) rd hsh (PyData.noDict_hsm hnd) hg (by omega) (fun _ _ e => e) (fun h' u tk hk => ⟨.str _, H, I.kept (t' := tk) hk, ⟨_, rfl⟩, q⟩) hlen
  | non =>
    subst rx'
    cases rx
    cases hd
    exact PySem.P.repr_of_none ⟨.str _, H, I.tok _, ⟨_, rfl⟩, by simpa [PyData.shown] using q⟩
  | bl b =>
    subst rx'
    cases rx
    cases hd
    exact PySem.P.repr_of_bool ⟨.str _, H, I.tok _, ⟨_, rfl⟩, by simpa [PyData.shown] using q⟩
  | int i =>
    subst rx'
    obtain ⟨t, rfl⟩ := rx
    cases hd
    exact PySem.P.repr_of_int (by simpa [PyData.showable] using hsh) ⟨.str _, H, I.tok _, ⟨_, rfl⟩, by simpa [PyData.shown] using q⟩
  | str y =>
    subst rx'
    obtain ⟨t, rfl⟩ := rx
    cases hd
    simp only [PyData.shown] at q hlen
    exact PySem.P.repr_of_str ⟨.str _, H, I.tok _, ⟨_, rfl⟩, q⟩ hlen
  | byt y => subst rx'; cases hd
  | flt y => subst rx'; cases hd
  | ty y => subst rx'; cases hd
end
end DM
end

section
set_option Elab.async false
set_option linter.all false
set_option maxRecDepth 100000
/-! DG: promises of defs that are called where no repr is under way. -/
namespace DL
open PySem PySem.Spec PyProof.Rows L2
/-- nothing is being shown around -/
def Quiet (A : Around) : Prop := A.guards = some []
structure FnQ (g : Bool) (P : Program) (w : World) (K : PySem.W.Frag) (mg : Str → Option Value) (base : Heap) (CX : CXT) (k : Nat) (f : Addr) (fd : FuncData) (ps : List Str) (sp : Sp) : Prop where
  len : ∀ vs H Q E, sp vs H Q E → vs.length = ps.length
  run : ∀ (A : Around), (g = true → Quiet A) → Room k A → ∀ (outer : List Env) (s : Shared) (H : Hp), Env0 P w K mg base A outer s H → ∀ (args : Args) (us : List Value) (vs : List V), BindsTo s fd args (ps.zip us) → Vals vs us → ∀ (Q : VK) (E : XK), sp vs H Q E →
    codeAny (model P w) A (.call (.ref f) args) (CR CX outer P w H s Q E) s
theorem FnQ.of {g : Bool} {P : Program} {w : World} {K : PySem.W.Frag} {mg : Str → Option Value} {base : Heap} {CX : CXT} {k : Nat} {f : Addr} {fd : FuncData} {ps : List Str} {sp : Sp} (F : FnOk P w K mg base CX k f fd ps sp) : FnQ g P w K mg base CX k f fd ps sp :=
  ⟨F.len, fun A _ hr outer s H e args us vs b r Q E h => F.run A outer s H args us vs Q E hr e b r h⟩
theorem FnQ.ok {P : Program} {w : World} {K : PySem.W.Frag} {mg : Str → Option Value} {base : Heap} {CX : CXT} {k : Nat} {f : Addr} {fd : FuncData} {ps : List Str} {sp : Sp} (F : FnQ false P w K mg base CX k f fd ps sp) : FnOk P w K mg base CX k f fd ps sp :=
  ⟨F.len, fun A outer s H args us vs Q E hr e b r h => F.run A (fun z => nomatch z) hr outer s H e args us vs b r Q E h⟩
section
variable {X : Cx} {CX : CXT} {g : Bool} {k : Nat} {f : Addr} {fd : FuncData} {ps : List Str} {sp : Sp} {E : L2.St → XK} {x : Str} {p pos : Pos} {e : Expr} {es : List Expr} {t : TA}
theorem run_fnQ {pins : List (Addr × Obj)} {σ : L2.St} {H : Hp} {s : Shared} {Q : VK} {us : List Value} {vs : List V} (F : FnQ g X.prog X.w X.K X.mg X.base CX k f fd ps sp) (hq : g = true → Quiet X.A) (hr : Room k X.A) (hb : Binds X.K fd ps []) (hx : PassesAt CX X σ (E σ))
    (I : Inv X pins σ H s) (r : Vals vs us) (h : sp vs H Q (E σ)) : wpAny (model X.prog X.w) X.A (call (.ref f) us) (EP X pins σ Q) X.xe s := by
  have hl : (us ++ []).length = ps.length := by rw [List.append_nil, ← r.length]; exact F.len _ _ _ _ h
  have hz := hb s us I.kIn hl
  rw [List.append_nil] at hz
  refine wpAny_call (codeAny_mono (F.run X.A hq hr X.stack s H I.env0 ⟨us, []⟩ us vs hz r Q (E σ) h) fun res s' hres => ?_)
  rcases res with e | fl
  · exact hx pins H s e s' I hres
  · cases fl with
    | ret u => exact I.after hres
    | next => exact hres.elim
    | brk => exact hres.elim
    | cont => exact hres.elim
theorem pe_callQ (F : FnQ g X.prog X.w X.K X.mg X.base CX k f fd ps sp) (hq : g = true → Quiet X.A) (hr : Room k X.A) (hg : Gl X x) (hm : X.mg x = some (.ref f)) (hk : PySem.W.keepIn X.K (.ref f) = true) (hb : Binds X.K fd ps []) (hx : ∀ σ, PassesAt CX X σ (E σ))
    (ha : PA X (e :: es) t) (hdb : (x == ("__debug__" : Str)) = false := by decide) (he : starEach (e :: es) X.env = (false, eval e X.env) :: starEach es X.env := by rfl) (hpl : (backTo pos (starEach es X.env)).any (·.1) = false := by rfl) :
    PE X (.Call (.Name x p) (e :: es) [] pos) (tCallS sp E t) :=
  ⟨fun pins s σ H Q I h => wpAny_Call_Name_kw (ld_glob I hg hm (PySem.W.callWith_K (h₀ := X.base) I.ok.mod.kin hk (thn (ha.run pos pins s σ H _ I h) fun us s1 hs => by
    obtain ⟨vs, H1, I1, r, q⟩ := hs
    exact ⟨I1.kIn, run_fnQ F hq hr hb (hx σ) I1 r q⟩) he hpl) hdb)⟩
end
/-- the context of a def's body is quiet where the caller is -/
theorem quiet_deeper {A : Around} (h : Quiet A) (env : Env) : Quiet (A.deeper env) := by
  unfold Quiet at h ⊢
  exact h
section
variable {P : Program} {w : World} {K : PySem.W.Frag} {mg : Str → Option Value} {base : Heap}
/-- the def at f has this code object -/
def CodeAt (K : PySem.W.Frag) (f : Addr) (cdv : Value) : Prop := ∃ oc od fd osl, K.lookup f = some (⟨oc, od, .func fd, osl⟩ : Obj) ∧ fd.code = cdv
theorem fnQ_of {CX : CXT} {g : Bool} {N ps : List Str} {k : Nat} {sp : Sp} {x qual : Str} {params : Arguments} {body : List Stmt} {scope : Scope} {dvs : List V} {kws : List (Str × V)} {f : Addr} {fd : FuncData} (F : FunD K x qual params body scope dvs kws f fd) (S : FnScope N ps scope)
    (len : ∀ vs H Q E, sp vs H Q E → vs.length = ps.length)
    (hbody : ∀ (cdv : Value) (A : Around) (outer : List Env) (s : Shared) (H : Hp) (vs : List V) (Q : VK) (E : XK), CodeAt K f cdv → (g = true → Quiet (A.deeper (envOfC qual scope s.heap.objs.size f cdv))) → Room k (A.deeper (envOfC qual scope s.heap.objs.size f cdv)) → sp vs H Q E →
      ∃ t, PSs (cxOf CX P w K mg base N qual scope f cdv A outer s H E) body t ∧ t { nx := fun _ H' => Q .non H', rt := Q } (L2.start N vs) H) :
    FnQ g P w K mg base CX (k + 1) f fd ps sp := by
  obtain ⟨oc, od, dV, kV, doc, pm, an, cdv, ct, osl, rfl, lk, hcd, _, _⟩ := F.ex
  refine ⟨len, fun A hq hr outer s H e0 args us vs hb r Q E hsp => ?_⟩
  have KX : K.In s.heap := e0.mod.kin.keeps fun b o e => (e0.bs b o e).1
  have lim : s.heap.NoLimit := e0.mod.nolimit.keeps fun b o e => (e0.bs b o e).1
  have hkind : ∀ y ∈ ps.zip us, scope.names.lookup y.1 = some .local ∨ (scope.names.lookup y.1 = some .cell ∧ ((cellsFrom (s.heap.objs.size + 1) scope.names []).lookup y.1).isSome = true) := fun y hy => by
    obtain ⟨n, v⟩ := y
    exact (S.par n (List.of_mem_zip hy).1).imp id fun q => ⟨q, PySem.W.cellsFrom_some _ _ _ (.inl q)⟩
  refine codeAny_call_function hr.depth (KX _ _ lk) rfl S.co S.gen rfl (PySem.W.codeRec_of KX hcd) (hb _ _ _ _ (wpAny_newFunctionEnv_cells S.kind hkind fun env he s1 x => ?_))
  subst he
  refine ⟨lim.keeps x.toInCall.keep, codeAny_func ?_⟩
  obtain ⟨t, ht, hq'⟩ := hbody cdv A outer s H vs Q E ⟨_, _, _, _, lk, rfl⟩ (fun z => quiet_deeper (hq z) _) (hr.deeper _) hsp
  have I := inv_start (CX := CX) (E := E) (cd := cdv) (f := f) (qual := qual) S hr.hd e0 (len _ _ _ _ hsp) r x
  refine wpAny_mono (ht.run [] s1 (L2.start N vs) H _ I hq') (fun fl s' hs => ?_) fun e s' hs => hs
  match fl, hs with
  | .ret u, ⟨v, σ', H', J, rv, q⟩ => exact ⟨v, H', J.os, J.bare, J.base, J.hok, rv, q⟩
  | .next, ⟨σ', H', J, q⟩ => exact ⟨V.non, H', J.os, J.bare, J.base, J.hok, rfl, q⟩
  | .brk, ⟨_, _, _, q⟩ => exact q.elim
  | .cont, ⟨_, _, _, q⟩ => exact q.elim
end

/-! ### the law's own call -/
theorem law_callG {P : Program} {w : World} {K : PySem.W.Frag} {mg mb : Str → Option Value} {CX : CXT} {k : Nat} {fa a : Addr} {fd : FuncData} {x : Str} {sp : Sp} {s₁ : Shared} {vs : List Value} {ns : List Int}
    (KX : K.In s₁.heap) (hns : s₁.heap.Ns mainGlobals mg) (hb : s₁.heap.Ns builtinsNs mb) (hbb : ∀ x : Str, x ≠ "__name__" → mb x = bootBuiltins x) (hlim : s₁.heap.NoLimit) (hg : s₁.gens = #[])
    (ha : s₁.heap.get? a = some { cls := .type "list", data := .seq vs.toArray }) (hi : IntsAre vs ns) (hl : ns.length ≤ sizeLine) (hr : Room k callerA)
    (F : ∀ base : Heap, K.In base → base.Ns mainGlobals mg → FnQ true P w K mg base CX k fa fd [x] sp) (hbind : ∀ (s : Shared) (u : Value), BindsTo s fd ⟨[u], []⟩ [(x, u)])
    (hsp : ∀ H : Hp, Only H → SqL K H a (ns.map V.int) → sp [.ref a] H (fun v _ => v = .bl true) fun _ _ _ => False)
    (hCX : ∀ H e s', CX [] H s₁ (fun _ _ _ => False) e s' → False) :
    codeAny (model P w) callerA (.call (.ref fa) ⟨[.ref a], []⟩) (fun r s' => r = .ok (.ret (.bool true)) ∧ OldK s₁.heap s'.heap ∧ s'.os = s₁.os ∧ AllBare s'.gens) s₁ := by
  have rv := vals_ints hi
  have lenV := hi.length
  let so : Obj := { cls := .type "list", data := .seq vs.toArray }
  -- the abstract heap: the script alone, or nothing where the script is of the module
  obtain ⟨H, hO, hS, hok, hA, hK⟩ : ∃ H : Hp, Only H ∧ SqL K H a (ns.map V.int) ∧ HOk P w H s₁.heap ∧ (∀ b, H b ≠ none → b = a) ∧ (H a ≠ none → K.lookup a = none) := by
    cases hk : K.lookup a with
    | some o =>
      have e := KX a o hk
      rw [ha] at e
      cases e
      exact ⟨fun _ => none, fun _ => .inl rfl, .inr ⟨_, vs.toArray, _, hk, rfl, rfl, rfl, by rw [List.size_toArray, lenV]; exact hl, by simpa using rv⟩, fun b u z => (nomatch (show (none : Option HO) = some u from z)), fun b z => absurd rfl z, fun z => absurd rfl z⟩
    | none =>
      refine ⟨fun b => if b = a then some (.frz so (.lst (ns.map V.int))) else none, fun b => ?_, .inl (.inr ⟨so, if_pos rfl⟩), fun b u z => ?_, fun b z => ?_, fun _ => rfl⟩
      · by_cases h : b = a
        · exact .inr ⟨_, _, if_pos h⟩
        · exact .inl (if_neg h)
      · by_cases h : b = a
        · subst h
          have z' := (if_pos rfl).symm.trans z
          cases z'
          exact ⟨ha, by rw [List.length_map]; exact hl, vs, _, rv, ha⟩
        · exact absurd ((if_neg h).symm.trans z) (by simp)
      · by_cases h : b = a
        · exact h
        · exact absurd (if_neg h) z
  have other : ∀ {b : Addr} {o : Obj}, s₁.heap.get? b = some o → (b = a → False) → H b = none := fun {b o} e d => by
    cases q : H b with
    | none => rfl
    | some u => exact (d (hA b (by rw [q]; simp))).elim
  have nsK : ∀ {b : Addr} {m : Str → Option Value}, s₁.heap.Ns b m → (hidT s₁.heap H).Ns b m := fun {b m} hn => by
    obtain ⟨o, es, ep, e, d, r⟩ := hn
    refine ⟨o, es, ep, hidT_get e (other e fun z => ?_), d, r⟩
    subst z
    rw [ha] at e
    cases e
    cases (show Data.seq vs.toArray _ = Data.dict es ep from d)
  have hKb : K.In (hidT s₁.heap H) := fun b o e => by
    refine hidT_get (KX b o e) ?_
    cases q : H b with
    | none => rfl
    | some u =>
      have e' : b = a := hA b (by rw [q]; simp)
      subst e'
      rw [hK (by rw [q]; simp)] at e
      cases e
  have hlim' : (hidT s₁.heap H).NoLimit := by
    obtain ⟨mc, h1, h2⟩ := hlim
    exact ⟨mc, nsK h1, h2⟩
  have e0 : Env0 P w K mg (hidT s₁.heap H) callerA [] s₁ H := ⟨rfl, ⟨hKb, nsK hns, ⟨mb, nsK hb, hbb⟩, hlim'⟩, fun b o e => of_hidT e, Nat.le_of_eq (hidT_size _ _), trivial, fun b hb => absurd (show b ∈ ([] : List Addr) from hb) (by simp), hok, .of_eq hg⟩
  refine codeAny_mono ((F _ hKb (nsK hns)).run callerA (fun _ => rfl) hr [] s₁ H e0 ⟨[.ref a], []⟩ [.ref a] [.ref a] (hbind s₁ (.ref a)) (.cons rfl .nil) _ _ (hsp H hO hS)) fun r s' h => ?_
  match r, h with
  | .error e, h => exact (hCX H e s' h).elim
  | .ok (.ret u), ⟨v, H', os, bare, un, hok', r', q⟩ =>
    have q' : v = .bl true := q
    subst q'
    obtain rfl : u = Value.bool true := r'
    refine ⟨rfl, OldK.of_keep fun b o e => ?_, os, bare⟩
    rcases hO b with z | ⟨ob, xs, z⟩
    · exact un.keep b o e z (by intro z; exact absurd (show b ∈ ([] : List Addr) from z) (by simp)) (by simp)
    · obtain ⟨e1, _⟩ := hok b _ z
      obtain ⟨e2, _⟩ := hok' b _ (un.frzs b ob _ z)
      rw [e] at e1
      cases e1
      exact e2
  | .ok .next, h => exact h.elim
  | .ok .brk, h => exact h.elim
  | .ok .cont, h => exact h.elim
theorem walk_ofG {l : PySem.W.OpenLaw} {n k : Nat} {q : Program} {loose : List Str} {XP : (Str → Option Value) → Heap → Prop} {YP : World → Heap → Prop} {d : DefRec} {CX : CXT} {x : Str}
    (hn : l.most = some n) (hn2 : n ≤ sizeLine) (hdf : d.params.defaults = []) (hr : Room k callerA)
    (F : ∀ (w : World) (mg : Str → Option Value) (fa : Addr) (h : Heap), YP w h → h.Ns mainGlobals mg → mg d.name = some (.ref fa) →
      ∃ (K : PySem.W.Frag) (fd : FuncData) (sp : Sp), K.In h ∧ (∀ (s : Shared) (u : Value), BindsTo s fd ⟨[u], []⟩ [(x, u)]) ∧
        (∀ (H : Hp) (a : Addr) (ns : List Int), ns.length ≤ n → Only H → SqL K H a (ns.map V.int) → sp [.ref a] H (fun v _ => v = .bl true) fun _ _ _ => False) ∧
        ∀ base : Heap, K.In base → base.Ns mainGlobals mg → FnQ true l.prog w K mg base CX k fa fd [x] sp)
    (hCX : ∀ (H : Hp) (s : Shared) (e : Value) (s' : Shared), CX [] H s (fun _ _ _ => False) e s' → False) :
    PySem.W.WalkO q loose XP YP l.row.toRowW d [] (fun f vs => PySem.call f vs) :=
  Att.attach_call hn hdf fun w s₀ s₁ mg mb fa o pm cd doc a vs ns G Y ho hd hcd hmg hobj hints hlen hg => by
    obtain ⟨K, fd, sp, KX, hb, hsp, hF⟩ := F w mg fa _ Y G.T.g hmg
    exact law_callG KX G.T.g G.T.b G.T.builtins G.T.nolimit hg hobj hints (Nat.le_trans hlen hn2) hr hF hb (fun H hO hS => hsp H a ns hlen hO hS) fun H e s' => hCX H s₁ e s'
end DL
end

section
set_option Elab.async false
set_option linter.all false
set_option maxRecDepth 100000
/-! DL6: defs: promises over data, calls. -/
namespace DL
open PySem PySem.Spec PyProof.Rows L2
/-! ### fewer things that change, lists that stay as they are from now on -/
mutual
inductive Frz (M M2 : DHp) : D → D → Prop
  | refl (d : D) : Frz M M2 d d
  | lst {p : Addr} {ds es : List D} : M p = some (.lst ds) → M2 p = none → FrzL M M2 ds es → Frz M M2 (.ref p) (.lst es)
  | tup {ds es : List D} : FrzL M M2 ds es → Frz M M2 (.tup ds) (.tup es)
  | lstl {ds es : List D} : FrzL M M2 ds es → Frz M M2 (.lst ds) (.lst es)
  | xtp {ds es : List D} : FrzL M M2 ds es → Frz M M2 (.xtp ds) (.tup es)
inductive FrzL (M M2 : DHp) : List D → List D → Prop
  | nil : FrzL M M2 [] []
  | cons {d e : D} {ds es : List D} : Frz M M2 d e → FrzL M M2 ds es → FrzL M M2 (d :: ds) (e :: es)
end
theorem FrzL.refl {M M2 : DHp} : ∀ ds : List D, FrzL M M2 ds ds
  | [] => .nil
  | d :: ds => .cons (.refl d) (FrzL.refl ds)
section
variable {K : PySem.W.Frag} {M M2 : DHp} {H : Hp}
mutual
theorem Rep.frzTo (s : Sub M2 M) (m : RepM K H M) : ∀ {v : V} {d e : D}, Frz M M2 d e → Rep K H M v d → Rep K H M2 v e
  | _, _, _, .refl _, r => r.sub s
  | _, _, _, .lst h n l, r => by
    rw [r.refI]
    obtain ⟨xs, e, q⟩ := m.lst h
    exact .lst e n (RepL.frzTo s m l q)
  | _, _, _, .tup l, .tup f r => .tup (f.sub s) (RepL.frzTo s m l r)
  | _, _, _, .lstl l, .lst f n r => .lst f (s.none n) (RepL.frzTo s m l r)
  | _, _, _, .xtp l, .xtp f e n r => .tup (.inl ⟨.inr ⟨_, f⟩, s.none n⟩) (RepL.frzTo s m l r)
theorem RepL.frzTo (s : Sub M2 M) (m : RepM K H M) : ∀ {vs : List V} {ds es : List D}, FrzL M M2 ds es → RepL K H M vs ds → RepL K H M2 vs es
  | _, _, _, .nil, .nil => .nil
  | _, _, _, .cons h t, .cons r q => .cons (Rep.frzTo s m h r) (RepL.frzTo s m t q)
end
end
theorem XRep.sub {K : PySem.W.Frag} {M M' : DHp} {H : Hp} {pd : Option Addr} {gs : List (Str × D)} (s : Sub M' M) (r : XRep K H M pd gs) : XRep K H M' pd gs := by
  rcases r with r | ⟨d, fs, e, h, n, f⟩
  · exact .inl r
  · exact .inr ⟨d, fs, e, h, s.none n, f.sub s⟩
/-- what is busy stays so -/
def KeepB (M0 M2 : DHp) : Prop := ∀ a, M0 a = some .busy → M2 a = some .busy
/-- what a def hands back: some of what changes is left behind -/
def Back (M0 : DHp) (Q : DVK) : DVK := fun d M' => ∃ e M2, Sub M2 M' ∧ KeepB M0 M2 ∧ Frz M' M2 d e ∧ Q e M2
def BackX (M0 : DHp) (E : DXK) : DXK := fun c gs M' => ∃ M2, Sub M2 M' ∧ KeepB M0 M2 ∧ E c gs M2
def OkX (K : PySem.W.Frag) (M : DHp) (H : Hp) (E : DXK) (E0 : XK) : Prop := ∀ c pd H' gs M', Ext M H M' H' → RepM K H' M' → XRep K H' M' pd gs → E c gs M' → E0 c pd H'
theorem OkX.ext {K : PySem.W.Frag} {M M' : DHp} {H H' : Hp} {E : DXK} {E0 : XK} (x : Ext M H M' H') (h : OkX K M H E E0) : OkX K M' H' E E0 := fun c pd H2 gs M2 y => h c pd H2 gs M2 (x.trans y)
theorem OkV.back {K : PySem.W.Frag} {M : DHp} {H : Hp} {Q : DVK} {Q0 : VK} (k : OkV K M H Q Q0) : OkV K M H (Back M Q) Q0 := fun v H' d M' x m r ⟨e, M2, s, b, f, q⟩ =>
  k v H' e M2 (x.sub s b) (m.sub s) (r.frzTo s m f) q
theorem OkX.back {K : PySem.W.Frag} {M : DHp} {H : Hp} {E : DXK} {E0 : XK} (k : OkX K M H E E0) : OkX K M H (BackX M E) E0 := fun c pd H' gs M' x m r ⟨M2, s, b, q⟩ =>
  k c pd H' gs M2 (x.sub s b) (m.sub s) (r.sub s) q
/-- a promise over data as one of the hand layer -/
def lfSp (K : PySem.W.Frag) (p : DSp) : Sp := fun vs H Q0 E0 => ∃ ds M Q E, RepL K H M vs ds ∧ RepM K H M ∧ p ds M Q E ∧ OkV K M H Q Q0 ∧ OkX K M H E E0
/-- a def that may be called by its name; g: from where nothing is being shown alone -/
structure Cal (g : Bool) (P : Program) (w : World) (K : PySem.W.Frag) (mg : Str → Option Value) (base : Heap) (k : Nat) (x : Str) (p : DSp) : Prop where
  ex : ∃ (f : Addr) (fd : FuncData) (ps : List Str), FnQ g P w K mg base (L2.CX P w) k f fd ps (lfSp K p) ∧ mg x = some (.ref f) ∧ PySem.W.keepIn K (.ref f) = true ∧ Binds K fd ps []
def dCall (p : DSp) (ta : DTA) : DTE := fun δ M Q W => ta δ M (fun ds M1 => p ds M1 Q (fun c gs M' => W c gs δ M')) W
section
variable {X : Cx} {W0 : WX} {g : Bool} {k : Nat} {x : Str} {p : DSp} {ta : DTA} {e : Expr} {es : List Expr} {np pos : Pos}
theorem OkW.toX {K : PySem.W.Frag} {M : DHp} {H : Hp} {W : DW} {W0 : WX} {σ : L2.St} {δ : DSt} (w : OkW K M H W W0) (s : RepS K H M σ δ) : OkX K M H (fun c gs M' => W c gs δ M') (WE W0 σ) := fun c pd H' gs M' x m r q => w c pd σ H' gs δ M' x (s.ext x) m r q
theorem de_call (c : Cal g X.prog X.w X.K X.mg X.base k x p) (hr : Room k X.A) (tk : Takes X W0) (ha : DA X W0 (e :: es) ta) (hg : Gl X x := by rfl) (hq : g = true → Quiet X.A := by first | exact (fun z => nomatch z) | assumption)
    (hdb : (x == ("__debug__" : Str)) = false := by decide) (he : starEach (e :: es) X.env = (false, eval e X.env) :: starEach es X.env := by rfl) (hpl : (backTo pos (starEach es X.env)).any (·.1) = false := by rfl) :
    DE X W0 (.Call (.Name x np) (e :: es) [] pos) (dCall p ta) := by
  obtain ⟨f, fd, ps, F, hm, hk, hb⟩ := c.ex
  exact .mk' (pe_callQ F hq hr hg hm hk hb (fun σ => passAt tk σ) ha.pa hdb he hpl) fun σ H Q0 δ M Q W a q k w =>
    lfA.use a q (fun vs H1 ds M1 x m1 r1 q1 => ⟨ds, M1, _, _, r1, m1, q1, k.ext x, (w.ext x).toX (a.s.ext x)⟩) w
end
/-! ### a def keeps its promise -/
def startD (n : Nat) (ds : List D) : DSt := ds.map some ++ List.replicate (n - ds.length) none
theorem repS_start {K : PySem.W.Frag} {M : DHp} {H : Hp} {N : List Str} {vs : List V} {ds : List D} (r : RepL K H M vs ds) : RepS K H M (L2.start N vs) (startD N.length ds) := by
  refine ⟨by unfold L2.start startD; simp [r.length], fun i d e => ?_⟩
  unfold startD at e
  unfold L2.start
  by_cases h : i < ds.length
  · rw [List.getElem?_append_left (by simpa using h), List.getElem?_map] at e
    cases e2 : ds[i]? with
    | none => rw [e2] at e; cases e
    | some d' =>
      rw [e2] at e
      cases e
      obtain ⟨v, h1, h2⟩ := r.get e2
      refine ⟨v, ?_, h2⟩
      rw [List.getElem?_append_left (by rw [List.length_map, r.length]; exact h), List.getElem?_map, h1]
      rfl
  · rw [List.getElem?_append_right (by simpa using h)] at e
    rw [List.getElem?_replicate] at e
    split at e
    · cases e
    · cases e
/-- what a def's body has to answer -/
def Body (n m : Nat) (p : DSp) (t : DTS) : Prop := ∀ ds M Q E, p ds M Q E → ds.length = m ∧ t { nx := fun _ M' => Back M Q .non M', rt := Back M Q } (startD n ds) M (fun c gs _ M' => BackX M E c gs M')
section
variable {P : Program} {w : World} {K : PySem.W.Frag} {mg : Str → Option Value} {base : Heap}
theorem cal_of {g : Bool} {N ps : List Str} {k : Nat} {p : DSp} {t : DTS} {x : Str} {params : Arguments} {body : List Stmt} {scope : Scope} {f : Addr} {fd : FuncData} (F : FunD K x x params body scope [] [] f fd) (S : FnScope N ps scope) (hm : mg x = some (.ref f))
    (hb : ∀ (kV doc pm : Value) (an : Option Addr) (cdv ct : Value) (us : List Value), us.length = ps.length → bindArgs (PySem.W.fnOf x x params body scope .none kV doc pm an cdv ct) ⟨us, []⟩ = pure (ps.zip us))
    (ht : ∀ (cdv : Value) (A : Around) (outer : List Env) (s : Shared) (H : Hp) (E : XK), CodeAt K f cdv → Room k (cxOf (L2.CX P w) P w K mg base N x scope f cdv A outer s H E).A → (g = true → Quiet (cxOf (L2.CX P w) P w K mg base N x scope f cdv A outer s H E).A) →
      Takes (cxOf (L2.CX P w) P w K mg base N x scope f cdv A outer s H E) (fun c d _ H => E c d H) → DSs (cxOf (L2.CX P w) P w K mg base N x scope f cdv A outer s H E) (fun c d _ H => E c d H) body t)
    (hp : Body N.length ps.length p t) : Cal g P w K mg base (k + 1) x p := by
  refine ⟨f, fd, ps, fnQ_of F S (fun vs H Q0 E0 h => ?_) (fun cdv A outer s H vs Q0 E0 hca hq hr h => ?_), hm, F.kp, F.bindsN hb⟩
  · obtain ⟨ds, M, Q, E, r, m, q, _, _⟩ := h
    rw [r.length]
    exact (hp ds M Q E q).1
  · obtain ⟨ds, M, Q, E, r, m, q, k1, k2⟩ := h
    refine ⟨_, (ht cdv A outer s H E0 hca hr hq (takes_of rfl rfl rfl rfl)).pss, ?_⟩
    refine lfS.use ⟨repS_start r, m⟩ (hp ds M Q E q).2 ⟨fun σ' H' δ' M' x a q => k1.back _ H' _ M' x a.m .non q, k1.back, fun _ _ _ _ _ _ z => z.elim, fun _ _ _ _ _ _ z => z.elim⟩ ?_
    intro c pd σ' H' gs δ' M' x s m r q
    exact k2.back c pd H' gs M' x m r q
end
end DL
end

section
set_option Elab.async false
set_option linter.all false
set_option maxRecDepth 100000
/-! DL7: built-in calls, methods, what is walked. -/
namespace DL
open PySem PySem.Spec PyProof.Rows L2
/-! ### a call of a built-in function or type -/
def dCB (dr : DRs) (ta : DTA) : DTE := fun δ M Q W => ta δ M (fun ds M1 => dr ds M1 Q) W
def DCall (X : Cx) (v : Value) (dr : DRs) : Prop := ∃ r, CallR X v r ∧ LRs X.K r dr
section
variable {X : Cx} {W0 : WX} {x : Str} {id T : String} {dr : DRs} {ta : DTA} {e : Expr} {es : List Expr} {np pos : Pos}
theorem de_callB (hc : DCall X (.builtin id) dr) (ha : DA X W0 (e :: es) ta) (hm : X.mg x = none) (hv : bootBuiltins x = some (.builtin id)) (hg : Gl X x := by rfl) (hn : x ≠ "__name__" := by decide) (hdb : (x == ("__debug__" : Str)) = false := by decide)
    (he : starEach (e :: es) X.env = (false, eval e X.env) :: starEach es X.env := by rfl) (hpl : (backTo pos (starEach es X.env)).any (·.1) = false := by rfl) : DE X W0 (.Call (.Name x np) (e :: es) [] pos) (dCB dr ta) := by
  obtain ⟨r, hc, l⟩ := hc
  exact .mk' (pe_callB hc hg hm hv ha.pa hn hdb he hpl) fun σ H Q0 δ M Q W a q k w => lfA.use a q (fun vs H1 ds M1 x m1 r1 q1 => l H1 M1 vs ds _ _ m1 r1 q1 (k.ext x)) w
theorem de_callT (hc : DCall X (.type T) dr) (ha : DA X W0 (e :: es) ta) (hm : X.mg x = none) (hv : bootBuiltins x = some (.type T)) (hg : Gl X x := by rfl) (hn : x ≠ "__name__" := by decide) (hdb : (x == ("__debug__" : Str)) = false := by decide)
    (he : starEach (e :: es) X.env = (false, eval e X.env) :: starEach es X.env := by rfl) (hpl : (backTo pos (starEach es X.env)).any (·.1) = false := by rfl) : DE X W0 (.Call (.Name x np) (e :: es) [] pos) (dCB dr ta) := by
  obtain ⟨r, hc, l⟩ := hc
  exact .mk' (pe_callTy hc hg hm hv ha.pa hn hdb he hpl) fun σ H Q0 δ M Q W a q k w => lfA.use a q (fun vs H1 ds M1 x m1 r1 q1 => l H1 M1 vs ds _ _ m1 r1 q1 (k.ext x)) w
end
theorem RepL.one {K : PySem.W.Frag} {H : Hp} {M : DHp} {vs : List V} {d : D} (r : RepL K H M vs [d]) : ∃ v, vs = [v] ∧ Rep K H M v d := by
  cases r with | cons r t => cases t; exact ⟨_, rfl, r⟩
theorem RepL.two {K : PySem.W.Frag} {H : Hp} {M : DHp} {vs : List V} {d e : D} (r : RepL K H M vs [d, e]) : ∃ v w, vs = [v, w] ∧ Rep K H M v d ∧ Rep K H M w e := by
  cases r with | cons r t => cases t with | cons s t => cases t; exact ⟨_, _, rfl, r, s⟩
theorem RepL.ints {K : PySem.W.Frag} {H : Hp} {M : DHp} : ∀ {vs : List V} {ns : List Int}, RepL K H M vs (ns.map D.int) → vs = ns.map V.int
  | _, [], .nil => rfl
  | _, n :: ns, .cons r t => by rw [r.intI, RepL.ints t]; rfl
theorem RepL.strs {K : PySem.W.Frag} {H : Hp} {M : DHp} : ∀ {vs : List V} {ns : List Str}, RepL K H M vs (ns.map D.str) → vs = ns.map V.str
  | _, [], .nil => rfl
  | _, n :: ns, .cons r t => by rw [r.strI, RepL.strs t]; rfl
theorem RepL.ofInts {K : PySem.W.Frag} {H : Hp} {M : DHp} : ∀ ns : List Int, RepL K H M (ns.map V.int) (ns.map D.int)
  | [] => .nil
  | n :: ns => .cons (.int n) (RepL.ofInts ns)
theorem RepL.ofStrs {K : PySem.W.Frag} {H : Hp} {M : DHp} : ∀ ns : List Str, RepL K H M (ns.map V.str) (ns.map D.str)
  | [] => .nil
  | n :: ns => .cons (.str n) (RepL.ofStrs ns)
/-! ### the functions -/
def rLenD : DRs := fun ds M Q => match ds with
  | [.str z] => z.length ≤ sizeLine ∧ Q (.int z.length) M
  | [x] => ∃ xs, seqOf M x = some xs ∧ Q (.int xs.length) M
  | _ => False
def rAbsD : DRs := fun ds M Q => match ds with
  | [.int i] => Q (.int (if i < 0 then -i else i)) M
  | _ => False
def rIntD : DRs := fun ds M Q => match ds with
  | [.int i] => Q (.int i) M
  | [.bl b] => Q (.int (if b then 1 else 0)) M
  | _ => False
def rSumD : DRs := fun ds M Q => match ds with
  | [x] => ∃ ns : List Int, seqOf M x = some (ns.map D.int) ∧ Q (.int ns.sum) M
  | _ => False
/-- the greatest of ints -/
def maxI (n : Int) (ns : List Int) : Int := ns.foldl (fun a b => if b > a then b else a) n
def minI (n : Int) (ns : List Int) : Int := ns.foldl (fun a b => if b < a then b else a) n
theorem maxI_ge (ns : List Int) : ∀ n, n ≤ maxI n ns := by
  induction ns with
  | nil => intro n; exact Int.le_refl _
  | cons m ns ih =>
    intro n
    show n ≤ maxI (if m > n then m else n) ns
    have := ih (if m > n then m else n)
    split at this <;> split <;> omega
theorem maxI_all (ns : List Int) : ∀ n, ∀ y ∈ ns, y ≤ maxI n ns := by
  induction ns with
  | nil => intro n y h; cases h
  | cons m ns ih =>
    intro n y h
    show y ≤ maxI (if m > n then m else n) ns
    rcases List.mem_cons.mp h with e | h
    · have := maxI_ge ns (if m > n then m else n)
      rw [e]
      split at this <;> split <;> omega
    · exact ih _ y h
theorem maxI_mem (ns : List Int) : ∀ n, maxI n ns ∈ n :: ns := by
  induction ns with
  | nil => intro n; exact List.mem_cons_self
  | cons m ns ih =>
    intro n
    show maxI (if m > n then m else n) ns ∈ _
    rcases List.mem_cons.mp (ih (if m > n then m else n)) with e | h
    · rw [e]
      split
      · exact List.mem_cons_of_mem _ List.mem_cons_self
      · exact List.mem_cons_self
    · exact List.mem_cons_of_mem _ (List.mem_cons_of_mem _ h)
theorem minI_le (ns : List Int) : ∀ n, minI n ns ≤ n := by
  induction ns with
  | nil => intro n; exact Int.le_refl _
  | cons m ns ih =>
    intro n
    show minI (if m < n then m else n) ns ≤ n
    have := ih (if m < n then m else n)
    split at this <;> split <;> omega
theorem minI_all (ns : List Int) : ∀ n, ∀ y ∈ ns, minI n ns ≤ y := by
  induction ns with
  | nil => intro n y h; cases h
  | cons m ns ih =>
    intro n y h
    show minI (if m < n then m else n) ns ≤ y
    rcases List.mem_cons.mp h with e | h
    · have := minI_le ns (if m < n then m else n)
      rw [e]
      split at this <;> split <;> omega
    · exact ih _ y h
theorem minI_mem (ns : List Int) : ∀ n, minI n ns ∈ n :: ns := by
  induction ns with
  | nil => intro n; exact List.mem_cons_self
  | cons m ns ih =>
    intro n
    show minI (if m < n then m else n) ns ∈ _
    rcases List.mem_cons.mp (ih (if m < n then m else n)) with e | h
    · rw [e]
      split
      · exact List.mem_cons_of_mem _ List.mem_cons_self
      · exact List.mem_cons_self
    · exact List.mem_cons_of_mem _ (List.mem_cons_of_mem _ h)
theorem maxI_uniq {n m : Int} {ns : List Int} (h : m ∈ n :: ns) (g : ∀ y ∈ n :: ns, y ≤ m) : m = maxI n ns := by
  have h1 := g _ (maxI_mem ns n)
  rcases List.mem_cons.mp h with e | h
  · have := maxI_ge ns n; omega
  · have := maxI_all ns n m h; omega
theorem minI_uniq {n m : Int} {ns : List Int} (h : m ∈ n :: ns) (g : ∀ y ∈ n :: ns, m ≤ y) : m = minI n ns := by
  have h1 := g _ (minI_mem ns n)
  rcases List.mem_cons.mp h with e | h
  · have := minI_le ns n; omega
  · have := minI_all ns n m h; omega
def rMaxD : DRs := fun ds M Q => match ds with
  | [.int i, .int j] => Q (.int (if j > i then j else i)) M
  | [x] => ∃ (n : Int) (ns : List Int), seqOf M x = some ((n :: ns).map D.int) ∧ Q (.int (maxI n ns)) M
  | _ => False
def rMinD : DRs := fun ds M Q => match ds with
  | [.int i, .int j] => Q (.int (if j < i then j else i)) M
  | [x] => ∃ (n : Int) (ns : List Int), seqOf M x = some ((n :: ns).map D.int) ∧ Q (.int (minI n ns)) M
  | _ => False
def rListD : DRs := fun ds M Q => match ds with
  | [x] => ∃ xs, seqOf M x = some xs ∧ ∀ p, M p = none → Q (.ref p) (updD M p (.lst xs))
  | _ => False
/-- tuple(x): as a tuple, or as one on which no dict hangs -/
def rTupD : DRs := fun ds M Q => match ds with
  | [.tup xs] => Q (.tup xs) M
  | [.xtp xs] => Q (.xtp xs) M
  | [.rol xs] => Q (.tup xs) M ∨ Q (.xtp xs) M
  | [x] => ∃ xs, lstOf M x = some xs ∧ (Q (.tup xs) M ∨ Q (.xtp xs) M)
  | _ => False
/-! ### sorted -/
def insI (n : Int) : List Int → List Int
  | [] => [n]
  | m :: ms => if n ≤ m then n :: m :: ms else m :: insI n ms
def isort : List Int → List Int
  | [] => []
  | n :: ns => insI n (isort ns)
theorem insI_perm (n : Int) : ∀ ms, (insI n ms).Perm (n :: ms)
  | [] => .refl _
  | m :: ms => by
    unfold insI
    split
    · exact .refl _
    · exact ((insI_perm n ms).cons m).trans (.swap n m ms)
theorem isort_perm : ∀ ns, (isort ns).Perm ns
  | [] => .refl _
  | n :: ns => (insI_perm n _).trans ((isort_perm ns).cons n)
theorem insI_sorted (n : Int) : ∀ ms : List Int, ms.Pairwise (· ≤ ·) → (insI n ms).Pairwise (· ≤ ·)
  | [], _ => List.pairwise_singleton ..
  | m :: ms, h => by
    unfold insI
    obtain ⟨h1, h2⟩ := List.pairwise_cons.mp h
    split
    · rename_i hn
      refine List.pairwise_cons.mpr ⟨fun y hy => ?_, h⟩
      rcases List.mem_cons.mp hy with e | hy
      · omega
      · have := h1 y hy; omega
    · rename_i hn
      refine List.pairwise_cons.mpr ⟨fun y hy => ?_, insI_sorted n ms h2⟩
      rcases List.mem_cons.mp ((insI_perm n ms).mem_iff.mp hy) with e | hy
      · omega
      · exact h1 y hy
theorem isort_sorted : ∀ ns, (isort ns).Pairwise (· ≤ ·)
  | [] => .nil
  | n :: ns => insI_sorted n _ (isort_sorted ns)
theorem sorted_uniq : ∀ {xs ys : List Int}, xs.Perm ys → xs.Pairwise (· ≤ ·) → ys.Pairwise (· ≤ ·) → xs = ys
  | [], ys, p, _, _ => (List.nil_perm.mp p).symm
  | x :: xs, [], p, _, _ => by have := p.length_eq; simp at this
  | x :: xs, y :: ys, p, h, g => by
    obtain ⟨h1, h2⟩ := List.pairwise_cons.mp h
    obtain ⟨g1, g2⟩ := List.pairwise_cons.mp g
    have a : x ≤ y := by
      rcases List.mem_cons.mp (p.mem_iff.mpr List.mem_cons_self) with e | e
      · omega
      · exact h1 y e
    have b : y ≤ x := by
      rcases List.mem_cons.mp (p.mem_iff.mp List.mem_cons_self) with e | e
      · omega
      · exact g1 x e
    have e : x = y := by omega
    subst e
    rw [sorted_uniq p.cons_inv h2 g2]
theorem isort_uniq {xs ys : List Int} (p : xs.Perm ys) (h : xs.Pairwise (· ≤ ·)) : xs = isort ys := sorted_uniq (p.trans (isort_perm ys).symm) h (isort_sorted ys)
def pairD (p : Int × Int) : D := .tup [.int p.1, .int p.2]
/-- x before y, or equal -/
def leP (x y : Int × Int) : Prop := x.1 < y.1 ∨ (x.1 = y.1 ∧ x.2 ≤ y.2)
def rSortD : DRs := fun ds M Q => match ds with
  | [x] => (∃ ns : List Int, seqOf M x = some (ns.map D.int) ∧ Q (.lst ((isort ns).map D.int)) M) ∨
      (∃ ps : List (Int × Int), lstOf M x = some (ps.map pairD) ∧ ∀ qs : List (Int × Int), qs.Perm ps → qs.Pairwise leP → Q (.lst (qs.map pairD)) M) ∨
      (∃ zs : List Str, lstOf M x = some (zs.map D.str) ∧ zs.length < 64 ∧ ∀ ys : List Str, ys.Perm zs → sortedS ys = true → Q (.lst (ys.map D.str)) M)
  | _ => False
/-- repr(x), x pure data -/
def rReprDD : DRs := fun ds M Q => match ds with
  | [x] => (frz M x).pure = true ∧ (frz M x).py.showable = true ∧ (frz M x).py.hasDict = false ∧ (frz M x).py.depth ≤ 60 ∧ (frz M x).py.shown.length ≤ sizeLine ∧ Q (.str (frz M x).py.shown) M
  | _ => False
section
variable {X : Cx}
theorem dc_len : DCall X (.builtin "len") rLenD := by
  refine ⟨_, CallR.or call_len_str call_len_seq, fun H M vs ds Q0 Q m r q k => ?_⟩
  unfold rLenD at q
  split at q
  · obtain ⟨v, rfl, r1⟩ := r.one
    rw [r1.strI]
    exact .inl ⟨_, rfl, q.1, k.here m (.int _) q.2⟩
  · obtain ⟨v, rfl, r1⟩ := r.one
    obtain ⟨xs, hs, q⟩ := q
    obtain ⟨a, ws, rfl, hq, l⟩ := seqOf_rep hs m r1
    refine .inr ⟨a, ws, rfl, hq, ?_⟩
    rw [l.length]
    exact k.here m (.int _) q
  · exact q.elim
theorem dc_abs : DCall X (.builtin "abs") rAbsD := by
  refine ⟨_, call_abs, fun H M vs ds Q0 Q m r q k => ?_⟩
  unfold rAbsD at q
  split at q
  · obtain ⟨v, rfl, r1⟩ := r.one
    rw [r1.intI]
    exact ⟨_, rfl, k.here m (.int _) q⟩
  · exact q.elim
theorem dc_int : DCall X (.type "int") rIntD := by
  refine ⟨_, call_int1, fun H M vs ds Q0 Q m r q k => ?_⟩
  unfold rIntD at q
  split at q
  · obtain ⟨v, rfl, r1⟩ := r.one
    rw [r1.intI]
    exact .inl ⟨_, rfl, k.here m (.int _) q⟩
  · obtain ⟨v, rfl, r1⟩ := r.one
    rw [r1.blI]
    exact .inr ⟨_, rfl, k.here m (.int _) q⟩
  · exact q.elim
theorem dc_sum (hc : X.calm = true) : DCall X (.builtin "sum") rSumD := by
  refine ⟨_, DM.cr_sumA hc, fun H M vs ds Q0 Q m r q k => ?_⟩
  unfold rSumD at q
  split at q
  · obtain ⟨v, rfl, r1⟩ := r.one
    obtain ⟨ns, hs, q⟩ := q
    obtain ⟨a, ws, rfl, hq, l⟩ := seqOf_rep hs m r1
    rw [l.ints] at hq
    exact ⟨a, ns, rfl, hq, k.here m (.int _) q⟩
  · exact q.elim
theorem dc_max (hc : X.calm = true) : DCall X (.builtin "max") rMaxD := by
  refine ⟨_, CallR.or (call_max2 hc) (DM.cr_maxA hc), fun H M vs ds Q0 Q m r q k => ?_⟩
  unfold rMaxD at q
  split at q
  · obtain ⟨v, w, rfl, r1, s⟩ := r.two
    rw [r1.intI, s.intI]
    exact .inl ⟨_, _, rfl, k.here m (.int _) q⟩
  · obtain ⟨v, rfl, r1⟩ := r.one
    obtain ⟨n, ns, hs, q⟩ := q
    obtain ⟨a, ws, rfl, hq, l⟩ := seqOf_rep hs m r1
    rw [l.ints] at hq
    refine .inr ⟨a, n :: ns, rfl, hq, by simp, fun x h1 h2 => ?_⟩
    rw [maxI_uniq h1 h2]
    exact k.here m (.int _) q
  · exact q.elim
theorem dc_min (hc : X.calm = true) : DCall X (.builtin "min") rMinD := by
  refine ⟨_, CallR.or (call_min2 hc) (DM.cr_minA hc), fun H M vs ds Q0 Q m r q k => ?_⟩
  unfold rMinD at q
  split at q
  · obtain ⟨v, w, rfl, r1, s⟩ := r.two
    rw [r1.intI, s.intI]
    exact .inl ⟨_, _, rfl, k.here m (.int _) q⟩
  · obtain ⟨v, rfl, r1⟩ := r.one
    obtain ⟨n, ns, hs, q⟩ := q
    obtain ⟨a, ws, rfl, hq, l⟩ := seqOf_rep hs m r1
    rw [l.ints] at hq
    refine .inr ⟨a, n :: ns, rfl, hq, by simp, fun x h1 h2 => ?_⟩
    rw [minI_uniq h1 h2]
    exact k.here m (.int _) q
  · exact q.elim
theorem dc_list : DCall X (.type "list") rListD := by
  refine ⟨_, call_list_of, fun H M vs ds Q0 Q m r q k => ?_⟩
  unfold rListD at q
  split at q
  · obtain ⟨v, rfl, r1⟩ := r.one
    obtain ⟨xs, hs, q⟩ := q
    obtain ⟨a, ws, rfl, hq, l⟩ := seqOf_rep hs m r1
    exact ⟨a, ws, rfl, hq, fun p hp => k.mut m hp l (q p (m.fresh hp))⟩
  · exact q.elim
/-- tuple(list): a tuple on which no dict hangs -/
theorem call_tuple_ofX : CallR X (.type "tuple") (fun xs H Q => ∃ p ys, xs = [.ref p] ∧ SqL X.K H p ys ∧ ∀ l o, H l = none → o.dict = none → Q (.ref l) (upd H l (.frz o (.tup ys)))) := by
  intro pins s σ H xs us Q I r h
  obtain ⟨p, ys, rfl, hq, q⟩ := h
  obtain ⟨u, rfl, rx⟩ := vals1 r
  cases rx
  obtain ⟨its, r', pl, hz⟩ := I.list hq
  have hlen := r'.length
  refine call_tuple_list pl.isList (fun h' kp => ?_) (by simp only [List.size_toArray] <;> omega)
  have I1 : Inv X pins σ H { s with heap := h' } := I.kept (t' := s.toks) kp
  have I2 : Inv X pins σ (upd H h'.objs.size (.frz { cls := .type "tuple", data := .seq its.toArray } (.tup ys))) { s with heap := h'.push { cls := .type "tuple", data := .seq its.toArray } } :=
    I1.laid (t' := s.toks) (fun b o e => Heap.get?_push_of_some _ e) (Nat.le_refl _) (show ObjOk X.prog X.w _ _ _ (.frz _ (.tup ys)) from ⟨Heap.get?_push_size _ rfl, hz, its, r', IsTup.new _ _⟩)
  exact ⟨.ref h'.objs.size, _, I2, rfl, q _ _ (I1.hok.fresh (Nat.le_refl _)) rfl⟩
theorem OkV.xtp {K : PySem.W.Frag} {M : DHp} {H : Hp} {Q : DVK} {Q0 : VK} (k : OkV K M H Q Q0) (m : RepM K H M) {p : Addr} {o : Obj} {vs : List V} {ds : List D} (hp : H p = none) (ho : o.dict = none) (r : RepL K H M vs ds) (q : Q (.xtp ds) M) : Q0 (.ref p) (upd H p (.frz o (.tup vs))) :=
  k _ _ _ M (Ext.laid m hp) (m.laid hp) (.xtp upd_same ho (m.fresh hp) (r.ext (Ext.laid m hp))) q
theorem dc_tuple : DCall X (.type "tuple") rTupD := by
  refine ⟨_, CallR.or call_tuple_ofX call_tuple_of, fun H M vs ds Q0 Q m r q k => ?_⟩
  have main : ∀ {a : Addr} {ws : List V} {xs : List D}, SqL X.K H a ws → RepL X.K H M ws xs → (Q (.tup xs) M ∨ Q (.xtp xs) M) →
      ((∃ p ys, [V.ref a] = [.ref p] ∧ SqL X.K H p ys ∧ ∀ l o, H l = none → o.dict = none → Q0 (.ref l) (upd H l (.frz o (.tup ys)))) ∨
        ∃ p ys, [V.ref a] = [.ref p] ∧ ((SqL X.K H p ys ∧ ∀ l, H l = none → Q0 (.ref l) (upd H l (.tup ys))) ∨ (SqT X.K H p ys ∧ Q0 (.ref p) H))) := fun {a ws xs} hq l q => by
    rcases q with q | q
    · exact .inr ⟨a, ws, rfl, .inl ⟨hq, fun p hp => k.tup m hp l q⟩⟩
    · exact .inl ⟨a, ws, rfl, hq, fun p o hp ho => k.xtp m hp ho l q⟩
  unfold rTupD at q
  split at q
  · obtain ⟨v, rfl, r1⟩ := r.one
    obtain ⟨a, ws, rfl, f, l⟩ := id r1.tupI
    exact .inr ⟨a, ws, rfl, .inr ⟨f.seq, k.here m r1 q⟩⟩
  · obtain ⟨v, rfl, r1⟩ := r.one
    obtain ⟨a, ws, o, rfl, f, e, n, l⟩ := id r1.xtpI
    exact .inr ⟨a, ws, rfl, .inr ⟨.inl (.inr ⟨o, f⟩), k.here m r1 q⟩⟩
  · obtain ⟨v, rfl, r1⟩ := r.one
    obtain ⟨a, ws, rfl, f, l⟩ := r1.rolI
    exact main f.seq l q
  · obtain ⟨v, rfl, r1⟩ := r.one
    obtain ⟨xs, hs, q⟩ := q
    obtain ⟨a, ws, rfl, f, l⟩ := lstOf_rep hs m r1
    exact main (SqL.of f) l q
  · exact q.elim
/-- the key of a pair, as it stands in the heap -/
def keyAt (h : Heap) (v : Value) : Int × Int := match v with
  | .ref t => match h.get? t with
    | some o => match o.data with
      | .seq its _ => (SrtO.iv (its.getD 0 .none), SrtO.iv (its.getD 1 .none))
      | _ => (0, 0)
    | none => (0, 0)
  | _ => (0, 0)
def PairAt (K : PySem.W.Frag) (H : Hp) (x : V) (p : Int × Int) : Prop := ∃ t, x = .ref t ∧ SqT K H t [.int p.1, .int p.2]
/-- sorted(xs), xs a list of pairs of ints -/
def rSortedPA (K : PySem.W.Frag) : List V → Hp → VK → Prop := fun vs H Q => ∃ (a : Addr) (xs : List V) (ps : List (Int × Int)) (R : V → Int × Int → Prop), vs = [V.ref a] ∧ SqL K H a xs ∧ (∀ x p, R x p → PairAt K H x p) ∧ Paired R xs ps ∧
  ∀ (ys : List V) (qs : List (Int × Int)) (p : Addr), Paired R ys qs → qs.Perm ps → qs.Pairwise leP → H p = none → Q (.ref p) (upd H p (.lst ys))
theorem pairs_keys {R : V → Int × Int → Prop} {pins : List (Addr × Obj)} {σ : L2.St} {H : Hp} {s : Shared} (I : Inv X pins σ H s) (hR : ∀ x p, R x p → PairAt X.K H x p) : ∀ {xs : List V} {ps : List (Int × Int)} {us : List Value}, Paired R xs ps → Vals xs us →
    ps = us.map (keyAt s.heap) ∧ ∀ u ∈ us, Srt.IsPair s.heap u (keyAt s.heap u).1 (keyAt s.heap u).2 ∧ ∃ x, RelV x u ∧ R x (keyAt s.heap u)
  | _, _, _, .nil, .nil => ⟨rfl, fun u h => by cases h⟩
  | _, _, _, .cons (a := x) (b := p) h t, .cons (b := u) r rs => by
    obtain ⟨e1, e2⟩ := pairs_keys I hR t rs
    have hrr := h
    obtain ⟨t0, ex, hq⟩ := hR _ _ h
    subst ex
    obtain rfl : u = Value.ref t0 := r
    obtain ⟨its, rv, hl, hz⟩ := I.tuple hq
    obtain ⟨o, ho, hc, n, hd⟩ := hl
    obtain ⟨u1, u2, rfl, ri, rj⟩ := vals2 rv
    obtain ⟨t1, rfl⟩ := ri
    obtain ⟨t2, rfl⟩ := rj
    have ek : keyAt s.heap (.ref t0) = p := by
      unfold keyAt
      simp only [ho, hd]
      rfl
    refine ⟨by rw [List.map_cons, ek, ← e1], fun u hu => ?_⟩
    rcases List.mem_cons.mp hu with e | hu
    · subst e
      rw [ek]
      exact ⟨⟨t0, o, t1, t2, n, rfl, ho, hc, hd⟩, .ref t0, rfl, hrr⟩
    · exact e2 u hu
theorem cr_sortedPA : CallR X (.builtin "sorted") (rSortedPA X.K) := by
  intro pins s σ H vs us Q I r h
  obtain ⟨a, xs, ps, R, rfl, hs, hR, hx, q⟩ := h
  obtain ⟨its, rv, hl, hz⟩ := I.list hs
  obtain ⟨u, rfl, ru⟩ := vals1 r
  obtain rfl : u = Value.ref a := ru
  obtain ⟨e1, e2⟩ := pairs_keys I hR hx rv
  refine SrtO.sorted_pairsO (k := keyAt s.heap) hl.isList (by rw [← rv.length]; exact hz) (fun v hv => (e2 v hv).1) fun h' d out h1 h2 kp hd hn => ?_
  have h3 : ∀ u ∈ out, ∃ a, u = Value.ref a := fun u hu => by
    obtain ⟨t, o, t1, t2, n, e, _⟩ := (e2 u (h2.perm.mem_iff.mp hu)).1
    exact ⟨t, e⟩
  obtain ⟨n, hn⟩ := hn
  have vb := vals_back h3
  have hp : Paired R (out.map backV) (out.map (keyAt s.heap)) := by
    have aux : ∀ l : List Value, (∀ u ∈ l, u ∈ out) → Paired R (l.map backV) (l.map (keyAt s.heap)) := by
      intro l
      induction l with
      | nil => intro _; exact .nil
      | cons u l ih =>
        intro hm
        refine .cons ?_ (ih fun v hv => hm v (List.mem_cons_of_mem _ hv))
        have hu := hm u List.mem_cons_self
        obtain ⟨b, rfl⟩ := h3 u hu
        obtain ⟨_, x, rx, hx⟩ := e2 _ (h2.perm.mem_iff.mp hu)
        have hx' := hx
        obtain ⟨t, ex, hq⟩ := hR _ _ hx
        subst ex
        obtain rfl : b = t := Value.ref.inj rx
        exact hx'
    exact aux out fun _ h => h
  refine ⟨.ref d, upd H d (.lst (out.map backV)), I.laid (t' := s.toks) kp hd ⟨?_, out, n, vb, hn⟩, rfl, q _ _ d hp ?_ ?_ (I.hok.fresh hd)⟩
  · rw [List.length_map, h2.perm.length_eq, ← rv.length]; exact hz
  · rw [e1]; exact h2.perm.map _
  · refine List.pairwise_map.mpr (List.Pairwise.imp (fun {x y} h => ?_) h1)
    have := SrtO.lexB_no.mp h
    unfold leP
    omega
theorem RepL.pairs {K : PySem.W.Frag} {H : Hp} {M : DHp} : ∀ {vs : List V} {ps : List (Int × Int)}, RepL K H M vs (ps.map pairD) → Paired (fun x p => PairAt K H x p ∧ Rep K H M x (pairD p)) vs ps
  | _, [], .nil => .nil
  | _, p :: ps, .cons r t => by
    refine .cons ⟨?_, r⟩ (RepL.pairs t)
    obtain ⟨a, ws, rfl, f, l⟩ := id (Rep.tupI r)
    obtain ⟨v, w, rfl, r1, r2⟩ := l.two
    rw [r1.intI, r2.intI] at f
    exact ⟨a, rfl, f.seq⟩
theorem RepL.ofPairs {K : PySem.W.Frag} {H : Hp} {M : DHp} : ∀ {vs : List V} {ps : List (Int × Int)}, Paired (fun x p => PairAt K H x p ∧ Rep K H M x (pairD p)) vs ps → RepL K H M vs (ps.map pairD)
  | _, _, .nil => .nil
  | _, _, .cons r t => .cons r.2 (RepL.ofPairs t)
theorem dc_sorted : DCall X (.builtin "sorted") rSortD := by
  refine ⟨_, CallR.or DM.cr_sortedIA (CallR.or cr_sortedPA cr_sortedS), fun H M vs ds Q0 Q m r q k => ?_⟩
  unfold rSortD at q
  split at q
  · obtain ⟨v, rfl, r1⟩ := r.one
    rcases q with ⟨ns, hs, q⟩ | ⟨ps, hs, q⟩ | ⟨zs, hs, hl, q⟩
    · obtain ⟨a, ws, rfl, hq, l⟩ := seqOf_rep hs m r1
      rw [l.ints] at hq
      refine .inl ⟨a, ns, rfl, hq, fun ns' p h1 h2 hp => ?_⟩
      rw [isort_uniq h1 h2]
      exact k.lst m hp (RepL.ofInts _) q
    · obtain ⟨a, ws, rfl, f, l⟩ := lstOf_rep hs m r1
      refine .inr (.inl ⟨a, ws, ps, _, rfl, SqL.of f, fun x p h => h.1, l.pairs, fun ys qs p h1 h2 h3 hp => k.lst m hp (RepL.ofPairs h1) (q qs h2 h3)⟩)
    · obtain ⟨a, ws, rfl, f, l⟩ := lstOf_rep hs m r1
      rw [l.strs] at f
      exact .inr (.inr ⟨a, zs, rfl, SqL.of f, hl, fun ys p h1 h2 hp => k.lst m hp (RepL.ofStrs _) (q ys h1 h2)⟩)
  · exact q.elim
theorem dc_repr (hc : X.calm = true) (hg : Quiet X.A) (hu : X.A.units + 64 < cLine) : DCall X (.builtin "repr") rReprDD := by
  refine ⟨_, DM.cr_repr hc hg hu, fun H M vs ds Q0 Q m r q k => ?_⟩
  unfold rReprDD at q
  split at q
  · obtain ⟨v, rfl, r1⟩ := r.one
    obtain ⟨h1, h2, h3, h4, h5, q⟩ := q
    exact ⟨v, _, rfl, r1.frz m h1, h2, h3, h4, h5, k.here m (.str _) q⟩
  · exact q.elim
end
end DL
end

section
set_option Elab.async false
set_option linter.all false
set_option maxRecDepth 100000
/-! DL8: what is walked; methods. -/
namespace DL
open PySem PySem.Spec PyProof.Rows L2
/-! ### a list or a tuple, walked -/
/-- as long as this holds the thing that is walked stands as it stood -/
def asIt (M1 : DHp) : D → DHp → Prop
  | .ref p => fun M => M p = M1 p
  | _ => fun _ => True
/-- it stands there, later too -/
def LaterL (K : PySem.W.Frag) (a : Addr) (H1 : Hp) (M1 : DHp) (chk : DHp → Prop) (ds : List D) : Prop := ∀ H M, ExtW M1 H1 M H → RepM K H M → chk M → ∃ vs, SqL K H a vs ∧ RepL K H M vs ds
def LaterT (K : PySem.W.Frag) (a : Addr) (H1 : Hp) (M1 : DHp) (chk : DHp → Prop) (ds : List D) : Prop := ∀ H M, ExtW M1 H1 M H → RepM K H M → chk M → ∃ vs, SqT K H a vs ∧ RepL K H M vs ds
theorem later {K : PySem.W.Frag} {H : Hp} {M : DHp} {d : D} {ds : List D} (h : seqOf M d = some ds) (m : RepM K H M) {v : V} (r : Rep K H M v d) : ∃ a, v = .ref a ∧ (LaterL K a H M (asIt M d) ds ∨ LaterT K a H M (asIt M d) ds) := by
  cases r with
  | lst f n l => cases h; exact ⟨_, rfl, .inl fun H' M' x m' _ => ⟨_, SqL.of (x.kp f n).1, l.extW x⟩⟩
  | ref a =>
    simp only [seqOf] at h
    split at h
    · rename_i xs e
      cases h
      refine ⟨a, rfl, .inl fun H' M' x m' c => ?_⟩
      obtain ⟨vs, e2, l⟩ := m'.lst (show M' a = some (.lst ds) from (show M' a = M a from c).trans e)
      exact ⟨vs, SqL.of e2, l⟩
    · cases h
  | non => cases h
  | bl b => cases h
  | int i => cases h
  | str x => cases h
  | tup f r => cases h; exact ⟨_, rfl, .inr fun H' M' x m' _ => ⟨_, (f.extW x).seq, r.extW x⟩⟩
  | rol f r => cases h; exact ⟨_, rfl, .inl fun H' M' x m' _ => ⟨_, (f.extW x).seq, r.extW x⟩⟩
  | xtp f e n r => cases h; exact ⟨_, rfl, .inr fun H' M' x m' _ => ⟨_, .inl (.inr ⟨_, (x.kp f n).1⟩), r.extW x⟩⟩
  | lam f n r => cases h
  | exc0 a => cases h
  | exc1 f n r => cases h
theorem LaterL.ext {K : PySem.W.Frag} {a : Addr} {H1 H2 : Hp} {M1 M2 : DHp} {chk : DHp → Prop} {ds : List D} (h : LaterL K a H1 M1 chk ds) (x : ExtW M1 H1 M2 H2) : LaterL K a H2 M2 chk ds := fun H M y => h H M (x.trans y)
theorem LaterT.ext {K : PySem.W.Frag} {a : Addr} {H1 H2 : Hp} {M1 M2 : DHp} {chk : DHp → Prop} {ds : List D} (h : LaterT K a H1 M1 chk ds) (x : ExtW M1 H1 M2 H2) : LaterT K a H2 M2 chk ds := fun H M y => h H M (x.trans y)
theorem wlk_list {K : PySem.W.Frag} {a : Addr} {H1 : Hp} {M1 : DHp} {chk : DHp → Prop} {ds : List D} (h : LaterL K a H1 M1 chk ds) : Wlk K (Itl K a) H1 M1 ds chk := fun H M x m c => by
  obtain ⟨vs, sq, l⟩ := h H M x m c
  refine ⟨fun i d e => ?_, vs, sq, by rw [l.length]; exact Nat.le_refl _⟩
  obtain ⟨v, hv, rv⟩ := l.get e
  refine ⟨⟨vs, v, sq, hv⟩, fun y H' hy => ?_⟩
  obtain ⟨rfl, hy⟩ := hy
  have := hy vs sq
  rw [hv] at this
  cases this
  exact ⟨Ext.refl _ _, m, rv⟩
theorem wlk_tuple {K : PySem.W.Frag} {a : Addr} {H1 : Hp} {M1 : DHp} {chk : DHp → Prop} {ds : List D} (h : LaterT K a H1 M1 chk ds) : Wlk K (Itt K a) H1 M1 ds chk := fun H M x m c => by
  obtain ⟨vs, sq, l⟩ := h H M x m c
  refine ⟨fun i d e => ?_, vs, sq, by rw [l.length]; exact Nat.le_refl _⟩
  obtain ⟨v, hv, rv⟩ := l.get e
  refine ⟨⟨vs, v, sq, hv⟩, fun y H' hy => ?_⟩
  obtain ⟨rfl, hy⟩ := hy
  have := hy vs sq
  rw [hv] at this
  cases this
  exact ⟨Ext.refl _ _, m, rv⟩
/-! ### enumerate, zip -/
def enumD (i : Nat) : List D → List D
  | [] => []
  | d :: ds => .tup [.int i, d] :: enumD (i + 1) ds
theorem enumD_get : ∀ (ds : List D) (j i : Nat) (e : D), (enumD j ds)[i]? = some e → ∃ d, ds[i]? = some d ∧ e = .tup [.int ((j + i : Nat) : Int), d]
  | [], j, i, e, h => by simp [enumD] at h
  | d :: ds, j, 0, e, h => by simp [enumD] at h; exact ⟨d, rfl, by rw [← h]; simp⟩
  | d :: ds, j, i + 1, e, h => by
    obtain ⟨d', h1, h2⟩ := enumD_get ds (j + 1) i e (by simpa [enumD] using h)
    exact ⟨d', by simpa using h1, by rw [h2]; congr 3; omega⟩
theorem enumD_length : ∀ (ds : List D) (j : Nat), (enumD j ds).length = ds.length
  | [], _ => rfl
  | d :: ds, j => by simp [enumD, enumD_length ds (j + 1)]
def zipD : List D → List D → List D
  | d :: ds, e :: es => .tup [d, e] :: zipD ds es
  | _, _ => []
theorem zipD_get : ∀ (ds es : List D) (i : Nat) (p : D), (zipD ds es)[i]? = some p → ∃ d e, ds[i]? = some d ∧ es[i]? = some e ∧ p = .tup [d, e]
  | [], es, i, p, h => by simp [zipD] at h
  | d :: ds, [], i, p, h => by simp [zipD] at h
  | d :: ds, e :: es, 0, p, h => by simp [zipD] at h; exact ⟨d, e, rfl, rfl, h.symm⟩
  | d :: ds, e :: es, i + 1, p, h => by
    obtain ⟨d', e', h1, h2, h3⟩ := zipD_get ds es i p (by simpa [zipD] using h)
    exact ⟨d', e', by simpa using h1, by simpa using h2, h3⟩
theorem zipD_length : ∀ (ds es : List D), ds.length ≤ (zipD ds es).length ∨ es.length ≤ (zipD ds es).length
  | [], es => .inl (Nat.zero_le _)
  | d :: ds, [] => .inr (Nat.zero_le _)
  | d :: ds, e :: es => by
    rcases zipD_length ds es with h | h
    · exact .inl (by simp [zipD]; exact h)
    · exact .inr (by simp [zipD]; exact h)
theorem yield_pair {K : PySem.W.Frag} {H : Hp} {M : DHp} {T : Addr} {v w : V} {d e : D} (m : RepM K H M) (hT : H T = none) (r : Rep K H M v d) (s : Rep K H M w e) : Ext M H M (upd H T (.tup [v, w])) ∧ RepM K (upd H T (.tup [v, w])) M ∧ Rep K (upd H T (.tup [v, w])) M (.ref T) (.tup [d, e]) :=
  ⟨Ext.laid m hT, m.laid hT, .tup (.inl ⟨.inl upd_same, m.fresh hT⟩) (.cons (r.ext (Ext.laid m hT)) (.cons (s.ext (Ext.laid m hT)) .nil))⟩
theorem wlk_enum {K : PySem.W.Frag} {a : Addr} {H1 : Hp} {M1 : DHp} {chk : DHp → Prop} {ds : List D} (h : LaterL K a H1 M1 chk ds) : Wlk K (Ite K a) H1 M1 (enumD 0 ds) chk := fun H M x m c => by
  obtain ⟨vs, sq, l⟩ := h H M x m c
  refine ⟨fun i e he => ?_, vs, sq, by rw [enumD_length, l.length]; exact Nat.le_refl _⟩
  obtain ⟨d, hd, rfl⟩ := enumD_get ds 0 i e he
  obtain ⟨v, hv, rv⟩ := l.get hd
  refine ⟨⟨vs, v, sq, hv⟩, fun y H' hy => ?_⟩
  obtain ⟨T, z, rfl, hT, rfl, hy⟩ := hy
  have := hy vs sq
  rw [hv] at this
  cases this
  rw [Nat.zero_add]
  exact yield_pair m hT (.int _) rv
theorem wlk_enumT {K : PySem.W.Frag} {a : Addr} {H1 : Hp} {M1 : DHp} {chk : DHp → Prop} {ds : List D} (h : LaterT K a H1 M1 chk ds) : Wlk K (DM.IteT K a) H1 M1 (enumD 0 ds) chk := fun H M x m c => by
  obtain ⟨vs, sq, l⟩ := h H M x m c
  refine ⟨fun i e he => ?_, vs, sq, by rw [enumD_length, l.length]; exact Nat.le_refl _⟩
  obtain ⟨d, hd, rfl⟩ := enumD_get ds 0 i e he
  obtain ⟨v, hv, rv⟩ := l.get hd
  refine ⟨⟨vs, v, sq, hv⟩, fun y H' hy => ?_⟩
  obtain ⟨T, z, rfl, hT, rfl, hy⟩ := hy
  have := hy vs sq
  rw [hv] at this
  cases this
  rw [Nat.zero_add]
  exact yield_pair m hT (.int _) rv
theorem wlk_zip {K : PySem.W.Frag} {a b : Addr} {H1 : Hp} {M1 : DHp} {c1 c2 : DHp → Prop} {ds es : List D} (h : LaterL K a H1 M1 c1 ds) (g : LaterL K b H1 M1 c2 es) : Wlk K (Itz K a b) H1 M1 (zipD ds es) (fun M => c1 M ∧ c2 M) := fun H M x m c => by
  obtain ⟨vs, sq, l⟩ := h H M x m c.1
  obtain ⟨ws, sq2, l2⟩ := g H M x m c.2
  refine ⟨fun i e he => ?_, vs, ws, sq, sq2, by rw [l.length, l2.length]; exact zipD_length ds es⟩
  obtain ⟨d, e', hd, he', rfl⟩ := zipD_get ds es i e he
  obtain ⟨v, hv, rv⟩ := l.get hd
  obtain ⟨w, hw, rw'⟩ := l2.get he'
  refine ⟨⟨vs, ws, v, w, sq, sq2, hv, hw⟩, fun y H' hy => ?_⟩
  obtain ⟨T, z, z', rfl, hT, rfl, hy, hy2⟩ := hy
  have e1 := hy vs sq
  have e2 := hy2 ws sq2
  rw [hv] at e1
  rw [hw] at e2
  cases e1
  cases e2
  exact yield_pair m hT rv rw'
theorem wlk_zipT {K : PySem.W.Frag} {a b : Addr} {H1 : Hp} {M1 : DHp} {c1 c2 : DHp → Prop} {ds es : List D} (h : LaterT K a H1 M1 c1 ds) (g : LaterT K b H1 M1 c2 es) : Wlk K (RZ.ItzT K a b) H1 M1 (zipD ds es) (fun M => c1 M ∧ c2 M) := fun H M x m c => by
  obtain ⟨vs, sq, l⟩ := h H M x m c.1
  obtain ⟨ws, sq2, l2⟩ := g H M x m c.2
  refine ⟨fun i e he => ?_, vs, ws, sq, sq2, by rw [l.length, l2.length]; exact zipD_length ds es⟩
  obtain ⟨d, e', hd, he', rfl⟩ := zipD_get ds es i e he
  obtain ⟨v, hv, rv⟩ := l.get hd
  obtain ⟨w, hw, rw'⟩ := l2.get he'
  refine ⟨⟨vs, ws, v, w, sq, sq2, hv, hw⟩, fun y H' hy => ?_⟩
  obtain ⟨T, z, z', rfl, hT, rfl, hy, hy2⟩ := hy
  have e1 := hy vs sq
  have e2 := hy2 ws sq2
  rw [hv] at e1
  rw [hw] at e2
  cases e1
  cases e2
  exact yield_pair m hT rv rw'
/-- lo, lo + 1, .. -/
def rngD (lo : Int) (n : Nat) : List D := (List.range n).map fun i => .int (lo + (i : Nat))
theorem wlk_rng {K : PySem.W.Frag} {H1 : Hp} {M1 : DHp} (lo : Int) (n : Nat) : Wlk K (Itr lo n) H1 M1 (rngD lo n) (fun _ => True) := fun H M x m c => by
  refine ⟨fun i d e => ?_, by show n ≤ (rngD lo n).length; unfold rngD; simp⟩
  unfold rngD at e
  rw [List.getElem?_map] at e
  cases h : (List.range n)[i]? with
  | none => rw [h] at e; cases e
  | some j =>
    rw [h] at e
    obtain ⟨h1, h2⟩ := List.getElem?_eq_some_iff.mp h
    have hi : i < n := by simpa using h1
    have hj : j = i := by rw [← h2]; simp
    subst hj
    cases e
    refine ⟨hi, fun y H' hy => ?_⟩
    obtain ⟨rfl, rfl⟩ := hy
    exact ⟨Ext.refl _ _, m, .int _⟩
/-- lo, lo + c, .. -/
def rngcD (lo c : Int) (n : Nat) : List D := (List.range n).map fun i => .int (lo + (i : Nat) * c)
theorem wlk_rngc {K : PySem.W.Frag} {H1 : Hp} {M1 : DHp} (lo c : Int) (n : Nat) : Wlk K (Itc lo c n) H1 M1 (rngcD lo c n) (fun _ => True) := fun H M x m _ => by
  refine ⟨fun i d e => ?_, by show n ≤ (rngcD lo c n).length; unfold rngcD; simp⟩
  unfold rngcD at e
  rw [List.getElem?_map] at e
  cases h : (List.range n)[i]? with
  | none => rw [h] at e; cases e
  | some j =>
    rw [h] at e
    obtain ⟨h1, h2⟩ := List.getElem?_eq_some_iff.mp h
    have hi : i < n := by simpa using h1
    have hj : j = i := by rw [← h2]; simp
    subst hj
    cases e
    refine ⟨hi, fun y H' hy => ?_⟩
    obtain ⟨rfl, rfl⟩ := hy
    exact ⟨Ext.refl _ _, m, .int _⟩
def dSeqI (te : DTE) : DTI := fun δ M R W => te δ M (fun d M1 => ∃ ds, seqOf M1 d = some ds ∧ R ds (asIt M1 d) M1) W
def dEnumI (ta : DTA) : DTI := fun δ M R W => ta δ M (fun xs M1 => match xs with
  | [d] => ∃ ds, seqOf M1 d = some ds ∧ R (enumD 0 ds) (asIt M1 d) M1
  | _ => False) W
/-- both tuples, or both lists -/
def tupOf : D → Option (List D)
  | .tup xs => some xs
  | .xtp xs => some xs
  | _ => none
def dZipI (ta : DTA) : DTI := fun δ M R W => ta δ M (fun xs M1 => match xs with
  | [d, e] => (∃ ds es, tupOf d = some ds ∧ tupOf e = some es ∧ R (zipD ds es) (fun _ => True) M1) ∨ (∃ ds es, lstOf M1 d = some ds ∧ lstOf M1 e = some es ∧ R (zipD ds es) (fun M => asIt M1 d M ∧ asIt M1 e M) M1)
  | _ => False) W
def dRng1 (ta : DTA) : DTI := fun δ M R W => ta δ M (fun xs M1 => match xs with
  | [.int j] => -(2 ^ 62) ≤ j ∧ j < 2 ^ 62 ∧ R (rngD 0 j.toNat) (fun _ => True) M1
  | _ => False) W
def dRng2 (ta : DTA) : DTI := fun δ M R W => ta δ M (fun xs M1 => match xs with
  | [.int i, .int j] => (-(2 ^ 62) ≤ i ∧ i < 2 ^ 62 ∧ -(2 ^ 62) ≤ j ∧ j < 2 ^ 62) ∧ R (rngD i (j - i).toNat) (fun _ => True) M1
  | _ => False) W
def dRng3 (ta : DTA) : DTI := fun δ M R W => ta δ M (fun xs M1 => match xs with
  | [.int i, .int j, .int c] => ∃ n, RgC i j c n ∧ R (rngcD i c n) (fun _ => True) M1
  | _ => False) W
theorem laterT_tup {K : PySem.W.Frag} {H : Hp} {M : DHp} {d : D} {ds : List D} (h : tupOf d = some ds) {v : V} (r : Rep K H M v d) : ∃ a, v = .ref a ∧ LaterT K a H M (fun _ => True) ds := by
  cases r with
  | tup f r => cases h; exact ⟨_, rfl, fun H' M' x m' _ => ⟨_, (f.extW x).seq, r.extW x⟩⟩
  | xtp f e n r => cases h; exact ⟨_, rfl, fun H' M' x m' _ => ⟨_, .inl (.inr ⟨_, (x.kp f n).1⟩), r.extW x⟩⟩
  | lst f n l => cases h
  | ref a => cases h
  | non => cases h
  | bl b => cases h
  | int i => cases h
  | str x => cases h
  | rol f r => cases h
  | lam f n r => cases h
  | exc0 a => cases h
  | exc1 f n r => cases h
theorem laterL_lst {K : PySem.W.Frag} {H : Hp} {M : DHp} {d : D} {ds : List D} (h : lstOf M d = some ds) (m : RepM K H M) {v : V} (r : Rep K H M v d) : ∃ a, v = .ref a ∧ LaterL K a H M (asIt M d) ds := by
  cases r with
  | lst f n l => cases h; exact ⟨_, rfl, fun H' M' x m' _ => ⟨_, SqL.of (x.kp f n).1, l.extW x⟩⟩
  | ref a =>
    simp only [lstOf] at h
    split at h
    · rename_i xs e
      cases h
      refine ⟨a, rfl, fun H' M' x m' c => ?_⟩
      obtain ⟨vs, e2, l⟩ := m'.lst (show M' a = some (.lst ds) from (show M' a = M a from c).trans e)
      exact ⟨vs, SqL.of e2, l⟩
    · cases h
  | non => cases h
  | bl b => cases h
  | int i => cases h
  | str x => cases h
  | tup f r => cases h
  | rol f r => cases h
  | xtp f e n r => cases h
  | lam f n r => cases h
  | exc0 a => cases h
  | exc1 f n r => cases h
theorem Wlk.weak {K : PySem.W.Frag} {J : It} {H1 : Hp} {M1 : DHp} {ds : List D} {c c' : DHp → Prop} (h : Wlk K J H1 M1 ds c) (f : ∀ M, c' M → c M) : Wlk K J H1 M1 ds c' := fun H M x m q => h H M x m (f M q)
theorem LaterL.seq {K : PySem.W.Frag} {a : Addr} {H : Hp} {M : DHp} {d : D} {ds : List D} (h : LaterL K a H M (asIt M d) ds) (m : RepM K H M) : ∃ vs, SqL K H a vs := by
  obtain ⟨vs, h, _⟩ := h H M (ExtW.refl _ _) m (by unfold asIt; split <;> trivial)
  exact ⟨vs, h⟩
theorem LaterT.seq {K : PySem.W.Frag} {a : Addr} {H : Hp} {M : DHp} {d : D} {ds : List D} (h : LaterT K a H M (asIt M d) ds) (m : RepM K H M) : ∃ vs, SqT K H a vs := by
  obtain ⟨vs, h, _⟩ := h H M (ExtW.refl _ _) m (by unfold asIt; split <;> trivial)
  exact ⟨vs, h⟩
section
variable {X : Cx} {W0 : WX} {tg e a b c : Expr} {te : DTE} {ta : DTA} {p pos tpos : Pos} {elts : List Expr} {kk : Nat}
theorem di_seq (he : DE X W0 e te) : DI X W0 tg e (dSeqI te) :=
  .mk' (DM.pi_seq he.pe) fun σ H R0 δ M R W a q k w => lfE.use a q (fun v H1 d M1 x m1 r1 q1 => by
    obtain ⟨ds, hs, q1⟩ := q1
    obtain ⟨p, rfl, h⟩ := later hs m1 r1
    rcases h with h | h
    · obtain ⟨vs, sq⟩ := h.seq m1
      exact ⟨p, vs, rfl, .inl ⟨sq, k _ H1 ds _ M1 x m1 (wlk_list h) q1⟩⟩
    · obtain ⟨vs, sq⟩ := h.seq m1
      exact ⟨p, vs, rfl, .inr ⟨sq, k _ H1 ds _ M1 x m1 (wlk_tuple h) q1⟩⟩) w
theorem di_enum (ha : DA X W0 [e] ta) (hm : X.mg "enumerate" = none) (hg : Gl X "enumerate" := by rfl) (hs : starEach [e] X.env = [(false, eval e X.env)] := by rfl) : DI X W0 (.Tuple elts kk tpos) (.Call (.Name "enumerate" p) [e] [] pos) (dEnumI ta) :=
  .mk' (DM.pi_enumA hg hm ha.pa hs) fun σ H R0 δ M R W a q k w => lfA.use a q (fun vs H1 ds M1 x m1 r1 q1 => by
    split at q1
    · obtain ⟨v, rfl, r⟩ := r1.one
      obtain ⟨ds, hs, q1⟩ := q1
      obtain ⟨p, rfl, h⟩ := later hs m1 r
      rcases h with h | h
      · obtain ⟨vs, sq⟩ := h.seq m1
        exact ⟨p, vs, rfl, .inl ⟨sq, k _ H1 _ _ M1 x m1 (wlk_enum h) q1⟩⟩
      · obtain ⟨vs, sq⟩ := h.seq m1
        exact ⟨p, vs, rfl, .inr ⟨sq, k _ H1 _ _ M1 x m1 (wlk_enumT h) q1⟩⟩
    · exact q1.elim) w
theorem di_zip (ha : DA X W0 [a, b] ta) (hm : X.mg "zip" = none) (hg : Gl X "zip" := by rfl) (hs : starEach [a, b] X.env = (false, eval a X.env) :: starEach [b] X.env := by rfl) (hpl : (backTo pos (starEach [b] X.env)).any (·.1) = false := by rfl) :
    DI X W0 (.Tuple elts kk tpos) (.Call (.Name "zip" p) [a, b] [] pos) (dZipI ta) :=
  .mk' (RZ.pi_zipA hg hm ha.pa hs hpl) fun σ H R0 δ M R W a q k w => lfA.use a q (fun vs H1 ds M1 x m1 r1 q1 => by
    split at q1
    · obtain ⟨v, u, rfl, r, s⟩ := r1.two
      rcases q1 with ⟨ds, es, hd, he, q1⟩ | ⟨ds, es, hd, he, q1⟩
      · obtain ⟨p1, rfl, h⟩ := laterT_tup hd r
        obtain ⟨p2, rfl, g⟩ := laterT_tup he s
        obtain ⟨vs, sq, _⟩ := h H1 M1 (ExtW.refl _ _) m1 trivial
        obtain ⟨ws, sq2, _⟩ := g H1 M1 (ExtW.refl _ _) m1 trivial
        exact ⟨p1, p2, vs, ws, rfl, .inr ⟨sq, sq2, k _ H1 _ _ M1 x m1 ((wlk_zipT h g).weak fun _ _ => ⟨trivial, trivial⟩) q1⟩⟩
      · obtain ⟨p1, rfl, h⟩ := laterL_lst hd m1 r
        obtain ⟨p2, rfl, g⟩ := laterL_lst he m1 s
        obtain ⟨vs, sq⟩ := h.seq m1
        obtain ⟨ws, sq2⟩ := g.seq m1
        exact ⟨p1, p2, vs, ws, rfl, .inl ⟨sq, sq2, k _ H1 _ _ M1 x m1 (wlk_zip h g) q1⟩⟩
    · exact q1.elim) w
theorem di_range1 (ha : DA X W0 [a] ta) (hm : X.mg "range" = none) (hg : Gl X "range" := by rfl) (hs : starEach [a] X.env = [(false, eval a X.env)] := by rfl) : DI X W0 tg (.Call (.Name "range" p) [a] [] pos) (dRng1 ta) :=
  .mk' (pi_range1 hg hm ha.pa hs) fun σ H R0 δ M R W a q k w => lfA.use a q (fun vs H1 ds M1 x m1 r1 q1 => by
    split at q1
    · obtain ⟨v, rfl, r⟩ := r1.one
      rw [r.intI]
      exact ⟨_, rfl, q1.1, q1.2.1, k _ H1 _ _ M1 x m1 (wlk_rng _ _) q1.2.2⟩
    · exact q1.elim) w
theorem di_range2 (ha : DA X W0 [a, b] ta) (hm : X.mg "range" = none) (hg : Gl X "range" := by rfl) (hs : starEach [a, b] X.env = [(false, eval a X.env), (false, eval b X.env)] := by rfl) (hs2 : starEach [b] X.env = [(false, eval b X.env)] := by rfl) : DI X W0 tg (.Call (.Name "range" p) [a, b] [] pos) (dRng2 ta) :=
  .mk' (pi_range2 hg hm ha.pa hs hs2) fun σ H R0 δ M R W a q k w => lfA.use a q (fun vs H1 ds M1 x m1 r1 q1 => by
    split at q1
    · obtain ⟨v, u, rfl, r, s⟩ := r1.two
      rw [r.intI, s.intI]
      exact ⟨_, _, rfl, q1.1, k _ H1 _ _ M1 x m1 (wlk_rng _ _) q1.2⟩
    · exact q1.elim) w
theorem di_range3 (ha : DA X W0 [a, b, c] ta) (hm : X.mg "range" = none) (hg : Gl X "range" := by rfl) (hs : starEach [a, b, c] X.env = (false, eval a X.env) :: starEach [b, c] X.env := by rfl) (hpl : (backTo pos (starEach [b, c] X.env)).any (·.1) = false := by rfl) : DI X W0 tg (.Call (.Name "range" p) [a, b, c] [] pos) (dRng3 ta) :=
  .mk' (pi_range3 hg hm ha.pa hs hpl) fun σ H R0 δ M R W a q k w => lfA.use a q (fun vs H1 ds M1 x m1 r1 q1 => by
    split at q1
    · cases r1 with
      | cons r t =>
        obtain ⟨u, z, rfl, s, y⟩ := t.two
        rw [r.intI, s.intI, y.intI]
        obtain ⟨n, h, q1⟩ := q1
        exact ⟨_, _, _, n, rfl, h, k _ H1 _ _ M1 x m1 (wlk_rngc _ _ _) q1⟩
    · exact q1.elim) w
end
/-! ### methods -/
abbrev DMt := D → List D → DHp → DVK → Prop
def LMt (K : PySem.W.Frag) (r : V → List V → Hp → VK → Prop) (dr : DMt) : Prop := ∀ (H : Hp) (M : DHp) (x : V) (d : D) (xs : List V) (ds : List D) (Q0 : VK) (Q : DVK), RepM K H M → Rep K H M x d → RepL K H M xs ds → dr d ds M Q → OkV K M H Q Q0 → r x xs H Q0
/-- a method of the type T, with the fact that the value is of it -/
def DMeth (X : Cx) (T id : String) (dr : DMt) (dty : D → DHp → Prop) : Prop := ∃ r ty, MtR X id r ∧ LMt X.K r dr ∧ TyOk X T ty ∧ ∀ H M v d, RepM X.K H M → Rep X.K H M v d → dty d M → ty v H
def dMt (dr : DMt) (dty : D → DHp → Prop) (to : DTE) (ta : DTA) : DTE := fun δ M Q W => to δ M (fun x M1 => dty x M1 ∧ ta δ M1 (fun ds M2 => dr x ds M2 Q) W) W
section
variable {X : Cx} {W0 : WX} {o e : Expr} {es : List Expr} {to : DTE} {ta : DTA} {name : Str} {apos cpos : Pos} {T id : String} {dr : DMt} {dty : D → DHp → Prop}
theorem de_mt (pa : PlainAttrs T) (slot : Slot T name id) (hty : typeOf (.builtin id) = pure (.type "method_descriptor")) (hm : DMeth X T id dr dty) (ho : DE X W0 o to) (ha : DA X W0 (e :: es) ta)
    (hbase : attributeBase o name X.env (eval o X.env) = eval o X.env := by rfl)
    (hfew : ((backTo cpos (starEach (e :: es) X.env)).all (fun x => !x.1) && (backToKw cpos (keywordEach [] X.env)).all (fun x => x.1.isSome)
      && decide ((e :: es).length + ([] : List Keyword).length + (if ([] : List Keyword).isEmpty then 0 else 1) < 30)) = true := by rfl)
    (hline : (apos.endLine == cpos.line) = true := by rfl) (hs : starEach (e :: es) X.env = (false, eval e X.env) :: starEach es X.env := by rfl) (hplain : (backTo cpos (starEach es X.env)).any (·.1) = false := by rfl) :
    DE X W0 (.Call (.Attribute o name apos) (e :: es) [] cpos) (dMt dr dty to ta) := by
  obtain ⟨r, ty, hm, l, ht, hd⟩ := hm
  exact .mk' (pe_mG ht pa slot hty hm ho.pe ha.pa hbase hfew hline hs hplain) fun σ H Q0 δ M Q W a q k w =>
    lfE.use a q (fun v H1 d M1 x m1 r1 q1 => ⟨hd H1 M1 v d m1 r1 q1.1, lfA.use (a.ext x m1) q1.2 (fun vs H2 ds M2 x2 m2 r2 q2 => l H2 M2 v d vs ds _ _ m2 (r1.ext x2) r2 q2 (k.ext (x.trans x2))) (w.ext x)⟩) w
theorem de_mt0 (pa : PlainAttrs T) (slot : Slot T name id) (hty : typeOf (.builtin id) = pure (.type "method_descriptor")) (hm : DMeth X T id dr dty) (ho : DE X W0 o to)
    (hbase : attributeBase o name X.env (eval o X.env) = eval o X.env := by rfl) (hline : (apos.endLine == cpos.line) = true := by rfl) :
    DE X W0 (.Call (.Attribute o name apos) [] [] cpos) (dMt dr dty to dNil) := by
  obtain ⟨r, ty, hm, l, ht, hd⟩ := hm
  exact .mk' (pe_mG0 ht pa slot hty hm ho.pe hbase hline) fun σ H Q0 δ M Q W a q k w =>
    lfE.use a q (fun v H1 d M1 x m1 r1 q1 => ⟨hd H1 M1 v d m1 r1 q1.1, l H1 M1 v d [] [] _ _ m1 r1 .nil q1.2 (k.ext x)⟩) w
theorem ty_v {T : String} : TyOk X T (tyV X.K T) := fun pins σ H s x v I r ty => tyV_is I r ty
def isLst (d : D) (M : DHp) : Prop := ∃ p ds, d = .ref p ∧ M p = some (.lst ds)
theorem isLst_ok {K : PySem.W.Frag} {H : Hp} {M : DHp} {v : V} {d : D} (m : RepM K H M) (r : Rep K H M v d) (h : isLst d M) : tyV K "list" v H := by
  obtain ⟨p, ds, rfl, h⟩ := h
  obtain ⟨vs, e, _⟩ := m.lst h
  rw [r.refI]
  exact .inl ⟨rfl, vs, SqL.of e⟩
/-- xs.append(x) -/
def rAppendD : DMt := fun x ds M Q => match x, ds with
  | .ref p, [y] => ∃ xs, M p = some (.lst xs) ∧ xs.length < sizeLine ∧ Q .non (updD M p (.lst (xs ++ [y])))
  | _, _ => False
theorem dm_append : DMeth X "list" "list.append" rAppendD isLst := by
  refine ⟨_, _, mt_append, fun H M x d xs ds Q0 Q m rx rs q k => ?_, ty_v, fun H M v d m r h => isLst_ok m r h⟩
  unfold rAppendD at q
  split at q
  · obtain ⟨ws, hp, hz, q⟩ := q
    obtain ⟨v, rfl, rv⟩ := rs.one
    rw [rx.refI]
    obtain ⟨vs, e, l⟩ := m.lst hp
    exact ⟨_, vs, v, rfl, rfl, e, by rw [l.length]; exact hz, k.wr m hp (l.append (.cons rv .nil)) .non q⟩
  · exact q.elim
/-- xs.pop() -/
def rPopD : DMt := fun x ds M Q => match x, ds with
  | .ref p, [] => ∃ xs y, M p = some (.lst (xs ++ [y])) ∧ Q y (updD M p (.lst xs))
  | .ref p, [.int i] => ∃ xs k y, M p = some (.lst xs) ∧ -(2 ^ 63) ≤ i ∧ i < 2 ^ 63 ∧ seqIndex? i xs.length = some k ∧ xs[k]? = some y ∧ Q y (updD M p (.lst (xs.eraseIdx k)))
  | _, _ => False
theorem dm_pop : DMeth X "list" "list.pop" rPopD isLst := by
  refine ⟨_, _, (show MtR X "list.pop" (fun x xs H Q => rPop x xs H Q ∨ rPopAt x xs H Q) from fun pins s σ H x xs v us Q I rx rs h => h.elim (mt_pop pins s σ H x xs v us Q I rx rs) (mt_popAt pins s σ H x xs v us Q I rx rs)), fun H M x d xs ds Q0 Q m rx rs q k => ?_, ty_v, fun H M v d m r h => isLst_ok m r h⟩
  unfold rPopD at q
  split at q
  · obtain ⟨ws, y, hp, q⟩ := q
    cases rs
    rw [rx.refI]
    obtain ⟨vs, e, l⟩ := m.lst hp
    have hl := l.length
    obtain ⟨v, hv, rv⟩ := l.get (i := vs.length - 1) (d := y) (by rw [hl]; simp)
    refine .inl ⟨_, vs, v, rfl, rfl, e, hv, k.wr m hp ?_ rv q⟩
    have := l.dropLast
    simpa using this
  · obtain ⟨ws, j, y, hp, h1, h2, h3, h4, q⟩ := q
    obtain ⟨v, rfl, rv⟩ := rs.one
    rw [rx.refI, rv.intI]
    obtain ⟨vs, e, l⟩ := m.lst hp
    obtain ⟨z, hz, rz⟩ := l.get h4
    exact .inr ⟨_, vs, _, j, z, rfl, rfl, e, h1, h2, by rw [l.length]; exact h3, hz, k.wr m hp (l.eraseIdx j) rz q⟩
  · exact q.elim
/-- t.index(x), t a tuple on which no dict hangs, of texts -/
def isXtp (d : D) (_ : DHp) : Prop := ∃ ds, d = .xtp ds
def tyX (K : PySem.W.Frag) (x : V) (H : Hp) : Prop := ∃ a o ys, x = .ref a ∧ H a = some (.frz o (.tup ys)) ∧ o.dict = none
theorem ty_x : TyOk X "tuple" (tyX X.K) := by
  intro pins σ H s x v I r ty
  obtain ⟨a, o, ys, rfl, h, hd⟩ := ty
  obtain rfl : v = Value.ref a := r
  obtain ⟨e, _, its, _, o', e', hc, _⟩ := I.hok a _ h
  rw [e] at e'
  cases e'
  exact ⟨⟨o, e, hc⟩, fun b eb => by cases eb; exact ⟨o, e, hd⟩⟩
def rTIndexD : DMt := fun x ds M Q => match x, ds with
  | .xtp xs, [.str z] => ∃ (ys : List Str) (j : Nat), xs = ys.map D.str ∧ ys[j]? = some z ∧ (∀ m, m < j → ys[m]? ≠ some z) ∧ Q (.int (j : Nat)) M
  | _, _ => False
theorem dm_tindex : DMeth X "tuple" "tuple.index" rTIndexD isXtp := by
  refine ⟨_, _, mt_tup_index, fun H M x d xs ds Q0 Q m rx rs q k => ?_, ty_x, fun H M v d m r h => ?_⟩
  · unfold rTIndexD at q
    split at q
    · obtain ⟨ys, j, rfl, h1, h2, q⟩ := q
      obtain ⟨v, rfl, rv⟩ := rs.one
      obtain ⟨a, vs, o, rfl, f, e, n, l⟩ := rx.xtpI
      rw [rv.strI]
      rw [l.strs] at f
      exact ⟨a, ys, _, j, rfl, rfl, .inl (.inr ⟨o, f⟩), h1, h2, k.here m (.int _) q⟩
    · exact q.elim
  · obtain ⟨ds, rfl⟩ := h
    obtain ⟨a, vs, o, rfl, f, e, n, l⟩ := r.xtpI
    exact ⟨a, o, vs, rfl, f, e⟩
end
end DL
end

section
set_option Elab.async false
set_option linter.all false
set_option maxRecDepth 100000
set_option maxHeartbeats 2000000
/-! DX1: own exceptions whose __init__ says super().__init__(f), then self.f = f. -/
namespace OEK
open PySem PySem.W PySem.Calls PyProof.Rows PySem.HandSPX
/-! ### the text -/
def iA1 (f : Str) (p1 p2 : Pos) : Arguments := { posonlyargs := [], args := [{ arg := "self", annotation := none, pos := p1 }, { arg := f, annotation := none, pos := p2 }], vararg := none, kwonlyargs := [], kw_defaults := [], kwarg := none, defaults := [] }
def iB1 (f : Str) (p0 p1 p2 p3 p4 p5 q1 q2 q3 q4 : Pos) : List Stmt := [.Expr (.Call (.Attribute (.Call (.Name "super" p0) [] [] p1) "__init__" p2) [.Name f p3] [] p4) p5, .Assign [.Attribute (.Name "self" q1) f q2] (.Name f q3) q4]
def iS1 (f : Str) : Scope := { kind := .function, names := [("self", .local), (f, .local), ("__class__", .free), ("super", .globalImplicit)], isGenerator := false, isCoroutine := false, more := [] }
/-- what is fixed of such a class, at C, its __init__ at fI, the cell of __class__ at cc -/
structure Txt (P : Program) (K : Frag) (mg : Str → Option Value) (x : Str) (C fI cc : Addr) : Prop where
  gC : mg x = some (.ref C)
  cls : ∃ nm q N bs bm sn sub ab col dd k0 k1 k2 k3 k5, K.lookup C = some (excClassObj nm q C N bs bm true sn sub ab col dd k0 k1 k2 k3 k5 "ValueError.__new__") ∧ refsVE bm = true
  sa : findIn K (.ref C) "__setattr__" = some (some (.builtin "object.__setattr__"))
  iC : findIn K (.ref C) "__init__" = some (some (.ref fI))
  tC : typeIn K (.ref fI) = some (.type "function")
  kC : keepIn K (.ref C) = true
  exC : subIn K (.ref C) (.type "BaseException") = some true
  veC : subIn K (.ref C) (.type "ValueError") = some true
  mrC : mroIn K C (.ref C) = some true
  tyC : typeIn K (.ref C) = some (.type "type")
  op : nsIn K cStatics "thirdparty.any" = some none
  su : ks_superIn K C C "__init__" = some (some (.builtin "ValueError.__init__"))
  cell : ∃ cl cld csl, K.lookup cc = some ⟨cl, cld, .cell (some (.ref C)), csl⟩
  nos : nsIn K mainGlobals "super" = some none
  top : (P.main.scope.names.lookup ("super" : Str)).isSome = false
/-- the call super().__init__(f) by its parts -/
def CallEq (f : Str) (r0 r1 r2 r3 r4 : Pos) : Prop := ∀ env : Env, ∃ pl : Sem Bool, eval (.Call (.Attribute (.Call (.Name "super" r0) [] [] r1) "__init__" r2) [.Name f r3] [] r4) env = (do
      let ov ← attributeBase (.Call (.Name "super" r0) [] [] r1) "__init__" env (eval (.Call (.Name "super" r0) [] [] r1) env)
      standAt r2.atName
      let (f', first) ← holding [ov] (getMethod ov "__init__" pl)
      callWith r4 f' first (backTo r4 (starEach [.Name f r3] env)) [])
/-- its __init__, of one field -/
structure Fn1 (P : Program) (K : Frag) (qual f : Str) (fI cc : Addr) : Prop where
  fn : ∃ (oc : Value) (od : Option Addr) (doc pm : Value) (an : Option Addr) (cda : Addr) (ct : Value) (osl : Array (Option Value)) (p1 p2 r0 r1 r2 r3 r4 r5 q1 q2 q3 q4 : Pos) (ccl : Value) (cdd : Option Addr) (vs : Array Value) (ccs : Array (Option Value)) (file : Str) (tf : Tok),
    K.lookup fI = some ⟨oc, od, .func (ksFn "__init__" qual (iA1 f p1 p2) (iB1 f r0 r1 r2 r3 r4 r5 q1 q2 q3 q4) (iS1 f) .none .none doc pm an (.ref cda) ct cc), osl⟩ ∧ codeIn K (.ref cda) qual = true ∧
    K.lookup cda = some ⟨ccl, cdd, .fields vs, ccs⟩ ∧ vs[2]? = some (.str file tf) ∧ ((P.main.file : Str) == file) = true ∧
    (∀ a v : Value, bindArgs (ksFn "__init__" qual (iA1 f p1 p2) (iB1 f r0 r1 r2 r3 r4 r5 q1 q2 q3 q4) (iS1 f) .none .none doc pm an (.ref cda) ct cc) ⟨[a, v], []⟩ = pure ([(PySem.Str.ofString "self", a), (f, v)] : List (Str × Value))) ∧
    CallEq f r0 r1 r2 r3 r4
theorem one_size (v : Value) : [v].length ≤ sizeLine := by
  rw [sizeLine_eq]
  exact (by decide : 1 ≤ 16777216)
section
variable {prog : Program} {w : World} {A : Around} {E : Value → Shared → Prop} {h : Heap} {g : Array GenState} {d : Drawn} {t : Nat} {os : OsState} {K : Frag} {mg mb : Str → Option Value} {x : Str} {C fI cc : Addr}
/-- super() -/
theorem super_base (T : Txt prog K mg x C fI cc) {body : List Stmt} {q : Str} {scope : Scope} {p0 p1 : Pos} {attr : Str} {whole : Sem Value} {fd : FuncData} {ar : Arg} {vs : Array Value} {file : Str} {tf : Tok} {oc ccl : Value} {od cdd : Option Addr} {osl ccs : Array (Option Value)} {L e cda : Addr} {m : Str → Option Value} {ox : Obj} {Q : Value → Shared → Prop}
    (X : K.In h) (G : h.Ns mainGlobals mg) (B : h.Ns builtinsNs mb) (hB : ∀ x : Str, x ≠ "__name__" → mb x = bootBuiltins x) (hns : h.Ns L m)
    (hf : K.lookup fI = some ⟨oc, od, .func fd, osl⟩) (hp : (fd.params.posonlyargs ++ fd.params.args).head? = some ar) (hv : m ar.arg = some (.ref e)) (he : h.get? e = some ox) (hec : ox.cls = .ref C) (hed : ∃ fs, ox.data = .fields fs)
    (hcode : K.lookup cda = some ⟨ccl, cdd, .fields vs, ccs⟩) (hvs : vs[2]? = some (.str file tf)) (hfile : ((prog.main.file : Str) == file) = true)
    (hat : (attr == ("__class__" : Str)) = false) (hks : scope.names.lookup ("super" : Str) = some .globalImplicit) (hkc : scope.names.lookup ("__class__" : Str) = some .free) (hka : scope.names.lookup ar.arg = some .local) (hk : scope.kind = .function)
    (hq : ∀ h', h'.get? h.objs.size = some (ks_superObj C e C) → (∀ y o, h.get? y = some o → h'.get? y = some o) → Q (.ref h.objs.size) ⟨h', g, d, t, os⟩) :
    _root_.PySem.wpAt (model prog w) A (.func body (ksEnv q scope L fI (.ref cda) cc)) (attributeBase (.Call (.Name "super" p0) [] [] p1) attr (ksEnv q scope L fI (.ref cda) cc) whole) Q E ⟨h, g, d, t, os⟩ := by
  obtain ⟨nm, qn, N, bs, bm, sn, sub, ab, col, dd, k0, k1, k2, k3, k5, hC, hbm⟩ := T.cls
  obtain ⟨cl, cld, csl, hcell⟩ := T.cell
  have hCg := X _ _ hC
  refine ks_wpAt_super_base (env := ksEnv q scope L fI (.ref cda) cc) hks hkc hat rfl (X _ _ hf) rfl hp rfl (X _ _ hcode) rfl hvs hfile T.top ?_
  refine ks_loadName_global hk hks (loadGlobal_builtin (env := ksEnv q scope L fI (.ref cda) cc) G (mg_none_of X G T.nos) B ((hB _ (by decide +kernel)).trans PyProof.Rows.Boot.«super») ⟨rfl, ?_⟩)
  refine wpAny_loadName_free hk hkc rfl ⟨_, X _ _ hcell, rfl⟩ ?_
  refine wpAny_loadName_local hk hka hns hv ?_
  refine ks_wpAny_isType_cls hCg rfl ⟨rfl, ?_⟩
  refine ks_wpAny_call_super hCg rfl he hec (fun c z => ?_) (looks_mroIn X T.mrC) hq
  obtain ⟨fs, hed⟩ := hed
  rw [hed] at z
  cases z
/-- the bound ValueError.__init__, called -/
theorem call_mw (T : Txt prog K mg x C fI cc) {e u t0 : Addr} {rest : List Value} {Q : Value → Shared → Prop} (X : K.In h) (he : h.get? e = some (excO C t0)) (hu : h.get? u = some (kxs_mw "ValueError.__init__" e)) (hz : rest.length ≤ sizeLine)
    (hq : ∀ h' t1, (∀ b o, b ≠ e → h.get? b = some o → h'.get? b = some o) → h'.get? e = some (excO C t1) → Q .none ⟨h', g, d, t, os⟩) : wpAny (model prog w) A (call (.ref u) rest) Q E ⟨h, g, d, t, os⟩ := by
  obtain ⟨nm, qn, N, bs, bm, sn, sub, ab, col, dd, k0, k1, k2, k3, k5, hC, hbm⟩ := T.cls
  refine wpAny_call (codeAny_of_tree ?_)
  show wpAny _ A.in1 (callAny (.ref u) ⟨rest, []⟩) _ _ _
  simp only [callAny]
  refine wpAny_bind (wpAny_load hu ?_)
  simp only [kxs_mw, show (Value.type "method-wrapper" == Value.type "method" || Value.type "method-wrapper" == Value.type "builtin_function_or_method" || Value.type "method-wrapper" == Value.type "method-wrapper") = true by decide, if_true]
  refine KFB.if_so (by decide) ?_
  refine wpAny_bind (check_bound_init F.excBase_ValueError.toExcCallFacts (X _ _ hC) he rfl ?_)
  refine wpAny_bind (wpAny_pure (wpAny_pure ?_))
  refine ⟨plainId_quiet F.excBase_ValueError.init.plain _, codeAny_builtin F.excBase_ValueError.initEntry ?_⟩
  exact exc_init_tree (cls := .ref C) (t0 := t0) (dv := none) (c2 := .none) (c3 := .none) (b4 := .bool false) he hz fun h' k e' _ => hq h' _ k e'
/-- what __init__ leaves of a fresh exception at e -/
structure InitEnd (h h' : Heap) (e C dx t1 : Addr) (ma : Str → Option Value) : Prop where
  keep : ∀ b o, b ≠ e → h.get? b = some o → h'.get? b = some o
  obj : h'.get? e = some { cls := .ref C, dict := some dx, data := .fields #[.ref t1, .none, .none, .none, .bool false, .none] }
  dbig : h.objs.size ≤ dx
  dne : dx ≠ e
  ns : h'.Ns1 dx ma
end
section
variable {prog : Program} {w : World} {A : Around} {E : Value → Shared → Prop} {R : Result → Shared → Prop} {s : Shared} {K : Frag} {mg mb : Str → Option Value} {x qual f : Str} {C fI cc : Addr}
theorem ldK {M : Model} {s : Shared} {q : Str} {scope : Scope} {L a cc : Addr} {cd : Value} {m : Str → Option Value} {x : Str} {pos : Pos} {v : Value} {Q : Value → Shared → Prop} {A : Around} {E : Value → Shared → Prop} (hn : s.heap.Ns L m) (hv : m x = some v) (h : Q v s)
    (hk : scope.kind = .function := by rfl) (hl : (ksEnv q scope L a cd cc).kindOf x = some .local) (hd : (x == ("__debug__" : Str)) = false) :
    wpAny M A (eval (.Name x pos) (ksEnv q scope L a cd cc)) Q E s := wpAny_Name (wpAny_loadName_local hk hl hn hv h) hd
/-- a name that may be a field's -/
structure FName (K : Frag) (C : Addr) (f : Str) : Prop where
  ns : (f == ("self" : Str)) = false
  nd : (f == ("__debug__" : Str)) = false
  nc : (f == ("__class__" : Str)) = false
  nu : (f == ("super" : Str)) = false
  no : findIn K (.ref C) f = some none
theorem own_init1 (T : Txt prog K mg x C fI cc) (FN : Fn1 prog K qual f fI cc) (N : FName K C f) {e t0 : Addr} {v : Value} (X : K.In s.heap) (hlim : s.heap.NoLimit) (G : s.heap.Ns mainGlobals mg) (B : s.heap.Ns builtinsNs mb) (hB : ∀ x : Str, x ≠ "__name__" → mb x = bootBuiltins x)
    (he : s.heap.get? e = some (excO C t0)) (hne : K.lookup e = none) (hge : mainGlobals ≠ e) (hroom : A.depth < recursionLimit)
    (hq : ∀ h' tk dx t1, InitEnd s.heap h' e C dx t1 (fun y => if y = f then some v else none) → R (.ok (.ret .none)) { s with heap := h', toks := tk }) :
    codeAny (model prog w) A (.call (.ref fI) ⟨[.ref e, v], []⟩) R s := by
  obtain ⟨oc, od, doc, pm, an, cda, ct, osl, p1, p2, r0, r1, r2, r3, r4, r5, q1, q2, q3, q4, ccl, cdd, vs, ccs, file, tf, ho, hcd, hcode, hvs, hfile, hbind, hcall⟩ := FN.fn
  obtain ⟨nm, q, Nn, bs, bm, sn, sub, ab, col, dd, k0, k1, k2, k3, k5, hC, hbm⟩ := T.cls
  have hcl : clsIn K C = some { name := nm, bases := bs, mro := .ref C :: bm, ns := Nn, qualname := q, hasDict := true, slotNames := sn, subclasses := sub, abstract := ab, collection := col, hasDel := false } := by unfold clsIn; rw [hC] <;> rfl
  have l1 : (iS1 f).names.lookup f = some .local := by simp [iS1, List.lookup, N.ns]
  have l2 : (iS1 f).names.lookup ("self" : Str) = some .local := by simp [iS1, List.lookup]
  have l3 : (iS1 f).names.lookup ("__class__" : Str) = some .free := by
    have := N.nc
    have z : (("__class__" : Str) == f) = false := by rw [beq_eq_false_iff_ne] at this ⊢; exact fun h => this h.symm
    simp [iS1, List.lookup, z, show (("__class__" : Str) == ("self" : Str)) = false from by decide]
  have l4 : (iS1 f).names.lookup ("super" : Str) = some .globalImplicit := by
    have := N.nu
    have z : (("super" : Str) == f) = false := by rw [beq_eq_false_iff_ne] at this ⊢; exact fun h => this h.symm
    simp [iS1, List.lookup, z, show (("super" : Str) == ("self" : Str)) = false from by decide, show (("super" : Str) == ("__class__" : Str)) = false from by decide]
  have m1 : (fun y => ([("self", .ref e), (f, v)] : List (Str × Value)).reverse.lookup y) f = some v := by simp [List.lookup]
  have m2 : (fun y => ([("self", .ref e), (f, v)] : List (Str × Value)).reverse.lookup y) "self" = some (.ref e) := by
    have := N.ns
    have z : (("self" : Str) == f) = false := by rw [beq_eq_false_iff_ne] at this ⊢; exact fun h => this h.symm
    simp [List.lookup, z]
  refine ks_codeAny_call_defAt (fd := ksFn "__init__" qual (iA1 f p1 p2) (iB1 f r0 r1 r2 r3 r4 r5 q1 q2 q3 q4) (iS1 f) .none .none doc pm an (.ref cda) ct cc) (body := iB1 f r0 r1 r2 r3 r4 r5 q1 q2 q3 q4) (binds := [("self", .ref e), (f, v)]) hroom (X _ _ ho) rfl hlim (codeRec_of X hcd) rfl
    (BindsTo.of_eq (hbind _ _)) (fun y hy => by
      simp only [ksFn, fnX, iS1, List.mem_cons, List.not_mem_nil, or_false] at hy
      rcases hy with rfl | rfl | rfl | rfl <;> exact fun z => nomatch z)
    (fun y hy => by
      simp only [List.mem_cons, List.not_mem_nil, or_false] at hy
      rcases hy with rfl | rfl
      · exact l2
      · exact l1)
    (fun h₁ hns k => ?_)
  obtain ⟨hp, g, d, tk, os⟩ := s
  have X₁ : K.In h₁ := X.keeps k
  have hx₁ := k _ _ he
  obtain ⟨pl, hcall⟩ := hcall (ksEnv qual (iS1 f) hp.objs.size fI (.ref cda) cc)
  refine ks_wpAt_execs_cons (ks_wpAt_Expr_any (ks_wpAt_MethodCall (pl := pl) ?_ hcall) (by rfl) (by rfl))
  refine super_base T (h := h₁) X₁ (G.keeps k) (B.keeps k) hB hns ho rfl m2 hx₁ rfl ⟨_, rfl⟩ hcode hvs hfile (by decide) l4 l3 l2 rfl fun h₂ e2 kk => ?_
  have X₂ : K.In h₂ := X₁.keeps kk
  have hI : InstAt h₂ e (excO C t0) C none := ⟨kk _ _ hx₁, rfl, rfl, trivial⟩
  have su := T.su
  unfold ks_superIn at su
  rw [hcl] at su
  refine kxs_getMethod kxs_ValueError e2 (looks_opaque X₂ T.op) (l₀ := .ref C :: bm) ?_ rfl X₂ su (hI.type.andThen (looks_subIn X₂ T.veC)) (ks_ne X₂ hI hcl) (by decide) ?_
  · exact fun A Q E s k q => wpAny_bind ((looks_clsIn X₂ hcl) A _ E s k (wpAny_pure q))
  have k3' : ∀ b o, h₂.get? b = some o → (h₂.push (kxs_mw "ValueError.__init__" e)).get? b = some o := fun b o q => Heap.get?_push_of_some _ q
  have hu : (h₂.push (kxs_mw "ValueError.__init__" e)).get? h₂.objs.size = some (kxs_mw "ValueError.__init__" e) := Heap.get?_push_size _ rfl
  have hns3 : (h₂.push (kxs_mw "ValueError.__init__" e)).Ns hp.objs.size _ := (hns.keeps kk).keeps k3'
  show wpAny _ _ (callWith r4 (.ref h₂.objs.size) [] (backTo r4 (starEach [.Name f r3] _)) []) _ _ _
  refine kxs_callWith (i := "ValueError.__init__") (x := e) (by rfl) (evalArgs_plain (Calls.spliced_cons ?_))
  refine ldK (v := v) hns3 m1 ?_ (hk := by rfl) (hl := l1) (hd := N.nd)
  refine Calls.spliced_nil ⟨hu, ?_⟩
  show wpAny _ _ (call (.ref h₂.objs.size) [v]) _ _ _
  refine call_mw T (X₂.keeps k3') (k3' _ _ hI.at_) hu (one_size v) fun h₄ t1 k4 e4 => ?_
  have hL : hp.objs.size ≠ e := Nat.ne_of_gt (Heap.lt_size he)
  have kAll : ∀ b o, b ≠ e → hp.get? b = some o → h₄.get? b = some o := fun b o hb z => k4 b o hb (k3' _ _ (kk _ _ (k _ _ z)))
  have X₄ : K.In h₄ := fun a o z => kAll a o (fun y => by rw [y, hne] at z; cases z) (X a o z)
  have hns4 : h₄.Ns hp.objs.size (fun y => ([("self", .ref e), (f, v)] : List (Str × Value)).reverse.lookup y) := hns3.at fun o z => k4 _ o hL z
  refine wpAt_of_wpAny ?_
  refine wpAny_execs_cons (plainObj_wpAny_Assign_Attribute ?_)
  refine ldK (v := v) hns4 m1 (ldK (v := .ref e) hns4 m2 ?_ (hk := by rfl) (hl := l2) (hd := by decide)) (hk := by rfl) (hl := l1) (hd := N.nd)
  refine set_plain X₄ (ox := excO C t1) (od := none) ⟨e4, rfl, rfl, trivial⟩ T.sa ?_
  refine exc_osa X₄ e4 hcl (show refsVE (.ref C :: bm) = true from hbm) rfl N.no (fun h₅ tk₅ dx k₅ dn dne hx₅ hn₅ => ?_)
  show wpAny _ _ (execs _ _) _ _ _
  have hz : hp.objs.size < h₄.objs.size := hns4.lt
  exact wpAny_execs_nil (hq h₅ tk₅ dx t1 ⟨fun b o hb z => k₅ b o hb (kAll b o hb z), hx₅, Nat.le_of_lt (Nat.lt_of_lt_of_le hz dn), dne, hn₅⟩)
end
end OEK
end

section
set_option Elab.async false
set_option linter.all false
set_option maxRecDepth 100000
set_option maxHeartbeats 2000000
/-! DX2: such an exception made, raised; over data. -/
namespace OEK
open PySem PySem.W PySem.Calls PyProof.Rows PySem.HandSPX
/-- a made one -/
structure Made (h h' : Heap) (e C d : Addr) (ma : Str → Option Value) : Prop where
  keep : ∀ b o, h.get? b = some o → h'.get? b = some o
  new : h.objs.size ≤ e
  obj : ∃ oe vs, h'.get? e = some oe ∧ oe.cls = .ref C ∧ oe.dict = some d ∧ oe.data = .fields vs ∧ vs[1]? = some .none
  dbig : h.objs.size ≤ d
  dne : d ≠ e
  ns : h'.Ns1 d ma
section
variable {prog : Program} {w : World} {A : Around} {E : Value → Shared → Prop} {R : Result → Shared → Prop} {s : Shared} {K : Frag} {mg mb : Str → Option Value} {x qual f : Str} {C fI cc : Addr}
theorem own_made1 (T : Txt prog K mg x C fI cc) (FN : Fn1 prog K qual f fI cc) (N : FName K C f) {v : Value} (X : K.In s.heap) (hlim : s.heap.NoLimit) (G : s.heap.Ns mainGlobals mg) (B : s.heap.Ns builtinsNs mb) (hB : ∀ x : Str, x ≠ "__name__" → mb x = bootBuiltins x) (hroom : A.depth + 1 < recursionLimit)
    (hq : ∀ h' tk e d, Made s.heap h' e C d (fun y => if y = f then some v else none) → R (.ok (.ret (.ref e))) { s with heap := h', toks := tk }) :
    codeAny (model prog w) A (.call (.ref C) ⟨[v], []⟩) R s := by
  obtain ⟨nm, q, Nn, bs, bm, sn, sub, ab, col, dd, k0, k1, k2, k3, k5, hC, hbm⟩ := T.cls
  obtain ⟨hp, g, dr, tk, os⟩ := s
  have k : ∀ b o, hp.get? b = some o → ((hp.push (kdv_tup [v])).push (excO C hp.objs.size)).get? b = some o := fun b o e => Heap.get?_push_of_some _ (Heap.get?_push_of_some _ e)
  have hget : ((hp.push (kdv_tup [v])).push (excO C hp.objs.size)).get? (hp.objs.size + 1) = some (excO C hp.objs.size) := by heap_get
  have hnx : K.lookup (hp.objs.size + 1) = none := by
    cases e : K.lookup (hp.objs.size + 1) with
    | none => rfl
    | some o =>
      have z : hp.get? (hp.objs.size + 1) = some o := X _ _ e
      exact absurd (Nat.lt_of_succ_lt (Heap.lt_size z)) (Nat.lt_irrefl _)
  have hge : mainGlobals ≠ hp.objs.size + 1 := Nat.ne_of_lt (Nat.lt_succ_of_lt G.lt)
  refine call_own F.excBase_ValueError (fun X => refsVE_contains X bm hbm) (X _ _ hC) (looks_findIn X T.iC) (fun self => bind_fn X self T.tC) (one_size v) ?_
  refine own_init1 (s := ⟨(hp.push (kdv_tup [v])).push (excO C hp.objs.size), g, dr, tk, os⟩) T FN N (X.keeps k) (hlim.keeps k) (G.keeps k) (B.keeps k) hB hget hnx hge ?_ fun h' tk' dx t1 ⟨k', hx, dn, dne, hns⟩ => ?_
  · show A.depth + 1 < recursionLimit
    exact hroom
  · have old : ∀ b o, hp.get? b = some o → h'.get? b = some o := fun b o e => k' b o (Nat.ne_of_lt (Nat.lt_succ_of_lt (Heap.lt_size e))) (k b o e)
    have z : hp.objs.size + 1 + 1 ≤ dx := by
      first
        | (simpa only [Heap.size_push] using dn)
        | exact dn
        | (have q := dn; rw [Heap.size_push, Heap.size_push] at q; exact q)
    exact ⟨rfl, hq h' tk' (hp.objs.size + 1) dx ⟨old, Nat.le_succ _, ⟨_, _, hx, rfl, rfl, rfl, rfl⟩, Nat.le_trans (Nat.le_trans (Nat.le_succ _) (Nat.le_succ _)) z, dne, hns⟩⟩
end
end OEK
namespace L2
open PySem PySem.Spec PyProof.Rows
theorem relO_one {v : V} {v' : Value} {g : Str} (r : RelV v v') (f : Str) : RelO (List.lookup f [(g, v)]) (if f = g then some v' else none) := by
  by_cases hw : f = g
  · subst hw
    rw [if_pos rfl]
    have q : List.lookup f [(f, v)] = some v := by simp [List.lookup]
    rw [q]
    exact r
  · rw [if_neg hw]
    have qw : (f == g) = false := by simpa using hw
    have q2 : List.lookup f [(g, v)] = none := by simp [List.lookup, qw]
    rw [q2]
    trivial
section
variable {X : Cx} {C fI cc : Addr} {x qual f : Str}
/-- x(e) -/
def tMkX (C : Addr) (f : Str) (ta : TA) : St → Hp → XK → Prop := fun σ H Q => ta σ H fun vs H1 => ∃ v, vs = [v] ∧ ∀ d, H1 d = none → Q (.ref C) (some d) (upd H1 d (.xd [(f, v)]))
theorem pmk_own1 {a : Expr} {ta : TA} {p pos : Pos} {k : Nat} (T : OEK.Txt X.prog X.K X.mg x C fI cc) (FN : OEK.Fn1 X.prog X.K qual f fI cc) (N : OEK.FName X.K C f) (hr : Room k X.A) (ha : PA X [a] ta) (hg : Gl X x) (hdb : (x == ("__debug__" : Str)) = false := by decide)
    (he : starEach (a :: []) X.env = (false, eval a X.env) :: starEach [] X.env := by rfl) (hpl : (backTo pos (starEach [] X.env)).any (·.1) = false := by rfl) :
    PMk X (.Call (.Name x p) [a] [] pos) (tMkX C f ta) := by
  intro pins s σ H Q I h
  refine wpAny_Call_Name_kw (ld_glob I hg T.gC ?_ hdb)
  refine PySem.W.callWith_K (h₀ := X.base) I.ok.mod.kin T.kC (thn (ha.run pos pins s σ H _ I h) fun us s1 hh => ?_) he hpl
  obtain ⟨vs, H1, I1, r1, v, ev, q1⟩ := hh
  subst ev
  refine ⟨I1.kIn, ?_⟩
  cases r1 with
  | cons rv rn =>
    rename_i v' us'
    cases rn
    show wpAny _ _ (call (.ref C) [v']) _ _ _
    have hlim := I1.nolimit
    have hkin := I1.kIn
    have hG := I1.mod.glob.keeps I1.bk
    obtain ⟨mb, hb0, hB⟩ := I1.mod.blt
    have hb := hb0.keeps I1.bk
    obtain ⟨hp, g, dr, tk, os⟩ := s1
    refine wpAny_call (OEK.own_made1 T FN N hkin hlim hG hb hB (by have := hr.dp; omega) fun h' tk' e d M => ?_)
    show MkP X pins σ Q (.ref e) ⟨h', g, dr, tk', os⟩
    obtain ⟨oe, fv, hoe, hc, hd, hdat, h1⟩ := M.obj
    have hns := M.ns
    obtain ⟨G', g1, g2⟩ := restrict h' fun b => decide (b ≠ e)
    have gk : ∀ b, b ≠ e → G'.get? b = h'.get? b := fun b hb => g1 b (decide_eq_true hb)
    have ge : G'.get? e = none := g2 e (by simp)
    have old : ∀ b o, hp.get? b = some o → G'.get? b = some o := fun b o q => (gk b (Nat.ne_of_lt (Nat.lt_of_lt_of_le (Heap.lt_size q) M.new))).trans (M.keep b o q)
    have ob : ObjOk X.prog X.w (upd H1 d (.xd [(f, v)])) G' d (.xd [(f, v)]) :=
      ⟨_, hns.at (fun o q => (gk d M.dne).trans q), fun g => relO_one rv g⟩
    have J : Inv X pins σ (upd H1 d (.xd [(f, v)])) ⟨G', g, dr, tk', os⟩ := I1.laid (t' := tk') old M.dbig ob
    refine ⟨e, oe, fv, ⟨G', g, dr, tk', os⟩, _, .ref C, some d, rfl, J, fun b o q => ?_, ge, hoe, ⟨hc, hd⟩, hdat, h1, ?_, rfl, I1.bare, raises_own T.exC T.tyC, q1 d (I1.hok.fresh M.dbig)⟩
    · by_cases hb : b = e
      · have q' : G'.get? b = some o := q
        rw [hb, ge] at q'; cases q'
      · exact (gk b hb).symm.trans q
    · rw [upd_ne (Ne.symm M.dne)]
      exact I1.hok.fresh M.new
end
end L2
namespace DL
open PySem PySem.Spec PyProof.Rows L2
/-- raise x(e), x an own class at C with one field -/
def dRaise1 (C : Addr) (f : Str) (ta : DTA) : DTS := fun _ δ M W => ta δ M (fun ds M1 => match ds with
  | [d] => W (.ref C) [(f, d)] δ M1
  | _ => False) W
section
variable {X : Cx} {W0 : WX} {C fI cc : Addr} {x qual f : Str} {a : Expr} {ta : DTA} {p pos pos2 : Pos} {k : Nat}
theorem ds_raise1 (hc : X.calm = true) (T : OEK.Txt X.prog X.K X.mg x C fI cc) (FN : OEK.Fn1 X.prog X.K qual f fI cc) (N : OEK.FName X.K C f) (hr : Room k X.A) (tk : Takes X W0) (ha : DA X W0 [a] ta) (hg : Gl X x := by rfl) (hdb : (x == ("__debug__" : Str)) = false := by decide)
    (he : starEach (a :: []) X.env = (false, eval a X.env) :: starEach [] X.env := by rfl) (hpl : (backTo pos (starEach [] X.env)).any (·.1) = false := by rfl) :
    DS X W0 (.Raise (some (.Call (.Name x p) [a] [] pos)) none pos2) (dRaise1 C f ta) :=
  .mk' (ps_raise hc tk (pmk_own1 T FN N hr ha.pa hg hdb he hpl)) fun D0 σ H δ M D' W at_ q k w => lfA.use at_ q (fun vs H1 ds M1 x m1 r1 q1 => by
    split at q1
    · obtain ⟨v, rfl, r⟩ := r1.one
      refine ⟨v, rfl, fun d hd => ?_⟩
      have y := Ext.laid (o := .xd [(f, v)]) m1 hd
      refine w (.ref C) (some d) σ _ _ δ M1 (x.trans y) (at_.s.ext (x.trans y)) (m1.laid hd) (.inr ⟨d, _, rfl, upd_same, m1.fresh hd, .cons ⟨rfl, r.ext y⟩ .nil⟩) q1
    · exact q1.elim) w
/-- what is never run -/
def dDead : DTS := fun _ _ _ _ => False
theorem ds_dead {st : Stmt} : DS X W0 st dDead := .mk' (t0 := fun _ _ _ => False) ⟨fun pins s σ H D I h => h.elim⟩ fun D0 σ H δ M D' W a q k w => q
def dDeadE : DTE := fun _ _ _ _ => False
theorem de_dead {e : Expr} : DE X W0 e dDeadE := .mk' (t0 := fun _ _ _ => False) ⟨fun pins s σ H D I h => h.elim⟩ fun σ H Q0 δ M Q W a q k w => q
end
end DL
end

section
set_option Elab.async false
set_option linter.all false
set_option maxRecDepth 100000
set_option maxHeartbeats 4000000
/-! DX3: isinstance of a caught own error that has a dict; try; e.f. -/
namespace PySem.W
open PySem PySem.Spec PySem.Calls PyProof.Rows
section
variable {prog : Program} {w : World} {A : Around} {E : Value → Shared → Prop} {s : Shared} {K : Frag} {x D : Addr} {ox : Obj} {od : Option Obj}
theorem dl_findObj {C : Addr} {name : Str} {a g : Value} (hc : (clsIn K C).isSome = true) (ha : findIn K (.ref C) name = some (some a)) (hg : specialIn K a "__get__" = some (some g)) (ht : takesIn K a = some true) : findObj K C od name = some (.bind g a) := by
  obtain ⟨cd, hc⟩ := Option.isSome_iff_exists.mp hc
  unfold findObj
  rw [hc, Option.bind_some, ha, Option.bind_some]
  simp [hg, ht]
theorem dl_kin_class {Q : Option Value → Shared → Prop} (hga : findIn K (.ref D) "__getattribute__" = some (some (.builtin "BaseException.__getattribute__"))) (hgt : findIn K (.ref D) "__getattr__" = some none) (hsub : subIn K (.ref D) (.type "BaseException") = some true)
    (hdct : hasDictIn K D = true) (ha : findIn K (.ref D) "__class__" = some (some (.builtin "object.__class__")))
    (hn : specialIn K (.builtin "object.__class__") "__get__" = some (some (.builtin "getset_descriptor.__get__"))) (htk : takesIn K (.builtin "object.__class__") = some true) (hm : mroIn K D (.type "object") = some true)
    (X : K.In s.heap) (I : InstAt s.heap x ox D od) (h : Q (some (.ref D)) { s with toks := s.toks + 1 }) : wpAny (model prog w) A (getAttr? (.ref x) "__class__") Q E s := by
  have hf : findObj K D od "__class__" = some (.bind (.builtin "getset_descriptor.__get__") (.builtin "object.__class__")) := dl_findObj (by obtain ⟨cd, hc, _⟩ := any_some hdct; rw [hc]; rfl) ha hn htk
  obtain ⟨hp, g, d, t, os⟩ := s
  have L0 := I.type (M := model prog w)
  have L1 := looks_findIn (M := model prog w) X hga
  have L2 := looks_findIn (M := model prog w) X hgt
  have L3 := looks_find (M := model prog w) X I hf
  have sub : Looks (model prog w) hp (isInstance (.ref x) (.type "BaseException")) true := L0.andThen (looks_subIn X hsub)
  have hx0 : (false && onTheHeap (Value.builtin "BaseException.__getattribute__")) = false := rfl
  have hx2 : (Value.builtin "BaseException.__getattribute__" == Value.builtin "object.__getattribute__") = false := by decide +kernel
  have hx1 : (onTheHeap (Value.ref D) && Value.builtin "BaseException.__getattribute__" == Value.builtin "object.__getattribute__") = false := by rw [hx2]; rfl
  unfold getAttr? getAttrBy? getAttrBy
  refine wpAny_bind (wpAny_mkText (wpAny_bind (wpAny_attempt (wpAny_holding (wpAny_bind (L0.at (wpAny_bind (L1.at ?_))))))))
  show wpAny _ _ (if (onTheHeap (Value.ref D) && Value.builtin "BaseException.__getattribute__" == Value.builtin "object.__getattribute__") = true then _ else _) _ _ _
  rw [hx1, if_neg Bool.false_ne_true]
  unfold getAttrByItsOwn hookBefore
  refine wpAny_bind ?_
  rw [if_pos (show onTheHeap (Value.ref D) = true from rfl)]
  refine L2.at ?_
  refine wpAny_bind (wpAny_attempt (wpAny_holding ?_))
  unfold callGetattribute
  rw [hx0, if_neg Bool.false_ne_true]
  unfold boundAndCalled
  rw [PySem.F.excAttr_ValueError.ga.bind (.ref x)]
  refine wpAny_bind (wpAny_pure ?_)
  show wpAny _ _ (call (.builtin "BaseException.__getattribute__") [.ref x, .str "__class__" t]) _ _ _
  refine wpAny_call (codeAny_call_builtin PySem.F.excAttr_ValueError.ga.plain PySem.F.entry_bexc_ga ?_)
  refine @check_slot (model prog w) _ _ ⟨hp, g, d, t + 1, os⟩ "BaseException.__getattribute__" "BaseException" "__getattribute__" (.ref x) [.str "__class__" t] [] _ (by decide +kernel) (by decide +kernel) sub (PySem.F.args_bexc_ga (.ref x) (.str "__class__" t)) ?_
  unfold Builtin.«object.__getattribute__»
  refine wpAny_bind (wpAny_of_eq (a := ((Value.ref x : Value), [Value.str "__class__" t])) (by first | rfl | (simp only [slotArgs]; rfl)) ?_)
  refine wpAny_bind (wpAny_pure (wpAny_bind (L0.at (wpAny_bind (L3.at ?_)))))
  show wpAny _ _ (holding [Value.builtin "object.__class__"] (call (.builtin "getset_descriptor.__get__") [.builtin "object.__class__", .ref x, .ref D]) >>= ret) _ _ _
  refine wpAny_bind (wpAny_holding (wpAny_call (class_get (s := ⟨hp, g, d, t + 1, os⟩) (ox := ox) (od := od) X I hm ?_)))
  refine wpAny_pure ?_
  show wpAny _ _ (handedOut (.ref D)) _ _ _
  rw [handedOut_of (v := .ref D) rfl]
  first
    | exact wpAny_pure (wpAny_pure h)
    | exact wpAny_pure h
    | exact wpAny_pure (wpAny_bind (wpAny_pure (wpAny_pure h)))
theorem dl_kitx (hga : findIn K (.ref D) "__getattribute__" = some (some (.builtin "BaseException.__getattribute__"))) (hgt : findIn K (.ref D) "__getattr__" = some none) (hsub : subIn K (.ref D) (.type "BaseException") = some true) (hdct : hasDictIn K D = true) (ha : findIn K (.ref D) "__class__" = some (some (.builtin "object.__class__")))
    (hn : specialIn K (.builtin "object.__class__") "__get__" = some (some (.builtin "getset_descriptor.__get__"))) (htk : takesIn K (.builtin "object.__class__") = some true) (hm : mroIn K D (.type "object") = some true) :
    KitX K (.ref x) (.ref D) (fun h => ∃ od, InstAt h x ox D od) where
  ty := fun _ _ _ ⟨_, I⟩ => I.type
  it := fun _ _ X _ => by
    obtain ⟨cdD, hcD, _⟩ := any_some hdct
    unfold clsIn at hcD
    split at hcD
    · rename_i c' d' cd' sl' ho
      intro A' Q' E' s' k q
      unfold isType loadHead
      exact wpAny_bind (wpAny_loadPart (k _ _ (X _ _ ho)) (wpAny_pure q))
    · cases hcD
  ne := fun h tp dd its n sl X htp => by
    obtain ⟨cdD, hcD, _⟩ := any_some hdct
    refine Bool.eq_false_iff.mpr fun q => ?_
    have e : D = tp := Value.ref.inj (beq_iff_eq.mp q)
    subst e
    unfold clsIn at hcD
    split at hcD
    · rename_i c' d' cd' sl' ho
      have z := (X _ _ ho).symm.trans htp
      cases z
    · cases hcD
  ca := fun X ⟨_, I⟩ k => dl_kin_class hga hgt hsub hdct ha hn htk hm X I k
end
end PySem.W
namespace L2
open PySem PySem.Spec PyProof.Rows
/-- isinstance(e, c), e the exception that the suite holds, with its dict at d -/
def rIsEd (K : PySem.W.Frag) (D a d : Addr) : List V → Hp → VK → Prop := fun xs H Q => ∃ (c : V) (cv : Value) (b : Bool) (fs : List (Str × V)), xs = [.ref a, c] ∧ (∀ u, RelV c u → u = cv) ∧ PySem.W.kitOne K (.ref D) cv = some b ∧ H d = some (.xd fs) ∧ Q (.bl b) H
theorem call_isEd {X : Cx} {a D d : Addr} {oe : Obj} {pn : List (Addr × Obj)} (C : ExcC X.K D) (hz : Zc (.ref D) (some d) oe) (hf : ∃ vs, oe.data = .fields vs) : CallR (X.suite a ((a, oe) :: pn)) (.builtin "isinstance") (rIsEd X.K D a d) := by
  intro pins s σ H xs us Q I r h
  obtain ⟨c, cv, b, fs, rfl, hcv, e, hd, q⟩ := h
  cases r with
  | cons rx rr =>
    cases rr with
    | cons rt rr =>
      cases rr
      cases rx
      have ec := hcv _ rt
      subst ec
      obtain ⟨hget, _⟩ := I.pin (a, oe) (List.mem_append.mpr (.inl List.mem_cons_self))
      obtain ⟨mA, hns, hr⟩ := I.hok d _ hd
      obtain ⟨od, ho, hl⟩ := lookIn_ns hns
      obtain ⟨vs, hv⟩ := hf
      have J : ∃ o, PySem.W.InstAt s.heap a oe D o := ⟨some od, hget, hz.1, by unfold PySem.W.notCls; rw [hv] <;> rfl, by rw [hz.2]; exact ho⟩
      exact PySem.W.kia_one (PySem.W.dl_kitx C.hg C.hk C.hs C.hd C.ha C.hn C.ht C.hm) I.kIn J e (fun z => nomatch z) fun tk => ⟨.bl b, H, I.kept (t' := tk) fun _ _ z => z, rfl, q⟩
end L2
end

section
set_option Elab.async false
set_option linter.all false
set_option maxRecDepth 100000
set_option maxHeartbeats 2000000
/-! DX4: try .. except x as e; e.f; isinstance(e, C); x(lambda: ..). -/
namespace DL
open PySem PySem.Spec PyProof.Rows L2
theorem RepS.unset {K : PySem.W.Frag} {M : DHp} {H : Hp} {σ : L2.St} {δ : DSt} (r : RepS K H M σ δ) (i : Nat) : RepS K H M (σ.set i none) (δ.set i none) := by
  refine ⟨by rw [List.length_set, List.length_set]; exact r.len, fun j e h => ?_⟩
  by_cases hj : i = j
  · subst hj
    by_cases hi : i < δ.length
    · rw [List.getElem?_set_self hi] at h
      cases h
    · rw [List.getElem?_eq_none (by rw [List.length_set]; omega)] at h
      cases h
  · rw [List.getElem?_set_ne hj] at h ⊢
    exact r.at_ j e h
/-- an exception as data, in the suite that holds it -/
abbrev excD (a : Addr) (d : Option Addr) (gs : List (Str × D)) : D := .exc a d (gs.map (·.1)) (gs.map (·.2))
theorem RepF.names {K : PySem.W.Frag} {M : DHp} {H : Hp} : ∀ {fs : List (Str × V)} {gs : List (Str × D)}, RepF K H M fs gs → fs.map (·.1) = gs.map (·.1) ∧ RepL K H M (fs.map (·.2)) (gs.map (·.2))
  | _, _, .nil => ⟨rfl, .nil⟩
  | _, _, .cons r t => by
    obtain ⟨h1, h2⟩ := RepF.names t
    exact ⟨by rw [List.map_cons, List.map_cons, r.1, h1], .cons r.2 h2⟩
theorem XRep.rep {K : PySem.W.Frag} {M : DHp} {H : Hp} {pd : Option Addr} {gs : List (Str × D)} (a : Addr) (r : XRep K H M pd gs) : Rep K H M (.ref a) (excD a pd gs) := by
  rcases r with ⟨rfl, rfl⟩ | ⟨d, fs, rfl, h, n, f⟩
  · exact .exc0 a
  · obtain ⟨e, l⟩ := f.names
    show Rep K H M (.ref a) (.exc a (some d) (gs.map (·.1)) (gs.map (·.2)))
    rw [← e]
    exact .exc1 h n l
def dTryAs (K : PySem.W.Frag) (c : Value) (i : Nat) (tb : DTS) (ts : Addr → Value → Option Addr → DTS) : DTS := fun D δ M W =>
  tb D δ M (fun cls gs δ' M' => ∃ b, PySem.W.exmOne K cls c = some b ∧
    (b = true → ∀ a d, (gs ≠ [] → d ≠ none) → ts a cls d { nx := fun δ2 M2 => D.nx (δ2.set i none) M2, rt := D.rt, bk := fun δ2 M2 => D.bk (δ2.set i none) M2, ct := fun δ2 M2 => D.ct (δ2.set i none) M2 } (δ'.set i (some (excD a d gs))) M' WN) ∧
    (b = false → W cls gs δ' M'))
section
variable {X : Cx} {W0 : WX} {x n : Str} {c : Value} {i : Nat} {body suite : List Stmt} {b₀ : Stmt} {np pos pos' : Pos} {tb : DTS} {ts : Addr → Value → Option Addr → DTS}
theorem ds_try_as (hs : X.stack = X.env :: X.outer) (hf : X.env.frame = some X.env.locals) (hN : X.N.Nodup) (hi : X.N[i]? = some n) (hln : X.env.kindOf n = some .local) (hc : Names X x c) (tk : Takes X W0)
    (hb : ∀ (W : WX) (pn : List (Addr × Obj)) (xe : Value → Shared → Prop), Takes (X.tr pn xe) W → PassesOwn (model X.prog X.w) X.A X.env xe → DSs (X.tr pn xe) W body tb)
    (hsu : ∀ (a : Addr) (oe : Obj) (cls : Value) (d : Option Addr) (pn : List (Addr × Obj)), Zc cls d oe → (∃ vs, oe.data = .fields vs) → DSs (X.suite a ((a, oe) :: pn)) WF (b₀ :: suite) (ts a cls d)) :
    DS X W0 (.Try body [.ExceptHandler (some (.Name x np)) (some n) (b₀ :: suite) pos'] [] [] pos) (dTryAs X.K c i tb ts) :=
  .mk' (ps_try_as (tb := fun W => lfS X.K W tb) (ts := fun a cls d => lfS X.K WF (ts a cls d)) hs hf hN hi hln hc tk (fun W pn xe t p => (hb W pn xe t p).pss) (fun a oe cls d pn z f => (hsu a oe cls d pn z f).pss))
    fun D0 σ H δ M D' W a q k w => by
      refine lfS.use a q k fun cls pd σ' H' gs δ' M' x s m r ⟨b, e, y, n⟩ => ⟨b, e, fun hb a na => ?_, fun hb => w cls pd σ' H' gs δ' M' x s m r (n hb)⟩
      refine lfS.use ⟨s.set i (r.rep a), m⟩ (y hb a pd (fun ne => by
        rcases r with ⟨_, e⟩ | ⟨dd, fs, e, _⟩
        · exact absurd e ne
        · rw [e]; exact fun z => nomatch z)) ⟨?_, k.rt.ext x, ?_, ?_⟩ fun c pd σ' H' gs δ' M' _ _ _ _ z => z
      · exact fun σ2 H2 δ2 M2 x2 a2 q2 => k.nx _ H2 _ M2 (x.trans x2) ⟨a2.s.unset i, a2.m⟩ q2
      · exact fun σ2 H2 δ2 M2 x2 a2 q2 => k.bk _ H2 _ M2 (x.trans x2) ⟨a2.s.unset i, a2.m⟩ q2
      · exact fun σ2 H2 δ2 M2 x2 a2 q2 => k.ct _ H2 _ M2 (x.trans x2) ⟨a2.s.unset i, a2.m⟩ q2
/-- e.f -/
def dXf (a : Addr) (cls : Value) (d : Option Addr) (C : Addr) (f : Str) (te : DTE) : DTE := fun δ M Q W => te δ M (fun x M1 => match x with
  | .exc a' d' ns vs => a' = a ∧ d' = d ∧ cls = .ref C ∧ d ≠ none ∧ ∃ v, (ns.zip vs).lookup f = some v ∧ Q v M1
  | _ => False) W
theorem RepL.field {K : PySem.W.Frag} {M : DHp} {H : Hp} {f : Str} {v : D} : ∀ {fs : List (Str × V)} {ds : List D}, RepL K H M (fs.map (·.2)) ds → ((fs.map (·.1)).zip ds).lookup f = some v → ∃ u, fs.lookup f = some u ∧ Rep K H M u v
  | [], ds, r, e => by simp at e
  | (g, w) :: fs, ds, r, e => by
    cases r with
    | cons r t =>
      simp only [List.map_cons, List.zip_cons_cons, List.lookup_cons] at e ⊢
      cases hb : f == g with
      | true =>
        rw [hb] at e
        simp only at e ⊢
        cases e
        exact ⟨w, rfl, r⟩
      | false =>
        rw [hb] at e
        simp only at e ⊢
        exact RepL.field t e
theorem de_xf {a C : Addr} {oe : Obj} {cls : Value} {d : Option Addr} {pn : List (Addr × Obj)} {e : Expr} {te : DTE} {pos : Pos} {n : Str} (T : XfC X.K C) (hno : PySem.W.findIn X.K (.ref C) n = some none)
    (hz : Zc cls d oe) (hf : ∃ vs, oe.data = .fields vs) (he : DE (X.suite a ((a, oe) :: pn)) W0 e te) (hb : attributeBase e n X.env (eval e X.env) = eval e X.env := by rfl) :
    DE (X.suite a ((a, oe) :: pn)) W0 (.Attribute e n pos) (dXf a cls d C n te) :=
  .mk' (pe_xf T hno hz hf he.pe hb) fun σ H Q0 δ M Q W at_ q k w => lfE.use at_ q (fun v H1 x M1 y m1 r1 q1 => by
    split at q1
    · obtain ⟨rfl, rfl, hc, hd, u, hl, q1⟩ := q1
      cases r1 with
      | exc0 => exact absurd rfl hd
      | exc1 f nn l =>
        obtain ⟨z, hz, rz⟩ := l.field hl
        exact ⟨rfl, hc, _, _, z, rfl, f, hz, k z H1 u M1 y m1 rz q1⟩
    · exact q1.elim) w
/-- isinstance(e, C) -/
def rIsXD (K : PySem.W.Frag) (a : Addr) (cls : Value) (d : Option Addr) : DRs := fun ds M Q => match ds with
  | [.exc a' d' _ _, .ref c] => a' = a ∧ d' = d ∧ ∃ (D : Addr) (b : Bool), cls = .ref D ∧ ExcC K D ∧ PySem.W.kitOne K (.ref D) (.ref c) = some b ∧ Q (.bl b) M
  | _ => False
theorem dc_isX {a : Addr} {oe : Obj} {cls : Value} {d : Option Addr} {pn : List (Addr × Obj)} (hz : Zc cls d oe) (hf : ∃ vs, oe.data = .fields vs) : DCall (X.suite a ((a, oe) :: pn)) (.builtin "isinstance") (rIsXD X.K a cls d) := by
  refine ⟨fun xs H Q => (∃ D dd, cls = .ref D ∧ d = some dd ∧ ExcC X.K D ∧ rIsEd X.K D a dd xs H Q) ∨ ∃ D, cls = .ref D ∧ d = none ∧ ExcC X.K D ∧ rIsE X.K D a xs H Q, ?_, fun H M vs ds Q0 Q m r q k => ?_⟩
  · intro pins s σ H xs us Q I r h
    rcases h with ⟨D, dd, rfl, rfl, c, h⟩ | ⟨D, rfl, rfl, c, h⟩
    · exact call_isEd c hz hf pins s σ H xs us Q I r h
    · exact call_isE c hz hf pins s σ H xs us Q I r h
  · unfold rIsXD at q
    split at q
    · obtain ⟨v, w, rfl, r1, r2⟩ := r.two
      obtain ⟨rfl, rfl, D, b, hc, ec, hk, q⟩ := q
      rw [r2.refI]
      cases r1 with
      | exc0 => exact .inr ⟨D, hc, rfl, ec, .ref _, _, b, rfl, fun u hu => hu, hk, k.here m (.bl b) q⟩
      | exc1 f nn l => exact .inl ⟨D, _, hc, rfl, ec, .ref _, _, b, _, rfl, fun u hu => hu, hk, f, k.here m (.bl b) q⟩
    · exact q.elim
end
/-! ### x(lambda: ..) -/
/-- what a def makes of the code that it got -/
abbrev DAct := DHp → DVK → DXK → Prop
abbrev DHrd := DAct → DHp → DVK → Prop
def actOk (K : PySem.W.Frag) (vs : List V) (xs : List D) (act : DAct) (tl : XK → Hp → VK → Prop) : Prop := ∀ M1 H1 Qa Ea Q0 E0, RepM K H1 M1 → RepL K H1 M1 vs xs → act M1 Qa Ea → OkV K M1 H1 Qa Q0 → OkX K M1 H1 Ea E0 → tl E0 H1 Q0
/-- .. as the hand layer has it -/
def lfHrd (K : PySem.W.Frag) (t : DHrd) : (XK → Hp → VK → Prop) → Hp → VK → Prop := fun tl H Q0 => ∃ M Q act vs xs, RepM K H M ∧ RepL K H M vs xs ∧ t act M Q ∧ OkV K M H Q Q0 ∧ actOk K vs xs act tl
/-- a(), in the def that got the code: slot 0; of its own slots nothing is known where it lets an exception out -/
def dAct (f c : Addr) (q : Str) (vs : List V) (xs : List D) (act : DAct) : DTE := fun δ M Q W => match (δ[0]? : Option (Option D)) with
  | some (some (D.lam f' c' q' vs' xs')) => f' = f ∧ c' = c ∧ q' = q ∧ vs' = vs ∧ xs' = xs ∧ act M Q (fun cl gs M' => W cl gs (List.replicate δ.length none) M')
  | _ => False
/-- the table is where it should be, and there is no other one -/
def TblsOk (T : List (Addr × Str)) (M : DHp) : Prop := (∀ a q, M a = some (.tbl q) → (a, q) ∈ T) ∧ ∀ p ∈ T, M p.1 = some (.tbl p.2)
def dLam (T : List (Addr × Str)) (t : DHrd) (tb : DTE) : DTE := fun δ M Q W => TblsOk T M ∧ t (fun M1 Qa Ea => tb δ M1 Qa (fun cl gs _ M' => Ea cl gs M')) M Q
theorem lam_ext {K : PySem.W.Frag} {T : List (Addr × Str)} {H H1 : Hp} {M : DHp} (m : RepM K H M) (t : TblsOk T M) (e : LamX.ExtN H H1) (tb : LamX.Tabs T H1) : Ext M H M H1 ∧ RepM K H1 M := by
  have x : Ext M H M H1 := ⟨fun a o h n nt => ⟨e a o h nt, n⟩, fun a h => by
    obtain ⟨o, ho, hz⟩ := m a _ h
    exact ⟨(e a _ ho hz.1).trans ho.symm, h⟩⟩
  have fr : ∀ c q, H1 c = some (LamX.CodeO c q) → M c = none := fun c q h => by
    cases z : M c with
    | none => rfl
    | some mo =>
      have y := m c mo z
      cases mo with
      | lst ds =>
        obtain ⟨xs, h', _⟩ := y
        have := e _ _ h' (fun _ z => nomatch z)
        rw [h] at this
        unfold LamX.CodeO at this
        cases this
      | ins C gs =>
        obtain ⟨dx, fs, h', _⟩ := y
        have := e _ _ h' (fun _ z => nomatch z)
        rw [h] at this
        unfold LamX.CodeO at this
        cases this
      | tbl q' =>
        obtain ⟨ps, h', _⟩ := tb (c, q') (t.1 c q' z)
        rw [h] at h'
        unfold LamX.CodeO at h'
        cases h'
      | busy =>
        obtain ⟨o, h', z⟩ := y
        have := e _ _ h' z.1
        rw [h] at this
        exact absurd (Option.some.inj this).symm (z.2 c q)
      | dK kvs =>
        obtain ⟨xs, h', _⟩ := y
        have := e _ _ h' (fun _ z => nomatch z)
        rw [h] at this
        unfold LamX.CodeO at this
        cases this
      | dT kvs =>
        obtain ⟨xs, h', _⟩ := y
        have := e _ _ h' (fun _ z => nomatch z)
        rw [h] at this
        unfold LamX.CodeO at this
        cases this
  refine ⟨x, fun a mo h => ?_⟩
  have q := m a mo h
  cases mo with
  | lst ds => obtain ⟨xs, h', l⟩ := q; exact ⟨xs, e _ _ h' (fun _ z => nomatch z), l.ext x⟩
  | ins C gs => obtain ⟨dx, fs, h', l⟩ := q; exact ⟨dx, fs, e _ _ h' (fun _ z => nomatch z), l.ext x⟩
  | tbl q' =>
    obtain ⟨ps, h1, h2, h3⟩ := tb (a, q') (t.1 a q' h)
    refine ⟨ps, h1, h2, fun pos cv hc => ?_⟩
    obtain ⟨c, e1, e2⟩ := h3 pos cv hc
    exact ⟨c, e1, e2, fr c q' e2⟩
  | busy => obtain ⟨o, h', z⟩ := q; exact ⟨o, e _ _ h' z.1, z⟩
  | dK kvs => obtain ⟨xs, h', l⟩ := q; exact ⟨xs, e _ _ h' (fun _ z => nomatch z), l.ext x⟩
  | dT kvs => obtain ⟨xs, h', l⟩ := q; exact ⟨xs, e _ _ h' (fun _ z => nomatch z), l.ext x⟩
end DL
end

section
set_option Elab.async false
set_option linter.all false
set_option maxRecDepth 100000
set_option maxHeartbeats 2000000
/-! DX5: a lambda handed to a def. -/
namespace DL
open PySem PySem.Spec PyProof.Rows L2
/-! ### what a lambda sees -/
def capV : L2.St → DSt → List V
  | some v :: σ, some _ :: δ => v :: capV σ δ
  | some _ :: σ, none :: δ => capV σ δ
  | none :: σ, _ :: δ => capV σ δ
  | _, _ => []
def capD : L2.St → DSt → List D
  | some _ :: σ, some d :: δ => d :: capD σ δ
  | some _ :: σ, none :: δ => capD σ δ
  | none :: σ, _ :: δ => capD σ δ
  | _, _ => []
theorem RepS.tail {K : PySem.W.Frag} {H : Hp} {M : DHp} {o : Option V} {p : Option D} {σ : L2.St} {δ : DSt} (r : RepS K H M (o :: σ) (p :: δ)) : RepS K H M σ δ :=
  ⟨by have := r.len; simpa using this, fun i d e => by obtain ⟨v, h1, h2⟩ := r.at_ (i + 1) d (by simpa using e); exact ⟨v, by simpa using h1, h2⟩⟩
theorem RepS.cap {K : PySem.W.Frag} {H : Hp} {M : DHp} : ∀ {σ : L2.St} {δ : DSt}, RepS K H M σ δ → RepL K H M (capV σ δ) (capD σ δ) ∧ ∀ H' M', RepL K H' M' (capV σ δ) (capD σ δ) → RepS K H' M' σ δ
  | [], [], r => ⟨.nil, fun H' M' _ => ⟨rfl, fun i d e => by simp at e⟩⟩
  | [], p :: δ, r => by have := r.len; simp at this
  | o :: σ, [], r => by have := r.len; simp at this
  | o :: σ, p :: δ, r => by
    obtain ⟨h1, h2⟩ := RepS.cap r.tail
    cases p with
    | none =>
      have e1 : capV (o :: σ) (none :: δ) = capV σ δ := by cases o <;> rfl
      have e2 : capD (o :: σ) (none :: δ) = capD σ δ := by cases o <;> rfl
      rw [e1, e2]
      refine ⟨h1, fun H' M' q => ⟨r.len, fun i d e => ?_⟩⟩
      cases i with
      | zero => simp at e
      | succ i =>
        obtain ⟨v, a, b⟩ := (h2 H' M' q).at_ i d (by simpa using e)
        exact ⟨v, by simpa using a, b⟩
    | some d0 =>
      obtain ⟨v0, a0, b0⟩ := r.at_ 0 d0 (by simp)
      have eo : o = some v0 := by simpa using a0
      subst eo
      refine ⟨.cons b0 h1, fun H' M' q => ?_⟩
      cases q with
      | cons q0 q =>
        refine ⟨r.len, fun i d e => ?_⟩
        cases i with
        | zero =>
          have : d0 = d := by simpa using e
          subst this
          exact ⟨v0, rfl, q0⟩
        | succ i =>
          obtain ⟨v, a, b⟩ := (h2 H' M' q).at_ i d (by simpa using e)
          exact ⟨v, by simpa using a, b⟩
theorem takes_len {X : Cx} {W : WX} (t : Takes X W) : Takes X (fun c d σ H => σ.length = X.N.length → W c d σ H) := fun u s' ⟨a, B, sI, pins, σ, H, cls, d, e, I, nb, up, sky, na, os, ag, w⟩ =>
  t u s' ⟨a, B, sI, pins, σ, H, cls, d, e, I, nb, up, sky, na, os, ag, w I.len⟩
theorem repS_blank {K : PySem.W.Frag} {H : Hp} {M : DHp} {σ : L2.St} {n : Nat} (h : σ.length = n) : RepS K H M σ (List.replicate n none) :=
  ⟨by simpa using h, fun i d e => by rw [List.getElem?_replicate] at e; split at e <;> cases e⟩
/-- a(), in the def -/
theorem de_act {Z : Cx} {W : WX} {f c : Addr} {q : Str} {vs : List V} {xs : List D} {act : DAct} {tl : XK → Hp → VK → Prop} {call : Expr} (hact : ∀ E : XK, (∀ cls d σ H, E cls d H → σ.length = Z.N.length → W cls d σ H) → PE Z call (fun σ H Q => σ[0]? = some (some (.ref f)) ∧ H c = some (LamX.CodeO c q) ∧ tl E H Q))
    (ok : actOk Z.K vs xs act tl) : DE Z W call (dAct f c q vs xs act) := by
  have P : PE Z call (fun σ H Q => σ.length = Z.N.length → σ[0]? = some (some (.ref f)) ∧ H c = some (LamX.CodeO c q) ∧ tl (fun cls d H' => ∀ σ' : L2.St, σ'.length = Z.N.length → W cls d σ' H') H Q) :=
    ⟨fun pins s σ H Q I h => (hact _ (fun cls d σ H h hl => h σ hl)).run pins s σ H Q I (h I.len)⟩
  refine .mk' P fun σ H Q0 δ M Q W' a qq k w hl => ?_
  unfold dAct at qq
  split at qq
  · rename_i f' c' q' vs' xs' e
    obtain ⟨rfl, rfl, rfl, rfl, rfl, qq⟩ := qq
    obtain ⟨v, e1, r⟩ := a.s.at_ 0 _ e
    cases r with
    | lam hc n l =>
      refine ⟨e1, hc, ok M H _ _ _ _ a.m l qq k fun c pd H' gs M' x m r q σ' hl' => ?_⟩
      exact w c pd σ' H' gs _ M' x (repS_blank (by rw [hl', ← hl, a.s.len])) m r q
  · exact qq.elim
theorem RepM.code_none {K : PySem.W.Frag} {H : Hp} {M : DHp} (m : RepM K H M) {c : Addr} {q : Str} (h : H c = some (LamX.CodeO c q)) : M c = none := by
  cases z : M c with
  | none => rfl
  | some mo =>
    have y := m c mo z
    cases mo with
    | lst ds => obtain ⟨xs, h', _⟩ := y; rw [h] at h'; unfold LamX.CodeO at h'; cases h'
    | ins C gs => obtain ⟨dx, fs, h', _⟩ := y; rw [h] at h'; unfold LamX.CodeO at h'; cases h'
    | tbl q' => obtain ⟨ps, h', _⟩ := y; rw [h] at h'; unfold LamX.CodeO at h'; cases h'
    | busy => obtain ⟨o, h', z⟩ := y; rw [h] at h'; exact absurd (Option.some.inj h').symm (z.2 c q)
    | dK kvs => obtain ⟨xs, h', _⟩ := y; rw [h] at h'; unfold LamX.CodeO at h'; cases h'
    | dT kvs => obtain ⟨xs, h', _⟩ := y; rw [h] at h'; unfold LamX.CodeO at h'; cases h'
/-- the context of the def that got the code -/
abbrev hrdCx (X : Cx) (Ng : List Str) (x : Str) (sg : Scope) (g : Addr) (cdg : Value) (s : Shared) (H : Hp) : Cx := (cxOf C8.CX0 X.prog X.w X.K X.mg X.base Ng x sg g cdg X.A X.stack s H C8.E0).nox
section
variable {X : Cx} {W0 : WX}
theorem gives_of {Ng : List Str} {x a qn : Str} {sg : Scope} {g : Addr} {cdg : Value} {bg : List Stmt} {t : DHrd} {tb : DTE → DTS} (hN0 : 0 < Ng.length)
    (hder : ∀ (s : Shared) (H : Hp) (ta : DTE), (∀ (W : WX) (pn : List (Addr × Obj)) (xe : Value → Shared → Prop) (p1 p2 : Pos), Takes ((hrdCx X Ng x sg g cdg s H).tr pn xe) W → DE ((hrdCx X Ng x sg g cdg s H).tr pn xe) W (.Call (.Name a p1) [] [] p2) ta) → DSs (hrdCx X Ng x sg g cdg s H) WF bg (tb ta))
    (hbody : ∀ act M Q f c vs xs, t act M Q → tb (dAct f c qn vs xs act) { nx := fun _ M' => Back M Q .non M', rt := Back M Q } (startD Ng.length [.lam f c qn vs xs]) M WN) : LamX.GivesTo X Ng x sg g cdg bg a qn (lfHrd X.K t) := by
  intro f c s H Q0 tl hact hc hT
  obtain ⟨M, Q, act, vs, xs, m, l, q, k, ok⟩ := hT
  refine ⟨_, (hder s H (dAct f c qn vs xs act) fun W pn xe p1 p2 tk => de_act (fun E hE => ?_) ok).pss, ?_⟩
  · exact hact (fun cls d σ H => σ.length = Ng.length → W cls d σ H) pn xe E p1 p2 (takes_len tk) hE
  · have hs : RepS X.K H M (L2.start Ng [.ref f]) (startD Ng.length [.lam f c qn vs xs]) := repS_start (.cons (.lam hc (m.code_none hc) l) .nil)
    refine lfS.use ⟨hs, m⟩ (hbody act M Q f c vs xs q) ⟨fun σ' H' δ' M' x a q => k.back _ H' _ M' x a.m .non q, k.back, fun _ _ _ _ _ _ z => z.elim, fun _ _ _ _ _ _ z => z.elim⟩ fun c pd σ' H' gs δ' M' _ _ _ _ z => z
theorem de_lamcall {T : List (Addr × Str)} {t : DHrd} {tb : DTE} {x a : Str} {g c P : Addr} {k : Nat} {pg : Arguments} {bg : List Stmt} {sg : Scope} {fd : FuncData} {Ng : List Str} {params : Arguments} {body : Expr} {scope : Scope} {p lpos pos : Pos} (F : FunD X.K x x pg bg sg [] [] g fd) (hm : X.mg x = some (.ref g))
    (hb : ∀ (kV doc pm : Value) (an : Option Addr) (cdv ct : Value) (us : List Value), us.length = 1 → bindArgs (PySem.W.fnOf x x pg bg sg .none kV doc pm an cdv ct) ⟨us, []⟩ = pure ([a].zip us)) (Sg : FnScope Ng [a] sg) (hNg : Ng[0]? = some a) (hva : Vis sg a)
    (hG : ∀ cdv, LamX.GivesTo X Ng x sg g cdv bg a (X.env.qual ++ "<lambda>") (lfHrd X.K t)) (TB : LamX.TabB X.base X.mg c P) (hcode : X.env.code = .ref c) (hmT : (P, X.env.qual ++ "<lambda>") ∈ T) (hu : ∀ p ∈ T, p.1 = P → p.2 = X.env.qual ++ "<lambda>")
    (hr : Room (k + 2) X.A) (L : LamX.LamS X.env.scope scope) (hdef : defaultsOf params X.env = ([], [])) (hbind : ∀ (q : Str) (cl : List (Str × Addr)) (pm cv ctv : Value), bindArgs (PySem.W.kla_fn "<lambda>" q params body scope cl pm cv ctv) ⟨[], []⟩ = pure [])
    (hbody : ∀ (A : Around) (outer : List Env) (s : Shared) (H : Hp) (E : XK) (f c' : Addr), Room k (A.deeper (LamX.lamEnv X scope s.heap.objs.size f c')) → Takes (LamX.lamCx X A outer s H E scope f c') (fun cls d _ H => E cls d H) → DE (LamX.lamCx X A outer s H E scope f c') (fun cls d _ H => E cls d H) body tb)
    (hg : Gl X x := by rfl) (hdb : (x == ("__debug__" : Str)) = false := by decide) (hd : (a == ("__debug__" : Str)) = false := by decide) (hcd : (a == ("__classdict__" : Str)) = false := by decide) :
    DE X W0 (.Call (.Name x p) [.Lambda params body scope lpos] [] pos) (dLam T t tb) := by
  obtain ⟨oc, od, dV, kV, doc, pm, an, cdv, ct, osl, rfl, lk, hcg, hdV, _⟩ := F.ex
  have edV : dV = .none := by
    rcases hdV with ⟨_, e⟩ | ⟨e, _⟩
    · exact e
    · exact absurd rfl e
  subst edV
  refine .mk' (LamX.pe_lamcall (T := T) (TT := lfHrd X.K t) (t := fun E => lfE X.K (fun cls d _ H => E cls d H) tb) hg hm F.kp lk hcg (.all (hb kV doc pm an cdv ct)) Sg hNg hva (hG cdv) TB hcode hmT hu hr L hdef hbind (fun A outer s H E f c' hr' => (hbody A outer s H E f c' hr' ?_).pe) hdb hd hcd) fun σ H Q0 δ M Q W at_ q k w => ?_
  · exact takes_of rfl rfl rfl rfl
  · obtain ⟨tk, q⟩ := q
    refine ⟨fun p hp => ?_, fun H1 eN T1 => ?_⟩
    · obtain ⟨ps, h1, h2, h3⟩ := at_.m p.1 _ (tk.2 p hp)
      exact ⟨ps, h1, h2, fun pos cv hc => by
        obtain ⟨c', e1, e2, _⟩ := h3 pos cv hc
        exact ⟨c', e1, e2⟩⟩
    · obtain ⟨x1, m1⟩ := lam_ext at_.m tk eN T1
      have s1 := at_.s.ext x1
      obtain ⟨l1, back⟩ := s1.cap
      exact ⟨M, Q, _, capV σ δ, capD σ δ, m1, l1, q, k.ext x1, fun M2 H2 Qa Ea Q0 E0 m2 r2 h2 k2 kx => lfE.use ⟨back H2 M2 r2, m2⟩ h2 k2 fun c pd σ' H' gs δ' M' y _ m r qq => kx c pd H' gs M' y m r qq⟩
end
end DL
end

section
set_option Elab.async false
set_option linter.all false
set_option maxRecDepth 100000
/-! DL9: name = [..] on one line. -/
namespace DL
open PySem PySem.Spec PyProof.Rows L2
section
variable {X : Cx} {W0 : WX} {i : Nat} {y : Str} {py : Pos} {elt tg iter : Expr} {ifs : List Expr} {scope : Scope} {own : List (Str × Nat)} {pos spos : Pos} {ti : DTI} {p : Pat} {tt : DTT} {te : DTE}
theorem ds_setLc (hc : X.calm = true) (hN : X.N.Nodup) (hy : X.N[i]? = some y) (hyl : X.env.scope.names.lookup y = some .local) (hsw : swapsWith (.ListComp elt [⟨tg, iter, ifs, 0⟩] scope pos) (some (.Name y py)) spos.line X.env = pure true)
    (hi : DI X W0 tg iter ti) (ok : BlkOk X.N X.env.scope scope own) (hsl : ∀ j, j ∈ slotsP p → j ∈ own.map (·.2))
    (hg : ∀ (s : Shared) (H : Hp) (C : Addr) (cl : List (Str × Addr)) (fp : List Addr), DG (X.blk s H scope (compEnvC scope cl C X.env) fp) tg p) (ht : ∀ (s : Shared) (H : Hp) (C : Addr) (cl : List (Str × Addr)) (fp : List Addr), DTs (X.blk s H scope (compEnvC scope cl C X.env) fp) WF ifs tt)
    (he : ∀ (s : Shared) (H : Hp) (C : Addr) (cl : List (Str × Addr)) (fp : List Addr), DE (X.blk s H scope (compEnvC scope cl C X.env) fp) WF elt te) (hs : ∀ x, foldedSetIterable iter X.env x = pure x := by intro _; rfl) :
    DS X W0 (.Assign [.Name y py] (.ListComp elt [⟨tg, iter, ifs, 0⟩] scope pos) spos) (dSet i (dLc ti p tt te (own.map (·.2)))) :=
  .mk' (ps_setLc hc hN hy hyl hsw hi.pi ok (fun s H C cl fp => (hg s H C cl fp).pg) (fun s H C cl fp => (ht s H C cl fp).pts) (fun s H C cl fp => (he s H C cl fp).pe) hs) fun D0 σ H δ M D' W a q k w =>
    lc_run hsl a q (fun A H' M' acc ws x nb m e eb l q' => by
      have sb := Sub.del M' A
      have x' := x.sub sb fun b hb => by rw [delD_ne (nb b hb)]; exact (x.busy b hb).2
      exact k.nx _ H' _ _ x' ⟨(a.s.ext x').set i (.lst e delD_same (l.sub sb)), m.sub sb⟩ q') w
theorem ds_setLcM (hc : X.calm = true) (hN : X.N.Nodup) (hy : X.N[i]? = some y) (hyl : X.env.scope.names.lookup y = some .local) (hsw : swapsWith (.ListComp elt [⟨tg, iter, ifs, 0⟩] scope pos) (some (.Name y py)) spos.line X.env = pure true)
    (hi : DI X W0 tg iter ti) (ok : BlkOk X.N X.env.scope scope own) (hsl : ∀ j, j ∈ slotsP p → j ∈ own.map (·.2))
    (hg : ∀ (s : Shared) (H : Hp) (C : Addr) (cl : List (Str × Addr)) (fp : List Addr), DG (X.blk s H scope (compEnvC scope cl C X.env) fp) tg p) (ht : ∀ (s : Shared) (H : Hp) (C : Addr) (cl : List (Str × Addr)) (fp : List Addr), DTs (X.blk s H scope (compEnvC scope cl C X.env) fp) WF ifs tt)
    (he : ∀ (s : Shared) (H : Hp) (C : Addr) (cl : List (Str × Addr)) (fp : List Addr), DE (X.blk s H scope (compEnvC scope cl C X.env) fp) WF elt te) (hs : ∀ x, foldedSetIterable iter X.env x = pure x := by intro _; rfl) :
    DS X W0 (.Assign [.Name y py] (.ListComp elt [⟨tg, iter, ifs, 0⟩] scope pos) spos) (dSet i (dLcM ti p tt te (own.map (·.2)))) :=
  .mk' (ps_setLc hc hN hy hyl hsw hi.pi ok (fun s H C cl fp => (hg s H C cl fp).pg) (fun s H C cl fp => (ht s H C cl fp).pts) (fun s H C cl fp => (he s H C cl fp).pe) hs) fun D0 σ H δ M D' W a q k w =>
    lc_run hsl a q (fun A H' M' acc ws x nb m e eb l q' => by
      have y : Ext M H (updD M' A (.lst acc)) H' := ⟨fun b o h n t => by
        have hb : b ≠ A := fun z => by
          have := (x.keep b o h n t).2
          rw [z, eb] at this; cases this
        rw [updD_ne hb]
        exact x.keep b o h n t, fun b hb => by rw [updD_ne (nb b hb)]; exact x.busy b hb⟩
      have z : ∀ b, M' b = none → updD M' A (.lst acc) b = none := fun b hb => by
        rw [updD_ne (fun z => by rw [z, eb] at hb; cases hb)]; exact hb
      refine k.nx _ H' _ _ y ⟨(a.s.ext y).set i (.ref A), fun b mo hb => ?_⟩ q'
      by_cases h : b = A
      · subst h
        rw [updD_same] at hb
        cases hb
        exact ⟨ws, e, l.less z⟩
      · rw [updD_ne h] at hb
        exact (m b mo hb).less z) w
end
end DL
end

section
set_option Elab.async false
set_option linter.all false
set_option maxRecDepth 100000
/-! DX6: words for the printed derivations. -/
namespace DL
open PySem PySem.Spec PyProof.Rows L2
abbrev FnP (K : PySem.W.Frag) (x : Str) (st : Stmt) (f : Addr) (fd : FuncData) : Prop := FunD K x x (defArgs st) (defBody st) (defScope st) [] [] f fd
/-- an own error with one field, by its name -/
structure Err1 (P : Program) (K : PySem.W.Frag) (mg : Str → Option Value) (x f : Str) : Prop where
  ex : ∃ (fI cc : Addr) (qual : Str), OEK.Txt P K mg x (He.ga K x) fI cc ∧ OEK.Fn1 P K qual f fI cc ∧ OEK.FName K (He.ga K x) f
theorem ds_raiseE {X : Cx} {W0 : WX} {x f : Str} {a : Expr} {ta : DTA} {p pos pos2 : Pos} {k : Nat} (hc : X.calm = true) (e : Err1 X.prog X.K X.mg x f) (hr : Room k X.A) (tk : Takes X W0) (ha : DA X W0 [a] ta) (hg : Gl X x := by rfl) (hdb : (x == ("__debug__" : Str)) = false := by decide)
    (he : starEach (a :: []) X.env = (false, eval a X.env) :: starEach [] X.env := by rfl) (hpl : (backTo pos (starEach [] X.env)).any (·.1) = false := by rfl) :
    DS X W0 (.Raise (some (.Call (.Name x p) [a] [] pos)) none pos2) (dRaise1 (He.ga X.K x) f ta) := by
  obtain ⟨fI, cc, q, T, FN, N⟩ := e.ex
  exact ds_raise1 hc T FN N hr tk ha hg hdb he hpl
end DL
end

section
set_option Elab.async false
set_option linter.all false
set_option maxRecDepth 100000
/-! DL10: tools for the bodies. -/
namespace DL
open PySem PySem.Spec PyProof.Rows L2
abbrev iT (ns : List Int) : D := .tup (ns.map D.int)
abbrev iL (ns : List Int) : D := .lst (ns.map D.int)
/-! ### comprehensions that change nothing -/
section
variable {p : Pat} {tt : DTT} {te : DTE} {δ0 : DSt} {α : Type}
theorem dLcL_map {Q : List D → DHp → Prop} {chk : DHp → Prop} (ι : α → D) (f : α → Option D) {M : DHp} (hc : chk M) : ∀ (xs : List α) (acc : List D), acc.length + xs.length ≤ sizeLine → (∀ x ∈ xs, ∀ k : Option D → DHp → Prop, k (f x) M → dLcT p tt te δ0 k (ι x) M) → Q (acc ++ xs.filterMap f) M → dLcL p tt te δ0 Q chk (xs.map ι) acc M
  | [], acc, _, _, q => ⟨hc, by simpa using q⟩
  | x :: xs, acc, hl, he, q => by
    rw [List.length_cons] at hl
    refine ⟨hc, by omega, he x List.mem_cons_self _ (dLcL_map ι f hc xs _ ?_ (fun y hy => he y (List.mem_cons_of_mem _ hy)) ?_)⟩
    · unfold addO
      split
      · rw [List.length_append, List.length_singleton]; omega
      · omega
    · unfold addO
      cases e : f x with
      | none => simpa [List.filterMap_cons, e] using q
      | some y => simpa [List.filterMap_cons, e] using q
theorem flt_eq (t : α → Bool) (g : α → D) : ∀ xs : List α, xs.filterMap (fun x => if t x = true then some (g x) else none) = (xs.filter t).map g
  | [] => rfl
  | x :: xs => by
    rw [List.filterMap_cons, List.filter_cons, flt_eq t g xs]
    cases h : t x <;> simp
variable {Q : List D → DHp → Prop} {chk : DHp → Prop} {M : DHp} {ds : List D} {xs : List α}
/-- .. each item gives one -/
theorem lcL_all (ι : α → D) (g : α → D) (hds : ds = xs.map ι) (hc : chk M) (hl : xs.length ≤ sizeLine) (he : ∀ x ∈ xs, ∀ k : Option D → DHp → Prop, k (some (g x)) M → dLcT p tt te δ0 k (ι x) M) (q : Q (xs.map g) M) : dLcL p tt te δ0 Q chk ds [] M := by
  subst hds
  exact dLcL_map ι (fun x => some (g x)) hc xs [] (by simpa using hl) he (by rw [show xs.filterMap (fun x => some (g x)) = xs.map g from by rw [← List.filterMap_eq_map]; rfl]; exact q)
/-- .. each item that passes the test is put in -/
theorem lcL_flt (ι : α → D) (t : α → Bool) (g : α → D) (hds : ds = xs.map ι) (hc : chk M) (hl : xs.length ≤ sizeLine)
    (he : ∀ x ∈ xs, ∀ k : Option D → DHp → Prop, (t x = true → k (some (g x)) M) → (t x = false → k none M) → dLcT p tt te δ0 k (ι x) M) (q : Q ((xs.filter t).map g) M) : dLcL p tt te δ0 Q chk ds [] M := by
  subst hds
  refine dLcL_map ι (fun x => if t x = true then some (g x) else none) hc xs [] (by simpa using hl) (fun x hx k hk => he x hx k (fun h => by rw [if_pos h] at hk; exact hk) (fun h => by rw [if_neg (by rw [h]; simp)] at hk; exact hk)) ?_
  rw [flt_eq t g xs]
  exact q
end
theorem zipD_map {α β : Type} (ι : α → D) (κ : β → D) : ∀ (as : List α) (bs : List β), zipD (as.map ι) (bs.map κ) = (as.zip bs).map fun p => .tup [ι p.1, κ p.2]
  | [], _ => by simp [zipD]
  | _ :: _, [] => by simp [zipD]
  | a :: as, b :: bs => by simp [zipD, zipD_map ι κ as bs]
theorem enumD_map {α : Type} (ι : α → D) : ∀ (as : List α) (i : Nat), enumD i (as.map ι) = (as.zipIdx i).map fun p => .tup [.int (p.2 : Nat), ι p.1]
  | [], _ => by simp [enumD]
  | a :: as, i => by simp [enumD, enumD_map ι as (i + 1)]
theorem ixN_lt {n j : Nat} (hj : j < n) : ixN n (j : Int) = some j := by
  unfold ixN
  rw [if_pos (by omega), if_pos (by omega)]
  simp
theorem atI_int {ns : List Int} {j : Nat} (h : j < ns.length) : L2.atI (ns.map D.int) (j : Int) = some (.int (ns.getD j 0)) :=
  L2.atI_nat (by rw [List.getElem?_map, List.getElem?_eq_getElem h]; simp [List.getD_eq_getElem?_getD, h])
theorem atI_map {α : Type} {ι : α → D} {ns : List α} {j : Nat} {x : α} (h : ns[j]? = some x) : L2.atI (ns.map ι) (j : Int) = some (ι x) :=
  L2.atI_nat (by rw [List.getElem?_map, h]; rfl)
theorem cut_lo {α : Type} (xs : List α) (k : Nat) : cutG xs (some (k : Int)) none = xs.drop k := by
  unfold cutG
  rw [HT.sIx_nat, HT.sIx_none]
  by_cases h : k ≤ xs.length
  · rw [Nat.min_eq_left h, List.take_of_length_le (by simp)]
  · rw [Nat.min_eq_right (by omega)]
    simp [List.drop_of_length_le (show xs.length ≤ k by omega)]
theorem cut_hi {α : Type} (xs : List α) (k : Nat) : cutG xs none (some (k : Int)) = xs.take k := by
  unfold cutG
  rw [HT.sIx_nat, HT.sIx_none]
  rw [Nat.sub_zero, List.drop_zero]
  by_cases h : k ≤ xs.length
  · rw [Nat.min_eq_left h]
  · rw [Nat.min_eq_right (by omega), List.take_of_length_le (Nat.le_refl _), List.take_of_length_le (by omega)]
theorem lt_line {n : Nat} (h : n < 1000000) : n < sizeLine := by rw [sizeLine_eq]; omega
theorem small_line {n : Nat} (h : n ≤ 1000000) : n ≤ sizeLine := by rw [sizeLine_eq]; omega
/-! ### == of data -/
mutual
theorem eqv_self : ∀ d : PyData, d.hasDict = false → PyData.eqv d d = true
  | .none, _ => rfl
  | .bool b, _ => by simp [PyData.eqv]
  | .int i, _ => by simp [PyData.eqv]
  | .str x, _ => by simp [PyData.eqv]
  | .list xs, h => by unfold PyData.eqv; exact eqvAll_self xs (by simpa [PyData.hasDict] using h)
  | .tuple xs, h => by unfold PyData.eqv; exact eqvAll_self xs (by simpa [PyData.hasDict] using h)
  | .dict _, h => by simp [PyData.hasDict] at h
theorem eqvAll_self : ∀ ds : List PyData, PyData.hasDictAll ds = false → PyData.eqvAll ds ds = true
  | [], _ => by simp [PyData.eqvAll]
  | d :: ds, h => by
    unfold PyData.eqvAll
    have h' : d.hasDict = false ∧ PyData.hasDictAll ds = false := by simpa [PyData.hasDictAll] using h
    rw [eqv_self d h'.1, eqvAll_self ds h'.2]; rfl
end
theorem ifb {t : Bool} {a b : Prop} (h1 : t = true → a) (h2 : t = false → b) : if t = true then a else b := by
  cases t with
  | true => exact h1 rfl
  | false => exact h2 rfl
theorem seq_ref {M : DHp} {p : Addr} {xs : List D} (h : M p = some (.lst xs)) : seqOf M (.ref p) = some xs := by simp [seqOf, h]
theorem lst_ref {M : DHp} {p : Addr} {xs : List D} (h : M p = some (.lst xs)) : lstOf M (.ref p) = some xs := by simp [lstOf, h]
theorem updD_id {M : DHp} {p : Addr} {o : MO} (h : M p = some o) : updD M p o = M := by
  funext a
  unfold updD
  split
  · rename_i e; rw [e, h]
  · rfl
theorem pures_flat {α : Type} {ι : α → D} (h : ∀ x, (ι x).pure = true) : ∀ xs : List α, pures (xs.map ι) = true
  | [] => by simp [pures]
  | x :: xs => by simp [pures, h x, pures_flat h xs]
theorem pys_map {α : Type} {ι : α → D} : ∀ xs : List α, pys (xs.map ι) = xs.map fun x => (ι x).py
  | [] => by simp [pys]
  | x :: xs => by simp [pys, pys_map xs]
theorem canLay_ints : ∀ ns : List Int, PyData.canLayAll0 (ns.map PyData.int) = true
  | [] => by simp [PyData.canLayAll0]
  | n :: ns => by simp [PyData.canLayAll0, PyData.canLay0, canLay_ints ns]
theorem depth_ints : ∀ ns : List Int, PyData.depthAll (ns.map PyData.int) ≤ 1
  | [] => by simp [PyData.depthAll]
  | n :: ns => by
    have h := depth_ints ns
    have e : PyData.depthAll ((n :: ns).map PyData.int) = max (PyData.depth (.int n)) (PyData.depthAll (ns.map PyData.int)) := by simp [PyData.depthAll]
    have e2 : PyData.depth (.int n) = 0 := by simp [PyData.depth]
    rw [e, e2]
    omega
theorem ints_ok {M : DHp} {d : D} {ns : List Int} (h : frz M d = iL ns) : EqOk M d := by
  unfold EqOk
  rw [h]
  refine ⟨by unfold D.pure; exact pures_flat (fun _ => by simp [D.pure]) ns, ?_⟩
  unfold D.py
  rw [pys_map]
  unfold SeqAt.shaped
  have e : (ns.map fun x => (D.int x).py) = ns.map PyData.int := List.map_congr_left fun x _ => by simp [D.py]
  rw [e]
  have h1 := depth_ints ns
  have h2 : PyData.depth (.list (ns.map PyData.int)) = PyData.depthAll (ns.map PyData.int) + 1 := by simp [PyData.depth]
  have h3 : PyData.canLay0 (.list (ns.map PyData.int)) = true := by simp [PyData.canLay0, canLay_ints]
  rw [h3, Bool.true_and]
  exact decide_eq_true (by rw [h2]; omega)
theorem eqv_nil (xs : List PyData) : PyData.eqv (.list xs) (.list []) = xs.isEmpty := by
  cases xs <;> simp [PyData.eqv, PyData.eqvAll]
theorem eq_nil {M : DHp} {d : D} {ns : List Int} (h : frz M d = iL ns) : eqD M d (.lst []) = ns.isEmpty := by
  unfold eqD
  rw [h]
  show PyData.eqv (D.py (.lst _)) (D.py (.lst [])) = _
  unfold D.py
  rw [pys_map]
  show PyData.eqv _ (.list (pys [])) = _
  unfold pys
  rw [eqv_nil]
  cases ns <;> rfl
theorem eq_nil' {M : DHp} {d : D} {xs : List D} (h : frz M d = .lst xs) : eqD M d (.lst []) = xs.isEmpty := by
  unfold eqD
  rw [h]
  show PyData.eqv (D.py (.lst _)) (D.py (.lst [])) = _
  unfold D.py
  show PyData.eqv _ (.list (pys [])) = _
  unfold pys
  rw [eqv_nil]
  cases xs <;> rfl
theorem canLay_strs : ∀ {ns : List Str}, (∀ x ∈ ns, PyData.canLay0 (.str x) = true) → PyData.canLayAll0 (ns.map PyData.str) = true
  | [], _ => by simp [PyData.canLayAll0]
  | n :: ns, h => by
    have e : PyData.canLayAll0 ((n :: ns).map PyData.str) = (PyData.canLay0 (.str n) && PyData.canLayAll0 (ns.map PyData.str)) := by simp [PyData.canLayAll0]
    rw [e, h n List.mem_cons_self, canLay_strs fun x hx => h x (List.mem_cons_of_mem _ hx)]
    rfl
theorem depth_strs : ∀ ns : List Str, PyData.depthAll (ns.map PyData.str) ≤ 1
  | [] => by simp [PyData.depthAll]
  | n :: ns => by
    have h := depth_strs ns
    have e : PyData.depthAll ((n :: ns).map PyData.str) = max (PyData.depth (.str n)) (PyData.depthAll (ns.map PyData.str)) := by simp [PyData.depthAll]
    have e2 : PyData.depth (.str n) = 0 := by simp [PyData.depth]
    rw [e, e2]
    omega
theorem strs_ok {M : DHp} {d : D} {ns : List Str} (hn : ∀ x ∈ ns, PyData.canLay0 (.str x) = true) (h : frz M d = .lst (ns.map D.str)) : EqOk M d := by
  unfold EqOk
  rw [h]
  refine ⟨by unfold D.pure; exact pures_flat (fun _ => by simp [D.pure]) ns, ?_⟩
  unfold D.py
  rw [pys_map]
  unfold SeqAt.shaped
  have e : (ns.map fun x => (D.str x).py) = ns.map PyData.str := List.map_congr_left fun x _ => by simp [D.py]
  rw [e]
  have h1 := depth_strs ns
  have h2 : PyData.depth (.list (ns.map PyData.str)) = PyData.depthAll (ns.map PyData.str) + 1 := by simp [PyData.depth]
  have h3 : PyData.canLay0 (.list (ns.map PyData.str)) = true := by simp [PyData.canLay0, canLay_strs hn]
  rw [h3, Bool.true_and]
  exact decide_eq_true (by rw [h2]; omega)
theorem frz_ref {M : DHp} {p : Addr} {xs : List D} (h : M p = some (.lst xs)) : frz M (.ref p) = .lst xs := by simp [frz, h]
/-! ### back -/
theorem Back.same {M0 : DHp} {Q : DVK} {d : D} (q : Q d M0) : Back M0 Q d M0 := ⟨d, M0, Sub.refl _, fun _ h => h, .refl d, q⟩
theorem Back.drop {M0 : DHp} {Q : DVK} {d : D} {p : Addr} {o : MO} (hp : M0 p = none) (q : Q d M0) : Back M0 Q d (updD M0 p o) := ⟨d, M0, Sub.upd hp, fun _ h => h, .refl d, q⟩
theorem Back.drop2 {M0 : DHp} {Q : DVK} {d : D} {p p2 : Addr} {o o2 : MO} (hp : M0 p = none) (hp2 : M0 p2 = none) (hne : p2 ≠ p) (q : Q d M0) : Back M0 Q d (updD (updD M0 p o) p2 o2) :=
  ⟨d, M0, (Sub.upd hp).trans (Sub.upd (by rw [updD_ne hne]; exact hp2)), fun _ h => h, .refl d, q⟩
theorem updD_none {M : DHp} {p q : Addr} {o : MO} (h : updD M p o q = none) : q ≠ p ∧ M q = none := by
  by_cases e : q = p
  · rw [e, updD_same] at h; cases h
  · rw [updD_ne e] at h; exact ⟨e, h⟩
theorem updD_swap {M : DHp} {p p2 : Addr} {a b c : MO} (h : p2 ≠ p) : updD (updD (updD M p a) p2 b) p c = updD (updD M p c) p2 b := by
  rw [updD_comm h, updD_updD]
theorem Back.new {M0 : DHp} {Q : DVK} {d : D} {p : Addr} {o : MO} (hp : M0 p = none) (q : Q d (updD M0 p o)) : Back M0 Q d (updD M0 p o) :=
  ⟨d, _, Sub.refl _, fun a ha => by rw [updD_ne (fun e => by rw [e, hp] at ha; cases ha)]; exact ha, .refl d, q⟩
theorem BackX.same {M0 : DHp} {E : DXK} {c : Value} {gs : List (Str × D)} (q : E c gs M0) : BackX M0 E c gs M0 := ⟨M0, Sub.refl _, fun _ h => h, q⟩
end DL
end

section
set_option Elab.async false
set_option linter.all false
set_option maxRecDepth 100000
/-! DL11: data that can be shown and compared. -/
namespace DL
open PySem PySem.Spec PyProof.Rows L2
/-- pure, small leaves, of at most this weight and depth -/
structure Nice (w k : Nat) (d : D) : Prop where
  pure : d.pure = true
  leaves : d.py.leavesShort 8 = true
  lay : d.py.canLay0 = true
  show_ : d.py.showable = true
  depth : d.py.depth ≤ k
  weight : d.py.weight ≤ w
theorem Nice.mono {w k w' k' : Nat} {d : D} (h : Nice w k d) (hw : w ≤ w') (hk : k ≤ k') : Nice w' k' d := ⟨h.pure, h.leaves, h.lay, h.show_, Nat.le_trans h.depth hk, Nat.le_trans h.weight hw⟩
theorem Nice.noDict {w k : Nat} {d : D} (h : Nice w k d) : d.py.hasDict = false := PyData.hasDict_of_canLay _ h.lay
theorem Nice.fits {w k : Nat} {d : D} (h : Nice w k d) (hw : w ≤ 2 ^ 20) : d.py.shown.length ≤ sizeLine := PyData.shown_fits (B := 8) (by omega) (by omega) h.leaves (Nat.le_trans h.weight hw)
theorem Nice.shaped {w k : Nat} {d : D} (h : Nice w k d) (hk : k ≤ 64) : SeqAt.shaped d.py = true := by
  unfold SeqAt.shaped
  rw [h.lay, Bool.true_and]
  exact decide_eq_true (Nat.le_trans h.depth hk)
theorem nice_non : Nice 0 0 .non := ⟨rfl, rfl, rfl, rfl, Nat.le_refl 0, Nat.le_refl 0⟩
theorem nice_bl (b : Bool) : Nice 0 0 (.bl b) := ⟨rfl, rfl, rfl, rfl, Nat.le_refl 0, Nat.le_refl 0⟩
theorem nice_int {i : Int} (h : i.natAbs < 1000000) : Nice 20 0 (.int i) := by
  have hl : i.natAbs.log2 < 20 := by
    by_cases h0 : i.natAbs = 0
    · rw [h0]; decide
    · exact (Nat.log2_lt h0).mpr (by omega)
  refine ⟨rfl, ?_, rfl, ?_, Nat.le_refl 0, ?_⟩
  · show decide ((PyData.shown (.int i)).length ≤ 8) = true
    refine decide_eq_true ?_
    have := int_text_length_le10 (a := i) (k := 7) (by omega) (by omega)
    have e : (PyData.shown (.int i)).length = (toString i).length := PySem.ofString_length _
    omega
  · show decide (i.natAbs.log2 < 1920) = true
    exact decide_eq_true (by omega)
  · show (if i == 0 then 0 else i.natAbs.log2 + 1) ≤ 20
    split <;> omega
theorem nice_str {x : Str} (h : ((x.cps.toList.all fun c => decide (c < 16 ^ 8)) && (PyData.canLay0 (.str x) && decide (x.cps.size ≤ 20))) = true) : Nice 20 0 (.str x) := by
  obtain ⟨h1, h⟩ := Bool.and_eq_true_iff.mp h
  obtain ⟨h2, h3⟩ := Bool.and_eq_true_iff.mp h
  exact ⟨rfl, by simpa [D.py, PyData.leavesShort] using h1, h2, rfl, Nat.le_refl 0, of_decide_eq_true h3⟩
theorem nice_all {w k n : Nat} : ∀ {ds : List D}, (∀ d ∈ ds, Nice w k d) → ds.length ≤ n → pures ds = true ∧ PyData.leavesShortAll 8 (pys ds) = true ∧ PyData.canLayAll0 (pys ds) = true ∧ PyData.showableAll (pys ds) = true ∧ PyData.depthAll (pys ds) ≤ k ∧ PyData.weightAll (pys ds) ≤ n * (w + 1)
  | [], _, _ => by simp [pures, pys, PyData.leavesShortAll, PyData.canLayAll0, PyData.showableAll, PyData.depthAll, PyData.weightAll]
  | d :: ds, h, hl => by
    cases n with
    | zero => simp at hl
    | succ n =>
      obtain ⟨h1, h2, h3, h4, h5, h6⟩ := nice_all (w := w) (k := k) (n := n) (ds := ds) (fun e he => h e (List.mem_cons_of_mem _ he)) (by simpa using hl)
      have hd := h d List.mem_cons_self
      unfold pures pys
      refine ⟨by rw [hd.pure, h1]; rfl, ?_, ?_, ?_, ?_, ?_⟩
      · unfold PyData.leavesShortAll; rw [hd.leaves, h2]; rfl
      · unfold PyData.canLayAll0; rw [hd.lay, h3]; rfl
      · unfold PyData.showableAll; rw [hd.show_, h4]; rfl
      · unfold PyData.depthAll; have := hd.depth; omega
      · unfold PyData.weightAll
        have := hd.weight
        rw [Nat.succ_mul]
        omega
theorem nice_tup {w k n : Nat} {ds : List D} (h : ∀ d ∈ ds, Nice w k d) (hl : ds.length ≤ n) : Nice (n * (w + 1)) (k + 1) (.tup ds) := by
  obtain ⟨h1, h2, h3, h4, h5, h6⟩ := nice_all h hl
  refine ⟨by unfold D.pure; exact h1, by unfold D.py PyData.leavesShort; exact h2, by unfold D.py PyData.canLay0; exact h3, by unfold D.py PyData.showable; exact h4, ?_, ?_⟩
  · unfold D.py PyData.depth; omega
  · unfold D.py PyData.weight; exact h6
theorem nice_lst {w k n : Nat} {ds : List D} (h : ∀ d ∈ ds, Nice w k d) (hl : ds.length ≤ n) : Nice (n * (w + 1)) (k + 1) (.lst ds) := by
  obtain ⟨h1, h2, h3, h4, h5, h6⟩ := nice_all h hl
  refine ⟨by unfold D.pure; exact h1, by unfold D.py PyData.leavesShort; exact h2, by unfold D.py PyData.canLay0; exact h3, by unfold D.py PyData.showable; exact h4, ?_, ?_⟩
  · unfold D.py PyData.depth; omega
  · unfold D.py PyData.weight; exact h6
theorem nice_ints {ns : List Int} {n : Nat} (h : ∀ i ∈ ns, i.natAbs < 1000000) (hl : ns.length ≤ n) : Nice (n * 21) 1 (.tup (ns.map D.int)) :=
  nice_tup (w := 20) (k := 0) (fun d hd => by obtain ⟨i, hi, rfl⟩ := List.mem_map.mp hd; exact nice_int (h i hi)) (by simpa using hl)
/-- repr of such data -/
theorem repr_nice {M : DHp} {d : D} {w k : Nat} (hf : frz M d = d) (h : Nice w k d) (hw : w ≤ 2 ^ 20) (hk : k ≤ 60) {Q : DVK} (q : Q (.str d.py.shown) M) : rReprDD [d] M Q := by
  show (frz M d).pure = true ∧ _
  rw [hf]
  exact ⟨h.pure, h.show_, h.noDict, Nat.le_trans h.depth hk, h.fits hw, q⟩
end DL
end

section
set_option Elab.async false
set_option linter.all false
set_option maxRecDepth 100000
/-! DL12: tables at a law's start. -/
namespace DL
open PySem PySem.Spec PyProof.Rows L2
theorem nice_pair {w k : Nat} {a b : D} (ha : Nice w k a) (hb : Nice w k b) : Nice (2 * (w + 1)) (k + 1) (.tup [a, b]) := nice_tup (n := 2) (fun d hd => by
  simp only [List.mem_cons, List.not_mem_nil, or_false] at hd
  rcases hd with rfl | rfl
  · exact ha
  · exact hb) (by simp)
/-- the things that change at a law's start: the tables -/
def tblsM (T : List (Addr × Str)) : DHp := fun a => (T.lookup a).map .tbl
theorem tblsM_some {T : List (Addr × Str)} {a : Addr} {o : MO} (h : tblsM T a = some o) : ∃ q, (a, q) ∈ T ∧ o = .tbl q := by
  unfold tblsM at h
  cases e : T.lookup a with
  | none => rw [e] at h; cases h
  | some q =>
    rw [e] at h
    refine ⟨q, ?_, (Option.some.inj h).symm⟩
    induction T with
    | nil => cases e
    | cons y T ih =>
      obtain ⟨b, z⟩ := y
      rw [List.lookup_cons] at e
      cases hb : a == b with
      | true =>
        rw [hb] at e
        cases e
        rw [beq_iff_eq.mp hb]
        exact List.mem_cons_self
      | false =>
        rw [hb] at e
        exact List.mem_cons_of_mem _ (ih e)
theorem tblsM_ok {T : List (Addr × Str)} (hn : (T.map (·.1)).Nodup) : TblsOk T (tblsM T) := by
  refine ⟨fun a q h => ?_, fun p hp => ?_⟩
  · obtain ⟨q', h1, h2⟩ := tblsM_some h
    cases h2
    exact h1
  · unfold tblsM
    have : T.lookup p.1 = some p.2 := by
      induction T with
      | nil => cases hp
      | cons y T ih =>
        obtain ⟨b, z⟩ := y
        rw [List.map_cons, List.nodup_cons] at hn
        rw [List.lookup_cons]
        rcases List.mem_cons.mp hp with e | hp
        · rw [e]; simp
        · have hb : (p.1 == b) = false := by
            refine beq_eq_false_iff_ne.mpr fun e => hn.1 ?_
            rw [← e]
            exact List.mem_map.mpr ⟨p, hp, rfl⟩
          rw [hb]
          exact ih hn.2 hp
    rw [this]; rfl
theorem tbls_lst {T : List (Addr × Str)} {N : DHp} {p : Addr} {xs : List D} (ht : TblsOk T N) (hp : N p = none) : TblsOk T (updD N p (.lst xs)) := by
  refine ⟨fun a q h => ?_, fun t htm => ?_⟩
  · by_cases e : a = p
    · subst e; rw [updD_same] at h; cases h
    · rw [updD_ne e] at h; exact ht.1 a q h
  · have h1 := ht.2 t htm
    rw [updD_ne (fun e => by rw [e, hp] at h1; cases h1)]
    exact h1
theorem tblsM_keep {T : List (Addr × Str)} {N : DHp} : KeepB (tblsM T) N := fun a h => by
  obtain ⟨q, _, z⟩ := tblsM_some h
  cases z
theorem tblsM_back {T : List (Addr × Str)} {Q : DVK} {d : D} {N : DHp} (q : ∀ M', Q d M') : Back (tblsM T) Q d N := ⟨_, N, Sub.refl _, tblsM_keep, .refl _, q N⟩
end DL
end

section
set_option Elab.async false
set_option linter.all false
set_option maxRecDepth 100000
set_option maxHeartbeats 2000000
/-! DX7: own exceptions with two fields. -/
namespace OEK
open PySem PySem.W PySem.Calls PyProof.Rows PySem.HandSPX
def iA2 (f f2 : Str) (p1 p2 p3 : Pos) : Arguments := { posonlyargs := [], args := [{ arg := "self", annotation := none, pos := p1 }, { arg := f, annotation := none, pos := p2 }, { arg := f2, annotation := none, pos := p3 }], vararg := none, kwonlyargs := [], kw_defaults := [], kwarg := none, defaults := [] }
def iB2 (f f2 : Str) (r0 r1 r2 r3 r6 r4 r5 q1 q2 q3 q4 w1 w2 w3 w4 : Pos) : List Stmt := [.Expr (.Call (.Attribute (.Call (.Name "super" r0) [] [] r1) "__init__" r2) [.Name f r3, .Name f2 r6] [] r4) r5, .Assign [.Attribute (.Name "self" q1) f q2] (.Name f q3) q4, .Assign [.Attribute (.Name "self" w1) f2 w2] (.Name f2 w3) w4]
def iS2 (f f2 : Str) : Scope := { kind := .function, names := [("self", .local), (f, .local), (f2, .local), ("__class__", .free), ("super", .globalImplicit)], isGenerator := false, isCoroutine := false, more := [] }
/-- the call super().__init__(f, f2) by its parts -/
def CallEq2 (f f2 : Str) (r0 r1 r2 r3 r6 r4 : Pos) : Prop := ∀ env : Env, ∃ pl : Sem Bool, eval (.Call (.Attribute (.Call (.Name "super" r0) [] [] r1) "__init__" r2) [.Name f r3, .Name f2 r6] [] r4) env = (do
      let ov ← attributeBase (.Call (.Name "super" r0) [] [] r1) "__init__" env (eval (.Call (.Name "super" r0) [] [] r1) env)
      standAt r2.atName
      let (f', first) ← holding [ov] (getMethod ov "__init__" pl)
      callWith r4 f' first (backTo r4 (starEach [.Name f r3, .Name f2 r6] env)) [])
structure Fn2 (P : Program) (K : Frag) (qual f f2 : Str) (fI cc : Addr) : Prop where
  fn : ∃ (oc : Value) (od : Option Addr) (doc pm : Value) (an : Option Addr) (cda : Addr) (ct : Value) (osl : Array (Option Value)) (p1 p2 p3 r0 r1 r2 r3 r6 r4 r5 q1 q2 q3 q4 w1 w2 w3 w4 : Pos) (ccl : Value) (cdd : Option Addr) (vs : Array Value) (ccs : Array (Option Value)) (file : Str) (tf : Tok),
    K.lookup fI = some ⟨oc, od, .func (ksFn "__init__" qual (iA2 f f2 p1 p2 p3) (iB2 f f2 r0 r1 r2 r3 r6 r4 r5 q1 q2 q3 q4 w1 w2 w3 w4) (iS2 f f2) .none .none doc pm an (.ref cda) ct cc), osl⟩ ∧ codeIn K (.ref cda) qual = true ∧
    K.lookup cda = some ⟨ccl, cdd, .fields vs, ccs⟩ ∧ vs[2]? = some (.str file tf) ∧ ((P.main.file : Str) == file) = true ∧
    (∀ a v v2 : Value, bindArgs (ksFn "__init__" qual (iA2 f f2 p1 p2 p3) (iB2 f f2 r0 r1 r2 r3 r6 r4 r5 q1 q2 q3 q4 w1 w2 w3 w4) (iS2 f f2) .none .none doc pm an (.ref cda) ct cc) ⟨[a, v, v2], []⟩ = pure ([(PySem.Str.ofString "self", a), (f, v), (f2, v2)] : List (Str × Value))) ∧
    CallEq2 f f2 r0 r1 r2 r3 r6 r4
theorem two_size (v v2 : Value) : [v, v2].length ≤ sizeLine := by
  rw [sizeLine_eq]
  exact (by decide : 2 ≤ 16777216)
section
variable {prog : Program} {w : World} {A : Around} {E : Value → Shared → Prop} {R : Result → Shared → Prop} {s : Shared} {K : Frag} {mg mb : Str → Option Value} {x qual f f2 : Str} {C fI cc : Addr}
theorem own_init2 (T : Txt prog K mg x C fI cc) (FN : Fn2 prog K qual f f2 fI cc) (N : FName K C f) (N2 : FName K C f2) (hff : (f2 == f) = false) {e t0 : Addr} {v v2 : Value} (X : K.In s.heap) (hlim : s.heap.NoLimit) (G : s.heap.Ns mainGlobals mg) (B : s.heap.Ns builtinsNs mb) (hB : ∀ x : Str, x ≠ "__name__" → mb x = bootBuiltins x)
    (he : s.heap.get? e = some (excO C t0)) (hne : K.lookup e = none) (hge : mainGlobals ≠ e) (hroom : A.depth < recursionLimit)
    (hq : ∀ h' tk dx t1, InitEnd s.heap h' e C dx t1 (fun y => if y = f2 then some v2 else if y = f then some v else none) → R (.ok (.ret .none)) { s with heap := h', toks := tk }) :
    codeAny (model prog w) A (.call (.ref fI) ⟨[.ref e, v, v2], []⟩) R s := by
  obtain ⟨oc, od, doc, pm, an, cda, ct, osl, p1, p2, p3, r0, r1, r2, r3, r6, r4, r5, q1, q2, q3, q4, w1, w2, w3, w4, ccl, cdd, vs, ccs, file, tf, ho, hcd, hcode, hvs, hfile, hbind, hcall⟩ := FN.fn
  obtain ⟨nm, q, Nn, bs, bm, sn, sub, ab, col, dd, k0, k1, k2, k3, k5, hC, hbm⟩ := T.cls
  have hcl : clsIn K C = some { name := nm, bases := bs, mro := .ref C :: bm, ns := Nn, qualname := q, hasDict := true, slotNames := sn, subclasses := sub, abstract := ab, collection := col, hasDel := false } := by unfold clsIn; rw [hC] <;> rfl
  have l1 : (iS2 f f2).names.lookup f = some .local := by simp [iS2, List.lookup, N.ns]
  have l2 : (iS2 f f2).names.lookup ("self" : Str) = some .local := by simp [iS2, List.lookup]
  have sw : ∀ {a b : Str}, (a == b) = false → (b == a) = false := fun {a b} h => by rw [beq_eq_false_iff_ne] at h ⊢; exact fun z => h z.symm
  have l3 : (iS2 f f2).names.lookup ("__class__" : Str) = some .free := by
    simp [iS2, List.lookup, sw N.nc, sw N2.nc, show (("__class__" : Str) == ("self" : Str)) = false from by decide]
  have l4 : (iS2 f f2).names.lookup ("super" : Str) = some .globalImplicit := by
    simp [iS2, List.lookup, sw N.nu, sw N2.nu, show (("super" : Str) == ("self" : Str)) = false from by decide, show (("super" : Str) == ("__class__" : Str)) = false from by decide]
  have l5 : (iS2 f f2).names.lookup f2 = some .local := by simp [iS2, List.lookup, N2.ns, hff]
  have m1 : (fun y => ([("self", .ref e), (f, v), (f2, v2)] : List (Str × Value)).reverse.lookup y) f = some v := by simp [List.lookup, sw hff]
  have m2 : (fun y => ([("self", .ref e), (f, v), (f2, v2)] : List (Str × Value)).reverse.lookup y) "self" = some (.ref e) := by
    simp [List.lookup, sw N.ns, sw N2.ns]
  have m3 : (fun y => ([("self", .ref e), (f, v), (f2, v2)] : List (Str × Value)).reverse.lookup y) f2 = some v2 := by simp [List.lookup]
  refine ks_codeAny_call_defAt (fd := ksFn "__init__" qual (iA2 f f2 p1 p2 p3) (iB2 f f2 r0 r1 r2 r3 r6 r4 r5 q1 q2 q3 q4 w1 w2 w3 w4) (iS2 f f2) .none .none doc pm an (.ref cda) ct cc) (body := iB2 f f2 r0 r1 r2 r3 r6 r4 r5 q1 q2 q3 q4 w1 w2 w3 w4) (binds := [("self", .ref e), (f, v), (f2, v2)]) hroom (X _ _ ho) rfl hlim (codeRec_of X hcd) rfl
    (BindsTo.of_eq (hbind _ _ _)) (fun y hy => by
      simp only [ksFn, fnX, iS2, List.mem_cons, List.not_mem_nil, or_false] at hy
      rcases hy with rfl | rfl | rfl | rfl | rfl <;> exact fun z => nomatch z)
    (fun y hy => by
      simp only [List.mem_cons, List.not_mem_nil, or_false] at hy
      rcases hy with rfl | rfl | rfl
      · exact l2
      · exact l1
      · exact l5)
    (fun h₁ hns k => ?_)
  obtain ⟨hp, g, d, tk, os⟩ := s
  have X₁ : K.In h₁ := X.keeps k
  have hx₁ := k _ _ he
  obtain ⟨pl, hcall⟩ := hcall (ksEnv qual (iS2 f f2) hp.objs.size fI (.ref cda) cc)
  refine ks_wpAt_execs_cons (ks_wpAt_Expr_any (ks_wpAt_MethodCall (pl := pl) ?_ hcall) (by rfl) (by rfl))
  refine super_base T (h := h₁) X₁ (G.keeps k) (B.keeps k) hB hns ho rfl m2 hx₁ rfl ⟨_, rfl⟩ hcode hvs hfile (by decide) l4 l3 l2 rfl fun h₂ e2 kk => ?_
  have X₂ : K.In h₂ := X₁.keeps kk
  have hI : InstAt h₂ e (excO C t0) C none := ⟨kk _ _ hx₁, rfl, rfl, trivial⟩
  have su := T.su
  unfold ks_superIn at su
  rw [hcl] at su
  refine kxs_getMethod kxs_ValueError e2 (looks_opaque X₂ T.op) (l₀ := .ref C :: bm) ?_ rfl X₂ su (hI.type.andThen (looks_subIn X₂ T.veC)) (ks_ne X₂ hI hcl) (by decide) ?_
  · exact fun A Q E s k q => wpAny_bind ((looks_clsIn X₂ hcl) A _ E s k (wpAny_pure q))
  have k3' : ∀ b o, h₂.get? b = some o → (h₂.push (kxs_mw "ValueError.__init__" e)).get? b = some o := fun b o q => Heap.get?_push_of_some _ q
  have hu : (h₂.push (kxs_mw "ValueError.__init__" e)).get? h₂.objs.size = some (kxs_mw "ValueError.__init__" e) := Heap.get?_push_size _ rfl
  have hns3 : (h₂.push (kxs_mw "ValueError.__init__" e)).Ns hp.objs.size _ := (hns.keeps kk).keeps k3'
  show wpAny _ _ (callWith r4 (.ref h₂.objs.size) [] (backTo r4 (starEach [.Name f r3, .Name f2 r6] _)) []) _ _ _
  refine kxs_callWith (i := "ValueError.__init__") (x := e) (by rfl) (evalArgs_plain (Calls.spliced_cons ?_))
  refine ldK (v := v) hns3 m1 ?_ (hk := by rfl) (hl := l1) (hd := N.nd)
  refine Calls.spliced_cons ?_
  refine ldK (v := v2) hns3 m3 ?_ (hk := by rfl) (hl := l5) (hd := N2.nd)
  refine Calls.spliced_nil ⟨hu, ?_⟩
  show wpAny _ _ (call (.ref h₂.objs.size) [v, v2]) _ _ _
  refine call_mw T (X₂.keeps k3') (k3' _ _ hI.at_) hu (two_size v v2) fun h₄ t1 k4 e4 => ?_
  have hL : hp.objs.size ≠ e := Nat.ne_of_gt (Heap.lt_size he)
  have kAll : ∀ b o, b ≠ e → hp.get? b = some o → h₄.get? b = some o := fun b o hb z => k4 b o hb (k3' _ _ (kk _ _ (k _ _ z)))
  have X₄ : K.In h₄ := fun a o z => kAll a o (fun y => by rw [y, hne] at z; cases z) (X a o z)
  have hns4 : h₄.Ns hp.objs.size (fun y => ([("self", .ref e), (f, v), (f2, v2)] : List (Str × Value)).reverse.lookup y) := hns3.at fun o z => k4 _ o hL z
  refine wpAt_of_wpAny ?_
  refine wpAny_execs_cons (plainObj_wpAny_Assign_Attribute ?_)
  refine ldK (v := v) hns4 m1 (ldK (v := .ref e) hns4 m2 ?_ (hk := by rfl) (hl := l2) (hd := by decide)) (hk := by rfl) (hl := l1) (hd := N.nd)
  refine set_plain X₄ (ox := excO C t1) (od := none) ⟨e4, rfl, rfl, trivial⟩ T.sa ?_
  refine exc_osa X₄ e4 hcl (show refsVE (.ref C :: bm) = true from hbm) rfl N.no (fun h₅ tk₅ dx k₅ dn dne hx₅ hn₅ => ?_)
  have hz : hp.objs.size < h₄.objs.size := hns4.lt
  have k05 : ∀ b o, b ≠ e → hp.get? b = some o → h₅.get? b = some o := fun b o hb z => k₅ b o hb (kAll b o hb z)
  have X₅ : K.In h₅ := fun a o z => k05 a o (fun y => by rw [y, hne] at z; cases z) (X a o z)
  have hns5 : h₅.Ns hp.objs.size (fun y => ([("self", .ref e), (f, v), (f2, v2)] : List (Str × Value)).reverse.lookup y) := hns4.at fun o z => k₅ _ o hL z
  have hw : Within (fun y => if y = f then some v else none) [f] := Within.cons f v Within.nil
  obtain ⟨oD, _, _, hoD, _, _⟩ := hn₅.count hw
  refine wpAny_execs_cons (plainObj_wpAny_Assign_Attribute ?_)
  refine ldK (v := v2) hns5 m3 (ldK (v := .ref e) hns5 m2 ?_ (hk := by rfl) (hl := l2) (hd := by decide)) (hk := by rfl) (hl := l5) (hd := N2.nd)
  refine set_plain X₅ (ox := { cls := .ref C, dict := some dx, data := .fields #[.ref t1, .none, .none, .none, .bool false, .none] }) (od := some oD) ⟨hx₅, rfl, rfl, hoD⟩ T.sa ?_
  refine PySem.OEX.osa_old X₅ hx₅ hn₅ hw (by simp) hcl (show refsVE (.ref C :: bm) = true from hbm) rfl N2.no (fun h₆ tk₆ k₆ hn₆ => ?_)
  show wpAny _ _ (execs _ _) _ _ _
  exact wpAny_execs_nil (hq h₆ tk₆ dx t1 ⟨fun b o hb z => k₆ b o (fun y => absurd (Heap.lt_size z) (by rw [y]; exact Nat.not_lt.mpr (Nat.le_trans (Nat.le_of_lt hz) dn))) (k05 b o hb z), k₆ e _ (Ne.symm dne) hx₅, Nat.le_trans (Nat.le_of_lt hz) dn, dne, hn₆⟩)
theorem own_made2 (T : Txt prog K mg x C fI cc) (FN : Fn2 prog K qual f f2 fI cc) (N : FName K C f) (N2 : FName K C f2) (hff : (f2 == f) = false) {v v2 : Value} (X : K.In s.heap) (hlim : s.heap.NoLimit) (G : s.heap.Ns mainGlobals mg) (B : s.heap.Ns builtinsNs mb) (hB : ∀ x : Str, x ≠ "__name__" → mb x = bootBuiltins x) (hroom : A.depth + 1 < recursionLimit)
    (hq : ∀ h' tk e d, Made s.heap h' e C d (fun y => if y = f2 then some v2 else if y = f then some v else none) → R (.ok (.ret (.ref e))) { s with heap := h', toks := tk }) :
    codeAny (model prog w) A (.call (.ref C) ⟨[v, v2], []⟩) R s := by
  obtain ⟨nm, q, Nn, bs, bm, sn, sub, ab, col, dd, k0, k1, k2, k3, k5, hC, hbm⟩ := T.cls
  obtain ⟨hp, g, dr, tk, os⟩ := s
  have k : ∀ b o, hp.get? b = some o → ((hp.push (kdv_tup [v, v2])).push (excO C hp.objs.size)).get? b = some o := fun b o e => Heap.get?_push_of_some _ (Heap.get?_push_of_some _ e)
  have hget : ((hp.push (kdv_tup [v, v2])).push (excO C hp.objs.size)).get? (hp.objs.size + 1) = some (excO C hp.objs.size) := by heap_get
  have hnx : K.lookup (hp.objs.size + 1) = none := by
    cases e : K.lookup (hp.objs.size + 1) with
    | none => rfl
    | some o =>
      have z : hp.get? (hp.objs.size + 1) = some o := X _ _ e
      exact absurd (Nat.lt_of_succ_lt (Heap.lt_size z)) (Nat.lt_irrefl _)
  have hge : mainGlobals ≠ hp.objs.size + 1 := Nat.ne_of_lt (Nat.lt_succ_of_lt G.lt)
  refine call_own F.excBase_ValueError (fun X => refsVE_contains X bm hbm) (X _ _ hC) (looks_findIn X T.iC) (fun self => bind_fn X self T.tC) (two_size v v2) ?_
  refine own_init2 (s := ⟨(hp.push (kdv_tup [v, v2])).push (excO C hp.objs.size), g, dr, tk, os⟩) T FN N N2 hff (X.keeps k) (hlim.keeps k) (G.keeps k) (B.keeps k) hB hget hnx hge ?_ fun h' tk' dx t1 ⟨k', hx, dn, dne, hns⟩ => ?_
  · show A.depth + 1 < recursionLimit
    exact hroom
  · have old : ∀ b o, hp.get? b = some o → h'.get? b = some o := fun b o e => k' b o (Nat.ne_of_lt (Nat.lt_succ_of_lt (Heap.lt_size e))) (k b o e)
    have z : hp.objs.size + 1 + 1 ≤ dx := by
      first
        | (simpa only [Heap.size_push] using dn)
        | exact dn
        | (have q := dn; rw [Heap.size_push, Heap.size_push] at q; exact q)
    exact ⟨rfl, hq h' tk' (hp.objs.size + 1) dx ⟨old, Nat.le_succ _, ⟨_, _, hx, rfl, rfl, rfl, rfl⟩, Nat.le_trans (Nat.le_trans (Nat.le_succ _) (Nat.le_succ _)) z, dne, hns⟩⟩
end
end OEK
namespace L2
open PySem PySem.Spec PyProof.Rows
theorem relO_two {v v2 : V} {v' v2' : Value} {g g2 : Str} (r : RelV v v') (r2 : RelV v2 v2') (f : Str) : RelO (List.lookup f [(g2, v2), (g, v)]) (if f = g2 then some v2' else if f = g then some v' else none) := by
  rw [List.lookup_cons]
  by_cases h : f = g2
  · subst h
    rw [if_pos rfl]
    simp only [beq_self_eq_true]
    exact r2
  · rw [if_neg h]
    have e : (f == g2) = false := by simpa using h
    rw [e]
    exact relO_one r f
section
variable {X : Cx} {C fI cc : Addr} {x qual f f2 : Str}
/-- x(e) -/
def tMkX2 (C : Addr) (f f2 : Str) (ta : TA) : St → Hp → XK → Prop := fun σ H Q => ta σ H fun vs H1 => ∃ v v2, vs = [v, v2] ∧ ∀ d, H1 d = none → Q (.ref C) (some d) (upd H1 d (.xd [(f2, v2), (f, v)]))
theorem pmk_own2 {a b : Expr} {ta : TA} {p pos : Pos} {k : Nat} (T : OEK.Txt X.prog X.K X.mg x C fI cc) (FN : OEK.Fn2 X.prog X.K qual f f2 fI cc) (N : OEK.FName X.K C f) (N2 : OEK.FName X.K C f2) (hff : (f2 == f) = false) (hr : Room k X.A) (ha : PA X [a, b] ta) (hg : Gl X x) (hdb : (x == ("__debug__" : Str)) = false := by decide)
    (he : starEach (a :: [b]) X.env = (false, eval a X.env) :: starEach [b] X.env := by rfl) (hpl : (backTo pos (starEach [b] X.env)).any (·.1) = false := by rfl) :
    PMk X (.Call (.Name x p) [a, b] [] pos) (tMkX2 C f f2 ta) := by
  intro pins s σ H Q I h
  refine wpAny_Call_Name_kw (ld_glob I hg T.gC ?_ hdb)
  refine PySem.W.callWith_K (h₀ := X.base) I.ok.mod.kin T.kC (thn (ha.run pos pins s σ H _ I h) fun us s1 hh => ?_) he hpl
  obtain ⟨vs, H1, I1, r1, v, v2, ev, q1⟩ := hh
  subst ev
  refine ⟨I1.kIn, ?_⟩
  cases r1 with
  | cons rv rn =>
   rename_i v' us'
   cases rn with
   | cons rv2 rn =>
    rename_i v2' us2
    cases rn
    show wpAny _ _ (call (.ref C) [v', v2']) _ _ _
    have hlim := I1.nolimit
    have hkin := I1.kIn
    have hG := I1.mod.glob.keeps I1.bk
    obtain ⟨mb, hb0, hB⟩ := I1.mod.blt
    have hb := hb0.keeps I1.bk
    obtain ⟨hp, g, dr, tk, os⟩ := s1
    refine wpAny_call (OEK.own_made2 T FN N N2 hff hkin hlim hG hb hB (by have := hr.dp; omega) fun h' tk' e d M => ?_)
    show MkP X pins σ Q (.ref e) ⟨h', g, dr, tk', os⟩
    obtain ⟨oe, fv, hoe, hc, hd, hdat, h1⟩ := M.obj
    have hns := M.ns
    obtain ⟨G', g1, g2⟩ := restrict h' fun b => decide (b ≠ e)
    have gk : ∀ b, b ≠ e → G'.get? b = h'.get? b := fun b hb => g1 b (decide_eq_true hb)
    have ge : G'.get? e = none := g2 e (by simp)
    have old : ∀ b o, hp.get? b = some o → G'.get? b = some o := fun b o q => (gk b (Nat.ne_of_lt (Nat.lt_of_lt_of_le (Heap.lt_size q) M.new))).trans (M.keep b o q)
    have ob : ObjOk X.prog X.w (upd H1 d (.xd [(f2, v2), (f, v)])) G' d (.xd [(f2, v2), (f, v)]) :=
      ⟨_, hns.at (fun o q => (gk d M.dne).trans q), fun g => relO_two rv rv2 g⟩
    have J : Inv X pins σ (upd H1 d (.xd [(f2, v2), (f, v)])) ⟨G', g, dr, tk', os⟩ := I1.laid (t' := tk') old M.dbig ob
    refine ⟨e, oe, fv, ⟨G', g, dr, tk', os⟩, _, .ref C, some d, rfl, J, fun b o q => ?_, ge, hoe, ⟨hc, hd⟩, hdat, h1, ?_, rfl, I1.bare, raises_own T.exC T.tyC, q1 d (I1.hok.fresh M.dbig)⟩
    · by_cases hb : b = e
      · have q' : G'.get? b = some o := q
        rw [hb, ge] at q'; cases q'
      · exact (gk b hb).symm.trans q
    · rw [upd_ne (Ne.symm M.dne)]
      exact I1.hok.fresh M.new
end
end L2
namespace DL
open PySem PySem.Spec PyProof.Rows L2
/-- raise x(e), x an own class at C with one field -/
def dRaise2 (C : Addr) (f f2 : Str) (ta : DTA) : DTS := fun _ δ M W => ta δ M (fun ds M1 => match ds with
  | [d, e] => W (.ref C) [(f2, e), (f, d)] δ M1
  | _ => False) W
section
variable {X : Cx} {W0 : WX} {C fI cc : Addr} {x qual f f2 : Str} {a b : Expr} {ta : DTA} {p pos pos2 : Pos} {k : Nat}
theorem ds_raise2 (hc : X.calm = true) (T : OEK.Txt X.prog X.K X.mg x C fI cc) (FN : OEK.Fn2 X.prog X.K qual f f2 fI cc) (N : OEK.FName X.K C f) (N2 : OEK.FName X.K C f2) (hff : (f2 == f) = false) (hr : Room k X.A) (tk : Takes X W0) (ha : DA X W0 [a, b] ta) (hg : Gl X x := by rfl) (hdb : (x == ("__debug__" : Str)) = false := by decide)
    (he : starEach (a :: [b]) X.env = (false, eval a X.env) :: starEach [b] X.env := by rfl) (hpl : (backTo pos (starEach [b] X.env)).any (·.1) = false := by rfl) :
    DS X W0 (.Raise (some (.Call (.Name x p) [a, b] [] pos)) none pos2) (dRaise2 C f f2 ta) :=
  .mk' (ps_raise hc tk (pmk_own2 T FN N N2 hff hr ha.pa hg hdb he hpl)) fun D0 σ H δ M D' W at_ q k w => lfA.use at_ q (fun vs H1 ds M1 x m1 r1 q1 => by
    split at q1
    · obtain ⟨v, v2, rfl, r, r2⟩ := r1.two
      refine ⟨v, v2, rfl, fun d hd => ?_⟩
      have y := Ext.laid (o := .xd [(f2, v2), (f, v)]) m1 hd
      refine w (.ref C) (some d) σ _ _ δ M1 (x.trans y) (at_.s.ext (x.trans y)) (m1.laid hd) (.inr ⟨d, _, rfl, upd_same, m1.fresh hd, .cons ⟨rfl, r2.ext y⟩ (.cons ⟨rfl, r.ext y⟩ .nil)⟩) q1
    · exact q1.elim) w
end
structure Err2 (P : Program) (K : PySem.W.Frag) (mg : Str → Option Value) (x f f2 : Str) : Prop where
  ex : ∃ (fI cc : Addr) (qual : Str), OEK.Txt P K mg x (He.ga K x) fI cc ∧ OEK.Fn2 P K qual f f2 fI cc ∧ OEK.FName K (He.ga K x) f ∧ OEK.FName K (He.ga K x) f2 ∧ (f2 == f) = false
theorem ds_raiseE2 {X : Cx} {W0 : WX} {x f f2 : Str} {a b : Expr} {ta : DTA} {p pos pos2 : Pos} {k : Nat} (hc : X.calm = true) (e : Err2 X.prog X.K X.mg x f f2) (hr : Room k X.A) (tk : Takes X W0) (ha : DA X W0 [a, b] ta) (hg : Gl X x := by rfl) (hdb : (x == ("__debug__" : Str)) = false := by decide)
    (he : starEach (a :: [b]) X.env = (false, eval a X.env) :: starEach [b] X.env := by rfl) (hpl : (backTo pos (starEach [b] X.env)).any (·.1) = false := by rfl) :
    DS X W0 (.Raise (some (.Call (.Name x p) [a, b] [] pos)) none pos2) (dRaise2 (He.ga X.K x) f f2 ta) := by
  obtain ⟨fI, cc, q, T, FN, N, N2, hff⟩ := e.ex
  exact ds_raise2 hc T FN N N2 hff hr tk ha hg hdb he hpl
end DL
end

section
set_option Elab.async false
set_option linter.all false
set_option maxRecDepth 100000
set_option maxHeartbeats 2000000
/-! DS1: sets of ints: of a list, by a comprehension. -/
namespace L2
open PySem PySem.Spec PyProof.Rows
section
variable {P : Program} {w : World} {A : Around} {E : Value → Shared → Prop} {s : Shared}
theorem call_set_lstI {l : Addr} {items : Array Value} (ns : List Int) {Q : Value → Shared → Prop} (hh : A.handled = none) (hl : s.heap.IsList l items) (hit : IntsAre items.toList ns) (hb : ns.length + 1 < scanBound)
    (h : ∀ (h' : Heap) (tk c : Nat), SetR w h' s.heap.objs.size (fun j => decide (j ∈ ns)) c → c ≤ ns.length → (∀ b o, s.heap.get? b = some o → h'.get? b = some o) → Q (.ref s.heap.objs.size) { s with heap := h', toks := tk }) :
    wpAny (model P w) A (call (.type "set") [.ref l]) Q E s := by
  have hisz : items.size = ns.length := by
    have q := IntsAre.length hit
    rw [Array.length_toList] at q
    exact q
  obtain ⟨c, tl, hmro⟩ := F.called_set.mro
  have hmade := F.called_set.made
  have hsub := F.called_set.sub
  refine wpAny_call (codeAny_of_tree ?_)
  show wpAny _ _ (callAny (.type "set") _) _ _ _
  refine wpAny_pure ⟨Code.quiet_builtin _ (by decide +kernel), codeAny_builtin F.entry_type_call ?_⟩
  rw [Around.under_plain (weight_type_call_type "set" [.ref l] []) rfl]
  have h1 := F.called_set.notType
  have h2 := F.called_set.canCreate
  have hct := F.typeCall_set_1 (.ref l)
  repeat (any_goals (first | assumption | wp_step))

  refine codeAny_mono (code_set_led1 (.ref l) (E := E) (Q₁ := fun obj s₁ => obj = .ref s.heap.objs.size ∧ s₁ = { s with heap := s.heap.push { cls := .type "set", dict := none, data := .set #[] 0 (.fresh 0 0 (!w.params.followText "set-order")) } }) ⟨rfl, rfl⟩) fun r s₁ hr => ?_
  cases r with
  | error e => exact hr
  | ok fl =>
    cases fl with
    | ret obj =>
      obtain ⟨rfl, rfl⟩ := hr
      have hS : (s.heap.push { cls := .type "set", dict := none, data := .set #[] 0 (.fresh 0 0 (!w.params.followText "set-order")) }).get? s.heap.objs.size = some { cls := .type "set", dict := none, data := .set #[] 0 (.fresh 0 0 (!w.params.followText "set-order")) } := Heap.get?_push_size _ rfl
      have hT : Shared.TypeIs { s with heap := s.heap.push { cls := .type "set", dict := none, data := .set #[] 0 (.fresh 0 0 (!w.params.followText "set-order")) } } (.ref s.heap.objs.size) "set" := ⟨_, hS, rfl⟩
      have hli := F.called_set.init.lookup
      have hbi := F.called_set.init.bind (.ref s.heap.objs.size)
      repeat (any_goals (first | assumption | wp_step))

      refine codeAny_mono (codeAny_call_builtin (R := wants (fun r s₂ => r = .none ∧ ∃ h' tk c, s₂ = { s with heap := h', toks := tk } ∧ SetR w h' s.heap.objs.size (fun j => decide (j ∈ ns)) c ∧ c ≤ ns.length ∧
          (∀ b o, s.heap.get? b = some o → h'.get? b = some o)) E) F.called_set.init.plain F.entry_set_init (check_set_init_1 hT ?_)) fun r₂ s₂ hr₂ => ?_
      · obtain ⟨ol, hol, hcl, nl, hdl⟩ := hl
        obtain ⟨ocls, odict, odata, oslots⟩ := ol
        simp only at hcl hdl
        subst hcl; subst hdl
        have hol' : (s.heap.push { cls := .type "set", dict := none, data := .set #[] 0 (.fresh 0 0 (!w.params.followText "set-order")) }).get? l = some { cls := .type "list", dict := odict, data := .seq items nl, slots := oslots } := Heap.get?_push_of_some _ hol
        have hsls := F.sub_list_set
        have hslf := F.sub_list_frozenset
        have hne : (Value.type "list" == Value.type "dict") = false := by decide
        have hl1 : (s.heap.push { cls := .type "set", dict := none, data := .set #[] 0 (.fresh 0 0 (!w.params.followText "set-order")) }).IsList l items := ⟨_, hol', rfl, nl, rfl⟩
        unfold Builtin.«set.__init__» noKeywords Builtin.Frozenset.updateFrom
        generalize hPI : pyIter = PI
        wp_walk
        subst hPI

        refine wpAny_pyIter_list hl1 ?_
        refine wpAny_bind (wpAny_runValue ?_)
        have hlS : l < s.heap.objs.size := Heap.lt_size hol
        have hh3 : A.in1.in1.in1.handled = none := by simp [hh]
        have hz1 : (s.heap.push { cls := .type "set", dict := none, data := .set #[] 0 (.fresh 0 0 (!w.params.followText "set-order")) }).objs.size = s.heap.objs.size + 1 := Heap.size_push ..
        have hneI : l ≠ (s.heap.push { cls := .type "set", dict := none, data := .set #[] 0 (.fresh 0 0 (!w.params.followText "set-order")) }).objs.size := by
          rw [Heap.size_push]; exact Nat.ne_of_lt (Nat.lt_succ_of_lt hlS)
        have hSf : s.heap.objs.size ∉ [(s.heap.push { cls := .type "set", dict := none, data := .set #[] 0 (.fresh 0 0 (!w.params.followText "set-order")) }).objs.size, l] := by
          rw [Heap.size_push]; simp only [List.mem_cons, List.mem_singleton, List.not_mem_nil, or_false, not_or]
          exact ⟨Nat.ne_of_lt (Nat.lt_succ_self _), Nat.ne_of_gt hlS⟩
        have hval : ∀ (i : Nat) (v : Value), items[i]? = some v → ∃ k t, ns[i]? = some k ∧ v = .int k t := fun i v hv => by
          have hi : i < ns.length := by rw [← hisz]; exact (Array.getElem?_eq_some_iff.mp hv).1
          obtain ⟨t, e⟩ := PyProof.Rows.IntsAre.int_at hit i v (by rw [Array.getElem?_toList]; exact hv)
          refine ⟨ns[i], t, List.getElem?_eq_getElem hi, ?_⟩
          rw [e, List.getD_eq_getElem?_getD, List.getElem?_eq_getElem hi] <;> rfl
        refine set_update_ints ((Walks.list hh3 _ l hneI items).toS) s.heap.objs.size
          hSf ns hisz hb hval (items.size - 0) 0 _ (by omega) (Nat.zero_le _)
          ⟨⟨_, Heap.get?_push_size _ rfl, rfl, rfl⟩, (hl1.push _)⟩ ?hS0 ?hR
        case hS0 =>
          have hget : ((s.heap.push { cls := .type "set", dict := none, data := .set #[] 0 (.fresh 0 0 (!w.params.followText "set-order")) }).push { cls := .type "list_iterator", data := .fields #[.ref l, .int 0 0] }).get? s.heap.objs.size
              = some { cls := .type "set", dict := none, data := .set #[] 0 (.fresh 0 0 (!w.params.followText "set-order")) } := Heap.get?_push_of_some _ hS
          exact ⟨0, Nat.le_refl 0, setR_new_at hget⟩
        case hR =>
          intro s' c' hm hc' hS'
          obtain ⟨h', g2, d', tk', os'⟩ := s'
          have eg : g2 = s.gens := hm.gens
          have ed : d' = s.drawn := hm.drawn
          have eo : os' = s.os := hm.os
          subst eg; subst ed; subst eo
          show wpAny _ _ _ _ _ _
          refine wpAny_pure ?_
          show wpAny _ _ (ret Value.none) _ _ _
          rw [hisz] at hc'
          refine wpAny_pure ⟨rfl, h', tk', c', rfl, hS', hc', fun b o e => ?_⟩
          have hb0 : b < s.heap.objs.size := Heap.lt_size e
          have hb1 : b ≠ s.heap.objs.size := Nat.ne_of_lt hb0
          have hb2 : b ≠ (s.heap.push { cls := .type "set", dict := none, data := .set #[] 0 (.fresh 0 0 (!w.params.followText "set-order")) }).objs.size := by
            rw [Heap.size_push]; exact Nat.ne_of_lt (Nat.lt_succ_of_lt hb0)
          exact hm.heap b o (by simp only [List.mem_cons, List.mem_singleton, List.not_mem_nil, or_false, not_or]; exact ⟨hb1, hb2⟩) (Heap.get?_push_of_some _ (Heap.get?_push_of_some _ e))

      · cases r₂ with
        | error e => exact hr₂
        | ok fl₂ =>
          cases fl₂ with
          | ret r =>
            obtain ⟨rfl, h', tk, c', rfl, hS', hc', hk'⟩ := hr₂
            repeat (any_goals (first | assumption | wp_step))
            exact h _ _ _ hS' hc' hk'
          | _ => exact hr₂.elim
    | _ => exact hr.elim

end
end L2
namespace PpSet
open PySem PySem.Spec PyProof.Rows L2
section
variable {X : Cx}
/-- set.add of an int -/
theorem addI_ok {pins : List (Addr × Obj)} {σ : L2.St} {H : Hp} {s : Shared} {E : Value → Shared → Prop} {D : Addr} {S : Int → Bool} {n : Nat} {y : Int} {tk : Tok} {Q : Value → Shared → Prop} (I : Inv X pins σ H s) (hD : H D = some (SetO X.w D S n)) (room : n + 1 < scanBound)
    (h : ∀ s', Inv X pins σ (upd H D (SetO X.w D (fun j => S j || decide (j = y)) (if S y = true then n else n + 1))) s' → Q .none s') : wpAny (model X.prog X.w) X.A (call (.builtin "set.add") [.ref D, .int y tk]) Q E s := by
  have R := setO_get I hD
  refine setR_add R room fun h' sb new => ?_
  have he : ∃ u, h'.get? D = some u := by
    have ⟨o, _, _, _, ho, _⟩ := new
    exact ⟨o, ho⟩
  exact h _ (I.write (e := D) (t' := s.toks + 1) (by rw [hD]; trivial) (.inl rfl) (fun b u hb hu => (sb.2 b hb).trans hu) he (setO_new new))
/-- {elt for target in iter if ..}, elt an int: D the new set -/
def tScI (w : World) (wi : TI) (g : TG) (tt : TT) (te : TE) (vs : List Nat) : TE := fun σ H Q => wi σ H fun J H1 => ∀ D, H1 D = none → ∃ W : Nat → Nat → Hp → Prop, (∃ m, W 0 m (upd H1 D (SetO w D (fun _ => false) 0))) ∧ ∀ i m H, W i m H →
  (J.stop i H ∧ Q (.ref D) H) ∨ (J.go i H ∧ ∃ Nx : Hp → Prop, (∀ H', Nx H' → ∃ m', m' < m ∧ W (i + 1) m' H') ∧ ∀ x H', J.yld i H x H' → g x (wipe σ vs) H' fun σ2 H2 => wipe σ2 vs = wipe σ vs ∧ tt σ2 H2 fun b H3 =>
    if b = true then te σ2 H3 fun y H4 => ∃ (c : Int) (S : Int → Bool) (n : Nat), y = .int c ∧ H4 D = some (SetO w D S n) ∧ n + 1 < scanBound ∧ Nx (upd H4 D (SetO w D (fun j => S j || decide (j = c)) (if S c = true then n else n + 1))) else Nx H3)
theorem scI_core {pins : List (Addr × Obj)} {s : Shared} {σ : L2.St} {H : Hp} {Q : VK} {elt tg iter : Expr} {ifs : List Expr} {scope : Scope} {own : List (PySem.Str × Nat)} {pos pos' : Pos} {wi : TI} {g : TG} {tt : TT} {te : TE} {use : Option (Value → Sem Unit)} {Qf : Value → Shared → Prop}
    (hc : X.calm = true) (hN : X.N.Nodup) (I : Inv X pins σ H s) (hi : PI X tg iter wi) (ok : BlkOk X.N X.env.scope scope own)
    (hg : ∀ (s : Shared) (H : Hp) (C : Addr) (cl : List (PySem.Str × Addr)) (fp : List Addr), PG (X.blk s H scope (compEnvC scope cl C X.env) fp) tg g) (ht : ∀ (s : Shared) (H : Hp) (C : Addr) (cl : List (PySem.Str × Addr)) (fp : List Addr), PTs (X.blk s H scope (compEnvC scope cl C X.env) fp) ifs tt)
    (he : ∀ (s : Shared) (H : Hp) (C : Addr) (cl : List (PySem.Str × Addr)) (fp : List Addr), PE (X.blk s H scope (compEnvC scope cl C X.env) fp) elt te) (hs : ∀ x, foldedSetIterable iter X.env x = pure x)
    (h : tScI X.w wi g tt te (own.map (·.2)) σ H Q)
    (hRR : ∀ D C s' m H', Inv X pins σ H' s' → Q (.ref D) H' → s'.heap.Ns C m → FpOk X pins H' C → compPost (model X.prog X.w) X.A X.xe use Qf (.ref D) C (.ok .next) s') :
    wpAny (model X.prog X.w) X.A (comprehension (.SetComp elt [⟨tg, iter, ifs, 0⟩] scope pos) scope X.env pos' (newSet (.type "set")) false (eval iter X.env) use) Qf X.xe s := by
  have hfree : ∀ y ∈ scope.names, y.2 = .free → ∃ c, X.env.cells.lookup y.1 = some c := fun y hy e => by
    rcases ok.free y hy e with k | k
    · exact I.ok.has _ (.inl k)
    · exact I.ok.has _ (.inr k)
  refine wpAny_comprehension_free (use := use) rfl hs (closure_ok hfree) ok.kind (fun y hy e => by rw [ok.uniq y hy, e])
    (thn (hi.run pins s σ H _ I h) fun xv s1 hx => thn hx fun itv s2 h2 => ?_)
  obtain ⟨it, fp, tn, J, H2, e, I2, T, st2, f2, q⟩ := h2
  subst e
  refine newSet_ok (newEnv_comp ?_)
  generalize hD : s2.heap.objs.size = D
  have hDn : H2 D = none := I2.hok.fresh (Nat.le_of_eq hD)
  obtain ⟨W, ⟨m0, w0⟩, turn⟩ := q D hDn
  -- the new list
  generalize hs3 : ({ s2 with heap := s2.heap.push { cls := .type "set", dict := none, data := .set #[] 0 (.fresh 0 0 (!X.w.params.followText "set-order")) } } : Shared) = s3
  have I3 : Inv X pins σ (upd H2 D (SetO X.w D (fun _ => false) 0)) s3 := by
    rw [← hs3]
    refine I2.laid (t' := s2.toks) (fun b o e => Heap.get?_push_of_some _ e) (Nat.le_of_eq hD) ?_
    rw [← hD]
    exact setO_new (setR_fresh X.w)
  have h3 : s3.heap = s2.heap.push { cls := .type "set", dict := none, data := .set #[] 0 (.fresh 0 0 (!X.w.params.followText "set-order")) } := by rw [← hs3]
  have sz : ∀ b ∈ fp, b < s2.heap.objs.size := fun b hb => by
    obtain ⟨o, e, _⟩ := T.obj _ _ st2 b hb
    exact Heap.lt_size e
  have f3 : ∀ b ∈ fp, FpOk X pins (upd H2 D (SetO X.w D (fun _ => false) 0)) b ∧ b < s3.heap.objs.size := fun b hb => by
    have hlt := sz b hb
    refine ⟨⟨?_, (f2 b hb).2⟩, by rw [h3, Heap.size_push]; exact Nat.lt_succ_of_lt hlt⟩
    rw [upd_ne (by rw [← hD]; exact Nat.ne_of_lt hlt)]
    exact (f2 b hb).1
  have st3 : tn 0 s3.heap := T.keep _ _ _ st2 fun b _ o e => by rw [h3]; exact Heap.get?_push_of_some _ e
  have I4 := block_start I3 ok hN f3
  have pg := hg s3 (upd H2 D (SetO X.w D (fun _ => false) 0)) s3.heap.objs.size (cellsFrom (s3.heap.objs.size + 1) scope.names (cloFrom X.env.cells scope.names [])) fp
  have pt := ht s3 (upd H2 D (SetO X.w D (fun _ => false) 0)) s3.heap.objs.size (cellsFrom (s3.heap.objs.size + 1) scope.names (cloFrom X.env.cells scope.names [])) fp
  have pe := he s3 (upd H2 D (SetO X.w D (fun _ => false) 0)) s3.heap.objs.size (cellsFrom (s3.heap.objs.size + 1) scope.names (cloFrom X.env.cells scope.names [])) fp
  show codeAny _ _ (.compStart (.SetComp elt [⟨tg, iter, ifs, 0⟩] scope pos) 0 (.ref it) (.ref D) (compEnvC scope (cellsFrom (s3.heap.objs.size + 1) scope.names (cloFrom X.env.cells scope.names [])) s3.heap.objs.size X.env)) (compPost (model X.prog X.w) X.A X.xe use Qf (.ref D) s3.heap.objs.size) { s3 with heap := pushCells (s3.heap.push { cls := .type "dict", data := .dict #[] }) scope.names }
  have nfp : ∀ b ∈ fp, (upd H2 D (SetO X.w D (fun _ => false) 0)) b = none := fun b hb => (f3 b hb).1.1
  generalize hce : compEnvC scope (cellsFrom (s3.heap.objs.size + 1) scope.names (cloFrom X.env.cells scope.names [])) s3.heap.objs.size X.env = ce at I4 pg pt pe ⊢
  have cL : ce.locals = s3.heap.objs.size := by subst hce; rfl
  generalize hH3 : upd H2 D (SetO X.w D (fun _ => false) 0) = H3 at I3 I4 pg pt pe w0 nfp f3
  generalize hs4 : ({ s3 with heap := pushCells (s3.heap.push { cls := .type "dict", data := .dict #[] }) scope.names } : Shared) = s4 at I4 ⊢
  have st4 : tn 0 s4.heap := T.keep _ _ _ st3 fun b _ o e => by rw [← hs4]; exact pushCells_keeps _ _ _ _ (Heap.get?_push_of_some _ e)
  have stat : ∀ {σ' : L2.St} {H' : Hp} {s' : Shared}, Inv (X.blk s3 H3 scope ce fp) [] σ' H' s' → (∀ b ∈ fp, H' b = none) → ∀ b ∈ fp, FpOk (X.blk s3 H3 scope ce fp) [] H' b := fun {σ' H' s'} I' hn b hb =>
    ⟨hn b hb, (I'.ok.exf b hb).1, I'.ok.exfs b hb, .inl hb, fun x c e => (I'.ok.exf b hb).2 x c e, fun p hp => absurd (show p ∈ ([] : List (Addr × Obj)) ++ [] from hp) (by simp)⟩
  have loop : codeAny (model X.prog X.w) X.A (.compLoop (.SetComp elt [⟨tg, iter, ifs, 0⟩] scope pos) 0 (.ref it) (.ref D) ce) (compPost (model X.prog X.w) X.A X.xe use Qf (.ref D) s3.heap.objs.size) s4 := by
    refine compLoopS_any (fun n s' => ∃ i H', Inv (X.blk s3 H3 scope ce fp) [] (wipe σ (own.map (·.2))) H' s' ∧ tn i s'.heap ∧ (∀ b ∈ fp, H' b = none) ∧ W i n H') ?_ m0 ⟨0, H3, I4, st4, nfp, w0⟩
    rintro n s5 ⟨i, H5, I5, st5, n5, w5⟩
    rcases turn i n H5 w5 with ⟨stop, qq⟩ | ⟨go, Nx, hNx, step⟩
    · have td := T.done (X.blk s3 H3 scope ce fp) rfl rfl rfl hc i [] s5 _ H5 (fun _ _ => False) I5 (stat I5 n5) st5 stop
      refine thnF td fun r s6 ⟨hr, I6⟩ => ?_
      subst hr
      -- back in the def's context
      have I7 : Inv X pins σ H5 s6 := I3.call' (ch := fp) I6.os I6.base I6.hok I6.bare fun b hb => ⟨(f3 b hb).1.2.2.2.1, (f3 b hb).1.2.1, (f3 b hb).1.2.2.2.2.1, (f3 b hb).1.2.2.2.2.2⟩
      have nC : H5 s3.heap.objs.size = none := by
        have z : H5 ce.locals = none := I6.free
        rw [cL] at z
        exact z
      obtain ⟨m, hn, _⟩ := I6.loc
      have hn : s6.heap.Ns ce.locals m := hn
      rw [cL] at hn
      exact hRR D s3.heap.objs.size s6 m H5 I7 qq hn (I3.fpOk (Nat.le_refl _) nC)
    · have ti := T.item (X.blk s3 H3 scope ce fp) rfl rfl rfl hc i [] s5 _ H5 (fun _ _ => False) I5 (stat I5 n5) st5 go
      refine thnF ti fun r s6 ⟨u, hr, h6⟩ => ?_
      subst hr
      refine thnF h6 fun _ s7 ⟨x, H7, I7, r7, y7, st7, n7⟩ => ?_
      have I7' := I7.pinned (stat I7 n7) (T.obj _ _ st7)
      refine thnF (pg.run _ s7 _ H7 x u _ I7' r7 (step x H7 y7)) fun _ s8 ⟨σ8, H8, I8, hw8, q8⟩ => ?_
      refine thnF (pt.run _ s8 σ8 H8 _ I8 q8) fun b s9 ⟨H9, I9, q9⟩ => ?_
      -- the turn's end
      have fin : ∀ {s' : Shared} {H' : Hp}, Inv (X.blk s3 H3 scope ce fp) ([] ++ pinsAt fp s7.heap) σ8 H' s' → Nx H' → ∃ m, m < n ∧ ∃ i H', Inv (X.blk s3 H3 scope ce fp) [] (wipe σ (own.map (·.2))) H' s' ∧ tn i s'.heap ∧ (∀ b ∈ fp, H' b = none) ∧ W i m H' := fun {s' H'} I' nx => by
        obtain ⟨m', hm, w'⟩ := hNx H' nx
        have pin' : ∀ b ∈ fp, ∀ o, s7.heap.get? b = some o → s'.heap.get? b = some o ∧ H' b = none := fun b hb o e =>
          let z := I'.pin (b, o) (List.mem_append_right _ (List.mem_append_right _ (mem_pinsAt hb e)))
          ⟨z.1, z.2.1⟩
        have hl : (wipe σ (own.map (·.2))).length = σ8.length := by rw [← hw8, wipe_length]
        refine ⟨m', hm, i + 1, H', (I'.unpinned (pins := [])).weak hl (fun j v e => ?_), T.keep _ _ _ st7 fun b hb o e => (pin' b hb o e).1, fun b hb => ?_, w'⟩
        · rw [← hw8] at e
          exact (wipe_some e).1
        · obtain ⟨o, e, _⟩ := T.obj _ _ st7 b hb
          exact (pin' b hb o e).2
      cases b with
      | false =>
        simp only [Bool.false_eq_true, if_false] at q9 ⊢
        exact fin I9 q9
      | true =>
        simp only [if_true] at q9 ⊢
        refine thnF (pe.run _ s9 σ8 H9 _ I9 q9) fun z s10 ⟨yv, H10, I10, r10, cb, S0, n0, ey, hD10, hz10, nx⟩ => ?_
        subst ey
        obtain ⟨tk10, rfl⟩ := (show ∃ t, z = Value.int cb t from r10)
        exact addI_ok (X := X.blk s3 H3 scope ce fp) I10 hD10 hz10 fun s11 I11 => fin I11 nx
  exact codeAny_compStart_set loop (T.self X.A 0 _ _ _ st4 loop)
/-- as a value -/
theorem pe_scI {elt tg iter : Expr} {ifs : List Expr} {scope : Scope} {own : List (PySem.Str × Nat)} {pos : Pos} {wi : TI} {g : TG} {tt : TT} {te : TE} (hc : X.calm = true) (hN : X.N.Nodup) (hi : PI X tg iter wi) (ok : BlkOk X.N X.env.scope scope own)
    (hg : ∀ (s : Shared) (H : Hp) (C : Addr) (cl : List (PySem.Str × Addr)) (fp : List Addr), PG (X.blk s H scope (compEnvC scope cl C X.env) fp) tg g) (ht : ∀ (s : Shared) (H : Hp) (C : Addr) (cl : List (PySem.Str × Addr)) (fp : List Addr), PTs (X.blk s H scope (compEnvC scope cl C X.env) fp) ifs tt)
    (he : ∀ (s : Shared) (H : Hp) (C : Addr) (cl : List (PySem.Str × Addr)) (fp : List Addr), PE (X.blk s H scope (compEnvC scope cl C X.env) fp) elt te) (hs : ∀ x, foldedSetIterable iter X.env x = pure x := by intro _; rfl) :
    PE X (.SetComp elt [⟨tg, iter, ifs, 0⟩] scope pos) (tScI X.w wi g tt te (own.map (·.2))) := by
  refine ⟨fun pins s σ H Q I h => ?_⟩
  rw [eval_SetComp]
  refine scI_core hc hN I hi ok hg ht he hs h fun D C s' m H' I' q hn f => ⟨m, hn, fun h'' sb => ?_⟩
  obtain ⟨f0, f1, f2, f3, f4, f5⟩ := f
  exact ⟨.ref D, H', I'.turned (t' := s'.toks) (fun b o hb e => (sb.2 b hb).trans e) f0 f1 f3 f4 f5, rfl, q⟩
end
end PpSet
end

section
set_option Elab.async false
set_option linter.all false
set_option maxRecDepth 100000
/-! DS2: comprehensions of two fors, all, any, extend, dicts, sorted sets. -/
namespace DL
open PySem PySem.Spec PyProof.Rows L2
/-! ### comprehensions of two fors -/
def dLc2L (p : Pat) (tt : DTT) (ti1 : DTI) (p1 : Pat) (tt1 : DTT) (te : DTE) (δ0 : DSt) (vs1 : List Nat) (Q : List D → DHp → Prop) (chk : DHp → Prop) : List D → List D → DHp → Prop
  | [], acc, M => chk M ∧ Q acc M
  | d :: r, acc, M => chk M ∧ ∃ δ', putP p d δ0 = some δ' ∧ tt δ' M (fun b M1 => if b = true then ti1 δ' M1 (fun ds1 chk1 M2 => dLcL p1 tt1 te (wipeD δ' vs1) (fun acc' M3 => dLc2L p tt ti1 p1 tt1 te δ0 vs1 Q chk r acc' M3) chk1 ds1 acc M2) WN else dLc2L p tt ti1 p1 tt1 te δ0 vs1 Q chk r acc M1) WN
def dLc2 (ti : DTI) (p : Pat) (tt : DTT) (ti1 : DTI) (p1 : Pat) (tt1 : DTT) (te : DTE) (vs vs1 : List Nat) : DTE := fun δ M Q W => ti δ M (fun ds chk M1 => ∀ A, M1 A = none → dLc2L p tt ti1 p1 tt1 te (wipeD δ vs) vs1 (fun acc M2 => Q (.lst acc) (delD M2 A)) chk ds [] (updD M1 A .busy)) W
theorem lc2_run {K : PySem.W.Frag} {ti ti1 : DTI} {p p1 : Pat} {tt tt1 : DTT} {te : DTE} {vs vs1 : List Nat} {W0 : WX} (hsl : ∀ j, j ∈ slotsP p → j ∈ vs) (hsl1 : ∀ j, j ∈ slotsP p1 → j ∈ vs1) {σ : L2.St} {H : Hp} {Q0 : VK} {δ : DSt} {M : DHp} {W : DW} {Qe : Addr → List D → DHp → Prop} (a : At K σ H δ M)
    (q : ti δ M (fun ds chk M1 => ∀ A, M1 A = none → dLc2L p tt ti1 p1 tt1 te (wipeD δ vs) vs1 (Qe A) chk ds [] (updD M1 A .busy)) W)
    (k : ∀ A H' M' acc ws, Ext M H M' H' → (∀ b, M b = some .busy → b ≠ A) → RepM K H' M' → H' A = some (.lst ws) → M' A = some .busy → RepL K H' M' ws acc → Qe A acc M' → Q0 (.ref A) H') (w : OkW K M H W W0) :
    tLc2 (lfI K W0 ti) (gOf K p) (lfT K WF tt) (lfI K WF ti1) (gOf K p1) (lfT K WF tt1) (lfE K WF te) vs vs1 σ H Q0 := by
  refine ⟨δ, M, _, W, a, q, fun J H1 ds chk M1 x1 m1 wk q1 => ?_, w⟩
  intro A hA
  have nA := m1.fresh hA
  have yA : Ext M1 H1 (updD M1 A .busy) (upd H1 A (.lst [])) := Ext.laidM m1 hA
  have mA : RepM K (upd H1 A (.lst [])) (updD M1 A .busy) := m1.laidM hA ⟨_, upd_same, plain_lst⟩
  have wf : ∀ M H, OkW K M H WN WF := fun M H c pd σ' H' gs δ' M' _ _ _ _ z => z
  refine ⟨fun i n H' => ∃ M' acc vs', n + i = ds.length ∧ Ext M1 H1 M' H' ∧ RepM K H' M' ∧ H' A = some (.lst vs') ∧ M' A = some .busy ∧ RepL K H' M' vs' acc ∧ dLc2L p tt ti1 p1 tt1 te (wipeD δ vs) vs1 (Qe A) chk (ds.drop i) acc M', ⟨ds.length, updD M1 A .busy, [], [], rfl, yA, mA, upd_same, updD_same, .nil, q1 A nA⟩, ?_⟩
  rintro i n H2 ⟨M2, acc, vs', hn, x2, m2, eA, nA2, l2, q2⟩
  have xx := x1.trans x2
  cases e : ds.drop i with
  | nil =>
    have hi : i = ds.length := by
      have := List.drop_eq_nil_iff.mp e
      omega
    rw [e] at q2
    obtain ⟨c2, q2⟩ := q2
    subst hi
    refine .inl ⟨(wk H2 M2 x2.w m2 c2).2, k A H2 M2 acc vs' xx (fun b hb => ?_) m2 eA nA2 l2 q2⟩
    exact fun z => by
      have := (x1.busy b hb).2
      rw [z, nA] at this
      cases this
  | cons d r =>
    obtain ⟨ed, er, hlt⟩ := drop_at e
    rw [e] at q2
    obtain ⟨c2, δ', ep, q2⟩ := q2
    obtain ⟨go, yl⟩ := (wk H2 M2 x2.w m2 c2).1 i d ed
    refine .inr ⟨go, fun H' => ∃ M' acc vs', Ext M1 H1 M' H' ∧ RepM K H' M' ∧ H' A = some (.lst vs') ∧ M' A = some .busy ∧ RepL K H' M' vs' acc ∧ dLc2L p tt ti1 p1 tt1 te (wipeD δ vs) vs1 (Qe A) chk r acc M', fun H' ⟨M', acc, vs', h1, h2, h3, h4, h5, h6⟩ => ⟨n - 1, by omega, M', acc, vs', by omega, h1, h2, h3, h4, h5, by rw [er]; exact h6⟩, fun v H3 hy => ?_⟩
    obtain ⟨x3, m3, r3⟩ := yl v H3 hy
    have x23 := x2.trans x3
    refine gOf_ok m3 p ep ((a.s.wipe vs).ext (x1.trans x23)) r3 fun σ' s' hl' hag => ⟨?_, ?_⟩
    · rw [wipe_agree (vs := vs) hl' fun j hj => hag j fun z => hj (hsl j z)]
      exact wipe_agree (wipe_length _ _) fun j hj => by rw [wipe_out hj]
    · refine lfT.use ⟨s', m3⟩ q2 (fun b H4 M4 x4 m4 q4 => ?_) (wf _ _)
      have x34 := x3.trans x4
      obtain ⟨b4, nb4⟩ := x34.busy A nA2
      cases b with
      | false =>
        simp only [Bool.false_eq_true, if_false] at q4 ⊢
        exact ⟨M4, acc, vs', x23.trans x4, m4, b4.trans eA, nb4, l2.ext x34, q4⟩
      | true =>
        simp only [if_true] at q4 ⊢
        refine ⟨δ', M4, _, WN, ⟨s'.ext x4, m4⟩, q4, fun J1 H5 ds1 chk1 M5 x5 m5 wk1 q5 => ?_, wf _ _⟩
        have x25 := (x2.trans x34).trans x5
        obtain ⟨b5, nb5⟩ := (x34.trans x5).busy A nA2
        have s5 := s'.ext (x4.trans x5)
        refine ⟨fun j n1 H' => ∃ M' acc1 vs2, n1 + j = ds1.length ∧ Ext M1 H1 M' H' ∧ ExtW M5 H5 M' H' ∧ RepS K H' M' σ' δ' ∧ RepM K H' M' ∧ H' A = some (.lst vs2) ∧ M' A = some .busy ∧ RepL K H' M' vs2 acc1 ∧
          dLcL p1 tt1 te (wipeD δ' vs1) (fun acc' M3 => dLc2L p tt ti1 p1 tt1 te (wipeD δ vs) vs1 (Qe A) chk r acc' M3) chk1 (ds1.drop j) acc1 M', ⟨ds1.length, M5, acc, vs', rfl, x25, .refl _ _, s5, m5, b5.trans eA, nb5, l2.ext (x34.trans x5), q5⟩, ?_⟩
        rintro j n1 H6 ⟨M6, acc1, vs2, hn1, x6, w6, s6, m6, eA6, nA6, l6, q6⟩
        cases e1 : ds1.drop j with
        | nil =>
          have hj : j = ds1.length := by
            have := List.drop_eq_nil_iff.mp e1
            omega
          rw [e1] at q6
          obtain ⟨c6, q6⟩ := q6
          subst hj
          exact .inl ⟨(wk1 H6 M6 w6 m6 c6).2, M6, acc1, vs2, x6, m6, eA6, nA6, l6, q6⟩
        | cons d1 r1 =>
          obtain ⟨ed1, er1, hlt1⟩ := drop_at e1
          rw [e1] at q6
          obtain ⟨c6, hacc, δ2, ep1, q6⟩ := q6
          obtain ⟨go1, yl1⟩ := (wk1 H6 M6 w6 m6 c6).1 j d1 ed1
          refine .inr ⟨go1, fun H' => ∃ M' acc1 vs2, Ext M1 H1 M' H' ∧ ExtW M5 H5 M' H' ∧ RepS K H' M' σ' δ' ∧ RepM K H' M' ∧ H' A = some (.lst vs2) ∧ M' A = some .busy ∧ RepL K H' M' vs2 acc1 ∧
            dLcL p1 tt1 te (wipeD δ' vs1) (fun acc' M3 => dLc2L p tt ti1 p1 tt1 te (wipeD δ vs) vs1 (Qe A) chk r acc' M3) chk1 r1 acc1 M', fun H' ⟨M', acc1, vs2, h1, h2, h3, h4, h5, h6, h7, h8⟩ => ⟨n1 - 1, by omega, M', acc1, vs2, by omega, h1, h2, h3, h4, h5, h6, h7, by rw [er1]; exact h8⟩, fun v1 H7 hy1 => ?_⟩
          obtain ⟨x7, m7, r7⟩ := yl1 v1 H7 hy1
          refine gOf_ok m7 p1 ep1 ((s6.wipe vs1).ext x7) r7 fun σ2 s2 hl2 hag2 => ⟨?_, ?_⟩
          · rw [wipe_agree (vs := vs1) hl2 fun j hj => hag2 j fun z => hj (hsl1 j z)]
            exact wipe_agree (wipe_length _ _) fun j hj => by rw [wipe_out hj]
          · refine lfT.use ⟨s2, m7⟩ q6 (fun b H8 M8 x8 m8 q8 => ?_) (wf _ _)
            have x78 := x7.trans x8
            obtain ⟨b8, nb8⟩ := x78.busy A nA6
            cases b with
            | false =>
              simp only [Bool.false_eq_true, if_false] at q8 ⊢
              exact ⟨M8, acc1, vs2, x6.trans x78, w6.trans x78.w, s6.ext x78, m8, b8.trans eA6, nb8, l6.ext x78, q8⟩
            | true =>
              simp only [if_true] at q8 ⊢
              refine lfE.use ⟨s2.ext x8, m8⟩ q8 (fun v9 H9 d9 M9 x9 m9 r9 q9 => ?_) (wf _ _)
              have x79 := x78.trans x9
              obtain ⟨b9, nb9⟩ := x79.busy A nA6
              have l9 := l6.ext x79
              have e9 : H9 A = some (.lst vs2) := b9.trans eA6
              refine ⟨vs2, e9, by rw [l9.length]; exact hacc, M9, addO acc1 (some d9), vs2 ++ [v9], ?_, ?_, ?_, ?_, upd_same, nb9, ?_, q9⟩
              · have x69 := x6.trans x79
                refine ⟨fun b o h n t => ?_, fun b h => ?_⟩
                · have hb : b ≠ A := ne_of_none h hA
                  rw [upd_ne hb]
                  exact x69.keep b o h n t
                · have hb : b ≠ A := fun z => by rw [z, nA] at h; cases h
                  rw [upd_ne hb]
                  exact x69.busy b h
              · refine ⟨fun b o h n t => ?_⟩
                have hb : b ≠ A := fun z => by rw [z, nb5] at n; cases n
                rw [upd_ne hb]
                exact (w6.trans x79.w).keep b o h n t
              · exact ⟨(s6.ext x79).len, fun i d e => by
                  obtain ⟨u, h1, h2⟩ := (s6.ext x79).at_ i d e
                  exact ⟨u, h1, h2.grow nb9⟩⟩
              · intro b mo e
                by_cases hb : b = A
                · subst hb
                  rw [nb9] at e
                  cases e
                  exact ⟨_, upd_same, plain_lst⟩
                · exact (m9 b mo e).grow nb9 (upd_ne hb)
              · exact (l9.grow nb9).append (.cons (r9.grow nb9) .nil)
section
variable {X : Cx} {W0 : WX} {elt tg iter tg1 iter1 : Expr} {ifs ifs1 : List Expr} {scope : Scope} {own : List (Str × Nat)} {vs1 : List Nat} {ti ti1 : DTI} {p p1 : Pat} {tt tt1 : DTT} {te : DTE} {i : Nat} {y : Str} {py pos spos : Pos}
theorem de_lc2 (hc : X.calm = true) (hN : X.N.Nodup) (hi : DI X W0 tg iter ti) (ok : BlkOk X.N X.env.scope scope own) (hsl : ∀ j, j ∈ slotsP p → j ∈ own.map (·.2)) (hv : ∀ i ∈ vs1, i ∈ own.map (·.2)) (hsl1 : ∀ j, j ∈ slotsP p1 → j ∈ vs1)
    (hg : ∀ (s : Shared) (H : Hp) (C : Addr) (cl : List (Str × Addr)) (fp : List Addr), DG (X.blk s H scope (compEnvC scope cl C X.env) fp) tg p) (ht : ∀ (s : Shared) (H : Hp) (C : Addr) (cl : List (Str × Addr)) (fp : List Addr), DTs (X.blk s H scope (compEnvC scope cl C X.env) fp) WF ifs tt)
    (hi1 : ∀ (s : Shared) (H : Hp) (C : Addr) (cl : List (Str × Addr)) (fp : List Addr), DI (X.blk s H scope (compEnvC scope cl C X.env) fp) WF tg1 iter1 ti1)
    (hg1 : ∀ (s : Shared) (H : Hp) (C : Addr) (cl : List (Str × Addr)) (fp : List Addr), DG (X.blk s H scope (compEnvC scope cl C X.env) fp) tg1 p1) (ht1 : ∀ (s : Shared) (H : Hp) (C : Addr) (cl : List (Str × Addr)) (fp : List Addr), DTs (X.blk s H scope (compEnvC scope cl C X.env) fp) WF ifs1 tt1)
    (he : ∀ (s : Shared) (H : Hp) (C : Addr) (cl : List (Str × Addr)) (fp : List Addr), DE (X.blk s H scope (compEnvC scope cl C X.env) fp) WF elt te) (hs : ∀ x, foldedSetIterable iter X.env x = pure x := by intro _; rfl) (hs1 : ∀ env x, foldedSetIterable iter1 env x = pure x := by intro _ _; rfl) :
    DE X W0 (.ListComp elt [⟨tg, iter, ifs, 0⟩, ⟨tg1, iter1, ifs1, 0⟩] scope pos) (dLc2 ti p tt ti1 p1 tt1 te (own.map (·.2)) vs1) :=
  .mk' (pe_lc2 hc hN hi.pi ok hv (fun s H C cl fp => (hg s H C cl fp).pg) (fun s H C cl fp => (ht s H C cl fp).pts) (fun s H C cl fp => (hi1 s H C cl fp).pi) (fun s H C cl fp => (hg1 s H C cl fp).pg) (fun s H C cl fp => (ht1 s H C cl fp).pts) (fun s H C cl fp => (he s H C cl fp).pe) hs hs1) fun σ H Q0 δ M Q W a q k w =>
    lc2_run hsl hsl1 a q (fun A H' M' acc ws x nb m e eb l q' => by
      have sb := Sub.del M' A
      exact k _ H' _ _ (x.sub sb fun b hb => by rw [delD_ne (nb b hb)]; exact (x.busy b hb).2) (m.sub sb) (.lst e delD_same (l.sub sb)) q') w
theorem ds_setLc2 (hc : X.calm = true) (hN : X.N.Nodup) (hy : X.N[i]? = some y) (hyl : X.env.scope.names.lookup y = some .local) (hsw : swapsWith (.ListComp elt [⟨tg, iter, ifs, 0⟩, ⟨tg1, iter1, ifs1, 0⟩] scope pos) (some (.Name y py)) spos.line X.env = pure true)
    (hi : DI X W0 tg iter ti) (ok : BlkOk X.N X.env.scope scope own) (hsl : ∀ j, j ∈ slotsP p → j ∈ own.map (·.2)) (hv : ∀ i ∈ vs1, i ∈ own.map (·.2)) (hsl1 : ∀ j, j ∈ slotsP p1 → j ∈ vs1)
    (hg : ∀ (s : Shared) (H : Hp) (C : Addr) (cl : List (Str × Addr)) (fp : List Addr), DG (X.blk s H scope (compEnvC scope cl C X.env) fp) tg p) (ht : ∀ (s : Shared) (H : Hp) (C : Addr) (cl : List (Str × Addr)) (fp : List Addr), DTs (X.blk s H scope (compEnvC scope cl C X.env) fp) WF ifs tt)
    (hi1 : ∀ (s : Shared) (H : Hp) (C : Addr) (cl : List (Str × Addr)) (fp : List Addr), DI (X.blk s H scope (compEnvC scope cl C X.env) fp) WF tg1 iter1 ti1)
    (hg1 : ∀ (s : Shared) (H : Hp) (C : Addr) (cl : List (Str × Addr)) (fp : List Addr), DG (X.blk s H scope (compEnvC scope cl C X.env) fp) tg1 p1) (ht1 : ∀ (s : Shared) (H : Hp) (C : Addr) (cl : List (Str × Addr)) (fp : List Addr), DTs (X.blk s H scope (compEnvC scope cl C X.env) fp) WF ifs1 tt1)
    (he : ∀ (s : Shared) (H : Hp) (C : Addr) (cl : List (Str × Addr)) (fp : List Addr), DE (X.blk s H scope (compEnvC scope cl C X.env) fp) WF elt te) (hs : ∀ x, foldedSetIterable iter X.env x = pure x := by intro _; rfl) (hs1 : ∀ env x, foldedSetIterable iter1 env x = pure x := by intro _ _; rfl) :
    DS X W0 (.Assign [.Name y py] (.ListComp elt [⟨tg, iter, ifs, 0⟩, ⟨tg1, iter1, ifs1, 0⟩] scope pos) spos) (dSet i (dLc2 ti p tt ti1 p1 tt1 te (own.map (·.2)) vs1)) :=
  .mk' (ps_setLc2 hc hN hy hyl hsw hi.pi ok hv (fun s H C cl fp => (hg s H C cl fp).pg) (fun s H C cl fp => (ht s H C cl fp).pts) (fun s H C cl fp => (hi1 s H C cl fp).pi) (fun s H C cl fp => (hg1 s H C cl fp).pg) (fun s H C cl fp => (ht1 s H C cl fp).pts) (fun s H C cl fp => (he s H C cl fp).pe) hs hs1) fun D0 σ H δ M D' W a q k w =>
    lc2_run hsl hsl1 a q (fun A H' M' acc ws x nb m e eb l q' => by
      have sb := Sub.del M' A
      have x' := x.sub sb fun b hb => by rw [delD_ne (nb b hb)]; exact (x.busy b hb).2
      exact k.nx _ H' _ _ x' ⟨(a.s.ext x').set i (.lst e delD_same (l.sub sb)), m.sub sb⟩ q') w
end
/-! ### all, any, extend -/
def rAllD : DRs := fun ds M Q => match ds with
  | [x] => ∃ bs : List Bool, lstOf M x = some (bs.map D.bl) ∧ Q (.bl (bs.all id)) M
  | _ => False
def rAnyD : DRs := fun ds M Q => match ds with
  | [x] => ∃ bs : List Bool, lstOf M x = some (bs.map D.bl) ∧ Q (.bl (bs.any id)) M
  | _ => False
theorem RepL.bls {K : PySem.W.Frag} {H : Hp} {M : DHp} : ∀ {vs : List V} {bs : List Bool}, RepL K H M vs (bs.map D.bl) → vs = bs.map V.bl
  | _, [], .nil => rfl
  | _, b :: bs, .cons r t => by rw [r.blI, RepL.bls t]; rfl
section
variable {X : Cx}
theorem dc_all (hc : X.calm = true) : DCall X (.builtin "all") rAllD := by
  refine ⟨_, cr_all hc, fun H M vs ds Q0 Q m r q k => ?_⟩
  unfold rAllD at q
  split at q
  · obtain ⟨v, rfl, r1⟩ := r.one
    obtain ⟨bs, hs, q⟩ := q
    obtain ⟨a, ws, rfl, f, l⟩ := lstOf_rep hs m r1
    rw [l.bls] at f
    exact ⟨a, bs, rfl, SqL.of f, k.here m (.bl _) q⟩
  · exact q.elim
theorem dc_any (hc : X.calm = true) : DCall X (.builtin "any") rAnyD := by
  refine ⟨_, cr_any hc, fun H M vs ds Q0 Q m r q k => ?_⟩
  unfold rAnyD at q
  split at q
  · obtain ⟨v, rfl, r1⟩ := r.one
    obtain ⟨bs, hs, q⟩ := q
    obtain ⟨a, ws, rfl, f, l⟩ := lstOf_rep hs m r1
    rw [l.bls] at f
    exact ⟨a, bs, rfl, SqL.of f, k.here m (.bl _) q⟩
  · exact q.elim
def rExtD : DMt := fun x ds M Q => match x, ds with
  | .ref p, [y] => ∃ xs zs, M p = some (.lst xs) ∧ lstOf M y = some zs ∧ xs.length + zs.length ≤ sizeLine ∧ Q .non (updD M p (.lst (xs ++ zs)))
  | _, _ => False
theorem dm_extend : DMeth X "list" "list.extend" rExtD isLst := by
  refine ⟨_, _, mt_extend, fun H M x d xs ds Q0 Q m rx rs q k => ?_, ty_v, fun H M v d m r h => isLst_ok m r h⟩
  unfold rExtD at q
  split at q
  · rename_i p y
    obtain ⟨ys, zs, hp, hy, hz, q⟩ := q
    obtain ⟨vs, e, l⟩ := m.lst hp
    obtain ⟨v, rfl, r1⟩ := rs.one
    obtain ⟨b, ws, rfl, f, l2⟩ := lstOf_rep hy m r1
    rw [rx.refI]
    exact ⟨p, b, vs, ws, rfl, rfl, e, f, by rw [l.length, l2.length]; exact hz, k.wr m hp (l.append l2) .non q⟩
  · exact q.elim
end
end DL
end

section
set_option Elab.async false
set_option linter.all false
set_option maxRecDepth 100000
set_option maxHeartbeats 2000000
/-! DE1: list(it), it an iterator that hands out tuples (enumerate). -/
namespace DM
open PySem PySem.Spec PySem.Calls PyProof.Rows L2
/-- the tuples that were handed out: they rise from lo on, the j-th is Y j -/
structure Tups (lo : Nat) (Y : Nat → Array Value → Prop) (as : List Addr) (h : Heap) : Prop where
  rise : as.Pairwise (· < ·)
  above : ∀ a ∈ as, lo ≤ a
  tup : ∀ (j : Nat) (a : Addr), as[j]? = some a → ∃ vals, Y j vals ∧ h.get? a = some { cls := .type "tuple", data := .seq vals }
section
variable {lo : Nat} {Y : Nat → Array Value → Prop} {as : List Addr} {h h' : Heap}
theorem Tups.nil : Tups lo Y [] h := ⟨.nil, (fun a z => nomatch z), fun j a z => by simp at z⟩
theorem Tups.there (g : Tups lo Y as h) {a : Addr} (ha : a ∈ as) : a < h.objs.size := by
  obtain ⟨j, hj⟩ := List.mem_iff_getElem?.mp ha
  obtain ⟨_, _, e⟩ := g.tup j a hj
  exact Heap.lt_size e
theorem Tups.keep (g : Tups lo Y as h) (k : ∀ a ∈ as, ∀ o, h.get? a = some o → h'.get? a = some o) : Tups lo Y as h' := ⟨g.rise, g.above, fun j a hj => by
  obtain ⟨vals, y, e⟩ := g.tup j a hj
  exact ⟨vals, y, k a (List.mem_of_getElem? hj) _ e⟩⟩
theorem Tups.snoc (g : Tups lo Y as h) {T : Addr} {vals : Array Value} (hT : h'.get? T = some { cls := .type "tuple", data := .seq vals }) (y : Y as.length vals) (hn : h.objs.size ≤ T) (hlo : lo ≤ T) (k : ∀ a ∈ as, ∀ o, h.get? a = some o → h'.get? a = some o) : Tups lo Y (as ++ [T]) h' := by
  refine ⟨List.pairwise_append.mpr ⟨g.rise, List.pairwise_singleton _ _, fun a ha b hb => ?_⟩, fun a ha => ?_, fun j a hj => ?_⟩
  · rw [List.mem_singleton.mp hb]
    exact Nat.lt_of_lt_of_le (g.there ha) hn
  · rcases List.mem_append.mp ha with ha | ha
    · exact g.above a ha
    · rw [List.mem_singleton.mp ha]; exact hlo
  · rcases Nat.lt_trichotomy j as.length with h1 | h1 | h1
    · rw [List.getElem?_append_left h1] at hj
      obtain ⟨vs, y1, e⟩ := g.tup j a hj
      exact ⟨vs, y1, k a (List.mem_of_getElem? hj) _ e⟩
    · subst h1
      have hb : T = a := by simpa using hj
      subst hb
      exact ⟨vals, y, hT⟩
    · have hnone : (as ++ [T])[j]? = none := List.getElem?_eq_none (by rw [List.length_append, List.length_singleton]; omega)
      rw [hnone] at hj; cases hj
end
/-- an iterator at I that hands out n tuples, one after another, while the list at S grows -/
structure Pull (prog : Program) (w : World) (A : Around) (I S : Addr) (wr : List Addr) (lo n : Nat) (Y : Nat → Array Value → Prop) (St : Nat → List Addr → Heap → Prop) : Prop where
  off : S ∉ wr
  low : S < lo ∧ ∀ b ∈ wr, b < lo
  tups : ∀ i as h, St i as h → Tups lo Y as h
  frame : ∀ i as h h', St i as h → (∀ b o, b ≠ S → h.get? b = some o → h'.get? b = some o) → St i as h'
  item : ∀ i as (s : Shared) (Q : Option Value → Shared → Prop) (E : Value → Shared → Prop), i < n → as.length = i → lo ≤ s.heap.objs.size → St i as s.heap →
    (∀ T h' tk, St (i + 1) (as ++ [T]) h' → s.heap.objs.size ≤ h'.objs.size → (∀ b o, b ∉ wr → s.heap.get? b = some o → h'.get? b = some o) → Q (some (.ref T)) { s with heap := h', toks := tk }) → wpAny (model prog w) A (pyNext (.ref I)) Q E s
  done : ∀ as (s : Shared) (Q : Option Value → Shared → Prop) (E : Value → Shared → Prop), St n as s.heap →
    (∀ h', (∀ b o, b ∉ wr → s.heap.get? b = some o → h'.get? b = some o) → Q none { s with heap := h' }) → wpAny (model prog w) A (pyNext (.ref I)) Q E s
section
variable {prog : Program} {w : World} {A : Around} {s : Shared} {R : Result → Shared → Prop} {I S : Addr} {wr : List Addr} {lo n : Nat} {Y : Nat → Array Value → Prop} {St : Nat → List Addr → Heap → Prop}
theorem pull_loop (P : Pull prog w A.in1 I S wr lo n Y St) (hn : n ≤ sizeLine) (res : Value) {h₁ : Heap}
    (hR : ∀ h' tk acc c as, (∀ b o, b ≠ S → b ∉ wr → h₁.get? b = some o → h'.get? b = some o) → h'.get? S = some { cls := .type "list", dict := none, data := .seq acc c, slots := #[] } → as.length = n → Tups lo Y as h' → acc.toList = as.map Value.ref → R (.ok (.ret res)) { s with heap := h', toks := tk }) :
    ∀ (k i : Nat) (h : Heap) (tk c : Nat) (acc : Array Value) (as : List Addr), n - i = k → i ≤ n → St i as h → lo ≤ h.objs.size → (∀ b o, b ≠ S → b ∉ wr → h₁.get? b = some o → h.get? b = some o) →
      h.get? S = some { cls := .type "list", dict := none, data := .seq acc c, slots := #[] } → acc.toList = as.map Value.ref → as.length = i →
      codeAny (model prog w) A (.builtin "list.extend.loop" ⟨[.ref S, .ref I, res], []⟩) R { s with heap := h, toks := tk } := by
  intro k
  induction k with
  | zero =>
    intro i h tk c acc as hk hi hst hlo hkeep hS hacc hal
    have hin : i = n := by omega
    subst hin
    refine codeAny_builtin PySem.F.entry_extend_loop ?_
    rw [Around.under_plainId PySem.F.plain_extend_loop _]
    show wpAny _ A.in1 (pyNext (.ref I) >>= _) _ _ _
    refine wpAny_bind (P.done as { s with heap := h, toks := tk } _ _ hst fun h' he => ?_)
    refine wpAny_pure (hR h' tk acc c as (fun b o h1 h2 e => he b o h2 (hkeep b o h1 h2 e)) (he S _ P.off hS) hal ((P.tups _ _ _ hst).keep fun a ha o e => he a o (fun z => ?_) e) hacc)
    exact absurd (P.low.2 a z) (Nat.not_lt.mpr ((P.tups _ _ _ hst).above a ha))
  | succ k ih =>
    intro i h tk c acc as hk hi hst hlo hkeep hS hacc hal
    have hlt : i < n := by omega
    have hsz : acc.size = i := by rw [← Array.length_toList, hacc, List.length_map, hal]
    refine codeAny_builtin PySem.F.entry_extend_loop ?_
    rw [Around.under_plainId PySem.F.plain_extend_loop _]
    show wpAny _ A.in1 (pyNext (.ref I) >>= _) _ _ _
    refine wpAny_bind (P.item i as { s with heap := h, toks := tk } _ _ hlt hal hlo hst fun T h' tk' hst' hz hkp => ?_)
    dsimp only at hz hkp ⊢
    have hS' := hkp S _ P.off hS
    have up : ∀ b o, b ≠ S → h'.get? b = some o → (h'.update S (Obj.mapSeq (·.push (Value.ref T)))).get? b = some o := fun b o hb e => (Heap.get?_update_other _ _ (Ne.symm hb)).trans e
    show wpAny _ A.in1 (updateSeq S (·.push (Value.ref T)) >>= _) _ _ _
    refine wpAny_bind ?_
    refine wpAny_updateSeq hS' rfl (wpAny_pure ⟨plainId_quiet PySem.F.plain_extend_loop _, ih (i + 1) _ tk' _ (acc.push (Value.ref T)) (as ++ [T]) (by omega) hlt (P.frame _ _ _ _ hst' up) ?_
      (fun b o h1 h2 e => up b o h1 (hkp b o h2 (hkeep b o h1 h2 e))) (Heap.get?_update_self _ hS' rfl) (by rw [Array.toList_push, hacc, List.map_append]; rfl) (by rw [List.length_append, hal]; rfl)⟩) (by rw [hsz]; omega) (by show (acc.push (Value.ref T)).size ≤ sizeLine + 1; rw [Array.size_push]; omega)
    have e : (h'.update S (Obj.mapSeq (·.push (Value.ref T)))).objs.size = h'.objs.size := Heap.size_update ..
    rw [e]
    exact Nat.le_trans hlo hz
end
/-! ### enumerate -/
/-- the tuple at a was handed out -/
def EnO (h : Heap) (e it : Addr) (c : Int) (item : Value) (a : Addr) (f : Bool) : Prop := h.get? e = some { cls := .type "enumerate", dict := none, data := .fields #[rawInt a, .bool f, .ref it, rawInt c, .none, item], slots := #[] }
section
variable {prog : Program} {w : World} {A : Around} {E : Value → Shared → Prop} {s : Shared}
theorem enum_next_out {e it a : Addr} {f : Bool} {oa : Obj} {fp : List Addr} {n i : Nat} {c : Int} {P : Nat → Value → Prop} {St : Nat → Heap → Prop} {old : Value} {Q : Option Value → Shared → Prop}
    (D : Draws prog w A.in1 it fp n P St) (he : EnO s.heap e it c old a f) (ha : s.heap.get? a = some oa) (hae : a ≠ e) (hai : a ≠ it) (hst : St i s.heap) (hlt : i < n) (hne : e ≠ it) (hef : e ∉ fp)
    (hQ : ∀ x h' tk, P i x → EnO h' e it (c + 1) old a true → St (i + 1) h' → h'.get? s.heap.objs.size = some { cls := .type "tuple", data := .seq #[.int c tk, x] } → h'.objs.size = s.heap.objs.size + 1 →
      (∀ b o, b ≠ e → b ≠ it → s.heap.get? b = some o → h'.get? b = some o) → Q (some (.ref s.heap.objs.size)) { s with heap := h', toks := tk + 1 }) :
    wpAny (model prog w) A (pyNext (.ref e)) Q E s := by
  obtain ⟨hp, g, d, tk₀, os⟩ := s
  have hT : Shared.TypeIs ⟨hp, g, d, tk₀, os⟩ (.ref e) "enumerate" := ⟨_, he, rfl⟩
  unfold pyNext
  refine wpAny_bind (wpAny_attempt (wpAny_callSpecial?_slot (name := Str.ofString "__next__") hT F.slot_enumerate_next
    (wpAny_call_entry F.slot_enumerate_next hT F.entry_enumerate_next ?_ (F.args_enumerate_next_1 _))))
  show wpAny _ _ (field (.ref e) 2 >>= _) _ _ _
  refine wpAny_bind (wpAny_field he rfl (x := .ref it) rfl ?_)
  refine wpAny_bind (D.item i _ _ _ hlt hst fun x h₁ tk hPx hit₁ hs₁ => ?_)
  replace hs₁ : Heap.SameBut it hp h₁ := hs₁
  have he₁ : EnO h₁ e it c old a f := (hs₁.2 e hne).trans he
  show wpAny _ _ (field (.ref e) 3 >>= _) _ _ ⟨h₁, g, d, tk, os⟩
  refine wpAny_bind (wpAny_field he₁ rfl (x := rawInt c) rfl ?_)
  show wpAny _ _ (field (.ref e) 4 >>= _) _ _ ⟨h₁, g, d, tk, os⟩
  refine wpAny_bind (wpAny_field he₁ rfl (x := .none) rfl ?_)
  show wpAny _ _ (mkInt c >>= _) _ _ ⟨h₁, g, d, tk, os⟩
  refine wpAny_bind (wpAny_mkInt ?_)
  show wpAny _ _ (setField (.ref e) 3 (rawInt (c + 1)) >>= _) _ _ ⟨h₁, g, d, tk + 1, os⟩
  refine wpAny_bind (wpAny_setField_rec he₁ (by simp) fun h₂ he₂ hs₂ => ?_)
  replace hs₂ : Heap.SameBut e h₁ h₂ := hs₂
  replace he₂ : EnO h₂ e it (c + 1) old a f := he₂
  show wpAny _ _ (setField (.ref e) 4 .none >>= _) _ _ ⟨h₂, g, d, tk + 1, os⟩
  refine wpAny_bind (wpAny_setField_rec he₂ (by simp) fun h₃ he₃ hs₃ => ?_)
  replace hs₃ : Heap.SameBut e h₂ h₃ := hs₃
  replace he₃ : EnO h₃ e it (c + 1) old a f := he₃
  show wpAny _ _ (newTuple [.int c tk, x] >>= _) _ _ ⟨h₃, g, d, tk + 1, os⟩
  refine wpAny_bind (wpAny_newTuple ?_)
  have he₄ : EnO (h₃.push { cls := .type "tuple", data := .seq #[.int c tk, x] }) e it (c + 1) old a f := Heap.get?_push_of_some _ he₃
  generalize hh₄ : h₃.push { cls := .type "tuple", data := .seq #[.int c tk, x] } = h₄ at he₄
  have hsz : h₃.objs.size = hp.objs.size := by rw [hs₃.1, hs₂.1, hs₁.1]
  have hel : e < hp.objs.size := Heap.lt_size he
  have ht₄ : h₄.get? hp.objs.size = some { cls := .type "tuple", data := .seq #[.int c tk, x] } := by rw [← hh₄, ← hsz]; exact Heap.get?_push_size _ rfl
  have hz₄ : h₄.objs.size = hp.objs.size + 1 := by rw [← hh₄, Heap.size_push, hsz]
  have hk₄ : ∀ b o, b ≠ e → b ≠ it → hp.get? b = some o → h₄.get? b = some o := fun b o hbe hbi hb => by
    rw [← hh₄]; exact Heap.get?_push_of_some _ (hs₃.extBut b o hbe (hs₂.extBut b o hbe (hs₁.extBut b o hbi hb)))
  have hit₄ : St (i + 1) h₄ := D.frame _ _ _ hit₁ fun b hb o y => by
    have hbe : b ≠ e := fun q => hef (q ▸ hb)
    rw [← hh₄]; exact Heap.get?_push_of_some _ (hs₃.extBut b o hbe (hs₂.extBut b o hbe y))
  show wpAny _ _ (Builtin.SmallTypes.ownedTupleIsFree (.ref e) >>= _) _ _ ⟨h₄, g, d, tk + 1, os⟩
  rw [hsz]
  clear hh₄ he₃ hs₃ he₂ hs₂ he₁ hs₁ hit₁ hsz h₃ h₂ h₁
  have ha₄ : h₄.get? a = some oa := hk₄ a oa hae hai ha
  refine wpAny_bind ?_
  unfold Builtin.SmallTypes.ownedTupleIsFree
  refine wpAny_bind (wpAny_field he₄ rfl (x := rawInt a) rfl ?_)
  show wpAny _ _ (loadIfAlive ((a : Int).toNat) >>= _) _ _ _
  rw [Int.toNat_natCast]
  refine wpAny_bind (PySem.W.kdx_alive ha₄ ?_)
  simp only [Option.isNone_some, Bool.false_eq_true, if_false]
  refine wpAny_bind (wpAny_field he₄ rfl (x := .bool f) rfl ?_)
  have fin : ∀ h₅ : Heap, EnO h₅ e it (c + 1) old a true → Heap.SameBut e h₄ h₅ → Q (some (.ref hp.objs.size)) ⟨h₅, g, d, tk + 1, os⟩ := fun h₅ he₅ hs₅ =>
    hQ x h₅ tk hPx he₅ (D.frame _ _ _ hit₄ fun b hb o y => hs₅.extBut b o (fun q => hef (q ▸ hb)) y) (hs₅.extBut _ _ (Nat.ne_of_gt hel) ht₄) (by show h₅.objs.size = hp.objs.size + 1; rw [hs₅.1, hz₄]) fun b o hbe hbi hb => hs₅.extBut b o hbe (hk₄ b o hbe hbi hb)
  cases f with
  | true =>
    rw [if_neg (show ¬ ((Value.bool true != Value.bool true) = true) from Bool.false_ne_true)]
    refine wpAny_pure ?_
    simp only [Bool.false_eq_true, if_false]
    exact wpAny_pure ⟨_, rfl, wpAny_pure (fin h₄ he₄ (Heap.SameBut.refl _ _))⟩
  | false =>
    rw [if_pos (show (Value.bool false != Value.bool true) = true from rfl)]
    refine wpAny_bind (wpAny_setField_rec he₄ (by simp) fun h₅ he₅ hs₅ => ?_)
    replace hs₅ : Heap.SameBut e h₄ h₅ := hs₅
    replace he₅ : EnO h₅ e it (c + 1) old a true := he₅
    refine wpAny_pure ?_
    simp only [Bool.false_eq_true, if_false]
    exact wpAny_pure ⟨_, rfl, wpAny_pure (fin h₅ he₅ hs₅)⟩
theorem enum_end_out {e it a : Addr} {f : Bool} {fp : List Addr} {n : Nat} {P : Nat → Value → Prop} {St : Nat → Heap → Prop} {c : Int} {old : Value} {Q : Option Value → Shared → Prop} (D : Draws prog w A.in1 it fp n P St) (he : EnO s.heap e it c old a f) (hst : St n s.heap)
    (hQ : ∀ h', Heap.ExtBut it s.heap h' → Q none { s with heap := h' }) : wpAny (model prog w) A (pyNext (.ref e)) Q E s := by
  have hT : s.TypeIs (.ref e) "enumerate" := ⟨_, he, rfl⟩
  unfold pyNext
  refine wpAny_bind (wpAny_attempt (wpAny_callSpecial?_slot (name := Str.ofString "__next__") hT F.slot_enumerate_next
    (wpAny_call_entry F.slot_enumerate_next hT F.entry_enumerate_next ?_ (F.args_enumerate_next_1 _))))
  show wpAny _ _ (field (.ref e) 2 >>= _) _ _ _
  refine wpAny_bind (wpAny_field he rfl (x := .ref it) rfl ?_)
  refine wpAny_bind (D.done _ _ _ hst fun h' x he' hx' => ?_)
  obtain ⟨o, ho, hc⟩ := hx'
  refine wpAny_bind (wpAny_isInstance (T := "StopIteration") (b := true) ⟨o, ho, hc⟩ isSubtype_stop ?_)
  exact wpAny_pure (hQ _ he')
/-- enumerate as such an iterator -/
theorem pull_enum {S e it : Addr} {fp : List Addr} {lo n : Nat} {P : Nat → Value → Prop} {St : Nat → Heap → Prop} (D : Draws prog w A.in1 it fp n P St) (hne : e ≠ it) (hef : e ∉ fp) (hif : it ∈ fp) (hSe : S ≠ e) (hSf : S ∉ fp) (hlo : S < lo ∧ e < lo ∧ ∀ b ∈ fp, b < lo) :
    Pull prog w A e S [e, it] lo n (fun i vals => ∃ t x, P i x ∧ vals = #[.int (i : Nat) t, x])
      (fun i as h => ((i = 0 ∧ ∃ old, IsEnum h e it 0 old) ∨ ∃ old a f, EnO h e it (i : Nat) old a f ∧ a ∈ as) ∧ St i h ∧ Tups lo (fun i vals => ∃ t x, P i x ∧ vals = #[.int (i : Nat) t, x]) as h) where
  off := fun z => by
    rcases List.mem_cons.mp z with z | z
    · exact hSe z
    · exact hSf (by rw [List.mem_singleton.mp z]; exact hif)
  low := ⟨hlo.1, fun b hb => by
    rcases List.mem_cons.mp hb with z | z
    · rw [z]; exact hlo.2.1
    · rw [List.mem_singleton.mp z]; exact hlo.2.2 it hif⟩
  tups := fun i as h st => st.2.2
  frame := fun i as h h' st k => by
    obtain ⟨st1, st2, st3⟩ := st
    refine ⟨?_, D.frame _ _ _ st2 fun b hb o y => k b o (fun z => hSf (z ▸ hb)) y, st3.keep fun a ha o y => k a o (fun z => ?_) y⟩
    · rcases st1 with ⟨z, old, x⟩ | ⟨old, a, f, x, m⟩
      · exact .inl ⟨z, old, k _ _ (Ne.symm hSe) x⟩
      · exact .inr ⟨old, a, f, k _ _ (Ne.symm hSe) x, m⟩
    · exact absurd (st3.above a ha) (by rw [z]; exact Nat.not_le.mpr hlo.1)
  item := fun i as s Q E hi hal hz st hQ => by
    obtain ⟨st1, st2, st3⟩ := st
    have hlt : ∀ b, b < lo → b ≠ s.heap.objs.size := fun b hb => Nat.ne_of_lt (Nat.lt_of_lt_of_le hb hz)
    have keepA : ∀ {h' : Heap}, (∀ b o, b ≠ e → b ≠ it → s.heap.get? b = some o → h'.get? b = some o) → ∀ a ∈ as, ∀ o, s.heap.get? a = some o → h'.get? a = some o := fun k a ha o y =>
      k a o (fun z => absurd (st3.above a ha) (by rw [z]; exact Nat.not_le.mpr hlo.2.1)) (fun z => absurd (st3.above a ha) (by rw [z]; exact Nat.not_le.mpr (hlo.2.2 it hif))) y
    rcases st1 with ⟨z, old, x⟩ | ⟨old, a, f, x, m⟩
    · subst z
      refine wpAny_pyNext_enum_itemC D x st2 hi hne hef fun y h' tk hP ho hs' hT hsz hk => ?_
      refine hQ _ h' (tk + 1) ⟨.inr ⟨y, s.heap.objs.size, false, ?_, List.mem_append_right _ (List.mem_singleton.mpr rfl)⟩, hs', ?_⟩ (by rw [hsz]; omega) fun b o hb y => hk b o (fun z => hb (by simp [z])) (fun z => hb (by simp [z])) y
      · exact ho
      · exact st3.snoc hT (by rw [hal]; exact ⟨_, _, hP, rfl⟩) (Nat.le_refl _) hz (keepA hk)
    · obtain ⟨j, hj⟩ := List.mem_iff_getElem?.mp m
      obtain ⟨vals, _, ea⟩ := st3.tup j a hj
      refine enum_next_out D x ea (fun z => absurd (st3.above a m) (by rw [z]; exact Nat.not_le.mpr hlo.2.1)) (fun z => absurd (st3.above a m) (by rw [z]; exact Nat.not_le.mpr (hlo.2.2 it hif))) st2 hi hne hef fun y h' tk hP ho hs' hT hsz hk => ?_
      refine hQ _ h' (tk + 1) ⟨.inr ⟨old, a, true, ?_, List.mem_append_left _ m⟩, hs', ?_⟩ (by rw [hsz]; omega) fun b o hb y => hk b o (fun z => hb (by simp [z])) (fun z => hb (by simp [z])) y
      · have e1 : ((i + 1 : Nat) : Int) = (i : Int) + 1 := by omega
        rw [e1]; exact ho
      · exact st3.snoc hT (by rw [hal]; exact ⟨_, _, hP, rfl⟩) (Nat.le_refl _) hz (keepA hk)
  done := fun as s Q E st hQ => by
    obtain ⟨st1, st2, st3⟩ := st
    rcases st1 with ⟨z, old, x⟩ | ⟨old, a, f, x, m⟩
    · exact wpAny_pyNext_enum_endD D x st2 fun h' he => hQ h' fun b o hb y => he b o (fun z => hb (by simp [z])) y
    · exact enum_end_out D x st2 fun h' he => hQ h' fun b o hb y => he b o (fun z => hb (by simp [z])) y
end
/-! ### list(such an iterator) -/
section
variable {prog : Program} {w : World} {A : Around} {E : Value → Shared → Prop} {s : Shared}
theorem enum_len : typeLookup (.type "enumerate") "__len__" = pure none := by rw [typeLookup_type, builtinLookup_eq_fast]; kernel_rfl
theorem enum_hint0 : typeLookup (.type "enumerate") "__length_hint__" = pure none := by rw [typeLookup_type, builtinLookup_eq_fast]; kernel_rfl
theorem enum_hint {r : Addr} (hT : s.TypeIs (.ref r) "enumerate") {Q : Bool → Shared → Prop} (h : Q true s) : wpAny (model prog w) A (Builtin.List.listLengthHint (.ref r)) Q E s := by
  unfold Builtin.List.listLengthHint
  refine wpAny_bind (wpAny_specialOf hT enum_len ?_)
  refine wpAny_ite_split (fun hab => absurd hab (by decide)) (fun _ => ?_)
  refine wpAny_ite_split (fun hab => absurd hab (by decide)) (fun _ => ?_)
  refine wpAny_bind (wpAny_specialOf hT enum_hint0 ?_)
  exact wpAny_pure h
theorem pull_extend {I S : Addr} {wr : List Addr} {lo n : Nat} {Y : Nat → Array Value → Prop} {St : Nat → List Addr → Heap → Prop} {R : Result → Shared → Prop} (P : Pull prog w A.in1 I S wr lo n Y St) (hI : s.TypeIs (.ref I) "enumerate") (hSI : S ≠ I)
    (self : ∀ (Q : Value → Shared → Prop) (E : Value → Shared → Prop), Q (.ref I) s → wpAny (model prog w) A.in1 (pyIter (.ref I)) Q E s) (res : Value) (c₀ : Nat) (hS : s.heap.get? S = some { cls := .type "list", data := .seq #[] c₀ })
    (st : ∀ h, (∀ b o, b ≠ S → s.heap.get? b = some o → h.get? b = some o) → St 0 [] h) (hz : lo ≤ s.heap.objs.size)
    (hR : ∀ h' tk acc c as, (∀ b o, b ≠ S → b ∉ wr → s.heap.get? b = some o → h'.get? b = some o) → h'.get? S = some { cls := .type "list", dict := none, data := .seq acc c, slots := #[] } → as.length = n → Tups lo Y as h' → acc.toList = as.map Value.ref → R (.ok (.ret res)) { s with heap := h', toks := tk }) (hn : n ≤ sizeLine) :
    wpAny (model prog w) A.in1 (Builtin.List.listExtendWith (.ref S) (.ref I) res)
      (fun fin s' => match fin with | .done f => R (.ok f) s' | .again c' => c'.quiet = true ∧ codeAny (model prog w) A c' R s') (fun e s' => R (.error e) s') s := by
  have key : ∀ (h : Heap) (c₁ tk : Nat), (∀ b o, b ≠ S → s.heap.get? b = some o → h.get? b = some o) → h.objs.size = s.heap.objs.size → h.get? S = some { cls := .type "list", data := .seq #[] c₁ } → codeAny (model prog w) A (.builtin "list.extend.loop" ⟨[.ref S, .ref I, res], []⟩) R { s with heap := h, toks := tk } := by
    intro h c₁ tk hk hsz hS₁
    exact pull_loop (h₁ := s.heap) P hn res (fun h' tk' acc c as hk' hS' hl hG hacc => hR h' tk' acc c as hk' hS' hl hG hacc) n 0 h tk c₁ #[] [] (Nat.sub_zero _) (Nat.zero_le _) (st h hk) (by rw [hsz]; exact hz) (fun b o hb _ e => hk b o hb e) hS₁ rfl rfl
  unfold Builtin.List.listExtendWith
  refine wpAny_bind (wpAny_typeOf (T := "enumerate") hI ?_)
  have h1 : Builtin.List.listSameRef (.ref S) (.ref I) = false := by simp [Builtin.List.listSameRef, hSI]
  have h2 : (Value.type "enumerate" == Value.type "list") = false := by decide
  have h3 : (Value.type "enumerate" == Value.type "tuple") = false := by decide
  simp only [h1, h2, h3, Bool.or_false, Bool.false_eq_true, if_false]
  refine wpAny_bind (self _ _ ?_)
  refine wpAny_bind (wpAny_holding (enum_hint hI ?_))
  refine wpAny_ite_split (fun _ => ?_) (fun _ => wpAny_pure ⟨plainId_quiet PySem.F.plain_extend_loop _, key _ c₀ _ (fun b o _ e => e) rfl hS⟩)
  refine wpAny_bind (wpAny_rule ?_)
  refine wpAny_bind ?_
  show wpAny _ _ (updateSeq S (·.push .none) >>= fun _ => updateSeq S (·.pop)) _ _ _
  refine wpAny_bind (wpAny_updateSeq hS rfl ?_)
  have hS₂ := Heap.get?_update_self (Obj.mapSeq (·.push Value.none)) hS rfl
  refine wpAny_updateSeq (hz := by seq_fits) hS₂ rfl ?_
  have hS₃ := Heap.get?_update_self (Obj.mapSeq (·.pop)) hS₂ rfl
  refine wpAny_pure ⟨plainId_quiet PySem.F.plain_extend_loop _, key _ _ _ (fun b o hb e => ?_) ?_ hS₃⟩
  · exact (Heap.get?_update_other _ _ (Ne.symm hb)).trans ((Heap.get?_update_other _ _ (Ne.symm hb)).trans e)
  · exact (Heap.size_update ..).trans (Heap.size_update ..)
/-- list(enumerate object) -/
theorem call_list_enum {e it : Addr} {fp : List Addr} {n : Nat} {P : Nat → Value → Prop} {St : Nat → Heap → Prop} {old : Value} {Q : Value → Shared → Prop} (D : Draws prog w A.in1.in1.in1 it fp n P St) (he : IsEnum s.heap e it 0 old) (hst : St 0 s.heap) (hne : e ≠ it) (hef : e ∉ fp) (hif : it ∈ fp) (hfp : ∀ b ∈ fp, b < s.heap.objs.size) (hn : n ≤ sizeLine)
    (hQ : ∀ h' tk acc c as, (∀ b o, b ≠ e → b ≠ it → s.heap.get? b = some o → h'.get? b = some o) → h'.get? s.heap.objs.size = some { cls := .type "list", dict := none, data := .seq acc c, slots := #[] } → as.length = n → Tups (s.heap.objs.size + 1) (fun i vals => ∃ t x, P i x ∧ vals = #[.int (i : Nat) t, x]) as h' →
      acc.toList = as.map Value.ref → Q (.ref s.heap.objs.size) { s with heap := h', toks := tk }) :
    wpAny (model prog w) A (call (.type "list") [.ref e]) Q E s := by
  refine callType_codes (Q₁ := fun obj s₁ => obj = .ref s.heap.objs.size ∧ s₁ = { s with heap := s.heap.push { cls := .type "list", data := .seq #[] } }) PySem.F.called_list (PySem.F.typeCall_list_1 _) PySem.F.entry_list_init
    (code_list_new _ ⟨rfl, rfl⟩) fun obj s₁ h₁ => ?_
  obtain ⟨rfl, rfl⟩ := h₁
  have hS : (s.heap.push { cls := .type "list", data := .seq #[] }).get? s.heap.objs.size = some { cls := .type "list", data := .seq #[] } := Heap.get?_push_size _ rfl
  have hel : e < s.heap.objs.size := Heap.lt_size he
  have hil : it < s.heap.objs.size := hfp it hif
  refine ⟨⟨_, hS, rfl⟩, PySem.F.args_list_init_2 _ _, ?_⟩
  show wpAny _ _ (do let old ← Builtin.List.listItems (.ref s.heap.objs.size); Builtin.List.listUpdate (.ref s.heap.objs.size) (fun _ => #[]); letGo old.toList.reverse; Builtin.List.listExtendWith (.ref s.heap.objs.size) (.ref e) .none) _ _ _
  refine wpAny_bind ?_
  unfold Builtin.List.listItems
  refine wpAny_bind (wpAny_seqItems hS rfl (wpAny_pure ?_))
  show wpAny _ _ (updateSeq s.heap.objs.size (fun _ => #[]) >>= fun _ => letGo (#[] : Array Value).toList.reverse >>= fun _ => Builtin.List.listExtendWith (.ref s.heap.objs.size) (.ref e) .none) _ _ _
  refine wpAny_bind (wpAny_updateSeq hS rfl ?_)
  have hS₂ := Heap.get?_update_self (Obj.mapSeq (fun _ => (#[] : Array Value))) hS rfl
  generalize hh2 : (s.heap.push { cls := .type "list", data := .seq #[] }).update s.heap.objs.size (Obj.mapSeq (fun _ => (#[] : Array Value))) = h₂ at hS₂ ⊢
  have oth : ∀ b o, b ≠ s.heap.objs.size → s.heap.get? b = some o → h₂.get? b = some o := fun b o hb y => by
    rw [← hh2]
    exact (Heap.get?_update_other _ _ (Ne.symm hb)).trans (Heap.get?_push_of_some _ y)
  have hz2 : h₂.objs.size = s.heap.objs.size + 1 := by rw [← hh2, Heap.size_update, Heap.size_push]
  have he2 : IsEnum h₂ e it 0 old := oth _ _ (Nat.ne_of_lt hel) he
  refine wpAny_bind (wpAny_letGo ?_)
  have PE := pull_enum (A := A.in1.in1) (S := s.heap.objs.size) (lo := s.heap.objs.size + 1) D hne hef hif (Nat.ne_of_gt hel) (fun z => Nat.lt_irrefl _ (hfp _ z)) ⟨Nat.lt_succ_self _, Nat.lt_succ_of_lt hel, fun b hb => Nat.lt_succ_of_lt (hfp b hb)⟩
  refine pull_extend (A := A.in1) (s := { s with heap := h₂ }) PE ⟨_, he2, rfl⟩ (Nat.ne_of_gt hel) (fun Q E q => wpAny_pyIter_enum he2 q) .none _ hS₂ (fun h k => ⟨.inl ⟨rfl, old, k _ _ (Nat.ne_of_lt hel) he2⟩, D.frame _ _ _ hst fun b hb o y => k b o (Nat.ne_of_lt (hfp b hb)) (oth b o (Nat.ne_of_lt (hfp b hb)) y), .nil⟩) (by rw [hz2]; exact Nat.le_refl _) (fun h' tk acc c as hk hS' hl hG hacc => ?_) hn
  exact ⟨rfl, hQ h' tk acc c as (fun b o h1 h2 y => hk b o (Nat.ne_of_lt (Heap.lt_size y)) (fun z => by rcases List.mem_cons.mp z with z | z; exact h1 z; exact h2 (List.mem_singleton.mp z)) (oth b o (Nat.ne_of_lt (Heap.lt_size y)) y)) hS' hl hG hacc⟩
end
end DM
end

section
set_option Elab.async false
set_option linter.all false
set_option maxRecDepth 100000
set_option maxHeartbeats 2000000
/-! DE2: list(enumerate(e)) over the hand layer, over data. -/
namespace DM
open PySem PySem.Spec PySem.Calls PyProof.Rows L2
theorem heap_cut (h : Heap) {m : Nat} (hm : m ≤ h.objs.size) : ∃ G : Heap, G.objs.size = m ∧ ∀ b o, G.get? b = some o ↔ (b < m ∧ h.get? b = some o) := by
  refine ⟨{ h with objs := h.objs.extract 0 m }, by simp [Nat.min_eq_left hm], fun b o => ?_⟩
  have e1 : (b : Nat) < m → (h.objs.extract 0 m)[(b : Nat)]? = h.objs[(b : Nat)]? := fun hb => by
    rw [Array.getElem?_extract, if_pos (by rw [Nat.min_eq_left hm]; exact hb), Nat.zero_add]
  have e2 : ¬ (b : Nat) < m → (h.objs.extract 0 m)[(b : Nat)]? = none := fun hb => by
    rw [Array.getElem?_extract, if_neg (by rw [Nat.min_eq_left hm]; exact hb)]
  by_cases hb : (b : Nat) < m
  · have e : Heap.get? { h with objs := h.objs.extract 0 m } b = h.get? b := by
      unfold Heap.get?
      rw [e1 hb]
    rw [e]
    exact ⟨fun z => ⟨hb, z⟩, fun z => z.2⟩
  · have e : Heap.get? { h with objs := h.objs.extract 0 m } b = none := by
      unfold Heap.get?
      rw [e2 hb]
    rw [e]
    exact ⟨(fun z => by cases z), fun z => absurd z.1 hb⟩
/-- numbered -/
def numV : Nat → List V → List (Key × V)
  | _, [] => []
  | i, x :: xs => (.inl (i : Int), x) :: numV (i + 1) xs
def numU : Nat → List Value → List (Key × Value)
  | _, [] => []
  | i, x :: xs => (.inl (i : Int), x) :: numU (i + 1) xs
theorem num_kv : ∀ {xs : List V} {us : List Value} (i : Nat), Vals xs us → KV (numV i xs) (numU i us)
  | _, _, _, .nil => .nil
  | _, _, i, .cons r t => .cons ⟨rfl, r⟩ (num_kv (i + 1) t)
theorem numU_length : ∀ (us : List Value) (i : Nat), (numU i us).length = us.length
  | [], _ => rfl
  | _ :: us, i => by simp [numU, numU_length us (i + 1)]
theorem numV_length : ∀ (us : List V) (i : Nat), (numV i us).length = us.length
  | [], _ => rfl
  | _ :: us, i => by simp [numV, numV_length us (i + 1)]
theorem numU_get : ∀ (us : List Value) (i j : Nat) (u : Value), us[j]? = some u → (numU i us)[j]? = some (.inl ((i + j : Nat) : Int), u)
  | [], i, j, u, h => by simp at h
  | x :: us, i, 0, u, h => by simp at h; subst h; simp [numU]
  | x :: us, i, j + 1, u, h => by
    have := numU_get us (i + 1) j u (by simpa using h)
    have e : i + 1 + j = i + (j + 1) := by omega
    rw [e] at this
    simpa [numU] using this
/-- list(enumerate(e)) -/
def tListEnum (K : PySem.W.Frag) (ta : TA) : TE := fun σ H Q => ta σ H fun vs H1 => ∃ (a : Addr) (xs : List V), vs = [.ref a] ∧ (SqL K H1 a xs ∨ SqT K H1 a xs) ∧
  ∀ (H' : Hp) (p : Addr) (ts : List Addr), (∀ b o, H1 b = some o → H' b = some o) → H1 p = none → (∀ t ∈ ts, H1 t = none) → p ∉ ts → H' p = some (.lst (ts.map V.ref)) → Paired (fun (t : Addr) (q : Key × V) => H' t = some (.tup [kV q.1, q.2])) ts (numV 0 xs) → Q (.ref p) H'
theorem pe_listEnum {X : Cx} {e : Expr} {ta : TA} {p p2 cpos pos : Pos} (hc : X.calm = true) (ha : PA X [e] ta) (hg : Gl X "list") (hm : X.mg "list" = none) (hg2 : Gl X "enumerate") (hm2 : X.mg "enumerate" = none)
    (hs2 : starEach [e] X.env = [(false, eval e X.env)] := by rfl) (hs : starEach [.Call (.Name "enumerate" p2) [e] [] cpos] X.env = (false, eval (.Call (.Name "enumerate" p2) [e] [] cpos) X.env) :: starEach [] X.env := by rfl) :
    PE X (.Call (.Name "list" p) [.Call (.Name "enumerate" p2) [e] [] cpos] [] pos) (tListEnum X.K ta) := by
  refine ⟨fun pins s σ H Q I hq => ?_⟩
  refine wpAny_Call_Name_kw (ld_blt I hg hm boot_list ?_)
  refine PyProof.Rows.callWith_type1 ?_ hs rfl
  rw [hs]
  show wpAny _ _ (spliced ((false, eval (.Call (.Name "enumerate" p2) [e] [] cpos) X.env) :: backTo pos (starEach [] X.env))) _ _ s
  refine Calls.spliced_cons ?_
  refine Call_ (ld_blt I hg2 hm2 boot_enumerate (PyProof.Rows.callWith_type1 (thn (ha.run cpos pins s σ H _ I hq) fun us s1 ⟨vs, H1, I1, r1, q1⟩ => ?_) hs2 rfl))
  obtain ⟨a, xs, ex, hsq, q1⟩ := q1
  subst ex
  have hh : X.A.in1.in1.in1.handled = none := I1.ok.hd hc
  -- what is left when the list has come
  have fin : ∀ (its : List Value) (h1 h' : Heap) (tk : Nat) (acc : Array Value) (c : Nat) (as : List Addr), Vals xs its → its.length ≤ sizeLine → h1.objs.size = s1.heap.objs.size + 2 → (∀ b o, s1.heap.get? b = some o → h1.get? b = some o) →
      (∀ b o, b ≠ s1.heap.objs.size + 1 → b ≠ s1.heap.objs.size → h1.get? b = some o → h'.get? b = some o) → h'.get? h1.objs.size = some { cls := .type "list", dict := none, data := .seq acc c, slots := #[] } → as.length = its.length →
      Tups (h1.objs.size + 1) (fun i vals => ∃ t x, its.toArray[i]? = some x ∧ vals = #[.int (i : Nat) t, x]) as h' → acc.toList = as.map Value.ref → EP X pins σ Q (.ref h1.objs.size) { s1 with heap := h', toks := tk } := by
    intro its h1 h' tk acc c as rv hz z1 k1 k2 hS hl hG hacc
    have hle : h1.objs.size ≤ h'.objs.size := Nat.le_of_lt (Heap.lt_size hS)
    obtain ⟨G, gs, gg⟩ := heap_cut h' hle
    have I2 : Inv X pins σ H1 { s1 with heap := G } := I1.kept (t' := s1.toks) fun b o y => (gg b o).mpr ⟨by rw [z1]; exact Nat.lt_succ_of_lt (Nat.lt_succ_of_lt (Heap.lt_size y)), k2 b o (Nat.ne_of_lt (Nat.lt_succ_of_lt (Heap.lt_size y))) (Nat.ne_of_lt (Heap.lt_size y)) (k1 b o y)⟩
    have hlen := rv.length
    have I2s : ({ s1 with heap := G } : Shared).heap.objs.size = h1.objs.size := gs
    obtain ⟨H', k3, k4, k5, k6, k7, k8, J⟩ := LiI.items_laid (tk := tk) (h' := h') (acc := acc) (c := c) (as := as) I2 (by rw [numV_length, hlen]; exact hz) (num_kv 0 rv) (fun b o y => ((gg b o).mp y).2) (by rw [I2s]; exact hS) (by rw [numU_length]; exact hl)
      ⟨hG.rise, fun a ha => by rw [I2s]; exact hG.above a ha, fun j a hj => by
        obtain ⟨vals, ⟨t, x, hx, ev⟩, ea⟩ := hG.tup j a hj
        have e5 := numU_get its 0 j x (by simpa using hx)
        rw [Nat.zero_add] at e5
        rw [ev] at ea
        exact ⟨Value.int ((j : Nat) : Int) t, Sum.inl ((j : Nat) : Int), x, e5, keyIs_int ((j : Nat) : Int) t, ea⟩⟩ hacc
    rw [I2s] at k4 k6 k7
    exact ⟨.ref h1.objs.size, H', J, rfl, q1 H' _ as k3 k4 k5 k6 k7 k8⟩
  cases r1 with
  | cons r rr =>
    cases rr
    cases r
    rcases hsq with hq | hq
    · obtain ⟨its, rv, p', hz0⟩ := I1.list hq
      have hz : its.length ≤ sizeLine := by rw [← rv.length]; exact hz0
      have hlt : a < s1.heap.objs.size := by obtain ⟨_, q, _⟩ := p'.isList; exact Heap.lt_size q
      refine call_enumerate_list p'.isList fun h1 he hit hsz hk => ?_
      refine Calls.spliced_nil ?_
      have D : Draws X.prog X.w X.A.in1.in1.in1 s1.heap.objs.size [s1.heap.objs.size, a] its.toArray.size (fun i v => its.toArray[i]? = some v) (fun i h => h.IsListIter s1.heap.objs.size a i ∧ h.IsList a its.toArray) := Draws.list (A := X.A.in1.in1.in1) hh _ a (Nat.ne_of_lt hlt) its.toArray
      refine call_list_enum (s := { s1 with heap := h1 }) D he ⟨hit, p'.isList.at fun o y => hk _ o y⟩ (Nat.succ_ne_self _) (fun z => ?_) List.mem_cons_self (fun b hb => ?_) (by simpa using hz) fun h' tk acc c as k2 hS hl hG hacc => ?_
      · rcases List.mem_cons.mp z with z | z
        · exact Nat.succ_ne_self _ z
        · exact absurd (List.mem_singleton.mp z) (Nat.ne_of_gt (Nat.lt_succ_of_lt hlt))
      · show b < h1.objs.size
        rw [hsz]
        rcases List.mem_cons.mp hb with z | z
        · rw [z]; exact Nat.lt_succ_of_lt (Nat.lt_succ_self _)
        · rw [List.mem_singleton.mp z]; exact Nat.lt_succ_of_lt (Nat.lt_succ_of_lt hlt)
      · exact fin its h1 h' tk acc c as rv hz hsz hk k2 hS (by simpa using hl) hG hacc
    · obtain ⟨its, rv, p', hz0⟩ := I1.tuple hq
      have hz : its.length ≤ sizeLine := by rw [← rv.length]; exact hz0
      have hlt : a < s1.heap.objs.size := by obtain ⟨_, q, _⟩ := id p'; exact Heap.lt_size q
      refine enum_begins1 (begins_tuple a its.toArray) (show s1.heap.IsTuple a its.toArray from p') fun h1 he hit hsz hk => ?_
      refine Calls.spliced_nil ?_
      have D : Draws X.prog X.w X.A.in1.in1.in1 s1.heap.objs.size [s1.heap.objs.size, a] its.toArray.size (fun i v => its.toArray[i]? = some v) (fun i h => h.IsTupleIter s1.heap.objs.size a i ∧ h.IsTuple a its.toArray) := Draws.tuple (A := X.A.in1.in1.in1) hh _ a (Nat.ne_of_lt hlt) its.toArray
      refine call_list_enum (s := { s1 with heap := h1 }) D he ⟨⟨_, hit, rfl, rfl⟩, (show s1.heap.IsTuple a its.toArray from p').at fun o y => hk _ o y⟩ (Nat.succ_ne_self _) (fun z => ?_) List.mem_cons_self (fun b hb => ?_) (by simpa using hz) fun h' tk acc c as k2 hS hl hG hacc => ?_
      · rcases List.mem_cons.mp z with z | z
        · exact Nat.succ_ne_self _ z
        · exact absurd (List.mem_singleton.mp z) (Nat.ne_of_gt (Nat.lt_succ_of_lt hlt))
      · show b < h1.objs.size
        rw [hsz]
        rcases List.mem_cons.mp hb with z | z
        · rw [z]; exact Nat.lt_succ_of_lt (Nat.lt_succ_self _)
        · rw [List.mem_singleton.mp z]; exact Nat.lt_succ_of_lt (Nat.lt_succ_of_lt hlt)
      · exact fin its h1 h' tk acc c as rv hz hsz hk k2 hS (by simpa using hl) hG hacc
end DM
namespace DL
open PySem PySem.Spec PyProof.Rows L2
/-- a heap that has grown alone -/
theorem ext_grown {K : PySem.W.Frag} {M : DHp} {H H' : Hp} (m : RepM K H M) (k : ∀ b o, H b = some o → H' b = some o) : Ext M H M H' ∧ RepM K H' M := by
  have x : Ext M H M H' := ⟨fun a o h n _ => ⟨k a o h, n⟩, fun a h => by
    obtain ⟨o, ho, _⟩ := m a _ h
    exact ⟨(k a o ho).trans ho.symm, h⟩⟩
  refine ⟨x, fun a mo h => (m a mo h).ext x ?_⟩
  obtain ⟨u, hu⟩ := m.there h
  exact (k a u hu).trans hu.symm
theorem numbered_rep {K : PySem.W.Frag} {H : Hp} {M : DHp} : ∀ {ts : List Addr} {xs : List V} {ds : List D} (i : Nat), Paired (fun (t : Addr) (q : Key × V) => H t = some (.tup [kV q.1, q.2])) ts (DM.numV i xs) → RepL K H M xs ds → (∀ t ∈ ts, M t = none) → RepL K H M (ts.map V.ref) (enumD i ds)
  | [], [], [], _, _, _, _ => .nil
  | [], _ :: _, _, i, p, _, _ => by cases p
  | _ :: _, [], _, i, p, _, _ => by cases p
  | [], [], _ :: _, _, _, r, _ => by cases r
  | t :: ts, x :: xs, ds, i, p, r, n => by
    cases p with
    | cons h p =>
      cases r with
      | cons r rr =>
        exact .cons (.tup (.inl ⟨.inl h, n t List.mem_cons_self⟩) (.cons (.int _) (.cons r .nil))) (numbered_rep (i + 1) p rr fun t ht => n t (List.mem_cons_of_mem _ ht))
def dLstEnum (ta : DTA) : DTE := fun δ M Q W => ta δ M (fun xs M1 => match xs with
  | [d] => ∃ ds, seqOf M1 d = some ds ∧ Q (.lst (enumD 0 ds)) M1
  | _ => False) W
theorem de_lstEnum {X : Cx} {W0 : WX} {e : Expr} {ta : DTA} {p p2 cpos pos : Pos} (hc : X.calm = true) (ha : DA X W0 [e] ta) (hm : X.mg "list" = none) (hm2 : X.mg "enumerate" = none) (hg : Gl X "list" := by rfl) (hg2 : Gl X "enumerate" := by rfl)
    (hs2 : starEach [e] X.env = [(false, eval e X.env)] := by rfl) (hs : starEach [.Call (.Name "enumerate" p2) [e] [] cpos] X.env = (false, eval (.Call (.Name "enumerate" p2) [e] [] cpos) X.env) :: starEach [] X.env := by rfl) :
    DE X W0 (.Call (.Name "list" p) [.Call (.Name "enumerate" p2) [e] [] cpos] [] pos) (dLstEnum ta) :=
  .mk' (DM.pe_listEnum hc ha.pa hg hm hg2 hm2 hs2 hs) fun σ H Q0 δ M Q W a q k w => lfA.use a q (fun vs H1 ds M1 x m1 r1 q1 => by
    split at q1
    · obtain ⟨v, rfl, r⟩ := r1.one
      obtain ⟨ds, hs, q1⟩ := q1
      obtain ⟨b, xs, rfl, hsq, l⟩ := seqOf_rep hs m1 r
      refine ⟨b, xs, rfl, hsq, fun H' p ts k1 k2 k3 k4 k5 k6 => ?_⟩
      obtain ⟨x2, m2⟩ := ext_grown m1 k1
      have nM : ∀ t, H1 t = none → M1 t = none := fun t ht => m1.fresh ht
      exact k _ H' _ _ (x.trans x2) m2 (.lst k5 (nM _ k2) (numbered_rep 0 k6 (l.ext x2) fun t ht => nM t (k3 t ht))) q1
    · exact q1.elim) w
end DL
end

section
set_option Elab.async false
set_option linter.all false
set_option maxRecDepth 100000
/-! DS3: sorted sets of ints; dicts. -/
namespace DL
open PySem PySem.Spec PyProof.Rows L2
/-! ### each once, in order -/
def uniqI : List Int → List Int
  | [] => []
  | n :: ns => if n ∈ ns then uniqI ns else n :: uniqI ns
theorem mem_uniqI {k : Int} : ∀ {ns : List Int}, k ∈ uniqI ns ↔ k ∈ ns
  | [] => by simp [uniqI]
  | n :: ns => by
    unfold uniqI
    split
    · rename_i h
      rw [mem_uniqI, List.mem_cons]
      exact ⟨.inr, fun z => z.elim (fun e => e ▸ h) id⟩
    · rw [List.mem_cons, List.mem_cons, mem_uniqI]
theorem nodup_uniqI : ∀ ns : List Int, (uniqI ns).Nodup
  | [] => .nil
  | n :: ns => by
    unfold uniqI
    split
    · exact nodup_uniqI ns
    · rename_i h
      exact List.nodup_cons.mpr ⟨fun z => h (mem_uniqI.mp z), nodup_uniqI ns⟩
def usort (ns : List Int) : List Int := isort (uniqI ns)
theorem mem_usort {k : Int} {ns : List Int} : k ∈ usort ns ↔ k ∈ ns := by
  unfold usort
  rw [(isort_perm _).mem_iff, mem_uniqI]
theorem len_uniq {L ns : List Int} (hL : L.Nodup) (h : ∀ k, k ∈ L ↔ k ∈ ns) : L.length = (uniqI ns).length :=
  ((List.perm_ext_iff_of_nodup hL (nodup_uniqI ns)).mpr fun k => (h k).trans mem_uniqI.symm).length_eq
theorem usort_uniq {L ns : List Int} (hs : L.Pairwise (· < ·)) (h : ∀ k, k ∈ L ↔ k ∈ ns) : L = usort ns := by
  have nd : L.Nodup := List.Pairwise.imp (fun {a b} (z : a < b) => Int.ne_of_lt z) hs
  exact isort_uniq ((List.perm_ext_iff_of_nodup nd (nodup_uniqI ns)).mpr fun k => (h k).trans mem_uniqI.symm) (List.Pairwise.imp (fun {a b} (z : a < b) => Int.le_of_lt z) hs)
theorem uniqI_le (ns : List Int) : (uniqI ns).length ≤ ns.length := by
  induction ns with
  | nil => exact Nat.le_refl _
  | cons n ns ih =>
    unfold uniqI
    split
    · exact Nat.le_succ_of_le ih
    · exact Nat.succ_le_succ ih
theorem usort_length (ns : List Int) : (usort ns).length = (uniqI ns).length := (isort_perm _).length_eq
theorem uniqI_snoc (ns : List Int) (k : Int) : (uniqI (ns ++ [k])).length = if k ∈ ns then (uniqI ns).length else (uniqI ns).length + 1 := by
  split
  · rename_i h
    exact (len_uniq (nodup_uniqI ns) fun j => by
      rw [mem_uniqI, List.mem_append, List.mem_singleton]
      exact ⟨.inl, fun z => z.elim id fun e => e ▸ h⟩).symm
  · rename_i h
    have := len_uniq (L := uniqI ns ++ [k]) (ns := ns ++ [k]) (by
      refine List.nodup_append.mpr ⟨nodup_uniqI ns, by simp, fun a ha b hb => ?_⟩
      rw [List.mem_singleton.mp hb]
      exact fun e => h (e ▸ mem_uniqI.mp ha)) fun j => by rw [List.mem_append, List.mem_append, mem_uniqI]
    rw [← this, List.length_append, List.length_singleton]
/-! ### sets in the heap -/
theorem plain_set {w : World} {a : Addr} {S : Int → Bool} {n : Nat} : PlainO (SetO w a S n) := by
  refine ⟨(fun _ z => by unfold SetO at z; cases z), fun c q z => ?_⟩
  unfold SetO LamX.CodeO at z
  have f := HO.ext.inj z
  let oc : Obj := { cls := .none, data := .fields #[.none, .str q default] }
  let h : Heap := { objs := Array.replicate (c + 1) oc }
  have hget : ∀ b o, h.get? b = some o → o = oc := fun b o e => by
    unfold Heap.get? at e
    show o = oc
    have e2 : h.objs[(b : Nat)]? = if (b : Nat) < c + 1 then some oc else none := Array.getElem?_replicate
    by_cases hb : (b : Nat) < c + 1
    · rw [e2, if_pos hb] at e
      exact (Option.some.inj e).symm
    · rw [e2, if_neg hb] at e
      cases e
  have hc : h.get? c = some oc := by
    unfold Heap.get?
    have e2 : h.objs[(c : Nat)]? = if (c : Nat) < c + 1 then some oc else none := Array.getElem?_replicate
    rw [e2, if_pos (Nat.lt_succ_self _)]
  have g := congrFun f h
  have y : SetR w h a S n := Eq.mpr g ⟨oc, #[.none, .str q default], default, hc, rfl, rfl⟩
  obtain ⟨o, es, ep, t, ho, _, hd, _⟩ := y
  rw [hget _ _ ho] at hd
  cases hd
theorem setR_count {w : World} {h : Heap} {a : Addr} {ns : List Int} {S : Int → Bool} {n : Nat} (R : SetR w h a S n) (hS : ∀ k, S k = true ↔ k ∈ ns) : n = (uniqI ns).length := by
  obtain ⟨o, es, ep, t, _, _, _, _, nd, mem, _, _, sz, _⟩ := R
  have := len_uniq nd fun k => (mem k).symm.trans (hS k)
  rw [List.length_map, Array.length_toList, sz] at this
  exact this
section
variable {X : Cx}
/-- set(l), l a list of ints -/
theorem cr_setL (hc : X.calm = true) : CallR X (.type "set") (fun xs H Q => ∃ (a : Addr) (ns : List Int), xs = [.ref a] ∧ SqL X.K H a (ns.map V.int) ∧ ns.length + 1 < scanBound ∧ ∀ p, H p = none → Q (.ref p) (upd H p (SetO X.w p (fun j => decide (j ∈ ns)) (uniqI ns).length))) := by
  intro pins s σ H xs us Q I r h
  obtain ⟨a, ns, rfl, hs, hb, q⟩ := h
  obtain ⟨its, rv, p', hz⟩ := I.list hs
  rw [Vals.ref1 r]
  refine call_set_lstI ns (I.ok.hd hc) p'.isList (by
    have := ints_of_vals rv
    simpa using this) hb fun h' tk c R hcl hk => ?_
  have e : c = (uniqI ns).length := setR_count R fun k => by simp
  subst e
  exact ⟨.ref s.heap.objs.size, _, I.laid (t' := tk) hk (Nat.le_refl _) (setO_new R), rfl, q _ (I.hok.fresh (Nat.le_refl _))⟩
variable {W0 : WX} {e : Expr} {te : DTE} {p p2 cpos pos : Pos}
def dSrtSet (te : DTE) : DTE := fun δ M Q W => te δ M (fun x M1 => ∃ ns : List Int, lstOf M1 x = some (ns.map D.int) ∧ ns.length + 1 < 4096 ∧ (uniqI ns).length < 64 ∧ Q (.lst ((usort ns).map D.int)) M1) W
theorem de_srtSet (hc : X.calm = true) (he : DE X W0 e te) (hm : X.mg "sorted" = none) (hm2 : X.mg "set" = none) (hg : Gl X "sorted" := by rfl) (hg2 : Gl X "set" := by rfl) (hs2 : starEach [e] X.env = (false, eval e X.env) :: starEach [] X.env := by rfl)
    (hs : starEach [.Call (.Name "set" p2) [e] [] cpos] X.env = (false, eval (.Call (.Name "set" p2) [e] [] cpos) X.env) :: starEach [] X.env := by rfl) (hpl : (backTo pos (starEach [] X.env)).any (·.1) = false := by rfl) (hpl2 : (backTo cpos (starEach [] X.env)).any (·.1) = false := by rfl) :
    DE X W0 (.Call (.Name "sorted" p) [.Call (.Name "set" p2) [e] [] cpos] [] pos) (dSrtSet te) :=
  .mk' (pe_callB (cr_sortedSet hc) hg hm (by decide +kernel) (pa_cons (pe_callTy (cr_setL hc) hg2 hm2 (by decide +kernel) (pa_cons he.pe pa_nil hs2) (by decide) (by decide) hs2 hpl2) pa_nil hs) (by decide) (by decide) hs hpl) fun σ H Q0 δ M Q W a q k w =>
    lfE.use a q (fun v H1 d M1 x m1 r1 q1 => by
      obtain ⟨ns, hl, h1, h2, q1⟩ := q1
      obtain ⟨b, ws, rfl, f, l⟩ := lstOf_rep hl m1 r1
      rw [l.ints] at f
      refine ⟨b, ns, rfl, SqL.of f, by show _ < 4096; exact h1, fun p hp => ⟨p, _, _, rfl, upd_same, h2, fun ms p3 hs hm hlen hp3 => ?_⟩⟩
      have e : ms = usort ns := usort_uniq hs fun j => (hm j).trans (by simp)
      subst e
      have x2 := Ext.laid (o := SetO X.w p (fun j => decide (j ∈ ns)) (uniqI ns).length) m1 hp
      exact OkV.lst ((k.ext x).ext x2) (m1.laid hp) hp3 (RepL.ofInts _) q1) w
/-! ### sorted({elt for ..}) -/
def dScL (p : Pat) (tt : DTT) (te : DTE) (δ0 : DSt) (Q : List Int → DHp → Prop) (chk : DHp → Prop) : List D → List Int → DHp → Prop
  | [], acc, M => chk M ∧ Q acc M
  | d :: r, acc, M => chk M ∧ acc.length < 4000 ∧ dLcT p tt te δ0 (fun o M' => match o with
    | some (.int k) => dScL p tt te δ0 Q chk r (acc ++ [k]) M'
    | some _ => False
    | none => dScL p tt te δ0 Q chk r acc M') d M
def dSrtSc (ti : DTI) (p : Pat) (tt : DTT) (te : DTE) (vs : List Nat) : DTE := fun δ M Q W => ti δ M (fun ds chk M1 => ∀ A, M1 A = none → dScL p tt te (wipeD δ vs) (fun acc M2 => (uniqI acc).length < 64 ∧ Q (.lst ((usort acc).map D.int)) (delD M2 A)) chk ds [] (updD M1 A .busy)) W
theorem sc_run {K : PySem.W.Frag} {wd : World} {ti : DTI} {p : Pat} {tt : DTT} {te : DTE} {vs : List Nat} {W0 : WX} (hsl : ∀ j, j ∈ slotsP p → j ∈ vs) {σ : L2.St} {H : Hp} {Q0 : VK} {δ : DSt} {M : DHp} {W : DW} {Qe : Addr → List Int → DHp → Prop} (a : At K σ H δ M)
    (q : ti δ M (fun ds chk M1 => ∀ A, M1 A = none → dScL p tt te (wipeD δ vs) (Qe A) chk ds [] (updD M1 A .busy)) W)
    (k : ∀ A H' M' acc, Ext M H M' H' → (∀ b, M b = some .busy → b ≠ A) → RepM K H' M' → H' A = some (SetO wd A (fun j => decide (j ∈ acc)) (uniqI acc).length) → M' A = some .busy → Qe A acc M' → Q0 (.ref A) H') (w : OkW K M H W W0) :
    PpSet.tScI wd (lfI K W0 ti) (gOf K p) (lfT K WF tt) (lfE K WF te) vs σ H Q0 := by
  refine ⟨δ, M, _, W, a, q, fun J H1 ds chk M1 x1 m1 wk q1 => ?_, w⟩
  intro A hA
  have nA := m1.fresh hA
  have e0 : (fun j => decide (j ∈ ([] : List Int))) = fun _ => false := by funext j; simp
  have yA : Ext M1 H1 (updD M1 A .busy) (upd H1 A (SetO wd A (fun _ => false) 0)) := Ext.laidM m1 hA
  have mA : RepM K (upd H1 A (SetO wd A (fun _ => false) 0)) (updD M1 A .busy) := m1.laidM hA ⟨_, upd_same, plain_set⟩
  have wf : ∀ M H, OkW K M H WN WF := fun M H c pd σ' H' gs δ' M' _ _ _ _ z => z
  refine ⟨fun i n H' => ∃ M' acc, n + i = ds.length ∧ Ext M1 H1 M' H' ∧ RepM K H' M' ∧ H' A = some (SetO wd A (fun j => decide (j ∈ acc)) (uniqI acc).length) ∧ M' A = some .busy ∧ dScL p tt te (wipeD δ vs) (Qe A) chk (ds.drop i) acc M', ⟨ds.length, updD M1 A .busy, [], rfl, yA, mA, by rw [e0]; exact upd_same, updD_same, q1 A nA⟩, ?_⟩
  rintro i n H2 ⟨M2, acc, hn, x2, m2, eA, nA2, q2⟩
  have xx := x1.trans x2
  cases e : ds.drop i with
  | nil =>
    have hi : i = ds.length := by
      have := List.drop_eq_nil_iff.mp e
      omega
    rw [e] at q2
    obtain ⟨c2, q2⟩ := q2
    subst hi
    refine .inl ⟨(wk H2 M2 x2.w m2 c2).2, k A H2 M2 acc xx (fun b hb => ?_) m2 eA nA2 q2⟩
    exact fun z => by
      have := (x1.busy b hb).2
      rw [z, nA] at this
      cases this
  | cons d r =>
    obtain ⟨ed, er, hlt⟩ := drop_at e
    rw [e] at q2
    obtain ⟨c2, hacc, δ', ep, q2⟩ := q2
    obtain ⟨go, yl⟩ := (wk H2 M2 x2.w m2 c2).1 i d ed
    refine .inr ⟨go, fun H' => ∃ M' acc, Ext M1 H1 M' H' ∧ RepM K H' M' ∧ H' A = some (SetO wd A (fun j => decide (j ∈ acc)) (uniqI acc).length) ∧ M' A = some .busy ∧ dScL p tt te (wipeD δ vs) (Qe A) chk r acc M', fun H' ⟨M', acc, h1, h2, h3, h4, h6⟩ => ⟨n - 1, by omega, M', acc, by omega, h1, h2, h3, h4, by rw [er]; exact h6⟩, fun v H3 hy => ?_⟩
    obtain ⟨x3, m3, r3⟩ := yl v H3 hy
    have x23 := x2.trans x3
    refine gOf_ok m3 p ep ((a.s.wipe vs).ext (x1.trans x23)) r3 fun σ' s' hl' hag => ⟨?_, ?_⟩
    · rw [wipe_agree (vs := vs) hl' fun j hj => hag j fun z => hj (hsl j z)]
      exact wipe_agree (wipe_length _ _) fun j hj => by rw [wipe_out hj]
    · refine lfT.use ⟨s', m3⟩ q2 (fun b H4 M4 x4 m4 q4 => ?_) (wf _ _)
      have x34 := x3.trans x4
      obtain ⟨b4, nb4⟩ := x34.busy A nA2
      cases b with
      | false =>
        simp only [Bool.false_eq_true, if_false] at q4 ⊢
        exact ⟨M4, acc, x23.trans x4, m4, b4.trans eA, nb4, q4⟩
      | true =>
        simp only [if_true] at q4 ⊢
        refine lfE.use ⟨s'.ext x4, m4⟩ q4 (fun v5 H5 d5 M5 x5 m5 r5 q5 => ?_) (wf _ _)
        have x35 := x34.trans x5
        obtain ⟨b5, nb5⟩ := x35.busy A nA2
        have e5 : H5 A = _ := b5.trans eA
        split at q5
        · rename_i o kk eo
          have ed5 : d5 = .int kk := Option.some.inj eo
          subst ed5
          rw [r5.intI]
          refine ⟨kk, _, _, rfl, e5, by have := uniqI_le acc; show _ < 4096; omega, M5, acc ++ [kk], ?_, ?_, ?_, nb5, q5⟩
          · have x25 := (x2.trans x34).trans x5
            refine ⟨fun b o h n t => ?_, fun b h => ?_⟩
            · have hb : b ≠ A := ne_of_none h hA
              rw [upd_ne hb]
              exact x25.keep b o h n t
            · have hb : b ≠ A := fun z => by rw [z, nA] at h; cases h
              rw [upd_ne hb]
              exact x25.busy b h
          · intro b mo e
            by_cases hb : b = A
            · subst hb
              rw [nb5] at e
              cases e
              exact ⟨_, upd_same, plain_set⟩
            · exact (m5 b mo e).grow nb5 (upd_ne hb)
          · rw [upd_same]
            have f1 : (fun j => (fun j => decide (j ∈ acc)) j || decide (j = kk)) = fun j => decide (j ∈ acc ++ [kk]) := by
              funext j
              simp [List.mem_append]
            rw [f1, uniqI_snoc]
            simp only [decide_eq_true_eq]
        · exact q5.elim
        · rename_i eo
          cases eo
theorem de_srtSc {elt tg iter : Expr} {ifs : List Expr} {scope : Scope} {own : List (Str × Nat)} {ti : DTI} {pt : Pat} {tt : DTT} {te : DTE} (hc : X.calm = true) (hN : X.N.Nodup) (hi : DI X W0 tg iter ti) (ok : BlkOk X.N X.env.scope scope own) (hsl : ∀ j, j ∈ slotsP pt → j ∈ own.map (·.2))
    (hg : ∀ (s : Shared) (H : Hp) (C : Addr) (cl : List (Str × Addr)) (fp : List Addr), DG (X.blk s H scope (compEnvC scope cl C X.env) fp) tg pt) (ht : ∀ (s : Shared) (H : Hp) (C : Addr) (cl : List (Str × Addr)) (fp : List Addr), DTs (X.blk s H scope (compEnvC scope cl C X.env) fp) WF ifs tt)
    (he : ∀ (s : Shared) (H : Hp) (C : Addr) (cl : List (Str × Addr)) (fp : List Addr), DE (X.blk s H scope (compEnvC scope cl C X.env) fp) WF elt te) (hm : X.mg "sorted" = none) (hs : ∀ x, foldedSetIterable iter X.env x = pure x := by intro _; rfl) (hgl : Gl X "sorted" := by rfl)
    (hst : starEach [.SetComp elt [⟨tg, iter, ifs, 0⟩] scope cpos] X.env = (false, eval (.SetComp elt [⟨tg, iter, ifs, 0⟩] scope cpos) X.env) :: starEach [] X.env := by rfl) (hpl : (backTo pos (starEach [] X.env)).any (·.1) = false := by rfl) :
    DE X W0 (.Call (.Name "sorted" p) [.SetComp elt [⟨tg, iter, ifs, 0⟩] scope cpos] [] pos) (dSrtSc ti pt tt te (own.map (·.2))) :=
  .mk' (pe_callB (cr_sortedSet hc) hgl hm (by decide +kernel) (pa_cons (PpSet.pe_scI (g := gOf X.K pt) (tt := lfT X.K WF tt) (te := lfE X.K WF te) hc hN hi.pi ok (fun s H C cl fp => (hg s H C cl fp).pg) (fun s H C cl fp => (ht s H C cl fp).pts) (fun s H C cl fp => (he s H C cl fp).pe) hs) pa_nil hst) (by decide) (by decide) hst hpl) fun σ H Q0 δ M Q W a q k w => by
    show PpSet.tScI X.w (lfI X.K W0 ti) (gOf X.K pt) (lfT X.K WF tt) (lfE X.K WF te) (own.map (·.2)) σ H (fun v H1 => rSortedSet X.w [v] H1 Q0)
    exact sc_run hsl a q (fun A H' M' acc x nb m e eb q' => by
      obtain ⟨h64, q'⟩ := q'
      refine ⟨A, _, _, rfl, e, h64, fun ms p3 hs hm hlen hp3 => ?_⟩
      have e2 : ms = usort acc := usort_uniq hs fun j => (hm j).trans (by simp)
      subst e2
      have sb := Sub.del M' A
      have x' := x.sub sb fun b hb => by rw [delD_ne (nb b hb)]; exact (x.busy b hb).2
      exact OkV.lst (k.ext x') (m.sub sb) hp3 (RepL.ofInts _) q') w
end
end DL
end

section
set_option Elab.async false
set_option linter.all false
set_option maxRecDepth 100000
/-! DS4: dicts whose keys are ints and texts. -/
namespace DL
open PySem PySem.Spec PyProof.Rows L2
def keyD : Key → D
  | .inl i => .int i
  | .inr x => .str x
def dKey : D → Option Key
  | .int i => some (.inl i)
  | .str x => some (.inr x)
  | _ => none
section
variable {κ β : Type} [DecidableEq κ]
def valG (kvs : List (κ × β)) (k : κ) : Option β := (kvs.find? fun kv => decide (kv.1 = k)).map (·.2)
def putG (kvs : List (κ × β)) (k : κ) (v : β) : List (κ × β) := if (kvs.any fun kv => decide (kv.1 = k)) = true then kvs.map (fun kv => if kv.1 = k then (kv.1, v) else kv) else kvs ++ [(k, v)]
def mergeG (kvs more : List (κ × β)) : List (κ × β) := more.foldl (fun acc kv => putG acc kv.1 kv.2) kvs
def dropG (kvs : List (κ × β)) (k : κ) : List (κ × β) := kvs.filter fun kv => decide (kv.1 ≠ k)
theorem valG_cons {p : κ × β} {r : List (κ × β)} {k : κ} : valG (p :: r) k = if p.1 = k then some p.2 else valG r k := by
  unfold valG
  rw [List.find?_cons]
  by_cases h : p.1 = k
  · simp [h]
  · simp [h]
theorem valG_put {kvs : List (κ × β)} {k j : κ} {y : β} : valG (putG kvs k y) j = if j = k then some y else valG kvs j := by
  unfold putG
  split
  · rename_i h
    induction kvs with
    | nil => simp at h
    | cons p r ih =>
      rw [List.map_cons, valG_cons, valG_cons]
      by_cases hp : p.1 = k
      · rw [if_pos hp]
        by_cases hj : j = k
        · simp [hp, hj]
        · rw [if_neg hj, if_neg (by rw [hp]; exact fun e => hj e.symm), if_neg (by rw [hp]; exact fun e => hj e.symm)]
          clear ih h
          induction r with
          | nil => rfl
          | cons q r ih =>
            rw [List.map_cons, valG_cons, valG_cons]
            by_cases hq : q.1 = k
            · rw [if_pos hq]
              rw [if_neg (by rw [hq]; exact fun e => hj e.symm), if_neg (by rw [hq]; exact fun e => hj e.symm), ih]
            · rw [if_neg hq, ih]
      · rw [if_neg hp]
        have h' : (r.any fun kv => decide (kv.1 = k)) = true := by
          rw [List.any_cons, decide_eq_false hp, Bool.false_or] at h
          exact h
        rw [ih h']
        by_cases hj : j = k
        · subst hj; simp [hp]
        · simp [hj]
  · rename_i h
    induction kvs with
    | nil =>
      rw [List.nil_append, valG_cons]
      by_cases hj : j = k
      · rw [if_pos hj.symm, if_pos hj]
      · rw [if_neg (fun e => hj e.symm), if_neg hj]
    | cons p r ih =>
      rw [List.any_cons, Bool.or_eq_true, not_or] at h
      have hp : ¬ p.1 = k := fun e => h.1 (decide_eq_true e)
      rw [List.cons_append, valG_cons, valG_cons, ih h.2]
      by_cases hj : j = k
      · subst hj; rw [if_neg hp, if_pos rfl, if_pos rfl]
      · rw [if_neg hj, if_neg hj]
theorem putG_length {kvs : List (κ × β)} {k : κ} {v : β} : (putG kvs k v).length ≤ kvs.length + 1 := by
  unfold putG
  split
  · rw [List.length_map]; omega
  · rw [List.length_append, List.length_singleton]; omega
theorem mergeG_length : ∀ {more kvs : List (κ × β)}, (mergeG kvs more).length ≤ kvs.length + more.length
  | [], kvs => Nat.le_refl _
  | p :: more, kvs => by
    show (mergeG (putG kvs p.1 p.2) more).length ≤ _
    have h1 := mergeG_length (more := more) (kvs := putG kvs p.1 p.2)
    have h2 := putG_length (kvs := kvs) (k := p.1) (v := p.2)
    rw [List.length_cons]; omega
/-- what is put in later wins -/
theorem valG_merge : ∀ {more kvs : List (κ × β)} {j : κ}, (more.map (·.1)).Nodup → valG (mergeG kvs more) j = (valG more j).or (valG kvs j)
  | [], kvs, j, _ => rfl
  | p :: more, kvs, j, h => by
    show valG (mergeG (putG kvs p.1 p.2) more) j = _
    obtain ⟨h1, h2⟩ := List.nodup_cons.mp h
    rw [valG_merge h2, valG_put, valG_cons]
    by_cases hj : j = p.1
    · subst hj
      have e : valG more p.1 = none := by
        unfold valG
        rw [Option.map_eq_none_iff, List.find?_eq_none]
        intro q hq
        have : q.1 ≠ p.1 := fun e => h1 (List.mem_map.mpr ⟨q, hq, e⟩)
        simp [this]
      rw [e, if_pos rfl, if_pos rfl]
      rfl
    · rw [if_neg hj, if_neg (fun e => hj e.symm)]
end
section
variable {K : PySem.W.Frag} {H : Hp} {M : DHp} {κ : Type} [DecidableEq κ]
theorem RepK.val {fs : List (κ × V)} {gs : List (κ × D)} (r : RepK K H M fs gs) {k : κ} {d : D} (h : valG gs k = some d) : ∃ v, valV fs k = some v ∧ Rep K H M v d := by
  unfold RepK at r
  induction r with
  | nil => simp [valG] at h
  | @cons p q ps qs x t ih =>
    rw [valG_cons] at h
    by_cases e : q.1 = k
    · rw [if_pos e] at h
      cases h
      exact ⟨p.2, valV_pos (x.1.trans e), x.2⟩
    · rw [if_neg e] at h
      obtain ⟨v, h1, h2⟩ := ih h
      exact ⟨v, by rw [valV_neg (by rw [x.1]; exact e)]; exact h1, h2⟩
theorem RepK.val_none {fs : List (κ × V)} {gs : List (κ × D)} (r : RepK K H M fs gs) {k : κ} (h : valG gs k = none) : valV fs k = none := by
  unfold RepK at r
  induction r with
  | nil => rfl
  | @cons p q ps qs x t ih =>
    rw [valG_cons] at h
    by_cases e : q.1 = k
    · rw [if_pos e] at h; cases h
    · rw [if_neg e] at h
      rw [valV_neg (by rw [x.1]; exact e)]
      exact ih h
theorem RepK.any {fs : List (κ × V)} {gs : List (κ × D)} (r : RepK K H M fs gs) (k : κ) : (fs.any fun kv => decide (kv.1 = k)) = gs.any fun kv => decide (kv.1 = k) := by
  unfold RepK at r
  induction r with
  | nil => rfl
  | @cons p q ps qs x t ih => rw [List.any_cons, List.any_cons, ih, x.1]
theorem RepK.put1 (k : κ) {v : V} {d : D} (rv : Rep K H M v d) : ∀ {fs : List (κ × V)} {gs : List (κ × D)}, RepK K H M fs gs → RepK K H M (fs.map fun kv => if kv.1 = k then (kv.1, v) else kv) (gs.map fun kv => if kv.1 = k then (kv.1, d) else kv)
  | _, _, .nil => .nil
  | p :: ps, q :: qs, .cons x t => by
    refine .cons ?_ (RepK.put1 k rv t)
    show (if p.1 = k then (p.1, v) else p).1 = (if q.1 = k then (q.1, d) else q).1 ∧ Rep K H M (if p.1 = k then (p.1, v) else p).2 (if q.1 = k then (q.1, d) else q).2
    rw [x.1]
    split
    · exact ⟨rfl, rv⟩
    · exact x
theorem RepK.put2 (k : κ) {v : V} {d : D} (rv : Rep K H M v d) : ∀ {fs : List (κ × V)} {gs : List (κ × D)}, RepK K H M fs gs → RepK K H M (fs ++ [(k, v)]) (gs ++ [(k, d)])
  | _, _, .nil => .cons ⟨rfl, rv⟩ .nil
  | _, _, .cons x t => .cons x (RepK.put2 k rv t)
theorem RepK.put {fs : List (κ × V)} {gs : List (κ × D)} (r : RepK K H M fs gs) (k : κ) {v : V} {d : D} (rv : Rep K H M v d) : RepK K H M (putK fs k v) (putG gs k d) := by
  unfold putK putG
  rw [r.any k]
  split
  · exact r.put1 k rv
  · exact r.put2 k rv
theorem RepK.merge : ∀ {ms : List (Key × V)} {ns : List (Key × D)} {fs : List (Key × V)} {gs : List (Key × D)}, RepK K H M ms ns → RepK K H M fs gs → RepK K H M (mergeK fs ms) (mergeG gs ns)
  | [], [], _, _, _, r => r
  | [], _ :: _, _, _, m, _ => by cases m
  | _ :: _, [], _, _, m, _ => by cases m
  | p :: ms, q :: ns, fs, gs, .cons x t, r => by
    show RepK K H M (mergeK (putK fs p.1 p.2) ms) (mergeG (putG gs q.1 q.2) ns)
    have := r.put p.1 x.2
    rw [x.1] at this ⊢
    exact RepK.merge t this
theorem RepK.length {κ : Type} {fs : List (κ × V)} {gs : List (κ × D)} (r : RepK K H M fs gs) : fs.length = gs.length := Paired.length r
end
theorem RepM.dk {K : PySem.W.Frag} {H : Hp} {M : DHp} {a : Addr} {kvs : List (Key × D)} (r : RepM K H M) (h : M a = some (.dK kvs)) : ∃ vs, H a = some (.dK vs) ∧ RepK K H M vs kvs := r a _ h
theorem Rep.key {K : PySem.W.Frag} {H : Hp} {M : DHp} {v : V} {d : D} {k : Key} (r : Rep K H M v d) (h : dKey d = some k) : v = kV k := by
  cases r <;> first | (cases h; rfl) | cases h
/-- a dict of the data is written -/
theorem OkV.wrK {K : PySem.W.Frag} {M : DHp} {H : Hp} {Q : DVK} {Q0 : VK} (k : OkV K M H Q Q0) (m : RepM K H M) {p : Addr} {mo : MO} {vs : List (Key × V)} {ds : List (Key × D)} {v : V} {d : D} (hp : M p = some mo) (nb : mo ≠ .busy) (r : RepK K H M vs ds) (rv : Rep K H M v d) (q : Q d (updD M p (.dK ds))) : Q0 v (upd H p (.dK vs)) :=
  k _ _ _ _ (Ext.write hp nb) (m.write (mo' := .dK ds) hp nb (q := ⟨vs, upd_same, r.ext (Ext.write hp nb)⟩)) (rv.ext (Ext.write hp nb)) q
/-! ### dict(pairs) -/
def rDictD : DRs := fun ds M Q => match ds with
  | [x] => ∃ kvs : List (Key × D), lstOf M x = some (kvs.map fun q => D.tup [keyD q.1, q.2]) ∧ ∀ p, M p = none → Q (.ref p) (updD M p (.dK (mergeG [] kvs)))
  | _ => False
theorem pairs_rep {K : PySem.W.Frag} {H : Hp} {M : DHp} : ∀ {ws : List V} {kvs : List (Key × D)}, RepL K H M ws (kvs.map fun q => D.tup [keyD q.1, q.2]) → ∃ (ps : List Addr) (vs : List (Key × V)), ws = ps.map V.ref ∧ Paired (fun p kv => SqT K H p [kV kv.1, kv.2]) ps vs ∧ RepK K H M vs kvs
  | _, [], .nil => ⟨[], [], rfl, .nil, .nil⟩
  | _, q :: kvs, .cons r t => by
    obtain ⟨ps, vs, rfl, h1, h2⟩ := pairs_rep t
    obtain ⟨a, us, rfl, f, l⟩ := r.tupI
    obtain ⟨v, w, rfl, r1, r2⟩ := l.two
    have e : v = kV q.1 := by
      obtain ⟨k, d⟩ := q
      cases k with
      | inl i => exact r1.intI
      | inr x => exact r1.strI
    subst e
    exact ⟨a :: ps, (q.1, w) :: vs, rfl, .cons f.seq h1, .cons ⟨rfl, r2⟩ h2⟩
section
variable {X : Cx}
theorem dc_dict (hc : X.calm = true) : DCall X (.type "dict") rDictD := by
  refine ⟨_, call_dictP hc, fun H M vs ds Q0 Q m r q k => ?_⟩
  unfold rDictD at q
  split at q
  · obtain ⟨v, rfl, r1⟩ := r.one
    obtain ⟨kvs, hs, q⟩ := q
    obtain ⟨a, ws, rfl, f, l⟩ := lstOf_rep hs m r1
    obtain ⟨ps, us, rfl, h1, h2⟩ := pairs_rep l
    refine ⟨a, ps, us, rfl, SqL.of f, h1, fun p hp => ?_⟩
    have y := Ext.laidM (mo := .dK (mergeG [] kvs)) (o := .dK (mergeK [] us)) m hp
    exact k _ _ _ _ y (m.laidM (mo := .dK (mergeG [] kvs)) hp ⟨_, upd_same, (h2.ext y).merge .nil⟩) (.ref p) (q p (m.fresh hp))
  · exact q.elim
/-! ### d[k], k in d, d[k] = v, d[k] op= v -/
variable {W0 : WX} {o i e value : Expr} {pos pos' tpos : Pos} {td ty tv : DTE}
def dDGet (td ty : DTE) : DTE := fun δ M Q W => td δ M (fun x M1 => ty δ M1 (fun y M2 => ∃ p kvs k v, x = .ref p ∧ M2 p = some (.dK kvs) ∧ dKey y = some k ∧ valG kvs k = some v ∧ Q v M2) W) W
theorem de_dget (hu : X.A.units + 64 < cLine) (ho : DE X W0 o td) (hi : DE X W0 i ty) (hs : NoSl i := by intro _ _; rfl) : DE X W0 (.Subscript o i pos) (dDGet td ty) :=
  .mk' (pe_dget (by omega) ho.pe hi.pe hs) fun σ H Q0 δ M Q W a q k w => lfE.use a q (fun v H1 d M1 x m1 r1 q1 => lfE.use (a.ext x m1) q1 (fun v2 H2 d2 M2 x2 m2 r2 q2 => by
    obtain ⟨p, kvs, kk, vv, rfl, hp, hk, hv, q2⟩ := q2
    rw [r1.refI, r2.key hk]
    obtain ⟨vs, e, rk⟩ := m2.dk hp
    obtain ⟨u, hu, ru⟩ := rk.val hv
    exact ⟨p, u, rfl, by rw [← hu]; exact DGet.k e, k _ H2 _ M2 (x.trans x2) m2 ru q2⟩) (w.ext x)) w
/-- by values -/
def rDInD (neg : Bool) : DR2 := fun y x M Q => ∃ p kvs k, x = .ref p ∧ M p = some (.dK kvs) ∧ dKey y = some k ∧ Q (.bl (if neg then !(valG kvs k).isSome else (valG kvs k).isSome)) M
theorem dk_isSome {K : PySem.W.Frag} {H : Hp} {M : DHp} {vs : List (Key × V)} {kvs : List (Key × D)} (rk : RepK K H M vs kvs) (k : Key) : (valV vs k).isSome = (valG kvs k).isSome := by
  cases e : valG kvs k with
  | none => rw [rk.val_none e]; rfl
  | some d =>
    obtain ⟨u, hu, _⟩ := rk.val e
    rw [hu]; rfl
theorem do_inD (hu : X.A.units + 64 < cLine) : DOpR X (compareOp .In) (rDInD false) := by
  refine ⟨fun y x H Q => ∃ a o, x = .ref a ∧ DGet H a y o ∧ Q (.bl o.isSome) H, ?_, fun H M x y d e Q0 Q m rx ry q k => ?_⟩
  · intro pins s σ H x y v u Q I rx ry h
    obtain ⟨a, o, rfl, g, q⟩ := h
    cases ry
    exact d_in (by omega) I g rx fun s' I' => ⟨.bl _, H, I', rfl, q⟩
  · obtain ⟨p, kvs, kk, rfl, hp, hk, q⟩ := q
    rw [ry.refI, rx.key hk]
    obtain ⟨vs, e, rk⟩ := m.dk hp
    refine ⟨p, _, rfl, DGet.k e, ?_⟩
    rw [dk_isSome rk]
    exact k.here m (.bl _) q
theorem do_notinD (hu : X.A.units + 64 < cLine) : DOpR X (compareOp .NotIn) (rDInD true) := by
  refine ⟨fun y x H Q => ∃ a o, x = .ref a ∧ DGet H a y o ∧ Q (.bl (!o.isSome)) H, ?_, fun H M x y d e Q0 Q m rx ry q k => ?_⟩
  · intro pins s σ H x y v u Q I rx ry h
    obtain ⟨a, o, rfl, g, q⟩ := h
    cases ry
    exact d_notIn (by omega) I g rx fun s' I' => ⟨.bl _, H, I', rfl, q⟩
  · obtain ⟨p, kvs, kk, rfl, hp, hk, q⟩ := q
    rw [ry.refI, rx.key hk]
    obtain ⟨vs, e, rk⟩ := m.dk hp
    refine ⟨p, _, rfl, DGet.k e, ?_⟩
    rw [dk_isSome rk]
    exact k.here m (.bl _) q
end
end DL
end

section
set_option Elab.async false
set_option linter.all false
set_option maxRecDepth 100000
namespace K32
open PySem PySem.Spec PyProof.Rows L2 DL
def top (i : Nat) : Stmt := PySem.Challenge.pw_owedapart_k32_rooms_and_tight_sets.main.body.getD i (.Pass ⟨0, 0, 0, 0⟩)
structure ErrK (K : PySem.W.Frag) : Prop where
  exR : PySem.W.exmOne K (.ref (He.ga K "Refused")) (.ref (He.ga K "LockerError")) = some true
  exT : PySem.W.exmOne K (.ref (He.ga K "TooMany")) (.ref (He.ga K "LockerError")) = some true
  ecR : ExcC K (He.ga K "Refused")
  ecT : ExcC K (He.ga K "TooMany")
  kRR : PySem.W.kitOne K (.ref (He.ga K "Refused")) (.ref (He.ga K "Refused")) = some true
  kTR : PySem.W.kitOne K (.ref (He.ga K "TooMany")) (.ref (He.ga K "Refused")) = some false
  kTT : PySem.W.kitOne K (.ref (He.ga K "TooMany")) (.ref (He.ga K "TooMany")) = some true
structure ErrF (P : Program) (K : PySem.W.Frag) (mg : Str → Option Value) : Prop where
  lo : mg "LockerError" = some (.ref (He.ga K "LockerError"))
  nw : mg "NoWall" = some (.ref (He.ga K "NoWall"))
  nt : mg "NoThing" = some (.ref (He.ga K "NoThing"))
  rf : mg "Refused" = some (.ref (He.ga K "Refused"))
  tm : mg "TooMany" = some (.ref (He.ga K "TooMany"))
  er1 : Err1 P K mg "Refused" "why"
  er2 : Err2 P K mg "TooMany" "what" "limit"
  xf1 : XfC K (He.ga K "Refused")
  xf2 : XfC K (He.ga K "TooMany")
  xf3 : XfC K (He.ga K "NoThing")
  xf4 : XfC K (He.ga K "NoWall")
  n1 : PySem.W.findIn K (.ref (He.ga K "Refused")) "why" = some none
  n2 : PySem.W.findIn K (.ref (He.ga K "TooMany")) "what" = some none
  n3 : PySem.W.findIn K (.ref (He.ga K "TooMany")) "limit" = some none
  n4 : PySem.W.findIn K (.ref (He.ga K "NoThing")) "number" = some none
  n5 : PySem.W.findIn K (.ref (He.ga K "NoWall")) "name" = some none
  ek : ErrK K
theorem errK {P : Program} {K : PySem.W.Frag} {mg : Str → Option Value} (h : ErrF P K mg) : ErrK K := h.ek
def tailsI (cs : List Int) : List Int := (List.range cs.length).map fun i => (cs.drop i).sum
structure Wall where
  name : Str
  counts : List Int
  jams : Int
def Wall.d (w : Wall) : D := .tup [.str w.name, iT w.counts, .int w.jams]
structure Day where
  asks : D
  backs : List (List Int)
def Day.d (x : Day) : D := .tup [x.asks, .tup (x.backs.map iT)]
structure House where
  m : Nat
  walls : List Wall
  kinds : D
  week : List Day
def House.d (h : House) : D := .tup [.int h.m, .tup (h.walls.map Wall.d), h.kinds, .tup (h.week.map Day.d)]
def House.names (h : House) : List Str := h.walls.map (·.name)
def p_tails_of (K : PySem.W.Frag) : DSp := fun ds M Q _ => ∃ cs : List Int, ds = [iT cs] ∧ cs.length ≤ 1000 ∧ Q (iT (tailsI cs)) M
structure Bag where
  z : Int
  s : Int
  k : Nat
  cs : List Int
def Bag.ok (b : Bag) : Prop := 0 ≤ b.z ∧ 0 ≤ b.s ∧ b.s < 2147483647 ∧ (∀ c ∈ b.cs, 0 ≤ c) ∧ b.cs.length ≤ 63
def Bag.o (b : Bag) : MO := .lst [.int b.z, .int b.s, .int b.k, iL b.cs]
def BagAt (B : Addr) (M : DHp) : Prop := ∃ b : Bag, b.ok ∧ M B = some b.o
def Drawn (B : Addr) (M : DHp) (R : D → Prop) (Q : DVK) : Prop := ∀ (b : Bag) (d : D), b.ok → R d → Q d (updD M B b.o)
def p__law_take (K : PySem.W.Frag) : DSp := fun ds M Q _ => ∃ (B : Addr) (n : Nat), ds = [.ref B, .int n] ∧ BagAt B M ∧ 0 < n ∧ n < 1000000 ∧ Drawn B M (fun d => ∃ v : Nat, v < n ∧ d = .int v) Q
abbrev Shows (n k : Nat) (d : D) : Prop := Nice n k d
def p__law_bag (K : PySem.W.Frag) : DSp := fun ds M Q _ => ∃ ns : List Int, ds = [.rol (ns.map D.int)] ∧ ∀ (B : Addr) (b : Bag), M B = none → b.ok → Q (.ref B) (updD M B b.o)
def someNames : List Str := ["a", "b", "c", "d", "q", "zz", "ab", "abcdefgh", "wal", "ends"]
def p__law_mixed (K : PySem.W.Frag) : DSp := fun ds M Q _ => ∃ (B : Addr) (xs : List Str), ds = [.ref B, .lst (xs.map D.str)] ∧ BagAt B M ∧ xs.length ≤ 1000 ∧ (∀ x ∈ xs, x ∈ someNames) ∧ Drawn B M (fun d => ∃ ys : List Str, ys.Perm xs ∧ d = .lst (ys.map D.str)) Q
def p__law_names (K : PySem.W.Frag) : DSp := fun ds M Q _ => ∃ (B : Addr) (n : Nat), ds = [.ref B, .int n] ∧ BagAt B M ∧ n ≤ 10 ∧ Drawn B M (fun d => ∃ ys : List Str, ys.length = n ∧ ys.Nodup ∧ (∀ y ∈ ys, y ∈ someNames) ∧ d = .lst (ys.map D.str)) Q
def p__law_drawn_counts (K : PySem.W.Frag) : DSp := fun ds M Q _ => ∃ (B : Addr) (m n : Nat), ds = [.ref B, .int m, .int n] ∧ BagAt B M ∧ 1 ≤ m ∧ m ≤ 1000 ∧ 1 ≤ n ∧ n ≤ 1000 ∧ Drawn B M (fun d => ∃ cs : List Int, cs.length = m ∧ (∀ c ∈ cs, 0 ≤ c ∧ c ≤ n) ∧ d = iT cs) Q
def p__law_some (K : PySem.W.Frag) : DSp := fun ds M Q _ => ∃ (B : Addr) (xs : List D), ds = [.ref B, .lst xs] ∧ BagAt B M ∧ xs ≠ [] ∧ xs.length ≤ 1000 ∧ Drawn B M (fun d => d ∈ xs) Q
def p__law_places (K : PySem.W.Frag) : DSp := fun ds M Q _ => ∃ (B : Addr) (xs : List Str), ds = [.ref B, .lst (xs.map D.str)] ∧ BagAt B M ∧ xs ≠ [] ∧ xs.length ≤ 10 ∧ (∀ x ∈ xs, x ∈ someNames) ∧ Drawn B M (fun d => ∃ ys : List Str, ys.length ≤ xs.length ∧ (∀ y ∈ ys, y ∈ xs) ∧ d = .tup (ys.map D.str)) Q
structure House.ok (h : House) : Prop where
  m1 : 1 ≤ h.m
  m4 : h.m ≤ 4
  w1 : 1 ≤ h.walls.length
  w3 : h.walls.length ≤ 3
  nd : h.names.Nodup
  wl : ∀ w ∈ h.walls, w.counts.length = h.m ∧ (∀ c ∈ w.counts, 0 ≤ c ∧ c ≤ 2) ∧ 0 ≤ w.jams ∧ w.jams ≤ 2 ∧ w.name ∈ someNames
  kd : Shows 100000 10 h.kinds
  dl : h.week.length ≤ 3
  dy : ∀ x ∈ h.week, x.backs.length = h.walls.length ∧ (∀ b ∈ x.backs, b.length = h.m ∧ ∀ t ∈ b, 0 ≤ t ∧ t ≤ 100) ∧ Shows 1000 10 x.asks
/-! ### this law's -/
def p__law_tails (K : PySem.W.Frag) : DSp := p_tails_of K
def restI (cs : List Int) (j : Int) : List Int := (tailsI cs).map fun t => if t - j > 0 then t - j else 0
def p_rest_tails (K : PySem.W.Frag) : DSp := fun ds M Q _ => ∃ (cs : List Int) (j : Int), ds = [iT cs, .int j] ∧ cs.length ≤ 1000 ∧ Q (iT (restI cs j)) M
def p__law_rooms (K : PySem.W.Frag) : DSp := p_rest_tails K
/-- boxes of the wall from the size s on, less the jams -/
def roomF (w : Wall) (s : Nat) : Int := (restI w.counts w.jams ++ [0]).getD (s - 1) 0
def p_room_from (K : PySem.W.Frag) : DSp := fun ds M Q _ => ∃ (w : Wall) (s : Nat), ds = [w.d, .int s] ∧ w.counts.length ≤ 100 ∧ 1 ≤ s ∧ s ≤ w.counts.length + 1 ∧ Q (.int (roomF w s)) M
abbrev nT (r : List Nat) : D := .tup (r.map fun (i : Nat) => D.int i)
def rowsN (m : Nat) : Nat → List (List Nat)
  | 0 => [[]]
  | k + 1 => (rowsN m k).flatMap fun r => (List.range (m + 1)).map fun i => r ++ [i + 1]
def p_threshold_rows (K : PySem.W.Frag) : DSp := fun ds M Q _ => ∃ m n : Nat, ds = [.int m, .int n] ∧ m ≤ 4 ∧ n ≤ 4 ∧ Q (.lst ((rowsN m n).map nT)) M
def p__law_all_thresholds (K : PySem.W.Frag) : DSp := p_threshold_rows K
structure Thing where
  size : Nat
  places : List Str
  deriving Inhabited
def Thing.d (t : Thing) : D := .tup [.int t.size, .tup (t.places.map D.str)]
def wsD (ws : List Wall) : D := .tup (ws.map Wall.d)
def tsD (ts : List Thing) : D := .tup (ts.map Thing.d)
/-- within these thresholds -/
def inI (ws : List Wall) (r : List Nat) (t : Thing) : Bool := (ws.zip r).all fun p => !decide (p.1.name ∈ t.places) || decide (p.2 ≤ t.size)
def p_is_within (K : PySem.W.Frag) : DSp := fun ds M Q _ => ∃ (ws : List Wall) (r : List Nat) (t : Thing), ds = [wsD ws, nT r, t.d] ∧ ws.length ≤ 100 ∧ r.length = ws.length ∧ Q (.bl (inI ws r t)) M
def p__law_is_within (K : PySem.W.Frag) : DSp := fun ds M Q _ => ∃ (ws : List Wall) (r : List Nat) (t : Thing), ds = [wsD ws, t.d, nT r] ∧ ws.length ≤ 100 ∧ t.places.length ≤ 100 ∧ r.length = ws.length ∧ (ws.map (·.name)).Nodup ∧ (∀ p ∈ t.places, p ∈ ws.map (·.name)) ∧ Q (.bl (inI ws r t)) M
def roomOf (ws : List Wall) (r : List Nat) : Int := ((ws.zip r).map fun p => roomF p.1 p.2).sum
structure WsOk (m : Nat) (ws : List Wall) : Prop where
  m1 : 1 ≤ m
  m3 : m ≤ 3
  w1 : 1 ≤ ws.length
  w3 : ws.length ≤ 3
  nd : (ws.map (·.name)).Nodup
  wl : ∀ w ∈ ws, w.counts.length = m ∧ (∀ c ∈ w.counts, 0 ≤ c ∧ c ≤ 2) ∧ 0 ≤ w.jams ∧ w.jams ≤ 2 ∧ w.name ∈ someNames
def RowOk (m : Nat) (ws : List Wall) (r : List Nat) : Prop := r.length = ws.length ∧ ∀ x ∈ r, 1 ≤ x ∧ x ≤ m + 1
def p_room_of (K : PySem.W.Frag) : DSp := fun ds M Q _ => ∃ (m : Nat) (ws : List Wall) (r : List Nat), ds = [wsD ws, nT r] ∧ WsOk m ws ∧ RowOk m ws r ∧ Q (.int (roomOf ws r)) M
def p__law_beyond (K : PySem.W.Frag) : DSp := p_room_of K
def p__law_less_greatest (K : PySem.W.Frag) : DSp := fun ds M Q _ => ∃ (cs : List Int) (j : Int), ds = [iT cs, .int j] ∧ cs.length ≤ 100 ∧ (∀ c ∈ cs, 0 ≤ c) ∧ 0 ≤ j ∧ ∀ gs : List Int, gs.length = cs.length → (∀ i, i < cs.length → (gs.drop i).sum = (restI cs j).getD i 0) → Q (iT gs) M
structure TsOk (m : Nat) (ws : List Wall) (ts : List Thing) : Prop where
  few : ts.length ≤ 13
  sz : ∀ t ∈ ts, 1 ≤ t.size ∧ t.size ≤ m
  pl : ∀ t ∈ ts, t.places.length ≤ 10 ∧ ∀ p ∈ t.places, p ∈ ws.map (·.name)
def inside (ws : List Wall) (r : List Nat) (ts : List Thing) : List Nat := (List.range ts.length).filter fun i => inI ws r (ts.getD i default)
def tightT (m : Nat) (ws : List Wall) (ts : List Thing) : Option (List Int) :=
  if (rowsN m ws.length).any (fun r => decide (roomOf ws r < ((inside ws r ts).length : Int))) = true then none
  else some (usort ((rowsN m ws.length).flatMap fun r => if ((inside ws r ts).length : Int) = roomOf ws r then (inside ws r ts).map Int.ofNat else []))
def optI : Option (List Int) → D
  | none => .non
  | some ts => iT ts
def p_tight_numbers (K : PySem.W.Frag) : DSp := fun ds M Q _ => ∃ (m : Nat) (ws : List Wall) (ts : List Thing), ds = [wsD ws, .lst (enumD 0 (ts.map Thing.d))] ∧ WsOk m ws ∧ TsOk m ws ts ∧ Q (optI (tightT m ws ts)) M
def p__law_tight_by_thresholds (K : PySem.W.Frag) : DSp := fun ds M Q _ => ∃ (m : Nat) (ws : List Wall) (ts : List Thing), ds = [wsD ws, tsD ts] ∧ WsOk m ws ∧ TsOk m ws ts ∧ Q (optI (tightT m ws ts)) M
def p_tight (K : PySem.W.Frag) : DSp := fun ds M Q E => ∃ (m : Nat) (ws : List Wall) (ts : List Thing), ds = [wsD ws, tsD ts] ∧ WsOk m ws ∧ TsOk m ws ts ∧
  (12 < ts.length → E (.ref (He.ga K "TooMany")) [("limit", .int 12), ("what", .str "things")] M) ∧
  (ts.length ≤ 12 → match tightT m ws ts with
    | none => E (.ref (He.ga K "Refused")) [("why", .str "barred")] M
    | some t => Q (iT t) M)
def p__law_room_from (K : PySem.W.Frag) : DSp := fun ds M Q _ => ∃ (m : Nat) (ws : List Wall) (w : Wall) (s : Nat), ds = [wsD ws, .str w.name, .int s] ∧ WsOk m ws ∧ w ∈ ws ∧ 1 ≤ s ∧ s ≤ m + 1 ∧ Q (.int (roomF w s)) M
/-- the least size of the things that may go there -/
def thrN (m : Nat) (ts : List Thing) (n : Str) : Nat := ((ts.filter fun t => decide (n ∈ t.places)).map (·.size)).foldr min (m + 1)
def p__law_threshold (K : PySem.W.Frag) : DSp := fun ds M Q _ => ∃ (m : Nat) (ts : List Thing) (n : Str), ds = [.int m, .lst (ts.map Thing.d), .str n] ∧ ts.length ≤ 100 ∧ Q (.int (thrN m ts n)) M
def roomS (m : Nat) (ws : List Wall) (ts : List Thing) : Int := (ws.map fun w => roomF w (thrN m ts w.name)).sum
def p__law_room_of (K : PySem.W.Frag) : DSp := fun ds M Q _ => ∃ (m : Nat) (ws : List Wall) (ts : List Thing), ds = [wsD ws, .lst (ts.map Thing.d)] ∧ WsOk m ws ∧ TsOk m ws ts ∧ Q (.int (roomS m ws ts)) M
def setsN : Nat → List (List Nat)
  | 0 => [[]]
  | k + 1 => setsN k ++ (setsN k).map (· ++ [k])
def p__law_sets (K : PySem.W.Frag) : DSp := fun ds M Q _ => ∃ n : Nat, ds = [.int n] ∧ n ≤ 7 ∧ Q (.lst ((setsN n).map nT)) M
def pickT (ts : List Thing) (S : List Nat) : List Thing := S.map fun i => ts.getD i default
def tightS (m : Nat) (ws : List Wall) (ts : List Thing) : Option (List Int) :=
  if (setsN ts.length).any (fun S => decide (roomS m ws (pickT ts S) < (S.length : Int))) = true then none
  else some (usort ((setsN ts.length).flatMap fun S => if (S.length : Int) = roomS m ws (pickT ts S) then S.map Int.ofNat else []))
def p__law_tight_by_sets (K : PySem.W.Frag) : DSp := fun ds M Q _ => ∃ (m : Nat) (ws : List Wall) (ts : List Thing), ds = [wsD ws, tsD ts] ∧ WsOk m ws ∧ TsOk m ws ts ∧ ts.length ≤ 7 ∧ Q (optI (tightS m ws ts)) M
def isScalar : D → Bool
  | .int _ => true
  | .str _ => true
  | .bl _ => true
  | _ => false
def p__law_alike (K : PySem.W.Frag) : DSp := fun ds M Q _ => ∃ d e : D, ds = [d, e] ∧ frz M d = frz M e ∧ Nice 1000000 50 (frz M e) ∧ (∀ p, e ≠ .ref p) ∧ isScalar e = false ∧ Q (.bl true) M
def p__law_drawn_walls (K : PySem.W.Frag) : DSp := fun ds M Q _ => ∃ (B : Addr) (m n : Nat), ds = [.ref B, .int m, .int n, .int 2] ∧ BagAt B M ∧ 1 ≤ m ∧ m ≤ 3 ∧ 1 ≤ n ∧ n ≤ 3 ∧ Drawn B M (fun d => ∃ ws, WsOk m ws ∧ d = wsD ws) Q
def p__law_drawn_things (K : PySem.W.Frag) : DSp := fun ds M Q _ => ∃ (B : Addr) (m : Nat) (ws : List Wall) (k : Nat), ds = [.ref B, .int m, wsD ws, .int k] ∧ BagAt B M ∧ WsOk m ws ∧ k ≤ 7 ∧ Drawn B M (fun d => ∃ ts, TsOk m ws ts ∧ ts.length ≤ k ∧ d = tsD ts) Q
def h__law_heard (K : PySem.W.Frag) : DHrd := fun act M Q => ∃ (R : D → DHp → Prop) (S : Value → List (Str × D) → DHp → Prop), (∀ (Qa : DVK) (Ea : DXK), (∀ d M', R d M' → Qa d M') → (∀ c gs M', S c gs M' → Ea c gs M') → act M Qa Ea) ∧ (∀ d M', R d M' → Back M Q (.tup [.str "told", d]) M') ∧
  ∀ c gs M', S c gs M' → (c = .ref (He.ga K "Refused") ∧ ∃ d, gs = [(("why" : Str), d)] ∧ Back M Q (.tup [.str "refused", d]) M') ∨ (c = .ref (He.ga K "TooMany") ∧ ∃ a b, gs = [(("limit" : Str), b), (("what" : Str), a)] ∧ Back M Q (.tup [.str "many", a, b]) M')
def p_law (K : PySem.W.Frag) (P : Addr) : DSp := fun ds M Q _ => ∃ ns : List Int, ds = [.rol (ns.map D.int)] ∧ M = tblsM [(P, "law.<locals>.<lambda>")] ∧ ∀ M', Q (.bl true) M'
end K32
end

section
set_option Elab.async false
set_option linter.all false
set_option maxRecDepth 100000
set_option maxHeartbeats 4000000
namespace K32
open PySem PySem.Spec PyProof.Rows L2 DL

def t__law_bag (K : PySem.W.Frag) : DTS :=
  dRet (dLstM (dCons (dC (.int 0)) (dCons (dC (.int 1234567891)) (dCons (dC (.int 0)) (dCons (dLc (dSeqI (dSl (dVar 0) (dNoPart) (dPart (dC (.int 63))))) (.nm 1) (dYes) (dCB rAbsD (dCons (dVar 1) (dNil))) [1]) (dNil))))))
def t__law_take (K : PySem.W.Frag) : DTS :=
  dSeq (dIfS (dB (dOp rEqq (dOp rIxDD (dVar 0) (dC (.int 0))) (dC (.int 0)))) (dSeq (dSet 2 (dOp rIxDD (dOp rAddD (dSl (dOp rIxDD (dVar 0) (dC (.int 3))) (dPart (dOp rIxDD (dVar 0) (dC (.int 2)))) (dNoPart)) (dLst (dCons (dC (.int 0)) (dNil)))) (dC (.int 0))))
    (dSeq (dAugI (dVar 0) (dC (.int 2)) (dC (.int 1)) rAddI)
    (dSeq (dIfS (dB (dOp rGeD (dVar 2) (dOp rPowD (dC (.int 10)) (dC (.int 18))))) (dStI (dVar 0) (dC (.int 0)) (dVar 2)) (dNext))
    (dSeq (dSet 3 (dOp rAddD (dOp rAddD (dOp rMulD (dOp rIxDD (dVar 0) (dC (.int 1))) (dC (.int 48271))) (dOp rModD (dCB rIntD (dCons (dVar 2) (dNil))) (dC (.int 2147483647)))) (dOp rMulD (dC (.int 7919)) (dOp rIxDD (dVar 0) (dC (.int 2))))))
    (dStI (dVar 0) (dC (.int 1)) (dOp rModD (dCB rIntD (dCons (dVar 3) (dNil))) (dC (.int 2147483647)))))))) (dNext))
    (dSeq (dIfS (dB (dOp rGtD (dOp rIxDD (dVar 0) (dC (.int 0))) (dC (.int 0)))) (dSeq (dSet 4 (dOp rModD (dCB rIntD (dCons (dOp rIxDD (dVar 0) (dC (.int 0))) (dNil))) (dVar 1)))
    (dSeq (dStI (dVar 0) (dC (.int 0)) (dOp rDivD (dCB rIntD (dCons (dOp rIxDD (dVar 0) (dC (.int 0))) (dNil))) (dVar 1)))
    (dRet (dVar 4)))) (dNext))
    (dSeq (dSet 5 (dOp rModD (dCB rIntD (dCons (dOp rMulD (dOp rAddD (dOp rIxDD (dVar 0) (dC (.int 1))) (dC (.int 1))) (dC (.int 39373))) (dNil))) (dC (.int 1000000007))))
    (dSeq (dSet 6 (dOp rModD (dCB rIntD (dCons (dOp rMulD (dOp rModD (dCB rIntD (dCons (dOp rMulD (dVar 5) (dVar 5)) (dNil))) (dC (.int 998244353))) (dC (.int 30011))) (dNil))) (dC (.int 998244353))))
    (dRet (dOp rModD (dCB rIntD (dCons (dOp rDivD (dVar 6) (dC (.int 7))) (dNil))) (dVar 1))))))
def t__law_mixed (K : PySem.W.Frag) : DTS :=
  dSeq (dPar 2 3 (dCons (dCB rListD (dCons (dVar 1) (dNil))) (dCons (dLstM (dNil)) (dNil))))
    (dSeq (dWhile (dB (dOp rNee (dVar 2) (dLst (dNil)))) (dDrop (dMt rAppendD isLst (dVar 3) (dCons (dMt rPopD isLst (dVar 2) (dCons (dCall (p__law_take K) (dCons (dVar 0) (dCons (dCB rLenD (dCons (dVar 2) (dNil))) (dNil)))) (dNil))) (dNil)))))
    (dRet (dVar 3)))
def t__law_names (K : PySem.W.Frag) : DTS :=
  dRet (dCB rSortD (dCons (dSl (dCall (p__law_mixed K) (dCons (dVar 0) (dCons (dLst (dCons (dC (.str "a")) (dCons (dC (.str "b")) (dCons (dC (.str "c")) (dCons (dC (.str "d")) (dCons (dC (.str "q")) (dCons (dC (.str "zz")) (dCons (dC (.str "ab")) (dCons (dC (.str "abcdefgh")) (dCons (dC (.str "wal")) (dCons (dC (.str "ends")) (dNil)))))))))))) (dNil)))) (dNoPart) (dPart (dVar 1))) (dNil)))
def t__law_drawn_counts (K : PySem.W.Frag) : DTS :=
  dSeq (dSet 3 (dLcM (dRng1 (dCons (dVar 1) (dNil))) (.nm 4) (dYes) (dCall (p__law_take K) (dCons (dVar 0) (dCons (dOp rAddD (dVar 2) (dC (.int 1))) (dNil)))) [4]))
    (dSeq (dIfS (dB (dOp rEqq (dCB rSumD (dCons (dVar 3) (dNil))) (dC (.int 0)))) (dStI (dVar 3) (dCall (p__law_take K) (dCons (dVar 0) (dCons (dVar 1) (dNil)))) (dC (.int 1))) (dNext))
    (dRet (dCB rTupD (dCons (dVar 3) (dNil)))))
def t__law_some (K : PySem.W.Frag) : DTS :=
  dRet (dOp rIxDD (dVar 1) (dCall (p__law_take K) (dCons (dVar 0) (dCons (dCB rLenD (dCons (dVar 1) (dNil))) (dNil)))))
def t__law_drawn_walls (K : PySem.W.Frag) : DTS :=
  dSeq (dSet 4 (dCall (p__law_names K) (dCons (dVar 0) (dCons (dVar 2) (dNil)))))
    (dRet (dCB rTupD (dCons (dLc (dSeqI (dVar 4)) (.nm 5) (dYes) (dTup (dCons (dVar 5) (dCons (dCall (p__law_drawn_counts K) (dCons (dVar 0) (dCons (dVar 1) (dCons (dVar 3) (dNil))))) (dCons (dCall (p__law_some K) (dCons (dVar 0) (dCons (dLst (dCons (dC (.int 0)) (dCons (dC (.int 1)) (dCons (dC (.int 0)) (dCons (dC (.int 2)) (dNil)))))) (dNil)))) (dNil))))) [5]) (dNil))))
def t__law_places (K : PySem.W.Frag) : DTS :=
  dRet (dCB rTupD (dCons (dCB rSortD (dCons (dSl (dCall (p__law_mixed K) (dCons (dVar 0) (dCons (dVar 1) (dNil)))) (dNoPart) (dPart (dOp rAddD (dC (.int 1)) (dCall (p__law_take K) (dCons (dVar 0) (dCons (dCB rLenD (dCons (dVar 1) (dNil))) (dNil))))))) (dNil))) (dNil)))
def t__law_drawn_things (K : PySem.W.Frag) : DTS :=
  dSeq (dSet 4 (dLc (dSeqI (dVar 2)) (.nm 5) (dYes) (dOp rIxDD (dVar 5) (dC (.int 0))) [5]))
    (dRet (dCB rTupD (dCons (dLc (dRng1 (dCons (dCall (p__law_take K) (dCons (dVar 0) (dCons (dOp rAddD (dVar 3) (dC (.int 1))) (dNil)))) (dNil))) (.nm 6) (dYes) (dTup (dCons (dOp rAddD (dC (.int 1)) (dCall (p__law_take K) (dCons (dVar 0) (dCons (dVar 1) (dNil))))) (dCons (dCall (p__law_places K) (dCons (dVar 0) (dCons (dVar 4) (dNil)))) (dNil)))) [6]) (dNil))))
def t__law_sets (K : PySem.W.Frag) : DTS :=
  dSeq (dSet 1 (dLst (dCons (dTup (dNil)) (dNil))))
    (dSeq (dFor (dRng1 (dCons (dVar 0) (dNil))) (.nm 2) (dSet 1 (dOp rAddD (dVar 1) (dLc (dSeqI (dVar 1)) (.nm 3) (dYes) (dOp rAddD (dVar 3) (dTup (dCons (dVar 2) (dNil)))) [3]))))
    (dRet (dVar 1)))
def t__law_tails (K : PySem.W.Frag) : DTS :=
  dRet (dCB rTupD (dCons (dLc (dRng1 (dCons (dCB rLenD (dCons (dVar 0) (dNil))) (dNil))) (.nm 1) (dYes) (dCB rSumD (dCons (dSl (dVar 0) (dPart (dVar 1)) (dNoPart)) (dNil))) [1]) (dNil)))
def t__law_rooms (K : PySem.W.Frag) : DTS :=
  dRet (dCB rTupD (dCons (dLc (dSeqI (dCall (p__law_tails K) (dCons (dVar 0) (dNil)))) (.nm 2) (dYes) (dCB rMaxD (dCons (dC (.int 0)) (dCons (dOp rSubD (dVar 2) (dVar 1)) (dNil)))) [2]) (dNil)))
def t__law_room_from (K : PySem.W.Frag) : DTS :=
  dSeq (dUnp (.tp [.nm 3, .nm 4]) (dOp rIxDD (dLc (dSeqI (dVar 0)) (.nm 5) (dB (dOp rEqq (dOp rIxDD (dVar 5) (dC (.int 0))) (dVar 1))) (dTup (dCons (dOp rIxDD (dVar 5) (dC (.int 1))) (dCons (dOp rIxDD (dVar 5) (dC (.int 2))) (dNil)))) [5]) (dC (.int 0))))
    (dRet (dOp rIxDD (dOp rAddD (dCall (p__law_rooms K) (dCons (dVar 3) (dCons (dVar 4) (dNil)))) (dTup (dCons (dC (.int 0)) (dNil)))) (dOp rSubD (dVar 2) (dC (.int 1)))))
def t__law_threshold (K : PySem.W.Frag) : DTS :=
  dRet (dCB rMinD (dCons (dOp rAddD (dLc (dSeqI (dVar 1)) (.tp [.nm 3, .nm 4]) (dB (dOp (rInDD false) (dVar 2) (dVar 4))) (dVar 3) [3, 4]) (dLst (dCons (dOp rAddD (dVar 0) (dC (.int 1))) (dNil)))) (dNil)))
def t__law_room_of (K : PySem.W.Frag) : DTS :=
  dSeq (dSet 2 (dCB rLenD (dCons (dOp rIxDD (dOp rIxDD (dVar 0) (dC (.int 0))) (dC (.int 1))) (dNil))))
    (dRet (dCB rSumD (dCons (dLc (dSeqI (dVar 0)) (.nm 3) (dYes) (dCall (p__law_room_from K) (dCons (dVar 0) (dCons (dOp rIxDD (dVar 3) (dC (.int 0))) (dCons (dCall (p__law_threshold K) (dCons (dVar 2) (dCons (dVar 1) (dCons (dOp rIxDD (dVar 3) (dC (.int 0))) (dNil))))) (dNil))))) [3]) (dNil))))
def t__law_tight_by_sets (K : PySem.W.Frag) : DTS :=
  dSeq (dSet 2 (dLst (dNil)))
    (dSeq (dFor (dSeqI (dCall (p__law_sets K) (dCons (dCB rLenD (dCons (dVar 1) (dNil))) (dNil)))) (.nm 3) (dSeq (dSet 4 (dCall (p__law_room_of K) (dCons (dVar 0) (dCons (dLc (dSeqI (dVar 3)) (.nm 5) (dYes) (dOp rIxDD (dVar 1) (dVar 5)) [5]) (dNil)))))
    (dSeq (dIfS (dB (dOp rGtD (dCB rLenD (dCons (dVar 3) (dNil))) (dVar 4))) (dRet (dC .non)) (dNext))
    (dSet 2 (dOp rAddD (dVar 2) (dIfE (dB (dOp rEqq (dCB rLenD (dCons (dVar 3) (dNil))) (dVar 4))) (dCB rListD (dCons (dVar 3) (dNil))) (dLst (dNil))))))))
    (dRet (dCB rTupD (dCons (dSrtSet (dVar 2)) (dNil)))))
def t__law_all_thresholds (K : PySem.W.Frag) : DTS :=
  dSeq (dSet 2 (dLst (dCons (dTup (dNil)) (dNil))))
    (dSeq (dFor (dRng1 (dCons (dVar 1) (dNil))) (.nm 3) (dSeq (dSet 4 (dLstM (dNil)))
    (dSeq (dFor (dSeqI (dVar 2)) (.nm 5) (dDrop (dMt rExtD isLst (dVar 4) (dCons (dLc (dRng2 (dCons (dC (.int 1)) (dCons (dOp rAddD (dVar 0) (dC (.int 2))) (dNil)))) (.nm 6) (dYes) (dOp rAddD (dVar 5) (dTup (dCons (dVar 6) (dNil)))) [6]) (dNil)))))
    (dSet 2 (dVar 4)))))
    (dRet (dVar 2)))
def t__law_less_greatest (K : PySem.W.Frag) : DTS :=
  dSeq (dPar 2 3 (dCons (dCB rListD (dCons (dVar 0) (dNil))) (dCons (dVar 1) (dNil))))
    (dSeq (dFor (dRng3 (dCons (dOp rSubD (dCB rLenD (dCons (dVar 0) (dNil))) (dC (.int 1))) (dCons (dUn rNegD (dC (.int 1))) (dCons (dUn rNegD (dC (.int 1))) (dNil))))) (.nm 4) (dSeq (dSet 5 (dCB rMinD (dCons (dVar 3) (dCons (dOp rIxDD (dVar 2) (dVar 4)) (dNil)))))
    (dSeq (dAugI (dVar 2) (dVar 4) (dVar 5) rSubD)
    (dAug 3 (dVar 5) rSubD))))
    (dRet (dCB rTupD (dCons (dVar 2) (dNil)))))
def t__law_beyond (K : PySem.W.Frag) : DTS :=
  dRet (dCB rSumD (dCons (dLc (dZipI (dCons (dVar 0) (dCons (dVar 1) (dNil)))) (.tp [.nm 2, .nm 3]) (dYes) (dCB rSumD (dCons (dSl (dCall (p__law_less_greatest K) (dCons (dOp rIxDD (dVar 2) (dC (.int 1))) (dCons (dOp rIxDD (dVar 2) (dC (.int 2))) (dNil)))) (dPart (dOp rSubD (dVar 3) (dC (.int 1)))) (dNoPart)) (dNil))) [2, 3]) (dNil)))
def t__law_is_within (K : PySem.W.Frag) : DTS :=
  dSeq (dSet 3 (dCB rDictD (dCons (dLc (dZipI (dCons (dVar 0) (dCons (dVar 2) (dNil)))) (.tp [.nm 4, .nm 5]) (dYes) (dTup (dCons (dOp rIxDD (dVar 4) (dC (.int 0))) (dCons (dVar 5) (dNil)))) [4, 5]) (dNil))))
    (dRet (dOp rEqq (dLc (dSeqI (dOp rIxDD (dVar 1) (dC (.int 1)))) (.nm 6) (dB (dOp rLtD (dOp rIxDD (dVar 1) (dC (.int 0))) (dDGet (dVar 3) (dVar 6)))) (dC (.int 1)) [6]) (dLst (dNil))))
def t__law_tight_by_thresholds (K : PySem.W.Frag) : DTS :=
  dSeq (dSet 2 (dLst (dNil)))
    (dSeq (dFor (dSeqI (dCall (p__law_all_thresholds K) (dCons (dCB rLenD (dCons (dOp rIxDD (dOp rIxDD (dVar 0) (dC (.int 0))) (dC (.int 1))) (dNil))) (dCons (dCB rLenD (dCons (dVar 0) (dNil))) (dNil))))) (.nm 3) (dSeq (dSet 4 (dLc (dRng1 (dCons (dCB rLenD (dCons (dVar 1) (dNil))) (dNil))) (.nm 5) (dTru (dCall (p__law_is_within K) (dCons (dVar 0) (dCons (dOp rIxDD (dVar 1) (dVar 5)) (dCons (dVar 3) (dNil)))))) (dVar 5) [5]))
    (dSeq (dIfS (dB (dOp rGtD (dCB rLenD (dCons (dVar 4) (dNil))) (dCall (p__law_beyond K) (dCons (dVar 0) (dCons (dVar 3) (dNil)))))) (dRet (dC .non)) (dNext))
    (dSet 2 (dOp rAddD (dVar 2) (dIfE (dB (dOp rEqq (dCB rLenD (dCons (dVar 4) (dNil))) (dCall (p__law_beyond K) (dCons (dVar 0) (dCons (dVar 3) (dNil)))))) (dVar 4) (dLst (dNil))))))))
    (dRet (dCB rTupD (dCons (dSrtSet (dVar 2)) (dNil)))))
def t__law_alike (K : PySem.W.Frag) : DTS :=
  dRet (dAndV (dOp rEqq (dCB rReprDD (dCons (dVar 0) (dNil))) (dCB rReprDD (dCons (dVar 1) (dNil)))) (dOp rEqq (dVar 0) (dVar 1)))
def t__law_heard (K : PySem.W.Frag) (act : DTE) : DTS :=
  dTryAs K (.ref (He.ga K "LockerError")) 1 (dRet (dTup (dCons (dC (.str "told")) (dCons (act) (dNil))))) (fun a cls d => dSeq (dIfS (dTru (dCB (rIsXD K a cls d) (dCons (dVar 1) (dCons (dC (.ref (He.ga K "Refused"))) (dNil))))) (dRet (dTup (dCons (dC (.str "refused")) (dCons (dXf a cls d (He.ga K "Refused") "why" (dVar 1)) (dNil))))) (dNext))
    (dSeq (dIfS (dTru (dCB (rIsXD K a cls d) (dCons (dVar 1) (dCons (dC (.ref (He.ga K "TooMany"))) (dNil))))) (dRet (dTup (dCons (dC (.str "many")) (dCons (dXf a cls d (He.ga K "TooMany") "what" (dVar 1)) (dCons (dXf a cls d (He.ga K "TooMany") "limit" (dVar 1)) (dNil)))))) (dNext))
    (dSeq (dIfS (dTru (dCB (rIsXD K a cls d) (dCons (dVar 1) (dCons (dC (.ref (He.ga K "NoThing"))) (dNil))))) (dRet (dTup (dCons (dC (.str "nothing")) (dCons (dXf a cls d (He.ga K "NoThing") "number" (dVar 1)) (dNil))))) (dNext))
    (dRet (dIfE (dTru (dCB (rIsXD K a cls d) (dCons (dVar 1) (dCons (dC (.ref (He.ga K "NoWall"))) (dNil))))) (dTup (dCons (dC (.str "nowall")) (dCons (dXf a cls d (He.ga K "NoWall") "name" (dVar 1)) (dNil)))) (dTup (dCons (dC (.str "other")) (dNil))))))))
def HOk__law_heard (K : PySem.W.Frag) : Prop := ∀ act M Q f c q vs xs, h__law_heard K act M Q → t__law_heard K (dAct f c q vs xs act) { nx := fun _ M' => Back M Q .non M', rt := Back M Q } (startD 2 [.lam f c q vs xs]) M WN
def t_tails_of (K : PySem.W.Frag) : DTS :=
  dRet (dCB rTupD (dCons (dLc (dRng1 (dCons (dCB rLenD (dCons (dVar 0) (dNil))) (dNil))) (.nm 1) (dYes) (dCB rSumD (dCons (dSl (dVar 0) (dPart (dVar 1)) (dNoPart)) (dNil))) [1]) (dNil)))
def t_rest_tails (K : PySem.W.Frag) : DTS :=
  dRet (dCB rTupD (dCons (dLc (dSeqI (dCall (p_tails_of K) (dCons (dVar 0) (dNil)))) (.nm 2) (dYes) (dCB rMaxD (dCons (dC (.int 0)) (dCons (dOp rSubD (dVar 2) (dVar 1)) (dNil)))) [2]) (dNil)))
def t_threshold_rows (K : PySem.W.Frag) : DTS :=
  dSeq (dSet 2 (dLst (dCons (dTup (dNil)) (dNil))))
    (dSeq (dFor (dRng1 (dCons (dVar 1) (dNil))) (.nm 3) (dSet 2 (dLc2 (dSeqI (dVar 2)) (.nm 4) (dYes) (dRng2 (dCons (dC (.int 1)) (dCons (dOp rAddD (dVar 0) (dC (.int 2))) (dNil)))) (.nm 5) (dYes) (dTup (dStar (dVar 4) (dCons (dVar 5) (dNil)))) [4, 5] [5])))
    (dRet (dVar 2)))
def t_room_from (K : PySem.W.Frag) : DTS :=
  dRet (dOp rIxDD (dTup (dStar (dCall (p_rest_tails K) (dCons (dOp rIxDD (dVar 0) (dC (.int 1))) (dCons (dOp rIxDD (dVar 0) (dC (.int 2))) (dNil)))) (dCons (dC (.int 0)) (dNil)))) (dOp rSubD (dVar 1) (dC (.int 1))))
def t_room_of (K : PySem.W.Frag) : DTS :=
  dRet (dCB rSumD (dCons (dLc (dZipI (dCons (dVar 0) (dCons (dVar 1) (dNil)))) (.tp [.nm 2, .nm 3]) (dYes) (dCall (p_room_from K) (dCons (dVar 2) (dCons (dVar 3) (dNil)))) [2, 3]) (dNil)))
def t_is_within (K : PySem.W.Frag) : DTS :=
  dSeq (dUnp (.tp [.nm 3, .nm 4]) (dVar 2))
    (dRet (dCB rAllD (dCons (dLc (dZipI (dCons (dVar 0) (dCons (dVar 1) (dNil)))) (.tp [.nm 5, .nm 6]) (dB (dOp (rInDD false) (dOp rIxDD (dVar 5) (dC (.int 0))) (dVar 4))) (dOp rGeD (dVar 3) (dVar 6)) [5, 6]) (dNil))))
def t_tight_numbers (K : PySem.W.Frag) : DTS :=
  dSeq (dSet 2 (dLstM (dNil)))
    (dSeq (dFor (dSeqI (dCall (p_threshold_rows K) (dCons (dCB rLenD (dCons (dOp rIxDD (dOp rIxDD (dVar 0) (dC (.int 0))) (dC (.int 1))) (dNil))) (dCons (dCB rLenD (dCons (dVar 0) (dNil))) (dNil))))) (.nm 3) (dSeq (dSet 4 (dLc (dSeqI (dVar 1)) (.tp [.nm 6, .nm 7]) (dTru (dCall (p_is_within K) (dCons (dVar 0) (dCons (dVar 3) (dCons (dVar 7) (dNil)))))) (dVar 6) [6, 7]))
    (dSeq (dSet 5 (dCall (p_room_of K) (dCons (dVar 0) (dCons (dVar 3) (dNil)))))
    (dSeq (dIfS (dB (dOp rGtD (dCB rLenD (dCons (dVar 4) (dNil))) (dVar 5))) (dRet (dC .non)) (dNext))
    (dIfS (dB (dOp rEqq (dCB rLenD (dCons (dVar 4) (dNil))) (dVar 5))) (dDrop (dMt rExtD isLst (dVar 2) (dCons (dVar 4) (dNil)))) (dNext))))))
    (dRet (dCB rTupD (dCons (dSrtSc (dSeqI (dVar 2)) (.nm 6) (dYes) (dVar 6) [6]) (dNil)))))
def t_tight (K : PySem.W.Frag) : DTS :=
  dSeq (dIfS (dB (dOp rGtD (dCB rLenD (dCons (dVar 1) (dNil))) (dC (.int 12)))) (dRaise2 (He.ga K "TooMany") "what" "limit" (dCons (dC (.str "things")) (dCons (dC (.int 12)) (dNil)))) (dNext))
    (dSeq (dSet 2 (dCall (p_tight_numbers K) (dCons (dVar 0) (dCons (dLstEnum (dCons (dVar 1) (dNil))) (dNil)))))
    (dSeq (dIfS (dB (dOp (rIsD false) (dVar 2) (dC .non))) (dRaise1 (He.ga K "Refused") "why" (dCons (dC (.str "barred")) (dNil))) (dNext))
    (dRet (dVar 2))))
def t_law (K : PySem.W.Frag) (P : Addr) : DTS :=
  dSeq (dSet 1 (dCall (p__law_bag K) (dCons (dVar 0) (dNil))))
    (dSeq (dFor (dRng1 (dCons (dC (.int 5)) (dNil))) (.nm 2) (dSeq (dSet 3 (dOp rAddD (dC (.int 1)) (dCall (p__law_take K) (dCons (dVar 1) (dCons (dC (.int 3)) (dNil))))))
    (dSeq (dSet 4 (dCall (p__law_drawn_walls K) (dCons (dVar 1) (dCons (dVar 3) (dCons (dOp rAddD (dC (.int 1)) (dCall (p__law_take K) (dCons (dVar 1) (dCons (dC (.int 3)) (dNil))))) (dCons (dC (.int 2)) (dNil)))))))
    (dSeq (dSet 5 (dCall (p__law_drawn_things K) (dCons (dVar 1) (dCons (dVar 3) (dCons (dVar 4) (dCons (dOp rIxDD (dLst (dCons (dC (.int 2)) (dCons (dC (.int 4)) (dCons (dC (.int 7)) (dCons (dC (.int 5)) (dCons (dC (.int 1)) (dNil))))))) (dVar 2)) (dNil)))))))
    (dSeq (dFor (dSeqI (dVar 4)) (.tp [.nm 6, .nm 7, .nm 8]) (dIfS (dNot (dTru (dCall (p__law_alike K) (dCons (dCall (p_rest_tails K) (dCons (dVar 7) (dCons (dVar 8) (dNil)))) (dCons (dCall (p__law_rooms K) (dCons (dVar 7) (dCons (dVar 8) (dNil)))) (dNil)))))) (dRet (dC (.bl false))) (dNext)))
    (dSeq (dSet 9 (dCall (p__law_tight_by_sets K) (dCons (dVar 4) (dCons (dVar 5) (dNil)))))
    (dSeq (dIfS (dB (dOp rNee (dVar 9) (dCall (p__law_tight_by_thresholds K) (dCons (dVar 4) (dCons (dVar 5) (dNil)))))) (dRet (dC (.bl false))) (dNext))
    (dSeq (dSet 9 (dIfE (dB (dOp (rIsD false) (dVar 9) (dC .non))) (dTup (dCons (dC (.str "refused")) (dCons (dC (.str "barred")) (dNil)))) (dTup (dCons (dC (.str "told")) (dCons (dVar 9) (dNil))))))
    (dSeq (dSet 10 (dCB rReprDD (dCons (dTup (dCons (dVar 4) (dCons (dVar 5) (dNil)))) (dNil))))
    (dSeq (dFor (dRng1 (dCons (dC (.int 2)) (dNil))) (.nm 11) (dIfS (dOr (dNot (dTru (dCall (p__law_alike K) (dCons (dLam [(P, "law.<locals>.<lambda>")] (h__law_heard K) (dCall (p_tight K) (dCons (dVar 4) (dCons (dVar 5) (dNil))))) (dCons (dVar 9) (dNil)))))) (dB (dOp rNee (dCB rReprDD (dCons (dTup (dCons (dVar 4) (dCons (dVar 5) (dNil)))) (dNil))) (dVar 10)))) (dRet (dC (.bl false))) (dNext)))
    (dSeq (dSet 12 (dSl (dOp rAddD (dVar 5) (dOp rMulD (dTup (dCons (dTup (dCons (dC (.int 1)) (dCons (dTup (dCons (dOp rIxDD (dOp rIxDD (dVar 4) (dC (.int 0))) (dC (.int 0))) (dNil))) (dNil)))) (dNil))) (dC (.int 13)))) (dNoPart) (dPart (dC (.int 13)))))
    (dSeq (dIfS (dNot (dTru (dCall (p__law_alike K) (dCons (dLam [(P, "law.<locals>.<lambda>")] (h__law_heard K) (dCall (p_tight K) (dCons (dVar 4) (dCons (dVar 12) (dNil))))) (dCons (dTup (dCons (dC (.str "many")) (dCons (dC (.str "things")) (dCons (dC (.int 12)) (dNil))))) (dNil)))))) (dRet (dC (.bl false))) (dNext))
    (dSeq (dSet 13 (dSl (dVar 12) (dNoPart) (dPart (dC (.int 12)))))
    (dSeq (dSet 9 (dCall (p__law_tight_by_thresholds K) (dCons (dVar 4) (dCons (dVar 13) (dNil)))))
    (dSeq (dSet 9 (dIfE (dB (dOp (rIsD false) (dVar 9) (dC .non))) (dTup (dCons (dC (.str "refused")) (dCons (dC (.str "barred")) (dNil)))) (dTup (dCons (dC (.str "told")) (dCons (dVar 9) (dNil))))))
    (dIfS (dNot (dTru (dCall (p__law_alike K) (dCons (dLam [(P, "law.<locals>.<lambda>")] (h__law_heard K) (dCall (p_tight K) (dCons (dVar 4) (dCons (dVar 13) (dNil))))) (dCons (dVar 9) (dNil)))))) (dRet (dC (.bl false))) (dNext)))))))))))))))))
    (dRet (dC (.bl true))))
end K32
end

section
set_option Elab.async false
set_option linter.all false
set_option maxRecDepth 100000
set_option maxHeartbeats 400000
namespace K32
open PySem PySem.Spec PyProof.Rows L2 DL
theorem b_tails_of (K : PySem.W.Frag) (_ : ErrK K) : Body 2 1 (p_tails_of K) (t_tails_of K) := by
  rintro ds M Q E ⟨cs, rfl, hl, q⟩
  refine ⟨rfl, _, rfl, by simp only [List.length_map]; omega, by simp only [List.length_map]; omega, ?_⟩
  intro A hA
  refine lcL_all (α := Nat) (fun i => .int (0 + (i : Nat))) (fun i => .int (cs.drop i).sum) rfl trivial (small_line (by simp; omega)) (fun i _ k hk => ⟨_, rfl, cs.drop i, ?_, hk⟩) ?_
  · show some (cutG _ _ _) = _
    rw [Int.zero_add, cut_lo, List.map_drop]
  · rw [delD_upd hA]
    refine ⟨_, rfl, .inl (Back.same ?_)⟩
    simp only [tailsI, iT, List.map_map] at q
    simpa [Function.comp_def] using q
def cellI (cs : List Int) (k : Nat) : Int := (cs.drop k).headD 0
theorem cell_at (cs : List Int) (k : Nat) : L2.atI ((cs.map D.int).drop k ++ [.int 0]) 0 = some (.int (cellI cs k)) := by
  rw [← List.map_drop]
  unfold cellI
  cases cs.drop k <;> exact L2.atI_nat (j := 0) rfl
theorem cell_ge {cs : List Int} (h : ∀ c ∈ cs, 0 ≤ c) (k : Nat) : 0 ≤ cellI cs k := by
  unfold cellI
  cases e : cs.drop k with
  | nil => exact Int.le_refl 0
  | cons c r => exact h c (List.mem_of_mem_drop (by rw [e]; exact List.mem_cons_self))
theorem Drawn.back {B : Addr} {M : DHp} {R : D → Prop} {Q : DVK} (hB : ∃ o, M B = some o ∧ o ≠ .busy) (q : Drawn B M R Q) {b : Bag} {d : D} (h : b.ok) (r : R d) : Back M Q d (updD M B b.o) := by
  refine ⟨d, updD M B b.o, Sub.refl _, fun a ha => ?_, .refl d, q b d h r⟩
  obtain ⟨o, ho, hb⟩ := hB
  rw [updD_ne (fun e => by rw [e, ho] at ha; exact hb (Option.some.inj ha))]
  exact ha
theorem take_end {K : PySem.W.Frag} {B : Addr} {M : DHp} {Q : DVK} {n : Nat} {Z : DEnds} {W : DW} (hrt : Z.rt = Back M Q) (hB : ∃ o, M B = some o ∧ o ≠ .busy) (h0 : 0 < n) (hn : n < 1000000) (q : Drawn B M (fun d => ∃ v : Nat, v < n ∧ d = .int v) Q) (b : Bag) (hb : b.ok) (o2 o3 : Option D) :
    (dSeq (dIfS (dB (dOp rGtD (dOp rIxDD (dVar 0) (dC (.int 0))) (dC (.int 0)))) (dSeq (dSet 4 (dOp rModD (dCB rIntD (dCons (dOp rIxDD (dVar 0) (dC (.int 0))) (dNil))) (dVar 1)))
    (dSeq (dStI (dVar 0) (dC (.int 0)) (dOp rDivD (dCB rIntD (dCons (dOp rIxDD (dVar 0) (dC (.int 0))) (dNil))) (dVar 1)))
    (dRet (dVar 4)))) (dNext))
    (dSeq (dSet 5 (dOp rModD (dCB rIntD (dCons (dOp rMulD (dOp rAddD (dOp rIxDD (dVar 0) (dC (.int 1))) (dC (.int 1))) (dC (.int 39373))) (dNil))) (dC (.int 1000000007))))
    (dSeq (dSet 6 (dOp rModD (dCB rIntD (dCons (dOp rMulD (dOp rModD (dCB rIntD (dCons (dOp rMulD (dVar 5) (dVar 5)) (dNil))) (dC (.int 998244353))) (dC (.int 30011))) (dNil))) (dC (.int 998244353))))
    (dRet (dOp rModD (dCB rIntD (dCons (dOp rDivD (dVar 6) (dC (.int 7))) (dNil))) (dVar 1)))))) Z [some (.ref B), some (.int n), o2, o3, none, none, none] (updD M B b.o) W := by
  have sq : seqOf (updD M B b.o) (.ref B) = some [.int b.z, .int b.s, .int b.k, iL b.cs] := seq_ref updD_same
  obtain ⟨b1, b2, b3, b4, b5⟩ := hb
  refine ⟨_, _, sq, rfl, ifb (fun t => ?_) (fun t => ?_)⟩
  · have hz : 0 < b.z := of_decide_eq_true t
    refine ⟨_, _, sq, rfl, by omega, ?_⟩
    refine ⟨_, _, sq, rfl, ⟨by omega, by omega⟩, ?_⟩
    refine ⟨_, 0, updD_same, rfl, ?_⟩
    rw [updD_updD]
    show Z.rt (.int (b.z % n)) (updD M B (Bag.o { b with z := b.z / n }))
    rw [hrt]
    have m1 := Int.emod_nonneg b.z (show (n : Int) ≠ 0 by omega)
    have m2 := Int.emod_lt_of_pos b.z (show (0 : Int) < n by omega)
    exact q.back hB ⟨Int.ediv_nonneg b1 (by omega), b2, b3, b4, b5⟩ ⟨(b.z % n).toNat, by omega, by rw [Int.toNat_of_nonneg m1]⟩
  · refine ⟨_, _, sq, rfl, .inr ⟨by decide, by decide⟩, by decide, ?_⟩
    have c1 := Int.emod_nonneg ((b.s + 1) * 39373) (show (1000000007 : Int) ≠ 0 by decide)
    have c2 := Int.emod_lt_of_pos ((b.s + 1) * 39373) (show (0 : Int) < 1000000007 by decide)
    refine ⟨.inl ⟨by omega, by omega⟩, by decide, .inr ⟨by decide, by decide⟩, by decide, ?_⟩
    refine ⟨⟨by decide, by decide⟩, by omega, ?_⟩
    rw [hrt]
    generalize (b.s + 1) * 39373 % 1000000007 = u
    have m0 : ∀ i : Int, 0 ≤ i % n ∧ i % n < n := fun i => ⟨Int.emod_nonneg i (by omega), Int.emod_lt_of_pos i (by omega)⟩
    obtain ⟨m1, m2⟩ := m0 (u * u % 998244353 * 30011 % 998244353 / 7)
    exact q.back hB ⟨b1, b2, b3, b4, b5⟩ ⟨(u * u % 998244353 * 30011 % 998244353 / 7 % n).toNat, by omega, by rw [Int.toNat_of_nonneg m1]⟩
theorem stir {B : Addr} {M : DHp} {n : Nat} {Z : DEnds} {W : DW} {b : Bag} {z : Int} (hz : 0 ≤ z) {c : Int} (b4 : ∀ c ∈ b.cs, 0 ≤ c) (b5 : b.cs.length ≤ 63) (nx : ∀ (b' : Bag) (o2 o3 : Option D), b'.ok → Z.nx [some (.ref B), some (.int n), o2, o3, none, none, none] (updD M B b'.o)) :
    (dSeq (dSet 3 (dOp rAddD (dOp rAddD (dOp rMulD (dOp rIxDD (dVar 0) (dC (.int 1))) (dC (.int 48271))) (dOp rModD (dCB rIntD (dCons (dVar 2) (dNil))) (dC (.int 2147483647)))) (dOp rMulD (dC (.int 7919)) (dOp rIxDD (dVar 0) (dC (.int 2))))))
        (dStI (dVar 0) (dC (.int 1)) (dOp rModD (dCB rIntD (dCons (dVar 3) (dNil))) (dC (.int 2147483647))))) Z [some (.ref B), some (.int n), some (.int c), none, none, none, none] (updD M B (.lst [.int z, .int b.s, .int (b.k + 1 : Nat), iL b.cs])) W := by
  have sq2 : seqOf (updD M B (.lst [.int z, .int b.s, .int (b.k + 1 : Nat), iL b.cs])) (.ref B) = some [.int z, .int b.s, .int (b.k + 1 : Nat), iL b.cs] := seq_ref updD_same
  refine ⟨_, _, sq2, rfl, .inr ⟨by decide, by decide⟩, by decide, _, _, sq2, rfl, .inl ⟨by decide, by decide⟩, ?_⟩
  refine ⟨by decide, _, 1, updD_same, rfl, ?_⟩
  rw [updD_updD]
  exact nx { z := z, s := _, k := b.k + 1, cs := b.cs } _ _ ⟨hz, Int.emod_nonneg _ (by decide), Int.emod_lt_of_pos _ (by decide), b4, b5⟩
theorem b__law_take (K : PySem.W.Frag) (_ : ErrK K) : Body 7 2 (p__law_take K) (t__law_take K) := by
  rintro ds M Q E ⟨B, n, rfl, ⟨b, hb, hB⟩, h0, hn, q⟩
  have hB' : ∃ o, M B = some o ∧ o ≠ .busy := ⟨_, hB, fun z => by unfold Bag.o at z; cases z⟩
  refine ⟨rfl, ?_⟩
  have fin := fun (b : Bag) (hb : b.ok) (o2 o3 : Option D) (W : DW) => take_end (K := K) (Z := { nx := fun _ M' => Back M Q .non M', rt := Back M Q }) (W := W) rfl hB' h0 hn q b hb o2 o3
  have sq : seqOf M (.ref B) = some [.int b.z, .int b.s, .int b.k, iL b.cs] := seq_ref hB
  refine ⟨_, _, sq, rfl, ifb (fun t => ?_) (fun t => ?_)⟩
  · obtain ⟨b1, b2, b3, b4, b5⟩ := hb
    have hz : b.z = 0 := of_decide_eq_true t
    have hc := cell_ge b4 b.k
    refine ⟨_, iL b.cs, sq, rfl, ?_⟩
    refine ⟨_, .int b.k, sq, rfl, ?_⟩
    refine ⟨_, rfl, small_line (by simp), _, _, rfl, rfl, small_line ?_, ?_⟩
    · rw [cut_lo]; simp; omega
    rw [cut_lo]
    refine ⟨_, _, rfl, cell_at b.cs b.k, ?_⟩
    refine ⟨_, 2, .int b.k, hB, rfl, rfl, _, hB, rfl, ?_⟩
    have nxt : ∀ (b' : Bag) (o2 o3 : Option D), b'.ok → _ := fun b' o2 o3 h' => fin b' h' o2 o3 (fun c gs _ M' => BackX M E c gs M')
    refine ⟨⟨by decide, by decide, by decide⟩, ifb (fun t2 => ?_) (fun t2 => ?_)⟩
    · refine ⟨_, 0, updD_same, rfl, ?_⟩
      rw [updD_updD]
      exact stir (b := { b with k := b.k }) (z := cellI b.cs b.k) hc b4 b5 fun b' o2 o3 h' => nxt b' o2 o3 h'
    · exact stir (b := b) (z := b.z) b1 b4 b5 fun b' o2 o3 h' => nxt b' o2 o3 h'
  · have := fin b hb none none (fun c gs _ M' => BackX M E c gs M')
    rw [updD_id hB] at this
    exact this
theorem b__law_bag (K : PySem.W.Frag) (_ : ErrK K) : Body 2 1 (p__law_bag K) (t__law_bag K) := by
  rintro ds M Q E ⟨ns, rfl, q⟩
  refine ⟨rfl, _, rfl, ?_⟩
  rw [show (63 : Int) = ((63 : Nat) : Int) from rfl, cut_hi]
  intro A hA
  refine lcL_all (α := Int) D.int (fun i => .int (if i < 0 then -i else i)) (xs := ns.take 63) (by rw [List.map_take]) trivial (small_line (by simp; omega)) (fun i _ k hk => ⟨_, rfl, hk⟩) ?_
  rw [delD_upd hA]
  refine ⟨small_line (by simp), fun B hB => Back.new hB ?_⟩
  have := q B { z := 0, s := 1234567891, k := 0, cs := (ns.take 63).map fun i => if i < 0 then -i else i } hB ⟨Int.le_refl 0, (by decide : (0 : Int) ≤ 1234567891), (by decide : (1234567891 : Int) < 2147483647), fun c hc => ?_, by simp; omega⟩
  · unfold Bag.o iL at this
    rw [List.map_map] at this
    exact this
  · obtain ⟨i, _, rfl⟩ := List.mem_map.mp hc
    split <;> omega
theorem erase_perm {α : Type} : ∀ {l : List α} {v : Nat} (h : v < l.length), (l[v] :: l.eraseIdx v).Perm l
  | [], v, h => absurd h (Nat.not_lt_zero v)
  | x :: l, 0, _ => .refl _
  | x :: l, v + 1, h => by
    have hv : v < l.length := by simpa using h
    have ih := erase_perm (l := l) (v := v) hv
    show (l[v] :: x :: l.eraseIdx v).Perm (x :: l)
    exact (List.Perm.swap x l[v] _).trans (ih.cons x)
theorem map_erase {α β : Type} (f : α → β) : ∀ (l : List α) (v : Nat), (l.map f).eraseIdx v = (l.eraseIdx v).map f
  | [], _ => rfl
  | x :: l, 0 => rfl
  | x :: l, v + 1 => by
    show f x :: (l.map f).eraseIdx v = f x :: (l.eraseIdx v).map f
    rw [map_erase f l v]
theorem bag_nb (b : Bag) : b.o ≠ MO.busy := fun z => by unfold Bag.o at z; cases z
theorem lcL_drawn {p : Pat} {tt : DTT} {te : DTE} {δ0 : DSt} {Q : List D → DHp → Prop} {chk : DHp → Prop} {B A : Addr} {M : DHp} (hBA : A ≠ B) (R : D → Prop) (hchk : ∀ b : Bag, chk (updD (updD M B b.o) A .busy)) : ∀ (ds acc : List D) (b : Bag), b.ok → acc.length + ds.length ≤ sizeLine →
    (∀ d ∈ ds, ∀ (b : Bag) (k : Option D → DHp → Prop), b.ok → (∀ (b' : Bag) (y : D), b'.ok → R y → k (some y) (updD (updD M B b'.o) A .busy)) → dLcT p tt te δ0 k d (updD (updD M B b.o) A .busy)) →
    (∀ (b' : Bag) (ys : List D), b'.ok → ys.length = ds.length → (∀ y ∈ ys, R y) → Q (acc ++ ys) (updD (updD M B b'.o) A .busy)) → dLcL p tt te δ0 Q chk ds acc (updD (updD M B b.o) A .busy)
  | [], acc, b, hb, _, _, q => ⟨hchk b, by have := q b [] hb rfl (fun y h => by cases h); simpa using this⟩
  | d :: ds, acc, b, hb, hl, he, q => by
    rw [List.length_cons] at hl
    refine ⟨hchk b, by omega, he d List.mem_cons_self b _ hb fun b' y hb' hy => ?_⟩
    refine lcL_drawn hBA R hchk ds (acc ++ [y]) b' hb' (by rw [List.length_append, List.length_singleton]; omega) (fun d hd => he d (List.mem_cons_of_mem _ hd)) fun b2 ys h2 hl2 hr => ?_
    have := q b2 (y :: ys) h2 (by simp [hl2]) (fun z hz => by
      rcases List.mem_cons.mp hz with rfl | hz
      · exact hy
      · exact hr z hz)
    simpa using this
theorem draw {K : PySem.W.Frag} {B : Addr} {M : DHp} {b : Bag} (hb : b.ok) {n : Nat} (h0 : 0 < n) (hn : n < 1000000) {Q : DVK} {E : DXK} (q : ∀ (b' : Bag) (v : Nat), b'.ok → v < n → Q (.int v) (updD M B b'.o)) : p__law_take K [.ref B, .int n] (updD M B b.o) Q E :=
  ⟨B, n, rfl, ⟨b, hb, updD_same⟩, h0, hn, fun b' d hb' ⟨v, hv, e⟩ => by
    rw [e, updD_updD]
    exact q b' v hb' hv⟩
theorem b__law_some (K : PySem.W.Frag) (_ : ErrK K) : Body 2 2 (p__law_some K) (t__law_some K) := by
  rintro ds M Q E ⟨B, xs, rfl, ⟨b, hb, hB⟩, hne, hl, q⟩
  have hn : 0 < xs.length := List.length_pos_iff.mpr hne
  refine ⟨rfl, _, rfl, B, xs.length, rfl, ⟨b, hb, hB⟩, hn, by omega, fun b' d hb' hd => ?_⟩
  obtain ⟨v, hv, rfl⟩ := hd
  exact ⟨_, xs[v], rfl, L2.atI_nat (List.getElem?_eq_getElem hv), Drawn.back ⟨_, hB, bag_nb b⟩ q hb' (List.getElem_mem hv)⟩
theorem names_lay : ∀ x ∈ someNames, PyData.canLay0 (.str x) = true := by decide +kernel
theorem mixed_loop (K : PySem.W.Frag) {M : DHp} {B p p2 : Addr} {xs : List Str} (hlen : xs.length ≤ 1000) (hx : ∀ x ∈ xs, x ∈ someNames) (hp : p ≠ B) (hp2 : p2 ≠ B) (hne : p2 ≠ p) {Z : DEnds} {W : DW} {th : D} {b : Bag} (hb : b.ok)
    (q : ∀ (b : Bag) (F : List Str), b.ok → F.Perm xs → Z.nx [some (.ref B), some th, some (.ref p), some (.ref p2)] (updD (updD (updD M B b.o) p (.lst [])) p2 (.lst (F.map D.str)))) :
    (dWhile (dB (dOp rNee (dVar 2) (dLst (dNil)))) (dDrop (dMt rAppendD isLst (dVar 3) (dCons (dMt rPopD isLst (dVar 2) (dCons (dCall (p__law_take K) (dCons (dVar 0) (dCons (dCB rLenD (dCons (dVar 2) (dNil))) (dNil)))) (dNil))) (dNil))))) Z [some (.ref B), some th, some (.ref p), some (.ref p2)] (updD (updD (updD M B b.o) p (.lst (xs.map D.str))) p2 (.lst [])) W := by
  refine ⟨fun m δ M' => ∃ (b : Bag) (L F : List Str), b.ok ∧ L.length = m ∧ (L ++ F).Perm xs ∧ δ = [some (.ref B), some th, some (.ref p), some (.ref p2)] ∧ M' = updD (updD (updD M B b.o) p (.lst (L.map D.str))) p2 (.lst (F.map D.str)), ⟨_, b, xs, [], hb, rfl, by simp, rfl, rfl⟩, ?_⟩
  rintro m δ M' ⟨b, L, F, hb, hm, hperm, rfl, rfl⟩
  have hMp : updD (updD (updD M B b.o) p (.lst (L.map D.str))) p2 (.lst (F.map D.str)) p = some (.lst (L.map D.str)) := by rw [updD_ne (Ne.symm hne), updD_same]
  have hMB : ∀ (b : Bag) (a c : MO), updD (updD (updD M B b.o) p a) p2 c B = some b.o := fun b a c => by rw [updD_ne (Ne.symm hp2), updD_ne (Ne.symm hp), updD_same]
  have hsub : ∀ x ∈ L, x ∈ someNames := fun x h => hx x (hperm.mem_iff.mp (List.mem_append_left _ h))
  have hLl : L.length + F.length = xs.length := by rw [← hperm.length_eq, List.length_append]
  refine ⟨small_line (by simp), strs_ok (fun x h => names_lay x (hsub x h)) (frz_ref hMp), ints_ok (ns := []) rfl, ?_⟩
  rw [eq_nil' (frz_ref hMp)]
  cases L with
  | nil => exact q b F hb (by simpa using hperm)
  | cons y ys =>
    refine ⟨⟨_, _, rfl, updD_same⟩, ⟨_, _, rfl, hMp⟩, ?_⟩
    refine ⟨_, seq_ref hMp, B, (y :: ys).length, by rw [List.length_map], ⟨b, hb, hMB b _ _⟩, by simp, by simp at hLl ⊢; omega, fun b' d hb' hd => ?_⟩
    obtain ⟨v, hv, rfl⟩ := hd
    have e : updD (updD (updD (updD M B b.o) p (.lst ((y :: ys).map D.str))) p2 (.lst (F.map D.str))) B b'.o = updD (updD (updD M B b'.o) p (.lst ((y :: ys).map D.str))) p2 (.lst (F.map D.str)) := by
      rw [updD_comm hp2, updD_comm hp, updD_updD]
    rw [e]
    have hMp' : updD (updD (updD M B b'.o) p (.lst ((y :: ys).map D.str))) p2 (.lst (F.map D.str)) p = some (.lst ((y :: ys).map D.str)) := by rw [updD_ne (Ne.symm hne), updD_same]
    refine ⟨_, v, .str (y :: ys)[v], hMp', by omega, ?_, ?_, ?_, ?_⟩
    · simp at hLl hv ⊢; omega
    · rw [List.length_map, seqIndex_of (by omega) (by omega)]; simp
    · rw [List.getElem?_map, List.getElem?_eq_getElem hv]; rfl
    rw [updD_swap hne]
    refine ⟨_, updD_same, lt_line (by rw [List.length_map]; omega), ?_⟩
    rw [updD_updD]
    refine ⟨ys.length, by rw [← hm]; simp, b', (y :: ys).eraseIdx v, F ++ [(y :: ys)[v]], hb', ?_, ?_, rfl, ?_⟩
    · rw [List.length_eraseIdx_of_lt hv]; simp
    · refine List.Perm.trans ?_ hperm
      have h1 := erase_perm hv
      have h2 : ((y :: ys).eraseIdx v ++ (F ++ [(y :: ys)[v]])).Perm ((y :: ys)[v] :: ((y :: ys).eraseIdx v ++ F)) := by
        rw [← List.append_assoc]
        exact List.perm_append_comm (l₁ := (y :: ys).eraseIdx v ++ F) (l₂ := [(y :: ys)[v]])
      exact h2.trans (h1.append_right F)
    · rw [List.map_append, ← map_erase]; rfl
theorem b__law_mixed (K : PySem.W.Frag) (_ : ErrK K) : Body 4 2 (p__law_mixed K) (t__law_mixed K) := by
  rintro ds M Q E ⟨B, xs, rfl, ⟨b, hb, hB⟩, hl, hx, q⟩
  refine ⟨rfl, _, rfl, fun p hp => ⟨small_line (by simp), fun p2 hp2' => ?_⟩⟩
  obtain ⟨hne, hp2⟩ := updD_none hp2'
  have e1 : p ≠ B := fun e => by rw [e, hB] at hp; cases hp
  have e2 : p2 ≠ B := fun e => by rw [e, hB] at hp2; cases hp2
  have := mixed_loop K (M := M) (xs := xs) hl hx e1 e2 hne (Z := { nx := fun δ' M' => (dRet (dVar 3)) { nx := fun _ M' => Back M Q .non M', rt := Back M Q } δ' M' (fun c gs _ M' => BackX M E c gs M'), rt := Back M Q }) (W := fun c gs _ M' => BackX M E c gs M') (th := .lst (xs.map D.str)) hb (fun b F hb' hF => by
    refine ⟨.lst (F.map D.str), updD M B b.o, (Sub.upd (by rw [updD_ne e1]; exact hp)).trans (Sub.upd (by rw [updD_ne hne, updD_ne e2]; exact hp2)), fun a ha => by rw [updD_ne (fun e => by rw [e, hB] at ha; exact bag_nb _ (Option.some.inj ha))]; exact ha, .lst updD_same (by rw [updD_ne e2]; exact hp2) (FrzL.refl _), q b _ hb' ⟨F, hF, rfl⟩⟩)
  rw [updD_id hB] at this
  exact this
theorem b__law_names (K : PySem.W.Frag) (_ : ErrK K) : Body 2 2 (p__law_names K) (t__law_names K) := by
  rintro ds M Q E ⟨B, n, rfl, ⟨b, hb, hB⟩, hn, q⟩
  refine ⟨rfl, small_line (by simp), B, someNames, rfl, ⟨b, hb, hB⟩, by decide, fun x h => h, fun b' d hb' hd => ?_⟩
  obtain ⟨ys, hp, rfl⟩ := hd
  refine ⟨_, rfl, ?_⟩
  rw [cut_hi]
  have hl := hp.length_eq
  have h10 : someNames.length = 10 := rfl
  refine .inr (.inr ⟨ys.take n, by rw [List.map_take]; rfl, by simp; omega, fun zs hz _ => ?_⟩)
  refine Drawn.back ⟨_, hB, bag_nb b⟩ q hb' ⟨zs, by rw [hz.length_eq]; simp; omega, ?_, fun y hy => hp.mem_iff.mp (List.mem_of_mem_take (hz.mem_iff.mp hy)), rfl⟩
  have nd : ys.Nodup := hp.nodup_iff.mpr (by decide +kernel)
  exact hz.nodup_iff.mpr (nd.sublist (List.take_sublist _ _))
theorem b__law_places (K : PySem.W.Frag) (_ : ErrK K) : Body 2 2 (p__law_places K) (t__law_places K) := by
  rintro ds M Q E ⟨B, xs, rfl, ⟨b, hb, hB⟩, hne, hl, hx, q⟩
  have hpos : 0 < xs.length := List.length_pos_iff.mpr hne
  refine ⟨rfl, B, xs, rfl, ⟨b, hb, hB⟩, by omega, hx, fun b' d hb' hd => ?_⟩
  obtain ⟨ys, hp, rfl⟩ := hd
  refine ⟨_, rfl, ?_⟩
  rw [List.length_map]
  refine draw (K := K) (E := fun _ _ _ => False) hb' hpos (by omega) fun b2 v hb2 hv => ?_
  refine ⟨_, rfl, ?_⟩
  rw [show (1 : Int) + (v : Nat) = ((1 + v : Nat) : Int) by omega, cut_hi]
  have hl2 := hp.length_eq
  refine .inr (.inr ⟨ys.take (1 + v), by rw [List.map_take]; rfl, by simp; omega, fun zs hz _ => ⟨_, rfl, .inl ?_⟩⟩)
  exact Drawn.back ⟨_, hB, bag_nb b⟩ q hb2 ⟨zs, by rw [hz.length_eq]; simp; omega, fun y hy => hp.mem_iff.mp (List.mem_of_mem_take (hz.mem_iff.mp hy)), rfl⟩
theorem draw_un {K : PySem.W.Frag} {B A : Addr} {M : DHp} {c : MO} (hBA : A ≠ B) {b : Bag} (hb : b.ok) {n : Nat} (h0 : 0 < n) (hn : n < 1000000) {Q : DVK} {E : DXK} (q : ∀ (b' : Bag) (v : Nat), b'.ok → v < n → Q (.int v) (updD (updD M B b'.o) A c)) : p__law_take K [.ref B, .int n] (updD (updD M B b.o) A c) Q E :=
  ⟨B, n, rfl, ⟨b, hb, by rw [updD_ne (Ne.symm hBA), updD_same]⟩, h0, hn, fun b' d hb' ⟨v, hv, e⟩ => by
    rw [e, updD_swap hBA]
    exact q b' v hb' hv⟩
theorem nats_of {n : Nat} {R : Nat → Prop} : ∀ {ys : List D}, (∀ y ∈ ys, ∃ v : Nat, R v ∧ y = .int v) → ∃ vs : List Nat, ys = (vs.map Int.ofNat).map D.int ∧ vs.length = ys.length ∧ ∀ v ∈ vs, R v
  | [], _ => ⟨[], rfl, rfl, fun v h => by cases h⟩
  | y :: ys, h => by
    obtain ⟨v, hv, e⟩ := h y List.mem_cons_self
    obtain ⟨vs, e1, e2, e3⟩ := nats_of (n := n) (R := R) (ys := ys) fun z hz => h z (List.mem_cons_of_mem _ hz)
    refine ⟨v :: vs, by rw [e, e1]; rfl, by simp [e2], fun w hw => ?_⟩
    rcases List.mem_cons.mp hw with rfl | hw
    · exact hv
    · exact e3 w hw
theorem Drawn.backA {B A : Addr} {M : DHp} {R : D → Prop} {Q : DVK} {c : MO} (hB : ∃ o, M B = some o ∧ o ≠ .busy) (hA : M A = none) (q : Drawn B M R Q) {b : Bag} {d : D} (h : b.ok) (r : R d) : Back M Q d (updD (updD M B b.o) A c) := by
  obtain ⟨o, ho, hb⟩ := hB
  have hAB : A ≠ B := fun e => by rw [e, ho] at hA; cases hA
  refine ⟨d, updD M B b.o, Sub.upd (by rw [updD_ne hAB]; exact hA), fun a ha => ?_, .refl d, q b d h r⟩
  rw [updD_ne (fun e => by rw [e, ho] at ha; exact hb (Option.some.inj ha))]
  exact ha
theorem b__law_drawn_counts (K : PySem.W.Frag) (_ : ErrK K) : Body 5 3 (p__law_drawn_counts K) (t__law_drawn_counts K) := by
  rintro ds M Q E ⟨B, m, n, rfl, ⟨b, hb, hB⟩, hm1, hm, hn1, hn, q⟩
  have hB' : ∃ o, M B = some o ∧ o ≠ .busy := ⟨_, hB, bag_nb b⟩
  refine ⟨rfl, by omega, by omega, ?_⟩
  intro A hA
  have hAB : A ≠ B := fun e => by rw [e, hB] at hA; cases hA
  rw [show updD M A MO.busy = updD (updD M B b.o) A .busy by rw [updD_id hB]]
  refine lcL_drawn hAB (fun d => ∃ v : Nat, v ≤ n ∧ d = .int v) (fun _ => trivial) _ [] b hb (small_line (by simp [rngD]; omega)) (fun d hd b k hb hk => ?_) (fun b ys hb hl hr => ?_)
  · exact ⟨_, rfl, draw_un (K := K) (E := fun _ _ _ => False) (n := n + 1) hAB hb (by omega) (by omega) fun b' v hb' hv => hk b' _ hb' ⟨v, by omega, rfl⟩⟩
  · obtain ⟨vs, rfl, hvl, hv⟩ := nats_of (n := n) (R := fun v => v ≤ n) hr
    rw [updD_updD, List.nil_append]
    have hlen : vs.length = m := by rw [hvl, hl]; simp [rngD]
    have fin : ∀ (b : Bag) (cs : List Int), b.ok → cs.length = m → (∀ c ∈ cs, 0 ≤ c ∧ c ≤ n) → Back M Q (iT cs) (updD (updD M B b.o) A (.lst (cs.map D.int))) := fun b cs hb h1 h2 => Drawn.backA hB' hA q hb ⟨cs, h1, h2, rfl⟩
    have bnd : ∀ c ∈ vs.map Int.ofNat, (0 : Int) ≤ c ∧ c ≤ n := fun c hc => by
      obtain ⟨v, hv', rfl⟩ := List.mem_map.mp hc
      have := hv v hv'
      exact ⟨Int.natCast_nonneg v, by show (v : Int) ≤ n; omega⟩
    refine ⟨_, seq_ref updD_same, ifb (fun t => ?_) (fun t => ?_)⟩
    · refine draw_un (K := K) (E := fun _ _ _ => False) (n := m) hAB hb (by omega) (by omega) fun b' v hb' hv' => ?_
      refine ⟨_, v, updD_same, ixN_lt (by simp; omega), ?_⟩
      rw [updD_updD]
      have e : ((vs.map Int.ofNat).map D.int).set v (.int 1) = ((vs.map Int.ofNat).set v 1).map D.int := by rw [List.map_set]
      rw [e]
      refine ⟨_, lst_ref updD_same, .inl (fin b' _ hb' (by simp [hlen]) fun c hc => ?_)⟩
      rcases List.mem_or_eq_of_mem_set hc with hc | rfl
      · exact bnd c hc
      · omega
    · exact ⟨_, lst_ref updD_same, .inl (fin b _ hb (by simp [hlen]) bnd)⟩
structure StH (M N : DHp) (B : Addr) (b : Bag) (S : List (Addr × List D)) : Prop where
  bag : N B = some b.o
  at_ : ∀ q ∈ S, N q.1 = some (.lst q.2)
  fr : ∀ q ∈ S, M q.1 = none ∧ q.1 ≠ B
  nd : (S.map (·.1)).Nodup
  out : ∀ a, a ≠ B → (∀ q ∈ S, a ≠ q.1) → N a = M a
theorem StH.new (h : StH M N B b S) (hp : N p = none) : StH M (updD N p (.lst xs)) B b ((p, xs) :: S) := by
  have h1 : p ≠ B := fun e => by rw [e, h.bag] at hp; cases hp
  have h2 : ∀ q ∈ S, p ≠ q.1 := fun q hq e => by rw [e, h.at_ q hq] at hp; cases hp
  refine ⟨by rw [updD_ne (Ne.symm h1)]; exact h.bag, fun q hq => ?_, fun q hq => ?_, ?_, fun a e1 e2 => ?_⟩
  · rcases List.mem_cons.mp hq with rfl | hq
    · exact updD_same
    · rw [updD_ne (Ne.symm (h2 q hq))]; exact h.at_ q hq
  · rcases List.mem_cons.mp hq with rfl | hq
    · exact ⟨by rw [← h.out p h1 h2]; exact hp, h1⟩
    · exact h.fr q hq
  · refine List.nodup_cons.mpr ⟨fun hm => ?_, h.nd⟩
    obtain ⟨q, hq, e⟩ := List.mem_map.mp hm
    exact h2 q hq e.symm
  · rw [updD_ne (e2 _ List.mem_cons_self)]
    exact h.out a e1 fun q hq => e2 q (List.mem_cons_of_mem _ hq)
theorem StH.back (h : StH M N B b S) {R : D → Prop} {Q : DVK} {d : D} (hB : ∃ o, M B = some o ∧ o ≠ .busy) (q : Drawn B M R Q) (hb : b.ok) (hd : R d) : Back M Q d N := by
  refine ⟨d, updD M B b.o, fun a o ha => ?_, fun a ha => ?_, .refl d, q b d hb hd⟩
  · by_cases e : a = B
    · subst e; rw [updD_same] at ha; rw [h.bag]; exact ha
    · rw [updD_ne e] at ha
      rw [h.out a e fun q hq z => by rw [z, (h.fr q hq).1] at ha; cases ha]
      exact ha
  · obtain ⟨o, ho, hb⟩ := hB
    rw [updD_ne (fun e => by rw [e, ho] at ha; exact hb (Option.some.inj ha))]
    exact ha
end K32
end

section
set_option Elab.async false
set_option linter.all false
set_option maxRecDepth 100000
set_option maxHeartbeats 400000
namespace K32
open PySem PySem.Spec PyProof.Rows L2 DL
theorem tailsI_length (cs : List Int) : (tailsI cs).length = cs.length := by simp [tailsI]
theorem restI_length (cs : List Int) (j : Int) : (restI cs j).length = cs.length := by simp [restI, tailsI]
theorem b_rest_tails (K : PySem.W.Frag) (_ : ErrK K) : Body 3 2 (p_rest_tails K) (t_rest_tails K) := by
  rintro ds M Q E ⟨cs, j, rfl, hl, q⟩
  refine ⟨rfl, cs, rfl, hl, _, rfl, fun A hA => ?_⟩
  refine lcL_all (α := Int) D.int (fun t => .int (if t - j > 0 then t - j else 0)) rfl trivial (small_line (by rw [tailsI_length]; omega)) (fun t _ k hk => ⟨_, rfl, hk⟩) ?_
  rw [delD_upd hA]
  refine ⟨_, rfl, .inl (Back.same ?_)⟩
  simpa [restI, iT, Function.comp_def] using q
theorem b__law_rooms (K : PySem.W.Frag) (_ : ErrK K) : Body 3 2 (p__law_rooms K) (t__law_rooms K) := by
  rintro ds M Q E ⟨cs, j, rfl, hl, q⟩
  refine ⟨rfl, cs, rfl, hl, _, rfl, fun A hA => ?_⟩
  refine lcL_all (α := Int) D.int (fun t => .int (if t - j > 0 then t - j else 0)) rfl trivial (small_line (by rw [tailsI_length]; omega)) (fun t _ k hk => ⟨_, rfl, hk⟩) ?_
  rw [delD_upd hA]
  refine ⟨_, rfl, .inl (Back.same ?_)⟩
  simpa [restI, iT, Function.comp_def] using q
theorem b__law_tails (K : PySem.W.Frag) (e : ErrK K) : Body 2 1 (p__law_tails K) (t__law_tails K) := b_tails_of K e
theorem room_at (w : Wall) {s : Nat} (h1 : 1 ≤ s) (h2 : s ≤ w.counts.length + 1) : L2.atI ((restI w.counts w.jams).map D.int ++ [D.int 0]) ((s : Int) - 1) = some (.int (roomF w s)) := by
  have e : (s : Int) - 1 = ((s - 1 : Nat) : Int) := by omega
  have e2 : (restI w.counts w.jams).map D.int ++ [D.int 0] = (restI w.counts w.jams ++ [0]).map D.int := by rw [List.map_append]; rfl
  rw [e, e2]
  exact atI_int (by rw [List.length_append, restI_length, List.length_singleton]; omega)
theorem b_room_from (K : PySem.W.Frag) (_ : ErrK K) : Body 2 2 (p_room_from K) (t_room_from K) := by
  rintro ds M Q E ⟨w, s, rfl, hl, h1, h2, q⟩
  refine ⟨rfl, _, _, rfl, rfl, _, _, rfl, rfl, w.counts, w.jams, rfl, by omega, _, rfl, small_line (by simp [restI, tailsI]; omega), _, _, rfl, room_at w h1 h2, Back.same q⟩
/-! ### comprehensions of two fors that change nothing -/
theorem lc2L_all {α β : Type} {p p1 : Pat} {tt tt1 : DTT} {ti1 : DTI} {te : DTE} {δ0 : DSt} {vs1 : List Nat} {Q : List D → DHp → Prop} {chk : DHp → Prop} {M : DHp} (ι : α → D) (κ : α → List β) (e : α → β → D) (hc : chk M) :
    ∀ (xs : List α) (acc : List D), acc.length + (xs.flatMap fun x => (κ x).map (e x)).length ≤ sizeLine →
      (∀ x ∈ xs, ∀ (acc : List D) (kk : List D → DHp → Prop), acc.length + (κ x).length ≤ sizeLine → kk (acc ++ (κ x).map (e x)) M → ∃ δ', putP p (ι x) δ0 = some δ' ∧ tt δ' M (fun b M1 => if b = true then ti1 δ' M1 (fun ds1 chk1 M2 => dLcL p1 tt1 te (wipeD δ' vs1) (fun acc' M3 => kk acc' M3) chk1 ds1 acc M2) WN else kk acc M1) WN) →
      Q (acc ++ xs.flatMap fun x => (κ x).map (e x)) M → dLc2L p tt ti1 p1 tt1 te δ0 vs1 Q chk (xs.map ι) acc M
  | [], acc, _, _, q => ⟨hc, by simpa using q⟩
  | x :: xs, acc, hl, he, q => by
    rw [List.flatMap_cons, List.length_append, List.length_map] at hl
    refine ⟨hc, he x List.mem_cons_self acc _ (by omega) ?_⟩
    refine lc2L_all ι κ e hc xs _ ?_ (fun y hy => he y (List.mem_cons_of_mem _ hy)) ?_
    · rw [List.length_append, List.length_map]; omega
    · rw [List.flatMap_cons, ← List.append_assoc] at q
      exact q
theorem nT_snoc (r : List Nat) (i : Nat) : D.tup ((r.map fun (i : Nat) => D.int i) ++ [D.int (1 + (i : Int))]) = nT (r ++ [i + 1]) := by
  simp [nT, Int.add_comm]
theorem rowsN_length (m : Nat) : ∀ k, (rowsN m k).length = (m + 1) ^ k
  | 0 => rfl
  | k + 1 => by
    unfold rowsN
    rw [List.length_flatMap]
    have : (List.map (fun r => ((List.range (m + 1)).map fun i => r ++ [i + 1]).length) (rowsN m k)) = List.map (fun _ => m + 1) (rowsN m k) := List.map_congr_left fun r _ => by simp
    rw [this, List.map_const', List.sum_replicate_nat, rowsN_length m k, Nat.pow_succ]
theorem rowsN_small {m k : Nat} (hm : m ≤ 4) (hk : k ≤ 4) : (rowsN m k).length ≤ 1000 := by
  rw [rowsN_length]
  have h1 : (m + 1) ^ k ≤ 5 ^ k := Nat.pow_le_pow_left (by omega) k
  have h2 : 5 ^ k ≤ 5 ^ 4 := Nat.pow_le_pow_right (by omega) hk
  have h3 : (5 : Nat) ^ 4 = 625 := by decide
  omega
theorem rowsN_row (m : Nat) : ∀ k, ∀ r ∈ rowsN m k, r.length = k ∧ ∀ x ∈ r, 1 ≤ x ∧ x ≤ m + 1
  | 0, r, h => by
    obtain rfl := List.mem_singleton.mp h
    exact ⟨rfl, fun x h => by cases h⟩
  | k + 1, r, h => by
    unfold rowsN at h
    obtain ⟨r0, h0, h1⟩ := List.mem_flatMap.mp h
    obtain ⟨i, hi, rfl⟩ := List.mem_map.mp h1
    obtain ⟨g1, g2⟩ := rowsN_row m k r0 h0
    have hi := List.mem_range.mp hi
    refine ⟨by simp [g1], fun x hx => ?_⟩
    rcases List.mem_append.mp hx with hx | hx
    · exact g2 x hx
    · rw [List.mem_singleton.mp hx]; omega
theorem rows_step {m k : Nat} {M : DHp} {Q : List D → DHp → Prop} {a0 a1 o2 o3 : Option D} (hm : m ≤ 4) (hk : k + 1 ≤ 4) (e0 : a0 = some (.int (m : Nat))) (q : Q ((rowsN m (k + 1)).map nT) M) :
    dLc2L (.nm 4) dYes (dRng2 (dCons (dC (.int 1)) (dCons (dOp rAddD (dVar 0) (dC (.int 2))) dNil))) (.nm 5) dYes (dTup (dStar (dVar 4) (dCons (dVar 5) dNil))) [a0, a1, o2, o3, none, none] [5] Q (fun _ => True) ((rowsN m k).map nT) [] M := by
  subst e0
  have eq1 : ((rowsN m k).flatMap fun r => (List.range (m + 1)).map fun i => nT (r ++ [i + 1])) = (rowsN m (k + 1)).map nT := by
    show _ = ((rowsN m k).flatMap fun r => (List.range (m + 1)).map fun i => r ++ [i + 1]).map nT
    rw [List.map_flatMap]
    simp only [List.map_map, Function.comp_def]
  refine lc2L_all (α := List Nat) (β := Nat) nT (fun _ => List.range (m + 1)) (fun r i => nT (r ++ [i + 1])) trivial (rowsN m k) [] ?_ (fun r hr acc kk hl q => ?_) ?_
  · rw [eq1]
    simp only [List.length_nil, List.length_map]
    exact small_line (by have := rowsN_small hm hk; omega)
  · refine ⟨_, rfl, ?_⟩
    obtain ⟨hrl, _⟩ := rowsN_row m k r hr
    refine ⟨by omega, ?_⟩
    have e : rngD 1 (((m : Int) + 2 - 1).toNat) = (List.range (m + 1)).map fun (i : Nat) => D.int (1 + (i : Int)) := by
      unfold rngD
      rw [show ((m : Int) + 2 - 1).toNat = m + 1 by omega]
    show dLcL _ _ _ _ _ _ (rngD 1 (((m : Int) + 2 - 1).toNat)) acc M
    rw [e]
    refine dLcL_map (fun (i : Nat) => D.int (1 + (i : Int))) (fun i => some (nT (r ++ [i + 1]))) trivial (List.range (m + 1)) acc hl (fun i _ k2 hk2 => ?_) ?_
    · refine ⟨_, rfl, _, rfl, small_line (by simp; omega), ?_⟩
      rw [← nT_snoc] at hk2
      exact hk2
    · rw [show (List.range (m + 1)).filterMap (fun i => some (nT (r ++ [i + 1]))) = (List.range (m + 1)).map fun i => nT (r ++ [i + 1]) from by rw [← List.filterMap_eq_map]; rfl]
      exact q
  · rw [eq1]
    exact q
theorem rows_loop {m n : Nat} {M : DHp} {Z : DEnds} {W : DW} (hm : m ≤ 4) (hn : n ≤ 4) : ∀ (ds : List D) (k : Nat) (o3 : Option D), k + ds.length = n →
    (∀ o3, Z.nx [some (.int (m : Nat)), some (.int (n : Nat)), some (.lst ((rowsN m n).map nT)), o3, none, none] M) →
    dForL (.nm 3) (dSet 2 (dLc2 (dSeqI (dVar 2)) (.nm 4) (dYes) (dRng2 (dCons (dC (.int 1)) (dCons (dOp rAddD (dVar 0) (dC (.int 2))) (dNil)))) (.nm 5) (dYes) (dTup (dStar (dVar 4) (dCons (dVar 5) (dNil)))) [4, 5] [5])) Z W (fun _ => True) ds [some (.int (m : Nat)), some (.int (n : Nat)), some (.lst ((rowsN m k).map nT)), o3, none, none] M
  | [], k, o3, hk, q => by
    have : k = n := by simpa using hk
    subst this
    exact ⟨trivial, q o3⟩
  | d :: ds, k, o3, hk, q => by
    simp only [List.length_cons] at hk
    refine ⟨trivial, _, rfl, _, rfl, fun A hA => ?_⟩
    refine rows_step hm (by omega) rfl ?_
    rw [delD_upd hA]
    exact rows_loop hm hn ds (k + 1) _ (by omega) q
theorem b_threshold_rows (K : PySem.W.Frag) (_ : ErrK K) : Body 6 2 (p_threshold_rows K) (t_threshold_rows K) := by
  rintro ds M Q E ⟨m, n, rfl, hm, hn, q⟩
  refine ⟨rfl, small_line (by simp), small_line (by simp), by omega, by omega, ?_⟩
  refine rows_loop hm hn _ 0 none (by simp [rngD]) fun o3 => ?_
  exact Back.same q
theorem any_str (n : Str) : ∀ ps : List Str, ((ps.map D.str).any fun z => eqF z (.str n)) = decide (n ∈ ps)
  | [] => by simp
  | p :: ps => by
    rw [List.map_cons, List.any_cons, any_str n ps]
    show ((p == n) || decide (n ∈ ps)) = _
    by_cases h : p = n
    · subst h; simp
    · have h2 : ¬ n = p := fun e => h e.symm
      simp [h, h2]
theorem flat_strD (ps : List Str) : (ps.map D.str).all flatD = true := by
  rw [List.all_map]
  exact List.all_eq_true.mpr fun x _ => rfl
theorem all_flt {α : Type} (t g : α → Bool) : ∀ xs : List α, (((xs.filter t).map g).all id) = xs.all fun x => !t x || g x
  | [] => rfl
  | x :: xs => by
    rw [List.filter_cons, List.all_cons, ← all_flt t g xs]
    cases h : t x <;> simp
theorem b_is_within (K : PySem.W.Frag) (_ : ErrK K) : Body 7 3 (p_is_within K) (t_is_within K) := by
  rintro ds M Q E ⟨ws, r, t, rfl, hl, hr, q⟩
  refine ⟨rfl, .inl ⟨_, _, rfl, rfl, fun A hA => ?_⟩⟩
  rw [zipD_map Wall.d (fun (i : Nat) => D.int i)]
  refine lcL_flt (α := Wall × Nat) (fun p => .tup [p.1.d, .int (p.2 : Nat)]) (fun p => decide (p.1.name ∈ t.places)) (fun p => .bl (decide (((p.2 : Nat) : Int) ≤ (t.size : Int)))) rfl trivial (small_line (by rw [List.length_zip]; omega)) (fun p _ k h1 h2 => ?_) ?_
  · refine ⟨_, rfl, _, _, rfl, rfl, _, rfl, rfl, flat_strD _, ?_⟩
    simp only [Bool.false_eq_true, if_false]
    rw [any_str]
    by_cases hin : p.1.name ∈ t.places
    · rw [decide_eq_true hin]
      exact h1 (decide_eq_true hin)
    · rw [decide_eq_false hin]
      exact h2 (decide_eq_false hin)
  · rw [delD_upd hA]
    refine ⟨((ws.zip r).filter fun p => decide (p.1.name ∈ t.places)).map (fun p => decide (((p.2 : Nat) : Int) ≤ (t.size : Int))), ?_, Back.same ?_⟩
    · show some _ = some _
      rw [List.map_map]; rfl
    · rw [all_flt]
      have e : (fun p : Wall × Nat => !decide (p.1.name ∈ t.places) || decide (((p.2 : Nat) : Int) ≤ (t.size : Int))) = fun p => !decide (p.1.name ∈ t.places) || decide (p.2 ≤ t.size) := by
        funext p
        simp only [Int.ofNat_le]
      rw [e]
      exact q
theorem b_room_of (K : PySem.W.Frag) (_ : ErrK K) : Body 4 2 (p_room_of K) (t_room_of K) := by
  rintro ds M Q E ⟨m, ws, r, rfl, hw, hr, q⟩
  have hw3 := hw.w3
  refine ⟨rfl, .inl ⟨_, _, rfl, rfl, fun A hA => ?_⟩⟩
  rw [zipD_map Wall.d (fun (i : Nat) => D.int i)]
  refine lcL_all (α := Wall × Nat) (fun p => .tup [p.1.d, .int (p.2 : Nat)]) (fun p => .int (roomF p.1 p.2)) rfl trivial (small_line (by rw [List.length_zip]; omega)) (fun p hp k hk => ?_) ?_
  · obtain ⟨h1, h2⟩ := List.of_mem_zip hp
    have h3 := (hw.wl _ h1).1
    have h4 := hr.2 _ h2
    have h5 := hw.m3
    exact ⟨_, rfl, p.1, p.2, rfl, by omega, h4.1, by omega, hk⟩
  · rw [delD_upd hA]
    refine ⟨(ws.zip r).map fun p => roomF p.1 p.2, ?_, ?_⟩
    · show some _ = some _
      rw [List.map_map]; rfl
    · refine Back.same ?_
      rw [roomOf] at q
      exact q
end K32
end

section
set_option Elab.async false
set_option linter.all false
set_option maxRecDepth 100000
set_option maxHeartbeats 400000
namespace K32
open PySem PySem.Spec PyProof.Rows L2 DL
theorem zipIdx_eq (ts : List Thing) : ts.zipIdx = (List.range ts.length).map fun i => (ts.getD i default, i) := by
  refine List.ext_getElem (by simp) fun i h1 h2 => ?_
  have h : i < ts.length := by simpa using h1
  simp [List.getD_eq_getElem?_getD, h]
theorem inside_flt (ws : List Wall) (r : List Nat) (ts : List Thing) : (ts.zipIdx.filter fun p => inI ws r p.1).map (·.2) = inside ws r ts := by
  rw [zipIdx_eq, List.filter_map, List.map_map]
  exact List.map_id' _
theorem inside_lt {ws : List Wall} {r : List Nat} {ts : List Thing} {i : Nat} (h : i ∈ inside ws r ts) : i < ts.length := List.mem_range.mp (List.mem_filter.mp h).1
theorem inside_len (ws : List Wall) (r : List Nat) (ts : List Thing) : (inside ws r ts).length ≤ ts.length := by
  have := List.length_filter_le (fun i => inI ws r (ts.getD i default)) (List.range ts.length)
  rw [List.length_range] at this
  exact this
/-- ints of a small range, each once -/
theorem nodup_lt : ∀ (n : Nat) (L : List Int), L.Nodup → (∀ k ∈ L, 0 ≤ k ∧ k < (n : Int)) → L.length ≤ n
  | 0, [], _, _ => Nat.le_refl _
  | 0, k :: L, _, h => by have := h k List.mem_cons_self; omega
  | n + 1, L, hn, h => by
    have e := List.length_eq_countP_add_countP (fun k => decide (k = (n : Int))) (l := L)
    have h1 : (L.filter fun k => decide (¬ k = (n : Int))).length ≤ n := by
      refine nodup_lt n _ (hn.filter _) fun k hk => ?_
      obtain ⟨hk, hne⟩ := List.mem_filter.mp hk
      have := h k hk
      have hne : ¬ k = (n : Int) := by simpa using hne
      omega
    have h2 : L.countP (fun k => decide (k = (n : Int))) ≤ 1 := List.nodup_iff_count.mp hn (n : Int)
    rw [List.countP_eq_length_filter (p := fun k => decide (¬ (decide (k = (n : Int)) = true)))] at e
    have e2 : (L.filter fun k => decide (¬ (decide (k = (n : Int)) = true))) = L.filter fun k => decide (¬ k = (n : Int)) := by congr 1; funext k; simp
    rw [e2] at e
    omega
theorem uniq_lt {n : Nat} {ns : List Int} (h : ∀ k ∈ ns, 0 ≤ k ∧ k < (n : Int)) : (uniqI ns).length ≤ n := nodup_lt n _ (nodup_uniqI ns) fun k hk => h k (mem_uniqI.mp hk)
def lackT (ws : List Wall) (ts : List Thing) (r : List Nat) : Bool := decide (roomOf ws r < ((inside ws r ts).length : Int))
def hitT (ws : List Wall) (ts : List Thing) (r : List Nat) : List Int := if ((inside ws r ts).length : Int) = roomOf ws r then (inside ws r ts).map Int.ofNat else []
theorem hitT_len (ws : List Wall) (ts : List Thing) (r : List Nat) : (hitT ws ts r).length ≤ ts.length := by
  unfold hitT
  split
  · rw [List.length_map]; exact inside_len ws r ts
  · simp
theorem hitT_lt {ws : List Wall} {ts : List Thing} {r : List Nat} : ∀ k ∈ hitT ws ts r, 0 ≤ k ∧ k < (ts.length : Int) := by
  intro k hk
  unfold hitT at hk
  split at hk
  · obtain ⟨i, hi, rfl⟩ := List.mem_map.mp hk
    have := inside_lt hi
    exact ⟨Int.natCast_nonneg i, Int.ofNat_lt.mpr this⟩
  · cases hk
theorem tight_loop (K : PySem.W.Frag) {m : Nat} {ws : List Wall} {ts : List Thing} {p : Addr} {M : DHp} {Z : DEnds} {W : DW} {chk : DHp → Prop} (hc : ∀ M, chk M) (hw : WsOk m ws) (ht : TsOk m ws ts) :
    ∀ (rs : List (List Nat)) (as : List Int) (o3 o4 o5 : Option D), (∀ r ∈ rs, RowOk m ws r) → as.length + 13 * rs.length ≤ 3000 →
    (rs.any (lackT ws ts) = true → ∀ as : List Int, Z.rt .non (updD M p (.lst (as.map D.int)))) →
    (rs.any (lackT ws ts) = false → ∀ o3 o4 o5, Z.nx [some (wsD ws), some (.lst (enumD 0 (ts.map Thing.d))), some (.ref p), o3, o4, o5, none, none] (updD M p (.lst ((as ++ rs.flatMap (hitT ws ts)).map D.int)))) →
    dForL (.nm 3) (dSeq (dSet 4 (dLc (dSeqI (dVar 1)) (.tp [.nm 6, .nm 7]) (dTru (dCall (p_is_within K) (dCons (dVar 0) (dCons (dVar 3) (dCons (dVar 7) (dNil)))))) (dVar 6) [6, 7]))
    (dSeq (dSet 5 (dCall (p_room_of K) (dCons (dVar 0) (dCons (dVar 3) (dNil)))))
    (dSeq (dIfS (dB (dOp rGtD (dCB rLenD (dCons (dVar 4) (dNil))) (dVar 5))) (dRet (dC .non)) (dNext))
    (dIfS (dB (dOp rEqq (dCB rLenD (dCons (dVar 4) (dNil))) (dVar 5))) (dDrop (dMt rExtD isLst (dVar 2) (dCons (dVar 4) (dNil)))) (dNext))))) Z W chk (rs.map nT) [some (wsD ws), some (.lst (enumD 0 (ts.map Thing.d))), some (.ref p), o3, o4, o5, none, none] (updD M p (.lst (as.map D.int)))
  | [], as, o3, o4, o5, _, _, _, q => by
    refine ⟨hc _, ?_⟩
    have := q rfl o3 o4 o5
    rw [List.flatMap_nil, List.append_nil] at this
    exact this
  | r :: rs, as, o3, o4, o5, hr, hl, qn, q => by
    have hr0 := hr r List.mem_cons_self
    have hw3 := hw.w3
    have htf := ht.few
    simp only [List.length_cons] at hl
    rw [List.any_cons] at qn q
    rw [List.flatMap_cons] at q
    refine ⟨hc _, _, rfl, _, rfl, fun A hA => ?_⟩
    refine lcL_flt (α := Thing × Nat) (fun p => .tup [.int (p.2 : Nat), p.1.d]) (fun p => inI ws r p.1) (fun p => .int (p.2 : Nat)) (xs := ts.zipIdx) (enumD_map Thing.d ts 0) trivial (small_line (by rw [List.length_zipIdx]; omega)) (fun x _ k h1 h2 => ⟨_, rfl, ws, r, x.1, rfl, by omega, hr0.1, ifb h1 h2⟩) ?_
    rw [delD_upd hA, show (ts.zipIdx.filter fun p => inI ws r p.1).map (fun p => D.int (p.2 : Nat)) = (inside ws r ts).map (fun (i : Nat) => D.int i) by rw [← inside_flt, List.map_map]; rfl]
    refine ⟨m, ws, r, rfl, hw, hr0, ?_⟩
    refine ⟨_, rfl, ?_⟩
    rw [List.length_map]
    refine ifb (fun h => ?_) (fun h => ?_)
    · have hlk : lackT ws ts r = true := h
      exact qn (by rw [hlk]; rfl) as
    · have hlk : lackT ws ts r = false := h
      rw [hlk, Bool.false_or] at qn q
      refine ⟨_, rfl, ?_⟩
      rw [List.length_map]
      refine ifb (fun h2 => ?_) (fun h2 => ?_)
      · have e : hitT ws ts r = (inside ws r ts).map Int.ofNat := by
          unfold hitT
          rw [if_pos (of_decide_eq_true h2)]
        refine ⟨⟨p, _, rfl, updD_same⟩, as.map D.int, _, updD_same, rfl, small_line (by have := inside_len ws r ts; simp; omega), ?_⟩
        rw [updD_updD]
        have e2 : as.map D.int ++ (inside ws r ts).map (fun (i : Nat) => D.int i) = (as ++ hitT ws ts r).map D.int := by
          rw [e, List.map_append, List.map_map]; rfl
        rw [e2]
        refine tight_loop K hc hw ht rs (as ++ hitT ws ts r) _ _ _ (fun r hr2 => hr r (List.mem_cons_of_mem _ hr2)) ?_ qn ?_
        · have := hitT_len ws ts r
          rw [List.length_append]; omega
        · rw [List.append_assoc]; exact q
      · have e : hitT ws ts r = [] := by
          unfold hitT
          rw [if_neg (of_decide_eq_false h2)]
        rw [e, List.nil_append] at q
        exact tight_loop K hc hw ht rs as _ _ _ (fun r hr2 => hr r (List.mem_cons_of_mem _ hr2)) (by omega) qn q
/-- the set of what is collected -/
theorem sc_all {p : Pat} {tt : DTT} {te : DTE} {δ0 : DSt} {Q : List Int → DHp → Prop} {chk : DHp → Prop} {M : DHp} (hc : chk M)
    (he : ∀ k, ∀ kk : Option D → DHp → Prop, kk (some (.int k)) M → dLcT p tt te δ0 kk (.int k) M) : ∀ (ns acc : List Int), acc.length + ns.length < 4000 → Q (acc ++ ns) M → dScL p tt te δ0 Q chk (ns.map D.int) acc M
  | [], acc, _, q => ⟨hc, by simpa using q⟩
  | n :: ns, acc, hl, q => by
    rw [List.length_cons] at hl
    refine ⟨hc, by omega, he n _ ?_⟩
    refine sc_all hc he ns (acc ++ [n]) (by rw [List.length_append, List.length_singleton]; omega) ?_
    rw [List.append_assoc]; exact q
theorem flat_hit_len {ws : List Wall} {ts : List Thing} : ∀ rs : List (List Nat), (rs.flatMap (hitT ws ts)).length ≤ ts.length * rs.length
  | [] => Nat.zero_le _
  | r :: rs => by
    rw [List.flatMap_cons, List.length_append, List.length_cons, Nat.mul_add]
    have := hitT_len ws ts r
    have := flat_hit_len (ws := ws) (ts := ts) rs
    omega
theorem rows_ok {m : Nat} {ws : List Wall} : ∀ r ∈ rowsN m ws.length, RowOk m ws r := rowsN_row m ws.length
theorem rows_few {m : Nat} {ws : List Wall} (hw : WsOk m ws) : (rowsN m ws.length).length ≤ 64 := by
  rw [rowsN_length]
  have h1 : (m + 1) ^ ws.length ≤ 4 ^ ws.length := Nat.pow_le_pow_left (by have := hw.m3; omega) _
  have h2 : 4 ^ ws.length ≤ 4 ^ 3 := Nat.pow_le_pow_right (by omega) hw.w3
  have h3 : (4 : Nat) ^ 3 = 64 := by decide
  omega
theorem flat_small {m : Nat} {ws : List Wall} {ts : List Thing} (hw : WsOk m ws) (ht : TsOk m ws ts) : ((rowsN m ws.length).flatMap (hitT ws ts)).length ≤ 832 := by
  have h1 := flat_hit_len (ws := ws) (ts := ts) (rowsN m ws.length)
  have h2 := rows_few hw
  have h3 := ht.few
  have h4 : ts.length * (rowsN m ws.length).length ≤ 13 * 64 := Nat.mul_le_mul h3 h2
  omega
theorem flat_lt {ws : List Wall} {ts : List Thing} {rs : List (List Nat)} : ∀ k ∈ rs.flatMap (hitT ws ts), 0 ≤ k ∧ k < (ts.length : Int) := by
  intro k hk
  obtain ⟨r, _, h⟩ := List.mem_flatMap.mp hk
  exact hitT_lt k h
theorem wall0 {m : Nat} {ws : List Wall} (hw : WsOk m ws) : ∃ w r, ws = w :: r ∧ w.counts.length = m := by
  cases e : ws with
  | nil => have := hw.w1; rw [e] at this; simp at this
  | cons w r => exact ⟨w, r, rfl, (hw.wl w (by rw [e]; exact List.mem_cons_self)).1⟩
theorem tightT_eq (m : Nat) (ws : List Wall) (ts : List Thing) : tightT m ws ts = if (rowsN m ws.length).any (lackT ws ts) = true then none else some (usort ((rowsN m ws.length).flatMap (hitT ws ts))) := rfl
theorem b_tight_numbers (K : PySem.W.Frag) (_ : ErrK K) : Body 8 2 (p_tight_numbers K) (t_tight_numbers K) := by
  rintro ds M Q E ⟨m, ws, ts, rfl, hw, ht, q⟩
  obtain ⟨w, r, hwr, hm⟩ := wall0 hw
  have hm3 := hw.m3
  have hw3 := hw.w3
  refine ⟨rfl, by rw [sizeLine_eq]; decide, fun p hp => ?_⟩
  refine ⟨_, w.d, rfl, by rw [hwr]; exact L2.atI_nat (j := 0) rfl, _, iT w.counts, rfl, L2.atI_nat (j := 1) rfl, _, rfl, _, rfl, m, ws.length, by rw [List.length_map, List.length_map, hm], by omega, by omega, ?_⟩
  refine ⟨_, rfl, ?_⟩
  refine tight_loop K (as := []) (fun _ => trivial) hw ht (rowsN m ws.length) none none none rows_ok (by have := rows_few hw; simp; omega) (fun h as => ?_) (fun h o3 o4 o5 => ?_)
  · rw [tightT_eq, if_pos h] at q
    exact Back.drop hp q
  · rw [tightT_eq, if_neg (by rw [h]; simp)] at q
    rw [List.nil_append]
    refine ⟨_, seq_ref updD_same, fun A hA => ?_⟩
    refine sc_all ?chk (fun k kk hk => ⟨_, rfl, hk⟩) _ [] (by have := flat_small hw ht; rw [List.length_nil]; omega) ?_
    case chk =>
      exact updD_ne (fun e => (updD_none hA).1 e.symm)
    rw [List.nil_append]
    have := uniq_lt (flat_lt (ws := ws) (ts := ts) (rs := rowsN m ws.length))
    have h13 := ht.few
    refine ⟨by omega, ?_⟩
    rw [delD_upd hA]
    exact ⟨_, rfl, .inl (Back.drop hp q)⟩
end K32
end

section
set_option Elab.async false
set_option linter.all false
set_option maxRecDepth 100000
set_option maxHeartbeats 400000
namespace K32
open PySem PySem.Spec PyProof.Rows L2 DL
theorem b_tight (K : PySem.W.Frag) (_ : ErrK K) : Body 3 2 (p_tight K) (t_tight K) := by
  rintro ds M Q E ⟨m, ws, ts, rfl, hw, ht, e, q⟩
  refine ⟨rfl, _, rfl, ?_⟩
  rw [List.length_map]
  refine ifb (fun h => ?_) (fun h => ?_)
  · have h : ((12 : Nat) : Int) < (ts.length : Int) := of_decide_eq_true h
    exact BackX.same (e (Int.ofNat_lt.mp h))
  · have h : ¬ ((12 : Nat) : Int) < (ts.length : Int) := of_decide_eq_false h
    have q := q (by omega)
    refine ⟨_, rfl, m, ws, ts, rfl, hw, ht, ?_⟩
    cases z : tightT m ws ts with
    | none => rw [z] at q; exact ⟨rfl, BackX.same q⟩
    | some t => rw [z] at q; exact ⟨rfl, Back.same q⟩
theorem name_same : ∀ {ws : List Wall} {v w : Wall}, (ws.map (·.name)).Nodup → v ∈ ws → w ∈ ws → v.name = w.name → v = w
  | [], _, _, _, h, _, _ => nomatch h
  | x :: ws, v, w, hn, hv, hw, e => by
    rw [List.map_cons, List.nodup_cons] at hn
    rcases List.mem_cons.mp hv with hv | hv
    · rcases List.mem_cons.mp hw with hw | hw
      · rw [hv, hw]
      · exact absurd (List.mem_map.mpr ⟨w, hw, by rw [← e, hv]⟩) hn.1
    · rcases List.mem_cons.mp hw with hw | hw
      · exact absurd (List.mem_map.mpr ⟨v, hv, by rw [e, hw]⟩) hn.1
      · exact name_same hn.2 hv hw e
theorem named_one {ws : List Wall} {w : Wall} (hn : (ws.map (·.name)).Nodup) (hw : w ∈ ws) : ∃ r, ws.filter (fun v => decide (v.name = w.name)) = w :: r := by
  have hm : w ∈ ws.filter (fun v => decide (v.name = w.name)) := List.mem_filter.mpr ⟨hw, by simp⟩
  cases z : ws.filter (fun v => decide (v.name = w.name)) with
  | nil => rw [z] at hm; cases hm
  | cons v r =>
    have hv : v ∈ ws.filter (fun v => decide (v.name = w.name)) := by rw [z]; exact List.mem_cons_self
    obtain ⟨h1, h2⟩ := List.mem_filter.mp hv
    exact ⟨r, by rw [name_same hn h1 hw (by simpa using h2)]⟩
theorem b__law_room_from (K : PySem.W.Frag) (_ : ErrK K) : Body 6 3 (p__law_room_from K) (t__law_room_from K) := by
  rintro ds M Q E ⟨m, ws, w, s, rfl, hw, hm, h1, h2, q⟩
  have hw3 := hw.w3
  obtain ⟨r, hr⟩ := named_one hw.nd hm
  have hc := (hw.wl w hm).1
  have hm3 := hw.m3
  refine ⟨rfl, _, rfl, fun A hA => ?_⟩
  refine lcL_flt (α := Wall) Wall.d (fun v => decide (v.name = w.name)) (fun v => .tup [iT v.counts, .int v.jams]) rfl trivial (small_line (by omega)) (fun v _ k h1 h2 => ⟨_, rfl, _, _, rfl, rfl, ?_⟩) ?_
  · exact ifb (fun h => ⟨_, iT v.counts, rfl, L2.atI_nat (j := 1) rfl, _, .int v.jams, rfl, L2.atI_nat (j := 2) rfl, small_line (by simp), h1 (by simpa using h)⟩) (fun h => h2 (by simpa using h))
  rw [delD_upd hA, hr]
  refine ⟨_, _, rfl, L2.atI_nat (j := 0) rfl, w.counts, w.jams, rfl, by omega, small_line (by simp), small_line (by rw [List.length_map, restI_length]; simp; omega), _, _, rfl, room_at w h1 (by omega), Back.same q⟩
theorem foldr_min (d : Nat) : ∀ xs : List Nat, (xs.foldr min d = d ∨ xs.foldr min d ∈ xs) ∧ xs.foldr min d ≤ d ∧ ∀ x ∈ xs, xs.foldr min d ≤ x
  | [] => ⟨.inl rfl, Nat.le_refl _, fun x h => nomatch h⟩
  | y :: ys => by
    obtain ⟨h1, h2, h3⟩ := foldr_min d ys
    rw [List.foldr_cons]
    refine ⟨?_, by omega, fun x hx => ?_⟩
    · rcases Nat.le_total y (ys.foldr min d) with h | h
      · rw [Nat.min_eq_left h]; exact .inr List.mem_cons_self
      · rw [Nat.min_eq_right h]
        exact h1.imp id fun z => List.mem_cons_of_mem _ z
    · rcases List.mem_cons.mp hx with rfl | hx
      · exact Nat.min_le_left _ _
      · have := h3 x hx
        omega
theorem b__law_threshold (K : PySem.W.Frag) (_ : ErrK K) : Body 5 3 (p__law_threshold K) (t__law_threshold K) := by
  rintro ds M Q E ⟨m, ts, n, rfl, hl, q⟩
  refine ⟨rfl, _, rfl, fun A hA => ?_⟩
  refine lcL_flt (α := Thing) Thing.d (fun t => decide (n ∈ t.places)) (fun t => .int (t.size : Nat)) rfl trivial (small_line (by omega)) (fun t _ k h1 h2 => ⟨_, rfl, _, rfl, rfl, flat_strD _, ?_⟩) ?_
  · simp only [Bool.false_eq_true, if_false]
    rw [any_str]
    exact ifb h1 h2
  · rw [delD_upd hA]
    have hf := List.length_filter_le (fun t => decide (n ∈ t.places)) ts
    refine ⟨small_line (by simp), _, _, rfl, rfl, small_line (by rw [List.length_map]; simp; omega), ?_⟩
    generalize hL : ((ts.filter fun t => decide (n ∈ t.places)).map (·.size)) = L at *
    have e : (ts.filter fun t => decide (n ∈ t.places)).map (fun t => D.int (t.size : Nat)) ++ [D.int ((m : Int) + 1)] = (L.map Int.ofNat ++ [((m + 1 : Nat) : Int)]).map D.int := by
      rw [← hL, List.map_append, List.map_map, List.map_map]; rfl
    have q : Q (.int ((L.foldr min (m + 1) : Nat) : Int)) M := by
      unfold thrN at q
      rw [hL] at q
      exact q
    obtain ⟨f1, f2, f3⟩ := foldr_min (m + 1) L
    have key : ∀ (k : Int) (ks : List Int), L.map Int.ofNat ++ [((m + 1 : Nat) : Int)] = k :: ks → ((L.foldr min (m + 1) : Nat) : Int) = minI k ks := fun k ks hk => by
      refine minI_uniq ?_ fun y hy => ?_
      · rw [← hk]
        rcases f1 with f1 | f1
        · rw [f1]; simp
        · exact List.mem_append_left _ (List.mem_map.mpr ⟨_, f1, rfl⟩)
      · rw [← hk] at hy
        rcases List.mem_append.mp hy with hy | hy
        · obtain ⟨x, hx, rfl⟩ := List.mem_map.mp hy
          exact Int.ofNat_le.mpr (f3 x hx)
        · rw [List.mem_singleton.mp hy]
          exact Int.ofNat_le.mpr f2
    cases hk : L.map Int.ofNat ++ [((m + 1 : Nat) : Int)] with
    | nil => simp at hk
    | cons k ks =>
      refine ⟨k, ks, by rw [← hk, ← e]; rfl, ?_⟩
      rw [← key k ks hk]
      exact Back.same q
theorem thr_ok {m : Nat} {ts : List Thing} {n : Str} (h : ∀ t ∈ ts, 1 ≤ t.size) : 1 ≤ thrN m ts n ∧ thrN m ts n ≤ m + 1 := by
  unfold thrN
  obtain ⟨f1, f2, _⟩ := foldr_min (m + 1) ((ts.filter fun (t : Thing) => decide (n ∈ t.places)).map fun t => t.size)
  refine ⟨?_, f2⟩
  rcases f1 with f1 | f1
  · rw [f1]; omega
  · obtain ⟨t, ht, e⟩ := List.mem_map.mp f1
    rw [← e]
    exact h t (List.mem_filter.mp ht).1
theorem b__law_room_of (K : PySem.W.Frag) (_ : ErrK K) : Body 4 2 (p__law_room_of K) (t__law_room_of K) := by
  rintro ds M Q E ⟨m, ws, ts, rfl, hw, ht, q⟩
  obtain ⟨w, r, hwr, hm⟩ := wall0 hw
  have hw3 := hw.w3
  have hf := ht.few
  refine ⟨rfl, _, w.d, rfl, by rw [hwr]; exact L2.atI_nat (j := 0) rfl, _, iT w.counts, rfl, L2.atI_nat (j := 1) rfl, _, rfl, ?_⟩
  rw [List.length_map, hm]
  refine ⟨_, rfl, fun A hA => ?_⟩
  refine lcL_all (α := Wall) Wall.d (fun w => .int (roomF w (thrN m ts w.name))) rfl trivial (small_line (by omega)) (fun v hv k hk => ?_) ?_
  · have := thr_ok (m := m) (n := v.name) fun t h => (ht.sz t h).1
    exact ⟨_, rfl, _, _, rfl, rfl, _, _, rfl, rfl, m, ts, v.name, rfl, by omega, m, ws, v, thrN m ts v.name, rfl, hw, hv, this.1, this.2, hk⟩
  · rw [delD_upd hA]
    refine ⟨ws.map fun w => roomF w (thrN m ts w.name), ?_, ?_⟩
    · show some _ = some _
      rw [List.map_map]; rfl
    · refine Back.same ?_
      rw [roomS] at q
      exact q
theorem setsN_length : ∀ n, (setsN n).length = 2 ^ n
  | 0 => rfl
  | n + 1 => by
    unfold setsN
    rw [List.length_append, List.length_map, setsN_length n, Nat.pow_succ]; omega
theorem setsN_set : ∀ n, ∀ S ∈ setsN n, S.length ≤ n ∧ S.Nodup ∧ ∀ i ∈ S, i < n
  | 0, S, h => by
    obtain rfl := List.mem_singleton.mp h
    exact ⟨Nat.le_refl _, .nil, fun i h => nomatch h⟩
  | n + 1, S, h => by
    unfold setsN at h
    rcases List.mem_append.mp h with h | h
    · obtain ⟨h1, h2, h3⟩ := setsN_set n S h
      exact ⟨by omega, h2, fun i hi => by have := h3 i hi; omega⟩
    · obtain ⟨S0, h0, rfl⟩ := List.mem_map.mp h
      obtain ⟨h1, h2, h3⟩ := setsN_set n S0 h0
      refine ⟨by simp [h1], List.nodup_append.mpr ⟨h2, by simp, fun a ha b hb => ?_⟩, fun i hi => ?_⟩
      · rw [List.mem_singleton.mp hb]
        have := h3 a ha
        omega
      · rcases List.mem_append.mp hi with hi | hi
        · have := h3 i hi; omega
        · rw [List.mem_singleton.mp hi]; omega
theorem sets_loop {n : Nat} {M : DHp} {a0 : Option D} {Z : DEnds} {W : DW} (hn : n ≤ 7) (q : ∀ o2, Z.nx [a0, some (.lst ((setsN n).map nT)), o2, none] M) : ∀ (j k : Nat) (o2 : Option D), k + j = n →
    dForL (.nm 2) (dSet 1 (dOp rAddD (dVar 1) (dLc (dSeqI (dVar 1)) (.nm 3) (dYes) (dOp rAddD (dVar 3) (dTup (dCons (dVar 2) (dNil)))) [3]))) Z W (fun _ => True) ((List.range' k j).map fun (i : Nat) => D.int (0 + (i : Int))) [a0, some (.lst ((setsN k).map nT)), o2, none] M
  | 0, k, o2, hk => by
    obtain rfl : k = n := by omega
    exact ⟨trivial, q o2⟩
  | j + 1, k, o2, hk => by
    have hle : 2 ^ k ≤ 2 ^ 7 := Nat.pow_le_pow_right (by omega) (by omega)
    have h7 : (2 : Nat) ^ 7 = 128 := by decide
    have hsl := setsN_length k
    refine ⟨trivial, _, rfl, _, rfl, fun A hA => ?_⟩
    refine lcL_all (α := List Nat) nT (fun S => nT (S ++ [k])) rfl trivial (small_line (by omega)) (fun S hS kk hk => ?_) ?_
    · refine ⟨_, rfl, small_line (by simp), small_line (by have := (setsN_set k S hS).1; simp; omega), ?_⟩
      have e : D.tup ((S.map fun (i : Nat) => D.int i) ++ [D.int (0 + (k : Int))]) = nT (S ++ [k]) := by simp [nT]
      rw [e]
      exact hk
    · rw [delD_upd hA]
      refine ⟨_, _, rfl, rfl, small_line (by simp; omega), ?_⟩
      have e : (setsN k).map nT ++ (setsN k).map (fun S => nT (S ++ [k])) = (setsN (k + 1)).map nT := by
        rw [setsN, List.map_append, List.map_map]; rfl
      rw [e]
      exact sets_loop hn q j (k + 1) _ (by omega)
theorem b__law_sets (K : PySem.W.Frag) (_ : ErrK K) : Body 4 1 (p__law_sets K) (t__law_sets K) := by
  rintro ds M Q E ⟨n, rfl, hn, q⟩
  refine ⟨rfl, small_line (by simp), small_line (by simp), by omega, by omega, ?_⟩
  have e : rngD 0 ((n : Int)).toNat = (List.range' 0 n).map fun (i : Nat) => D.int (0 + (i : Int)) := by
    unfold rngD
    rw [Int.toNat_natCast, List.range_eq_range']
  show dForL _ _ _ _ _ (rngD 0 ((n : Int)).toNat) _ _
  rw [e]
  exact sets_loop hn (fun o2 => Back.same q) n 0 none (by omega)
end K32
end

section
set_option Elab.async false
set_option linter.all false
set_option maxRecDepth 100000
set_option maxHeartbeats 400000
namespace K32
open PySem PySem.Spec PyProof.Rows L2 DL
theorem Back.sub {M0 M : DHp} {Q : DVK} {d : D} (s : Sub M0 M) (q : Q d M0) : DL.Back M0 Q d M := ⟨d, M0, s, fun _ h => h, .refl d, q⟩
theorem lst_ref {M : DHp} {p : Addr} {xs : List D} (h : M p = some (.lst xs)) : lstOf M (.ref p) = some xs := by simp [lstOf, h]
def lackS (m : Nat) (ws : List Wall) (ts : List Thing) (S : List Nat) : Bool := decide (roomS m ws (pickT ts S) < (S.length : Int))
def hitS (m : Nat) (ws : List Wall) (ts : List Thing) (S : List Nat) : List Int := if (S.length : Int) = roomS m ws (pickT ts S) then S.map Int.ofNat else []
theorem tightS_eq (m : Nat) (ws : List Wall) (ts : List Thing) : tightS m ws ts = if (setsN ts.length).any (lackS m ws ts) = true then none else some (usort ((setsN ts.length).flatMap (hitS m ws ts))) := rfl
theorem pick_ok {m : Nat} {ws : List Wall} {ts : List Thing} (ht : TsOk m ws ts) {S : List Nat} (h1 : S.length ≤ 13) (h2 : ∀ i ∈ S, i < ts.length) : TsOk m ws (pickT ts S) := by
  have hm : ∀ t ∈ pickT ts S, t ∈ ts := fun t h => by
    obtain ⟨i, hi, rfl⟩ := List.mem_map.mp h
    have := h2 i hi
    rw [List.getD_eq_getElem?_getD, List.getElem?_eq_getElem this]
    exact List.getElem_mem this
  exact ⟨by rw [pickT, List.length_map]; exact h1, fun t h => ht.sz t (hm t h), fun t h => ht.pl t (hm t h)⟩
theorem hitS_len (m : Nat) (ws : List Wall) (ts : List Thing) (S : List Nat) : (hitS m ws ts S).length ≤ S.length := by
  unfold hitS
  split
  · simp
  · simp
theorem sets_tight_loop (K : PySem.W.Frag) {m : Nat} {ws : List Wall} {ts : List Thing} {M0 : DHp} {Z : DEnds} {W : DW} {chk : DHp → Prop} (hc : ∀ M, chk M) (hw : WsOk m ws) (ht : TsOk m ws ts) (h7 : ts.length ≤ 7)
    (qn : (setsN ts.length).any (lackS m ws ts) = true → ∀ M, Sub M0 M → Z.rt .non M) :
    ∀ (Ss : List (List Nat)) (as : List Int) (o3 o4 : Option D) (M : DHp), Sub M0 M → (∀ S ∈ Ss, S ∈ setsN ts.length) → as.length + 13 * Ss.length ≤ 3000 →
    (Ss.any (lackS m ws ts) = false → ∀ o3 o4 M, Sub M0 M → Z.nx [some (wsD ws), some (tsD ts), some (iL (as ++ Ss.flatMap (hitS m ws ts))), o3, o4, none] M) →
    dForL (.nm 3) (dSeq (dSet 4 (dCall (p__law_room_of K) (dCons (dVar 0) (dCons (dLc (dSeqI (dVar 3)) (.nm 5) (dYes) (dOp rIxDD (dVar 1) (dVar 5)) [5]) (dNil)))))
    (dSeq (dIfS (dB (dOp rGtD (dCB rLenD (dCons (dVar 3) (dNil))) (dVar 4))) (dRet (dC .non)) (dNext))
    (dSet 2 (dOp rAddD (dVar 2) (dIfE (dB (dOp rEqq (dCB rLenD (dCons (dVar 3) (dNil))) (dVar 4))) (dCB rListD (dCons (dVar 3) (dNil))) (dLst (dNil))))))) Z W chk (Ss.map nT) [some (wsD ws), some (tsD ts), some (iL as), o3, o4, none] M
  | [], as, o3, o4, M, s, _, _, q => by
    refine ⟨hc _, ?_⟩
    have := q rfl o3 o4 M s
    rw [List.flatMap_nil, List.append_nil] at this
    exact this
  | S :: Ss, as, o3, o4, M, s, hS, hl, q => by
    have hS0 := hS S List.mem_cons_self
    obtain ⟨g1, g2, g3⟩ := setsN_set ts.length S hS0
    simp only [List.length_cons] at hl
    rw [List.any_cons] at q
    rw [List.flatMap_cons] at q
    refine ⟨hc _, _, rfl, _, rfl, fun A hA => ?_⟩
    refine lcL_all (α := Nat) (fun (i : Nat) => D.int i) (fun i => (ts.getD i default).d) rfl trivial (small_line (by omega)) (fun i hi k hk => ⟨_, rfl, _, (ts.getD i default).d, rfl, ?_, hk⟩) ?_
    · have hi := g3 i hi
      exact atI_map (by rw [List.getD_eq_getElem?_getD, List.getElem?_eq_getElem hi]; rfl)
    rw [delD_upd hA, show S.map (fun i => (ts.getD i default).d) = (pickT ts S).map Thing.d by rw [pickT, List.map_map]; rfl]
    refine ⟨m, ws, pickT ts S, rfl, hw, pick_ok ht (by omega) g3, ?_⟩
    refine ⟨_, rfl, ?_⟩
    rw [List.length_map]
    refine ifb (fun h => ?_) (fun h => ?_)
    · have hlk : lackS m ws ts S = true := h
      exact qn (List.any_eq_true.mpr ⟨S, hS0, hlk⟩) M s
    · have hlk : lackS m ws ts S = false := h
      rw [hlk, Bool.false_or] at q
      have hln := hitS_len m ws ts S
      refine ⟨_, rfl, ?_⟩
      rw [List.length_map]
      refine ifb (fun h2 => ?_) (fun h2 => ?_)
      · have e : hitS m ws ts S = S.map Int.ofNat := by
          unfold hitS
          rw [if_pos (of_decide_eq_true h2)]
        refine ⟨_, rfl, fun p hp => ⟨as.map D.int, S.map (fun (i : Nat) => D.int i), rfl, ?_, small_line (by simp; omega), ?_⟩⟩
        · exact lst_ref updD_same
        · have e2 : as.map D.int ++ S.map (fun (i : Nat) => D.int i) = (as ++ hitS m ws ts S).map D.int := by
            rw [e, List.map_append, List.map_map]; rfl
          rw [e2]
          refine sets_tight_loop K hc hw ht h7 qn Ss (as ++ hitS m ws ts S) _ _ _ (s.trans (Sub.upd hp)) (fun S h => hS S (List.mem_cons_of_mem _ h)) (by rw [List.length_append]; omega) ?_
          rw [List.append_assoc]; exact q
      · have e : hitS m ws ts S = [] := by
          unfold hitS
          rw [if_neg (of_decide_eq_false h2)]
        rw [e, List.nil_append] at q
        refine ⟨small_line (by simp), as.map D.int, [], rfl, rfl, small_line (by simp; omega), ?_⟩
        rw [List.append_nil]
        exact sets_tight_loop K hc hw ht h7 qn Ss as _ _ _ s (fun S h => hS S (List.mem_cons_of_mem _ h)) (by omega) q
theorem flatS_len {m : Nat} {ws : List Wall} {ts : List Thing} : ∀ Ss : List (List Nat), (∀ S ∈ Ss, S.length ≤ 7) → (Ss.flatMap (hitS m ws ts)).length ≤ 7 * Ss.length
  | [], _ => Nat.zero_le _
  | S :: Ss, h => by
    rw [List.flatMap_cons, List.length_append, List.length_cons, Nat.mul_add]
    have := hitS_len m ws ts S
    have := h S List.mem_cons_self
    have := flatS_len (m := m) (ws := ws) (ts := ts) Ss fun S h2 => h S (List.mem_cons_of_mem _ h2)
    omega
theorem flatS_lt {m : Nat} {ws : List Wall} {ts : List Thing} : ∀ k ∈ (setsN ts.length).flatMap (hitS m ws ts), 0 ≤ k ∧ k < (ts.length : Int) := by
  intro k hk
  obtain ⟨S, hS, h⟩ := List.mem_flatMap.mp hk
  unfold hitS at h
  split at h
  · obtain ⟨i, hi, rfl⟩ := List.mem_map.mp h
    have := (setsN_set _ S hS).2.2 i hi
    exact ⟨Int.natCast_nonneg i, Int.ofNat_lt.mpr this⟩
  · cases h
theorem b__law_tight_by_sets (K : PySem.W.Frag) (_ : ErrK K) : Body 6 2 (p__law_tight_by_sets K) (t__law_tight_by_sets K) := by
  rintro ds M Q E ⟨m, ws, ts, rfl, hw, ht, h7, q⟩
  have hlen : (setsN ts.length).length ≤ 128 := by
    rw [setsN_length]
    have : 2 ^ ts.length ≤ 2 ^ 7 := Nat.pow_le_pow_right (by omega) h7
    have h7 : (2 : Nat) ^ 7 = 128 := by decide
    omega
  refine ⟨rfl, small_line (by simp), _, rfl, ts.length, by rw [List.length_map], h7, _, rfl, ?_⟩
  refine sets_tight_loop K (as := []) (M0 := M) (fun _ => trivial) hw ht h7 (fun h M' s => ?_) (setsN ts.length) none none M (Sub.refl _) (fun _ h => h) (by simp; omega) (fun h o3 o4 M' s => ?_)
  · rw [tightS_eq, if_pos h] at q
    exact Back.sub s q
  · rw [tightS_eq, if_neg (by rw [h]; simp)] at q
    rw [List.nil_append]
    have h1 := flatS_len (m := m) (ws := ws) (ts := ts) (setsN ts.length) fun S h => by have := (setsN_set _ S h).1; omega
    have h2 := uniq_lt (flatS_lt (m := m) (ws := ws) (ts := ts))
    exact ⟨_, rfl, by omega, by omega, _, rfl, .inl (Back.sub s q)⟩
end K32
end

section
set_option Elab.async false
set_option linter.all false
set_option maxRecDepth 100000
set_option maxHeartbeats 400000
namespace K32
open PySem PySem.Spec PyProof.Rows L2 DL
theorem restI_at {cs : List Int} {j : Int} {i : Nat} (h : i < cs.length) : (restI cs j).getD i 0 = (if (cs.drop i).sum - j > 0 then (cs.drop i).sum - j else 0) := by
  have h2 : i < (restI cs j).length := by rw [restI_length]; exact h
  rw [List.getD_eq_getElem?_getD, List.getElem?_eq_getElem h2, Option.getD_some]
  simp only [restI, tailsI, List.getElem_map, List.getElem_range]
theorem drop_cons' {cs : List Int} {i : Nat} (h : i < cs.length) : cs.drop i = cs.getD i 0 :: cs.drop (i + 1) := by
  rw [List.drop_eq_getElem_cons h, List.getD_eq_getElem?_getD, List.getElem?_eq_getElem h, Option.getD_some]
theorem sum_nonneg : ∀ {cs : List Int}, (∀ c ∈ cs, 0 ≤ c) → 0 ≤ cs.sum
  | [], _ => by simp
  | c :: cs, h => by
    have := h c List.mem_cons_self
    have := sum_nonneg fun c hc => h c (List.mem_cons_of_mem _ hc)
    rw [List.sum_cons]; omega
theorem less_loop {cs : List Int} {j : Int} {p : Addr} {M : DHp} {Z : DEnds} {W : DW} (hc : ∀ c ∈ cs, 0 ≤ c) (hj : 0 ≤ j)
    (q : ∀ (gs : List Int) o3 o4 o5, gs.length = cs.length → (∀ i, i < cs.length → (gs.drop i).sum = (restI cs j).getD i 0) → Z.nx [some (iT cs), some (.int j), some (.ref p), o3, o4, o5] (updD M p (.lst (gs.map D.int)))) :
    ∀ (i : Nat) (G : List Int) (L : Int) (o4 o5 : Option D), i ≤ cs.length → G.length = cs.length - i → L = (if (cs.drop i).sum < j then j - (cs.drop i).sum else 0) → (∀ k, i ≤ k → k < cs.length → (G.drop (k - i)).sum = (restI cs j).getD k 0) →
    dForL (.nm 4) (dSeq (dSet 5 (dCB rMinD (dCons (dVar 3) (dCons (dOp rIxDD (dVar 2) (dVar 4)) (dNil)))))
    (dSeq (dAugI (dVar 2) (dVar 4) (dVar 5) rSubD)
    (dAug 3 (dVar 5) rSubD))) Z W (fun _ => True) ((List.range' (cs.length - i) i).map fun (k : Nat) => D.int (((cs.length : Nat) : Int) - 1 + (k : Nat) * -1)) [some (iT cs), some (.int j), some (.ref p), some (.int L), o4, o5] (updD M p (.lst ((cs.take i ++ G).map D.int)))
  | 0, G, L, o4, o5, hi, hG, hL, hs => by
    refine ⟨trivial, ?_⟩
    rw [List.take_zero, List.nil_append]
    exact q G _ _ _ (by omega) fun k hk => by have := hs k (Nat.zero_le _) hk; rwa [Nat.sub_zero] at this
  | i + 1, G, L, o4, o5, hi, hG, hL, hs => by
    have ei : (((cs.length : Nat) : Int) - 1 + ((cs.length - (i + 1) : Nat) : Int) * -1) = (i : Nat) := by omega
    rw [List.range'_succ, List.map_cons, ei]
    have hcl : i < cs.length := by omega
    have hget : (cs.take (i + 1) ++ G)[i]? = some (cs.getD i 0) := by
      rw [List.getElem?_append_left (by rw [List.length_take]; omega), List.getElem?_take_of_lt (by omega), List.getD_eq_getElem?_getD, List.getElem?_eq_getElem hcl, Option.getD_some]
    have hc0 := hc (cs.getD i 0) (by rw [List.getD_eq_getElem?_getD, List.getElem?_eq_getElem hcl, Option.getD_some]; exact List.getElem_mem hcl)
    have hlen : (cs.take (i + 1) ++ G).length = cs.length := by rw [List.length_append, List.length_take, hG]; omega
    generalize hgc : cs.getD i 0 = c at *
    refine ⟨trivial, _, rfl, _, .int c, seq_ref updD_same, atI_map hget, ?_⟩
    refine ⟨_, i, .int c, updD_same, by rw [List.length_map, hlen]; exact ixN_lt hcl, by rw [List.getElem?_map, hget]; rfl, _, updD_same, rfl, ?_⟩
    rw [updD_updD]
    generalize hT : (if c < L then c else L) = T
    have hset : ((cs.take (i + 1) ++ G).map D.int).set i (.int (c - T)) = (cs.take i ++ ((c - T) :: G)).map D.int := by
      have e : (cs.take (i + 1) ++ G).set i (c - T) = cs.take i ++ ((c - T) :: G) := by
        rw [List.set_append_left _ _ (by rw [List.length_take]; omega), List.take_succ_eq_append_getElem hcl, List.set_append_right _ _ (by rw [List.length_take]; omega), List.length_take, Nat.min_eq_left (by omega), Nat.sub_self, List.set_cons_zero, List.append_assoc]
        rfl
      rw [← e, List.map_set]
    rw [hset, show cs.length - (i + 1) + 1 = cs.length - i by omega]
    have hdr := drop_cons' hcl
    rw [hgc] at hdr
    have hsum : (cs.drop i).sum = c + (cs.drop (i + 1)).sum := by rw [hdr, List.sum_cons]
    have hge := sum_nonneg (cs := cs.drop (i + 1)) fun c hx => hc c (List.mem_of_mem_drop hx)
    have hGs : G.sum = (if (cs.drop (i + 1)).sum - j > 0 then (cs.drop (i + 1)).sum - j else 0) := by
      by_cases h : i + 1 < cs.length
      · have := hs (i + 1) (Nat.le_refl _) h
        rw [Nat.sub_self, List.drop_zero, restI_at h] at this
        exact this
      · have h0 : G = [] := List.length_eq_zero_iff.mp (by omega)
        have h1 : cs.drop (i + 1) = [] := List.drop_eq_nil_of_le (by omega)
        rw [h0, h1, List.sum_nil, if_neg (by omega)]
    refine less_loop hc hj q i ((c - T) :: G) (L - T) _ _ (by omega) (by rw [List.length_cons]; omega) ?_ fun k hk hk2 => ?_
    · rw [hsum, hL, ← hT, hL]
      split <;> split <;> (try split) <;> omega
    · by_cases e : k = i
      · subst e
        rw [Nat.sub_self, List.drop_zero, List.sum_cons, restI_at hcl, hsum, hGs, ← hT, hL]
        split <;> split <;> (try split) <;> (try split) <;> omega
      · rw [show k - i = k - (i + 1) + 1 by omega, List.drop_succ_cons]
        exact hs k (by omega) hk2
theorem b__law_less_greatest (K : PySem.W.Frag) (_ : ErrK K) : Body 6 2 (p__law_less_greatest K) (t__law_less_greatest K) := by
  rintro ds M Q E ⟨cs, j, rfl, hl, hc, hj, q⟩
  refine ⟨rfl, _, rfl, fun p hp => ?_⟩
  refine ⟨_, rfl, ?_⟩
  rw [List.length_map]
  refine ⟨_, RgC.neg (by omega) (by omega) (by omega) (by omega), ?_⟩
  have e : rngcD (((cs.length : Nat) : Int) - 1) (-1) ((((cs.length : Nat) : Int) - 1 - -1).toNat) = (List.range' (cs.length - cs.length) cs.length).map fun (k : Nat) => D.int (((cs.length : Nat) : Int) - 1 + (k : Nat) * -1) := by
    unfold rngcD
    rw [show ((((cs.length : Nat) : Int) - 1 - -1).toNat) = cs.length by omega, Nat.sub_self, List.range_eq_range']
  show dForL _ _ _ _ _ (rngcD (((cs.length : Nat) : Int) - 1) (-1) ((((cs.length : Nat) : Int) - 1 - -1).toNat)) _ _
  rw [e]
  have := less_loop (cs := cs) (j := j) (p := p) (M := M) (W := fun c gs _ M' => BackX M E c gs M') (Z := { nx := fun δ' M' => dRet (dCB rTupD (dCons (dVar 2) dNil)) { nx := fun _ M' => Back M Q .non M', rt := Back M Q } δ' M' fun c gs _ M' => BackX M E c gs M', rt := Back M Q }) hc hj (fun gs o3 o4 o5 h1 h2 => ⟨_, lst_ref updD_same, .inl (Back.drop hp (q gs h1 h2))⟩) cs.length [] j none none (Nat.le_refl _) (by simp) (by
    rw [List.drop_length, List.sum_nil]
    split <;> omega) (fun k hk hk2 => by omega)
  rw [List.take_length, List.append_nil] at this
  exact this
end K32
end

section
set_option Elab.async false
set_option linter.all false
set_option maxRecDepth 100000
set_option maxHeartbeats 400000
namespace K32
open PySem PySem.Spec PyProof.Rows L2 DL
theorem b__law_beyond (K : PySem.W.Frag) (_ : ErrK K) : Body 4 2 (p__law_beyond K) (t__law_beyond K) := by
  rintro ds M Q E ⟨m, ws, r, rfl, hw, hr, q⟩
  have hw3 := hw.w3
  refine ⟨rfl, .inl ⟨_, _, rfl, rfl, fun A hA => ?_⟩⟩
  rw [zipD_map Wall.d (fun (i : Nat) => D.int i)]
  refine lcL_all (α := Wall × Nat) (fun p => .tup [p.1.d, .int (p.2 : Nat)]) (fun p => .int (roomF p.1 p.2)) rfl trivial (small_line (by rw [List.length_zip]; omega)) (fun p hp k hk => ?_) ?_
  · obtain ⟨h1, h2⟩ := List.of_mem_zip hp
    obtain ⟨h3, h3c, h3j, _⟩ := hw.wl _ h1
    have h4 := hr.2 _ h2
    have h5 := hw.m3
    refine ⟨_, rfl, _, iT p.1.counts, rfl, L2.atI_nat (j := 1) rfl, _, .int p.1.jams, rfl, L2.atI_nat (j := 2) rfl, p.1.counts, p.1.jams, rfl, by omega, fun c hc => (h3c c hc).1, h3j, fun gs g1 g2 => ?_⟩
    have e : (((p.2 : Nat) : Int) - 1) = ((p.2 - 1 : Nat) : Int) := by omega
    refine ⟨gs.drop (p.2 - 1), ?_, ?_⟩
    · show some (cutG _ _ _) = _
      rw [e, cut_lo, List.map_drop]
    · have e2 : (gs.drop (p.2 - 1)).sum = roomF p.1 p.2 := by
        unfold roomF
        by_cases h : p.2 - 1 < p.1.counts.length
        · rw [g2 _ h, List.getD_eq_getElem?_getD, List.getD_eq_getElem?_getD, List.getElem?_append_left (by rw [restI_length]; exact h)]
        · rw [List.drop_eq_nil_of_le (by omega), List.sum_nil, List.getD_eq_getElem?_getD, List.getElem?_append_right (by rw [restI_length]; omega), restI_length, show p.2 - 1 - p.1.counts.length = 0 by omega]
          rfl
      rw [e2]
      exact hk
  · rw [delD_upd hA]
    refine ⟨(ws.zip r).map fun p => roomF p.1 p.2, ?_, ?_⟩
    · show some _ = some _
      rw [List.map_map]; rfl
    · refine Back.same ?_
      rw [roomOf] at q
      exact q
/-- a list, as data or in the heap -/
def Holds (M : DHp) (d : D) (xs : List D) : Prop := d = .lst xs ∨ ∃ p, d = .ref p ∧ M p = some (.lst xs)
theorem Holds.seq {M : DHp} {d : D} {xs : List D} (h : Holds M d xs) : seqOf M d = some xs := by
  rcases h with rfl | ⟨p, rfl, e⟩
  · rfl
  · exact seq_ref e
theorem Holds.upd {M : DHp} {d : D} {xs : List D} (h : Holds M d xs) {p : Addr} {o : MO} (hp : M p = none) : Holds (updD M p o) d xs := by
  rcases h with rfl | ⟨q, rfl, e⟩
  · exact .inl rfl
  · exact .inr ⟨q, rfl, by rw [updD_ne (fun z => by rw [z, hp] at e; cases e)]; exact e⟩
theorem Holds.asIt {M : DHp} {d : D} {xs : List D} (h : Holds M d xs) {p : Addr} {o o2 : MO} (hp : M p = none) : asIt (updD M p o) d (updD M p o2) := by
  rcases h with rfl | ⟨q, rfl, e⟩
  · trivial
  · show updD M p o2 q = updD M p o q
    rw [updD_ne (fun z => by rw [z, hp] at e; cases e), updD_ne (fun z => by rw [z, hp] at e; cases e)]
theorem Holds.back {M0 M : DHp} {Q : DVK} {d : D} {xs : List D} (h : Holds M d xs) (h0 : ∀ p, d = .ref p → M0 p = none) (s : Sub M0 M) (q : Q (.lst xs) M0) : DL.Back M0 Q d M := by
  rcases h with rfl | ⟨p, rfl, e⟩
  · exact Back.sub s q
  · exact ⟨.lst xs, M0, s, fun _ h => h, .lst e (h0 p rfl) (FrzL.refl _), q⟩
theorem allthr_in {m k : Nat} {p : Addr} {M : DHp} {d2 : D} {Z : DEnds} {W : DW} {a0 a1 o3 : Option D} {o : MO} {xs : List D} (e0 : a0 = some (.int (m : Nat))) (hm : m ≤ 4) (hp : M p = none) (hd : Holds M d2 xs)
    (q : ∀ o5, Z.nx [a0, a1, some d2, o3, some (.ref p), o5, none] (updD M p (.lst ((rowsN m (k + 1)).map nT)))) (hk : k + 1 ≤ 4) :
    ∀ (rs done : List (List Nat)) (o5 : Option D), done ++ rs = rowsN m k →
    dForL (.nm 5) (dDrop (dMt rExtD isLst (dVar 4) (dCons (dLc (dRng2 (dCons (dC (.int 1)) (dCons (dOp rAddD (dVar 0) (dC (.int 2))) (dNil)))) (.nm 6) (dYes) (dOp rAddD (dVar 5) (dTup (dCons (dVar 6) (dNil)))) [6]) (dNil)))) Z W (asIt (updD M p o) d2) (rs.map nT) [a0, a1, some d2, o3, some (.ref p), o5, none] (updD M p (.lst ((done.flatMap fun r => (List.range (m + 1)).map fun i => r ++ [i + 1]).map nT)))
  | [], done, o5, e => by
    rw [List.append_nil] at e
    subst e
    exact ⟨hd.asIt hp, q o5⟩
  | r :: rs, done, o5, e => by
    subst e0
    have hr : r ∈ rowsN m k := by rw [← e]; exact List.mem_append_right _ List.mem_cons_self
    have hrl := (rowsN_row m k r hr).1
    refine ⟨hd.asIt hp, _, rfl, ⟨p, _, rfl, updD_same⟩, by omega, fun A hA => ?_⟩
    have eR : rngD 1 (((m : Int) + 2 - 1).toNat) = (List.range (m + 1)).map fun (i : Nat) => D.int (1 + (i : Int)) := by
      unfold rngD
      rw [show ((m : Int) + 2 - 1).toNat = m + 1 by omega]
    refine lcL_all (α := Nat) (fun (i : Nat) => D.int (1 + (i : Int))) (fun i => nT (r ++ [i + 1])) eR trivial (small_line (by simp; omega)) (fun i _ kk hkk => ?_) ?_
    · refine ⟨_, rfl, small_line (by simp), small_line (by simp; omega), ?_⟩
      rw [← nT_snoc] at hkk
      exact hkk
    · rw [delD_upd hA]
      have hfull : (done ++ [r]).flatMap (fun r => (List.range (m + 1)).map fun i => r ++ [i + 1]) = done.flatMap (fun r => (List.range (m + 1)).map fun i => r ++ [i + 1]) ++ (List.range (m + 1)).map fun i => r ++ [i + 1] := by simp
      have hle : ((done ++ [r]).flatMap (fun r => (List.range (m + 1)).map fun i => r ++ [i + 1])).length ≤ 1000 := by
        have h1 := rowsN_small (m := m) (k := k + 1) hm hk
        rw [rowsN, ← e, show done ++ r :: rs = (done ++ [r]) ++ rs by simp, List.flatMap_append, List.length_append] at h1
        omega
      rw [hfull, List.length_append] at hle
      refine ⟨_, (List.range (m + 1)).map (fun i => nT (r ++ [i + 1])), updD_same, rfl, small_line (by simp only [List.length_map] at hle ⊢; omega), ?_⟩
      rw [updD_updD]
      have e3 : (done.flatMap (fun r => (List.range (m + 1)).map fun i => r ++ [i + 1])).map nT ++ (List.range (m + 1)).map (fun i => nT (r ++ [i + 1])) = ((done ++ [r]).flatMap fun r => (List.range (m + 1)).map fun i => r ++ [i + 1]).map nT := by
        rw [hfull, List.map_append, List.map_map]; rfl
      rw [e3]
      exact allthr_in rfl hm hp hd q hk rs (done ++ [r]) _ (by rw [← e]; simp)
theorem allthr_loop {m n : Nat} {M0 : DHp} {a0 a1 : Option D} {Z : DEnds} {W : DW} (e0 : a0 = some (.int (m : Nat))) (hm : m ≤ 4) (hn : n ≤ 4)
    (q : ∀ d2 M o3 o4 o5, Holds M d2 ((rowsN m n).map nT) → (∀ p, d2 = .ref p → M0 p = none) → Sub M0 M → Z.nx [a0, a1, some d2, o3, o4, o5, none] M) :
    ∀ (ds : List D) (k : Nat) (d2 : D) (M : DHp) (o3 o4 o5 : Option D), k + ds.length = n → Holds M d2 ((rowsN m k).map nT) → (∀ p, d2 = .ref p → M0 p = none) → Sub M0 M →
    dForL (.nm 3) (dSeq (dSet 4 (dLstM (dNil)))
    (dSeq (dFor (dSeqI (dVar 2)) (.nm 5) (dDrop (dMt rExtD isLst (dVar 4) (dCons (dLc (dRng2 (dCons (dC (.int 1)) (dCons (dOp rAddD (dVar 0) (dC (.int 2))) (dNil)))) (.nm 6) (dYes) (dOp rAddD (dVar 5) (dTup (dCons (dVar 6) (dNil)))) [6]) (dNil)))))
    (dSet 2 (dVar 4)))) Z W (fun _ => True) ds [a0, a1, some d2, o3, o4, o5, none] M
  | [], k, d2, M, o3, o4, o5, hk, hd, h0, s => by
    obtain rfl : k = n := by simpa using hk
    exact ⟨trivial, q d2 M o3 o4 o5 hd h0 s⟩
  | d :: ds, k, d2, M, o3, o4, o5, hk, hd, h0, s => by
    simp only [List.length_cons] at hk
    refine ⟨trivial, _, rfl, small_line (by simp), fun p hp => ?_⟩
    refine ⟨(rowsN m k).map nT, (hd.upd hp).seq, ?_⟩
    refine allthr_in (k := k) e0 hm hp hd (fun o5 => ?_) (by omega) (rowsN m k) [] o5 rfl
    exact allthr_loop e0 hm hn q ds (k + 1) (.ref p) _ _ _ _ (by omega) (.inr ⟨p, rfl, updD_same⟩) (fun p' e => by cases e; exact s.none hp) (s.trans (Sub.upd hp))
theorem b__law_all_thresholds (K : PySem.W.Frag) (_ : ErrK K) : Body 7 2 (p__law_all_thresholds K) (t__law_all_thresholds K) := by
  rintro ds M Q E ⟨m, n, rfl, hm, hn, q⟩
  refine ⟨rfl, small_line (by simp), small_line (by simp), by omega, by omega, ?_⟩
  refine allthr_loop (M0 := M) rfl hm hn (fun d2 M' o3 o4 o5 h h0 s => ?_) _ 0 (.lst [.tup []]) M none none none (by simp [rngD]) (.inl rfl) (fun p e => by cases e) (Sub.refl _)
  exact h.back h0 s q
end K32
end

section
set_option Elab.async false
set_option linter.all false
set_option maxRecDepth 100000
set_option maxHeartbeats 400000
namespace K32
open PySem PySem.Spec PyProof.Rows L2 DL
def prs (ws : List Wall) (r : List Nat) : List (Key × D) := (ws.zip r).map fun p => (.inr p.1.name, .int (p.2 : Nat))
theorem prs_keys {ws : List Wall} {r : List Nat} (hr : r.length = ws.length) (hn : (ws.map (·.name)).Nodup) : ((prs ws r).map (·.1)).Nodup := by
  have e : (prs ws r).map (·.1) = (ws.map (·.name)).map (Sum.inr : Str → Key) := by
    unfold prs
    rw [List.map_map, List.map_map]
    have : ws = (ws.zip r).map (·.1) := (List.map_fst_zip (by omega)).symm
    conv => rhs; rw [this]
    rw [List.map_map]
    rfl
  rw [e]
  exact List.Pairwise.map _ (fun a b h z => h (Sum.inr.inj z)) hn
theorem prs_val : ∀ {ws : List Wall} {r : List Nat} {p : Wall × Nat}, (ws.map (·.name)).Nodup → p ∈ ws.zip r → valG (prs ws r) (.inr p.1.name) = some (.int (p.2 : Nat))
  | [], r, p, _, h => by simp at h
  | w :: ws, [], p, _, h => by simp at h
  | w :: ws, x :: r, p, hn, h => by
    rw [List.map_cons, List.nodup_cons] at hn
    show valG ((Sum.inr w.name, D.int (x : Nat)) :: prs ws r) _ = _
    rw [valG_cons]
    rw [List.zip_cons_cons] at h
    rcases List.mem_cons.mp h with rfl | h
    · rw [if_pos rfl]
    · have hne : ¬ (Sum.inr w.name : Key) = .inr p.1.name := fun e => hn.1 (by
        rw [Sum.inr.inj e]
        exact List.mem_map.mpr ⟨p.1, (List.of_mem_zip (a := p.1) (b := p.2) h).1, rfl⟩)
      show (if (Sum.inr w.name : Key) = .inr p.1.name then _ else _) = _
      rw [if_neg hne]
      exact prs_val hn.2 h
theorem zip_at {ws : List Wall} {r : List Nat} (hr : r.length = ws.length) {n : Str} (h : n ∈ ws.map (·.name)) : ∃ p ∈ ws.zip r, p.1.name = n := by
  have e : ws = (ws.zip r).map (·.1) := (List.map_fst_zip (by omega)).symm
  rw [e, List.map_map] at h
  obtain ⟨p, hp, z⟩ := List.mem_map.mp h
  exact ⟨p, hp, z⟩
def valI (ws : List Wall) (r : List Nat) (n : Str) : Int := match valG (prs ws r) (.inr n) with
  | some (.int i) => i
  | _ => 0
theorem valI_at {ws : List Wall} {r : List Nat} {p : Wall × Nat} (hn : (ws.map (·.name)).Nodup) (h : p ∈ ws.zip r) : valI ws r p.1.name = (p.2 : Nat) := by
  unfold valI
  rw [prs_val hn h]
theorem within_eq {ws : List Wall} {r : List Nat} {t : Thing} (hn : (ws.map (·.name)).Nodup) (hr : r.length = ws.length) (hp : ∀ p ∈ t.places, p ∈ ws.map (·.name)) : (t.places.filter fun n => decide ((t.size : Int) < valI ws r n)).isEmpty = inI ws r t := by
  rw [Bool.eq_iff_iff, List.isEmpty_iff, List.filter_eq_nil_iff, inI, List.all_eq_true]
  constructor
  · intro h p hz
    by_cases hin : p.1.name ∈ t.places
    · have := h p.1.name hin
      rw [valI_at hn hz] at this
      have : p.2 ≤ t.size := by
        have := of_decide_eq_false (Bool.eq_false_iff.mpr this)
        omega
      simp [this]
    · simp [hin]
  · intro h n hn2
    obtain ⟨p, hz, rfl⟩ := zip_at hr (hp n hn2)
    have := h p hz
    rw [decide_eq_true hn2, Bool.not_true, Bool.false_or] at this
    have := of_decide_eq_true this
    rw [valI_at hn hz]
    intro hd
    have := of_decide_eq_true hd
    omega
theorem eq_nil (M : DHp) (xs : List D) : eqD M (.lst xs) (.lst []) = xs.isEmpty := by
  cases xs with
  | nil => simp [eqD, frz, D.py, pys, PyData.eqv, PyData.eqvAll]
  | cons x xs => simp [eqD, frz, D.py, pys, PyData.eqv, PyData.eqvAll]
theorem b__law_is_within (K : PySem.W.Frag) (_ : ErrK K) : Body 7 3 (p__law_is_within K) (t__law_is_within K) := by
  rintro ds M Q E ⟨ws, r, t, rfl, hl, hpl, hr, hn, hp, q⟩
  refine ⟨rfl, .inl ⟨_, _, rfl, rfl, fun A hA => ?_⟩⟩
  rw [zipD_map Wall.d (fun (i : Nat) => D.int i)]
  refine lcL_all (α := Wall × Nat) (fun p => .tup [p.1.d, .int (p.2 : Nat)]) (fun p => .tup [.str p.1.name, .int (p.2 : Nat)]) rfl trivial (small_line (by rw [List.length_zip]; omega)) (fun p hp k hk => ⟨_, rfl, _, .str p.1.name, rfl, L2.atI_nat (j := 0) rfl, small_line (by simp), hk⟩) ?_
  rw [delD_upd hA]
  refine ⟨prs ws r, ?_, fun p hpn => ?_⟩
  · show some _ = some _
    rw [prs, List.map_map]; rfl
  refine ⟨_, _, rfl, L2.atI_nat (j := 1) rfl, _, rfl, fun A hA => ?_⟩
  have hpA := (updD_none hA)
  have hval : ∀ n ∈ t.places, valG (mergeG [] (prs ws r)) (.inr n) = some (.int (valI ws r n)) := fun n hin => by
    rw [valG_merge (prs_keys hr hn)]
    obtain ⟨p, hz, rfl⟩ := zip_at hr (hp n hin)
    rw [valI_at hn hz, prs_val hn hz]
    rfl
  refine lcL_flt (α := Str) D.str (fun n => decide ((t.size : Int) < valI ws r n)) (fun _ => .int 1) rfl trivial (small_line (by omega)) (fun n hin k h1 h2 => ?_) ?_
  · exact ⟨_, rfl, _, .int (t.size : Nat), rfl, L2.atI_nat (j := 0) rfl, p, _, .inr n, _, rfl, by rw [updD_ne (fun e => hpA.1 e.symm)]; exact updD_same, rfl, hval n hin, ifb h1 h2⟩
  · rw [delD_upd hA]
    have hni : Nice ((t.places.filter fun n => decide ((t.size : Int) < valI ws r n)).length * 21) 1 (.lst ((t.places.filter fun n => decide ((t.size : Int) < valI ws r n)).map fun _ => D.int 1)) := nice_lst (w := 20) (k := 0) (fun d hd => by obtain ⟨_, _, rfl⟩ := List.mem_map.mp hd; exact nice_int (by decide)) (by simp)
    refine ⟨small_line (by simp), ⟨hni.pure, hni.shaped (by omega)⟩, ⟨rfl, (nice_lst (w := 20) (k := 0) (n := 0) (ds := []) (fun d h => nomatch h) (by simp)).shaped (by omega)⟩, ?_⟩
    show DL.Back M Q (.bl (eqD _ _ _)) _
    rw [eq_nil, List.isEmpty_map, within_eq hn hr hp]
    exact Back.drop hpn q
theorem thr_loop (K : PySem.W.Frag) {m : Nat} {ws : List Wall} {ts : List Thing} {M : DHp} {Z : DEnds} {W : DW} {chk : DHp → Prop} (hc : ∀ M, chk M) (hw : WsOk m ws) (ht : TsOk m ws ts) :
    ∀ (rs : List (List Nat)) (as : List Int) (o3 o4 : Option D), (∀ r ∈ rs, RowOk m ws r) → as.length + 13 * rs.length ≤ 3000 →
    (rs.any (lackT ws ts) = true → Z.rt .non M) →
    (rs.any (lackT ws ts) = false → ∀ o3 o4, Z.nx [some (wsD ws), some (tsD ts), some (iL (as ++ rs.flatMap (hitT ws ts))), o3, o4, none] M) →
    dForL (.nm 3) (dSeq (dSet 4 (dLc (dRng1 (dCons (dCB rLenD (dCons (dVar 1) (dNil))) (dNil))) (.nm 5) (dTru (dCall (p__law_is_within K) (dCons (dVar 0) (dCons (dOp rIxDD (dVar 1) (dVar 5)) (dCons (dVar 3) (dNil)))))) (dVar 5) [5]))
    (dSeq (dIfS (dB (dOp rGtD (dCB rLenD (dCons (dVar 4) (dNil))) (dCall (p__law_beyond K) (dCons (dVar 0) (dCons (dVar 3) (dNil)))))) (dRet (dC .non)) (dNext))
    (dSet 2 (dOp rAddD (dVar 2) (dIfE (dB (dOp rEqq (dCB rLenD (dCons (dVar 4) (dNil))) (dCall (p__law_beyond K) (dCons (dVar 0) (dCons (dVar 3) (dNil)))))) (dVar 4) (dLst (dNil))))))) Z W chk (rs.map nT) [some (wsD ws), some (tsD ts), some (iL as), o3, o4, none] M
  | [], as, o3, o4, _, _, _, q => by
    refine ⟨hc _, ?_⟩
    have := q rfl o3 o4
    rw [List.flatMap_nil, List.append_nil] at this
    exact this
  | r :: rs, as, o3, o4, hr, hl, qn, q => by
    have hr0 := hr r List.mem_cons_self
    have hw3 := hw.w3
    have htf := ht.few
    simp only [List.length_cons] at hl
    rw [List.any_cons] at qn q
    rw [List.flatMap_cons] at q
    refine ⟨hc _, _, rfl, _, rfl, ?_⟩
    rw [List.length_map]
    refine ⟨by omega, by omega, fun A hA => ?_⟩
    refine lcL_flt (α := Nat) (fun i => .int (0 + (i : Nat))) (fun i => inI ws r (ts.getD i default)) (fun i => .int (0 + (i : Nat))) (xs := List.range ts.length) (by show rngD _ _ = _; rfl) trivial (small_line (by simp; omega)) (fun i hi k h1 h2 => ?_) ?_
    · have hi := List.mem_range.mp hi
      have hg : ts.getD i default ∈ ts := by
        rw [List.getD_eq_getElem?_getD, List.getElem?_eq_getElem hi]
        exact List.getElem_mem hi
      have hpl := ht.pl _ hg
      refine ⟨_, rfl, _, (ts.getD i default).d, rfl, ?_, ws, r, ts.getD i default, rfl, by omega, by omega, hr0.1, hw.nd, hpl.2, ifb h1 h2⟩
      rw [Int.zero_add]
      exact atI_map (by rw [List.getD_eq_getElem?_getD, List.getElem?_eq_getElem hi]; rfl)
    · rw [delD_upd hA, show ((List.range ts.length).filter fun i => inI ws r (ts.getD i default)).map (fun i => D.int (0 + (i : Nat))) = (inside ws r ts).map (fun (i : Nat) => D.int i) by
        simp only [Int.zero_add]; rfl]
      refine ⟨_, rfl, m, ws, r, rfl, hw, hr0, ?_⟩
      rw [List.length_map]
      refine ifb (fun h => ?_) (fun h => ?_)
      · have hlk : lackT ws ts r = true := h
        exact qn (by rw [hlk]; rfl)
      · have hlk : lackT ws ts r = false := h
        rw [hlk, Bool.false_or] at qn q
        have hln := hitT_len ws ts r
        refine ⟨_, rfl, m, ws, r, rfl, hw, hr0, ?_⟩
        rw [List.length_map]
        refine ifb (fun h2 => ?_) (fun h2 => ?_)
        · have e : hitT ws ts r = (inside ws r ts).map Int.ofNat := by
            unfold hitT
            rw [if_pos (of_decide_eq_true h2)]
          have hin := inside_len ws r ts
          refine ⟨as.map D.int, (inside ws r ts).map (fun (i : Nat) => D.int i), rfl, rfl, small_line (by simp; omega), ?_⟩
          have e2 : as.map D.int ++ (inside ws r ts).map (fun (i : Nat) => D.int i) = (as ++ hitT ws ts r).map D.int := by
            rw [e, List.map_append, List.map_map]; rfl
          rw [e2]
          refine thr_loop K hc hw ht rs (as ++ hitT ws ts r) _ _ (fun r hr2 => hr r (List.mem_cons_of_mem _ hr2)) (by rw [List.length_append]; omega) qn ?_
          rw [List.append_assoc]; exact q
        · have e : hitT ws ts r = [] := by
            unfold hitT
            rw [if_neg (of_decide_eq_false h2)]
          rw [e, List.nil_append] at q
          refine ⟨small_line (by simp), as.map D.int, [], rfl, rfl, small_line (by simp; omega), ?_⟩
          rw [List.append_nil]
          exact thr_loop K hc hw ht rs as _ _ (fun r hr2 => hr r (List.mem_cons_of_mem _ hr2)) (by omega) qn q
theorem b__law_tight_by_thresholds (K : PySem.W.Frag) (_ : ErrK K) : Body 6 2 (p__law_tight_by_thresholds K) (t__law_tight_by_thresholds K) := by
  rintro ds M Q E ⟨m, ws, ts, rfl, hw, ht, q⟩
  obtain ⟨w, r, hwr, hm⟩ := wall0 hw
  have hm3 := hw.m3
  have hw3 := hw.w3
  refine ⟨rfl, small_line (by simp), _, w.d, rfl, by rw [hwr]; exact L2.atI_nat (j := 0) rfl, _, iT w.counts, rfl, L2.atI_nat (j := 1) rfl, _, rfl, _, rfl, m, ws.length, by rw [List.length_map, List.length_map, hm], by omega, by omega, ?_⟩
  refine ⟨_, rfl, ?_⟩
  refine thr_loop K (as := []) (fun _ => trivial) hw ht (rowsN m ws.length) none none rows_ok (by have := rows_few hw; simp; omega) (fun h => ?_) (fun h o3 o4 => ?_)
  · rw [tightT_eq, if_pos h] at q
    exact Back.same q
  · rw [tightT_eq, if_neg (by rw [h]; simp)] at q
    rw [List.nil_append]
    have h1 := flat_small hw ht
    have h2 := uniq_lt (flat_lt (ws := ws) (ts := ts) (rs := rowsN m ws.length))
    have h13 := ht.few
    exact ⟨_, rfl, by omega, by omega, _, rfl, .inl (Back.same q)⟩
end K32
end

section
set_option Elab.async false
set_option linter.all false
set_option maxRecDepth 100000
set_option maxHeartbeats 400000
namespace K32
open PySem PySem.Spec PyProof.Rows L2 DL
theorem eqq_def {x y : D} {M : DHp} {Q : DVK} (hs : isScalar y = false) (h1 : EqOk M x) (h2 : EqOk M y) (h : Q (.bl (eqD M x y)) M) : rEqq x y M Q := by
  cases y <;> cases x <;> first | exact ⟨h1, h2, h⟩ | cases hs
theorem b__law_alike (K : PySem.W.Frag) (_ : ErrK K) : Body 2 2 (p__law_alike K) (t__law_alike K) := by
  rintro ds M Q E ⟨d, e, rfl, hf, hn, hnr, hns, q⟩
  have rd : (frz M d).pure = true ∧ (frz M d).py.showable = true ∧ (frz M d).py.hasDict = false ∧ (frz M d).py.depth ≤ 60 ∧ (frz M d).py.shown.length ≤ sizeLine := by
    rw [hf]
    exact ⟨hn.pure, hn.show_, hn.noDict, Nat.le_trans hn.depth (by omega), hn.fits (by omega)⟩
  refine ⟨rfl, rd.1, rd.2.1, rd.2.2.1, rd.2.2.2.1, rd.2.2.2.2, hn.pure, hn.show_, hn.noDict, Nat.le_trans hn.depth (by omega), hn.fits (by omega), ?_⟩
  rw [hf]
  refine (show ∀ (b : Bool) (P R : Prop), b = true → P → (if (if false = true then !b else b) = true then P else R) from fun b P R hb hp => by subst hb; exact hp) _ _ _ (decide_eq_true rfl) ?_
  have ee : eqD M d e = true := by
    unfold eqD
    rw [hf]
    exact eqv_self _ hn.noDict
  have o2 : EqOk M e := ⟨hn.pure, hn.shaped (by omega)⟩
  have o1 : EqOk M d := by unfold EqOk; rw [hf]; exact o2
  refine eqq_def hns o1 o2 ?_
  rw [ee]
  exact Back.same q
theorem b__law_heard (K : PySem.W.Frag) (hx : ErrK K) : HOk__law_heard K := by
  rintro act M Q f c q vs xs ⟨R, S, hact, hR, hS⟩
  refine ⟨rfl, rfl, rfl, rfl, rfl, hact _ _ (fun d M' hd => ?_) (fun c gs M' hs => ?_)⟩
  · exact ⟨small_line (by simp), hR d M' hd⟩
  · rcases hS c gs M' hs with ⟨rfl, d, rfl, hq⟩ | ⟨rfl, a, b, rfl, hq⟩
    · refine ⟨true, hx.exR, fun _ a d hd => ?_, fun h => nomatch h⟩
      refine ⟨rfl, rfl, _, true, rfl, hx.ecR, hx.kRR, ?_⟩
      exact ⟨rfl, rfl, rfl, hd (by simp), _, rfl, small_line (by simp), hq⟩
    · refine ⟨true, hx.exT, fun _ a d hd => ?_, fun h => nomatch h⟩
      refine ⟨rfl, rfl, _, false, rfl, hx.ecT, hx.kTR, ?_⟩
      refine ⟨rfl, rfl, _, true, rfl, hx.ecT, hx.kTT, ?_⟩
      exact ⟨rfl, rfl, rfl, hd (by simp), _, rfl, rfl, rfl, rfl, hd (by simp), _, rfl, small_line (by simp), hq⟩
end K32
end

section
set_option Elab.async false
set_option linter.all false
set_option maxRecDepth 100000
set_option maxHeartbeats 400000
namespace K32
open PySem PySem.Spec PyProof.Rows L2 DL
theorem lcL_drawnP {p : Pat} {tt : DTT} {te : DTE} {δ0 : DSt} {Q : List D → DHp → Prop} {chk : DHp → Prop} {B A : Addr} {M : DHp} (hBA : A ≠ B) (R : D → D → Prop) (hchk : ∀ b : Bag, chk (updD (updD M B b.o) A .busy)) : ∀ (ds acc : List D) (b : Bag), b.ok → acc.length + ds.length ≤ sizeLine →
    (∀ d ∈ ds, ∀ (b : Bag) (k : Option D → DHp → Prop), b.ok → (∀ (b' : Bag) (y : D), b'.ok → R d y → k (some y) (updD (updD M B b'.o) A .busy)) → dLcT p tt te δ0 k d (updD (updD M B b.o) A .busy)) →
    (∀ (b' : Bag) (ys : List D), b'.ok → Paired R ds ys → Q (acc ++ ys) (updD (updD M B b'.o) A .busy)) → dLcL p tt te δ0 Q chk ds acc (updD (updD M B b.o) A .busy)
  | [], acc, b, hb, _, _, q => ⟨hchk b, by have := q b [] hb .nil; simpa using this⟩
  | d :: ds, acc, b, hb, hl, he, q => by
    rw [List.length_cons] at hl
    refine ⟨hchk b, by omega, he d List.mem_cons_self b _ hb fun b' y hb' hy => ?_⟩
    refine lcL_drawnP hBA R hchk ds (acc ++ [y]) b' hb' (by rw [List.length_append, List.length_singleton]; omega) (fun d hd => he d (List.mem_cons_of_mem _ hd)) fun b2 ys h2 hr => ?_
    have := q b2 (y :: ys) h2 (.cons hy hr)
    simpa using this
def WallR (m : Nat) (d y : D) : Prop := ∃ w : Wall, d = .str w.name ∧ y = w.d ∧ w.counts.length = m ∧ (∀ c ∈ w.counts, 0 ≤ c ∧ c ≤ 2) ∧ 0 ≤ w.jams ∧ w.jams ≤ 2
theorem walls_of {m : Nat} : ∀ {ns : List Str} {ys : List D}, Paired (WallR m) (ns.map D.str) ys → ∃ ws : List Wall, ys = ws.map Wall.d ∧ ws.map (·.name) = ns ∧ ∀ w ∈ ws, w.counts.length = m ∧ (∀ c ∈ w.counts, 0 ≤ c ∧ c ≤ 2) ∧ 0 ≤ w.jams ∧ w.jams ≤ 2
  | [], ys, h => by cases h; exact ⟨[], rfl, rfl, fun w h => nomatch h⟩
  | n :: ns, ys, h => by
    cases h with
    | cons h1 h2 =>
      obtain ⟨w, e1, rfl, h3⟩ := h1
      obtain ⟨ws, rfl, rfl, h4⟩ := walls_of h2
      refine ⟨w :: ws, rfl, ?_, fun v hv => ?_⟩
      · rw [List.map_cons]
        cases e1
        rfl
      · rcases List.mem_cons.mp hv with rfl | hv
        · exact h3
        · exact h4 v hv
theorem b__law_drawn_walls (K : PySem.W.Frag) (_ : ErrK K) : Body 6 4 (p__law_drawn_walls K) (t__law_drawn_walls K) := by
  rintro ds M Q E ⟨B, m, n, rfl, ⟨b, hb, hB⟩, hm1, hm3, hn1, hn3, q⟩
  have hB' : ∃ o, M B = some o ∧ o ≠ .busy := ⟨_, hB, bag_nb b⟩
  refine ⟨rfl, B, n, rfl, ⟨b, hb, hB⟩, by omega, fun b d hb hd => ?_⟩
  obtain ⟨ns, hnl, hnd, hnm, rfl⟩ := hd
  refine ⟨_, rfl, fun A hA => ?_⟩
  have hAB := (updD_none hA).1
  have hA0 := (updD_none hA).2
  refine lcL_drawnP hAB (WallR m) (fun _ => trivial) _ [] b hb (small_line (by simp; omega)) (fun d hd b k hb hk => ?_) (fun b ys hb hr => ?_)
  · obtain ⟨nm, hnm2, rfl⟩ := List.mem_map.mp hd
    refine ⟨_, rfl, B, m, 2, rfl, ⟨b, hb, by rw [updD_ne (Ne.symm hAB), updD_same]⟩, hm1, by omega, by omega, by omega, fun b1 d1 hb1 hd1 => ?_⟩
    obtain ⟨cs, hcl, hcs, rfl⟩ := hd1
    rw [updD_swap hAB]
    refine ⟨small_line (by simp), B, _, rfl, ⟨b1, hb1, by rw [updD_ne (Ne.symm hAB), updD_same]⟩, by simp, by simp, fun b2 d2 hb2 hd2 => ?_⟩
    rw [updD_swap hAB]
    have hk' : ∃ k : Nat, k ≤ 2 ∧ d2 = .int k := by
      simp only [List.mem_cons, List.not_mem_nil, or_false] at hd2
      rcases hd2 with rfl | rfl | rfl | rfl
      · exact ⟨0, by omega, rfl⟩
      · exact ⟨1, by omega, rfl⟩
      · exact ⟨0, by omega, rfl⟩
      · exact ⟨2, by omega, rfl⟩
    obtain ⟨kk, hkk, rfl⟩ := hk'
    refine ⟨small_line (by simp), hk b2 _ hb2 ⟨⟨nm, cs, kk⟩, rfl, rfl, hcl, fun c hc => hcs c hc, Int.natCast_nonneg _, by show (kk : Int) ≤ 2; omega⟩⟩
  · rw [List.nil_append]
    obtain ⟨ws, rfl, e, hws⟩ := walls_of hr
    rw [delD_upd (by rw [updD_ne hAB]; exact hA0)]
    refine ⟨_, rfl, .inl ?_⟩
    have hl : ws.length = n := by rw [← hnl, ← e, List.length_map]
    exact Drawn.back hB' q hb ⟨ws, ⟨hm1, hm3, by omega, by omega, by rw [e]; exact hnd, fun w hw => by
      obtain ⟨h1, h2, h3, h4⟩ := hws w hw
      exact ⟨h1, h2, h3, h4, hnm _ (by rw [← e]; exact List.mem_map.mpr ⟨w, hw, rfl⟩)⟩⟩, rfl⟩
def ThR (m : Nat) (ns : List Str) (y : D) : Prop := ∃ t : Thing, y = t.d ∧ 1 ≤ t.size ∧ t.size ≤ m ∧ t.places.length ≤ 10 ∧ ∀ p ∈ t.places, p ∈ ns
theorem things_of {m : Nat} {ns : List Str} : ∀ {ys : List D}, (∀ y ∈ ys, ThR m ns y) → ∃ ts : List Thing, ys = ts.map Thing.d ∧ ∀ t ∈ ts, 1 ≤ t.size ∧ t.size ≤ m ∧ t.places.length ≤ 10 ∧ ∀ p ∈ t.places, p ∈ ns
  | [], _ => ⟨[], rfl, fun t h => nomatch h⟩
  | y :: ys, h => by
    obtain ⟨t, rfl, h1⟩ := h y List.mem_cons_self
    obtain ⟨ts, rfl, h2⟩ := things_of fun z hz => h z (List.mem_cons_of_mem _ hz)
    refine ⟨t :: ts, rfl, fun u hu => ?_⟩
    rcases List.mem_cons.mp hu with rfl | hu
    · exact h1
    · exact h2 u hu
theorem b__law_drawn_things (K : PySem.W.Frag) (_ : ErrK K) : Body 7 4 (p__law_drawn_things K) (t__law_drawn_things K) := by
  rintro ds M Q E ⟨B, m, ws, k, rfl, ⟨b, hb, hB⟩, hw, hk7, q⟩
  have hB' : ∃ o, M B = some o ∧ o ≠ .busy := ⟨_, hB, bag_nb b⟩
  have hw1 := hw.w1
  have hw3 := hw.w3
  have hm1 := hw.m1
  have hm3 := hw.m3
  refine ⟨rfl, _, rfl, fun A hA => ?_⟩
  refine lcL_all (α := Wall) Wall.d (fun w => .str w.name) rfl trivial (small_line (by omega)) (fun w _ k hk => ⟨_, rfl, _, _, rfl, rfl, hk⟩) ?_
  rw [delD_upd hA]
  refine ⟨B, k + 1, rfl, ⟨b, hb, hB⟩, by omega, by omega, fun b d hb hd => ?_⟩
  obtain ⟨v, hv, rfl⟩ := hd
  refine ⟨by omega, by omega, fun A hA => ?_⟩
  have hAB := (updD_none hA).1
  have hA0 := (updD_none hA).2
  refine lcL_drawn hAB (ThR m (ws.map (·.name))) (fun _ => trivial) _ [] b hb (small_line (by simp [rngD]; omega)) (fun d hd b k hb hk => ?_) (fun b ys hb hl hr => ?_)
  · refine ⟨_, rfl, B, m, rfl, ⟨b, hb, by rw [updD_ne (Ne.symm hAB), updD_same]⟩, by omega, by omega, fun b1 d1 hb1 hd1 => ?_⟩
    obtain ⟨v1, hv1, rfl⟩ := hd1
    rw [updD_swap hAB]
    refine ⟨B, ws.map (·.name), by rw [List.map_map]; rfl, ⟨b1, hb1, by rw [updD_ne (Ne.symm hAB), updD_same]⟩, fun e => by rw [List.map_eq_nil_iff] at e; rw [e] at hw1; simp at hw1, by rw [List.length_map]; omega, fun x hx => ?_, fun b2 d2 hb2 hd2 => ?_⟩
    · obtain ⟨w, hw2, rfl⟩ := List.mem_map.mp hx
      exact (hw.wl w hw2).2.2.2.2
    · obtain ⟨ys, hyl, hym, rfl⟩ := hd2
      rw [updD_swap hAB]
      refine ⟨small_line (by simp), hk b2 _ hb2 ⟨⟨v1 + 1, ys⟩, ?_, by show 1 ≤ v1 + 1; omega, by show v1 + 1 ≤ m; omega, by rw [List.length_map] at hyl; show ys.length ≤ 10; omega, hym⟩⟩
      simp [Thing.d, Int.add_comm]
  · rw [List.nil_append]
    obtain ⟨ts, rfl, hts⟩ := things_of hr
    rw [delD_upd (by rw [updD_ne hAB]; exact hA0)]
    refine ⟨_, rfl, .inl ?_⟩
    have hl2 : ts.length = v := by rw [List.length_map] at hl; rw [hl]; simp [rngD]
    exact Drawn.back hB' q hb ⟨ts, ⟨by omega, fun t ht => ⟨(hts t ht).1, (hts t ht).2.1⟩, fun t ht => (hts t ht).2.2⟩, by omega, rfl⟩
end K32
end

section
set_option Elab.async false
set_option linter.all false
set_option maxRecDepth 100000
set_option maxHeartbeats 400000
namespace K32
open PySem PySem.Spec PyProof.Rows L2 DL
theorem nodup_sub : ∀ {S T : List Nat}, S.Nodup → (∀ x ∈ S, x ∈ T) → S.length ≤ T.length
  | [], T, _, _ => Nat.zero_le _
  | x :: S, T, hn, h => by
    obtain ⟨h1, h2⟩ := List.nodup_cons.mp hn
    have hx := h x List.mem_cons_self
    have := nodup_sub (S := S) (T := T.erase x) h2 fun y hy => (List.mem_erase_of_ne (fun (e : y = x) => h1 (by rw [← e]; exact hy))).mpr (h y (List.mem_cons_of_mem _ hy))
    rw [List.length_erase_of_mem hx] at this
    have hp : 0 < T.length := List.length_pos_of_mem hx
    rw [List.length_cons]
    omega
theorem mem_rowsN {m : Nat} : ∀ {n : Nat} {r : List Nat}, r.length = n → (∀ x ∈ r, 1 ≤ x ∧ x ≤ m + 1) → r ∈ rowsN m n
  | 0, r, hl, _ => by
    rw [List.length_eq_zero_iff.mp hl]
    exact List.mem_singleton.mpr rfl
  | n + 1, r, hl, h => by
    have hne : r ≠ [] := fun e => by rw [e] at hl; simp at hl
    rw [← List.dropLast_concat_getLast hne] at h ⊢
    have h1 := mem_rowsN (n := n) (r := r.dropLast) (by rw [List.length_dropLast]; omega) fun x hx => h x (List.mem_append_left _ hx)
    have h2 := h (r.getLast hne) (List.mem_append_right _ List.mem_cons_self)
    exact List.mem_flatMap.mpr ⟨_, h1, List.mem_map.mpr ⟨r.getLast hne - 1, List.mem_range.mpr (by omega), by rw [show r.getLast hne - 1 + 1 = r.getLast hne by omega]⟩⟩
theorem mem_setsN (p : Nat → Bool) : ∀ n, (List.range n).filter p ∈ setsN n
  | 0 => List.mem_singleton.mpr rfl
  | n + 1 => by
    rw [List.range_succ, List.filter_append, List.filter_cons, List.filter_nil]
    unfold setsN
    split
    · exact List.mem_append_right _ (List.mem_map.mpr ⟨_, mem_setsN p n, rfl⟩)
    · rw [List.append_nil]
      exact List.mem_append_left _ (mem_setsN p n)
theorem roomF_eq {w : Wall} (hj : 0 ≤ w.jams) {s : Nat} (h1 : 1 ≤ s) : roomF w s = (if (w.counts.drop (s - 1)).sum - w.jams > 0 then (w.counts.drop (s - 1)).sum - w.jams else 0) := by
  unfold roomF
  by_cases h : s - 1 < w.counts.length
  · rw [List.getD_eq_getElem?_getD, List.getElem?_append_left (by rw [restI_length]; exact h), ← List.getD_eq_getElem?_getD, restI_at h]
  · rw [List.drop_eq_nil_of_le (by omega), List.sum_nil, if_neg (by omega), List.getD_eq_getElem?_getD, List.getElem?_append_right (by rw [restI_length]; omega)]
    cases s - 1 - (restI w.counts w.jams).length with
    | zero => rfl
    | succ k => rfl
theorem drop_sum_le {cs : List Int} (h : ∀ c ∈ cs, 0 ≤ c) : ∀ k, (cs.drop k).sum ≤ cs.sum := by
  intro k
  have e : cs.sum = (cs.take k).sum + (cs.drop k).sum := by
    conv => lhs; rw [← List.take_append_drop k cs]
    rw [List.sum_append]
  have := sum_nonneg (cs := cs.take k) fun c hc => h c (List.mem_of_mem_take hc)
  omega
theorem roomF_anti {w : Wall} (hj : 0 ≤ w.jams) (hc : ∀ c ∈ w.counts, 0 ≤ c) {s t : Nat} (h1 : 1 ≤ s) (h : s ≤ t) : roomF w t ≤ roomF w s := by
  rw [roomF_eq hj h1, roomF_eq hj (by omega)]
  have e : w.counts.drop (t - 1) = (w.counts.drop (s - 1)).drop (t - s) := by rw [List.drop_drop]; congr 1; omega
  have := drop_sum_le (cs := w.counts.drop (s - 1)) (fun c hx => hc c (List.mem_of_mem_drop hx)) (t - s)
  rw [e]
  split <;> split <;> omega
theorem sum_le {α : Type} {f g : α → Int} : ∀ {xs : List α}, (∀ x ∈ xs, f x ≤ g x) → (xs.map f).sum ≤ (xs.map g).sum
  | [], _ => by simp
  | x :: xs, h => by
    rw [List.map_cons, List.map_cons, List.sum_cons, List.sum_cons]
    have := h x List.mem_cons_self
    have := sum_le (f := f) (g := g) fun y hy => h y (List.mem_cons_of_mem _ hy)
    omega
theorem zip_self {α β : Type} (f : α → β) : ∀ xs : List α, xs.zip (xs.map f) = xs.map fun x => (x, f x)
  | [] => rfl
  | x :: xs => by rw [List.map_cons, List.zip_cons_cons, zip_self f xs, List.map_cons]
def thrS (m : Nat) (ws : List Wall) (ts : List Thing) : List Nat := ws.map fun w => thrN m ts w.name
theorem roomOf_thr (m : Nat) (ws : List Wall) (ts : List Thing) : roomOf ws (thrS m ws ts) = roomS m ws ts := by
  unfold roomOf thrS roomS
  rw [zip_self, List.map_map]
  rfl
section
variable {m : Nat} {ws : List Wall} {ts : List Thing}
theorem thr_row (hw : WsOk m ws) {us : List Thing} (h : ∀ t ∈ us, 1 ≤ t.size) : thrS m ws us ∈ rowsN m ws.length :=
  mem_rowsN (by rw [thrS, List.length_map]) fun x hx => by
    obtain ⟨w, _, rfl⟩ := List.mem_map.mp hx
    exact thr_ok h
theorem thr_le {us : List Thing} {t : Thing} {n : Str} (ht : t ∈ us) (hn : n ∈ t.places) : thrN m us n ≤ t.size := by
  obtain ⟨_, _, f3⟩ := foldr_min (m + 1) ((us.filter fun (t : Thing) => decide (n ∈ t.places)).map fun t => t.size)
  exact f3 _ (List.mem_map.mpr ⟨t, List.mem_filter.mpr ⟨ht, decide_eq_true hn⟩, rfl⟩)
theorem in_thr {us : List Thing} {t : Thing} (ht : t ∈ us) : inI ws (thrS m ws us) t = true := by
  unfold inI thrS
  rw [zip_self, List.all_map, List.all_eq_true]
  intro w _
  by_cases h : w.name ∈ t.places
  · have := thr_le (m := m) ht h
    simp [this]
  · simp [h]
theorem get_mem {i : Nat} (h : i < ts.length) : ts.getD i default ∈ ts := by
  rw [List.getD_eq_getElem?_getD, List.getElem?_eq_getElem h]
  exact List.getElem_mem h
theorem pick_sz (ht : TsOk m ws ts) {S : List Nat} (hS : ∀ i ∈ S, i < ts.length) : ∀ t ∈ pickT ts S, 1 ≤ t.size := fun t h => by
  obtain ⟨i, hi, rfl⟩ := List.mem_map.mp h
  exact (ht.sz _ (get_mem (hS i hi))).1
theorem sub_inside {S : List Nat} (hS : ∀ i ∈ S, i < ts.length) : ∀ i ∈ S, i ∈ inside ws (thrS m ws (pickT ts S)) ts := fun i hi =>
  List.mem_filter.mpr ⟨List.mem_range.mpr (hS i hi), in_thr (List.mem_map.mpr ⟨i, hi, rfl⟩)⟩
theorem room_le (hw : WsOk m ws) (ht : TsOk m ws ts) {r : List Nat} (hr : RowOk m ws r) : roomS m ws (pickT ts (inside ws r ts)) ≤ roomOf ws r := by
  unfold roomS roomOf
  have e : ws = (ws.zip r).map (·.1) := (List.map_fst_zip (by rw [hr.1]; exact Nat.le_refl _)).symm
  have e2 : (ws.map fun w => roomF w (thrN m (pickT ts (inside ws r ts)) w.name)) = (ws.zip r).map fun p => roomF p.1 (thrN m (pickT ts (inside ws r ts)) p.1.name) := by
    conv => lhs; rw [e]
    rw [List.map_map]
    have e3 : (ws.zip r).map (·.1) = ws := e.symm
    rw [e3]
    rfl
  rw [e2]
  refine sum_le fun p hp => ?_
  obtain ⟨h1, h2⟩ := List.of_mem_zip (a := p.1) (b := p.2) hp
  obtain ⟨_, hc, hj, _⟩ := hw.wl _ h1
  have hx := hr.2 _ h2
  refine roomF_anti hj (fun c h => (hc c h).1) hx.1 ?_
  obtain ⟨f1, _, _⟩ := foldr_min (m + 1) (((pickT ts (inside ws r ts)).filter fun (t : Thing) => decide (p.1.name ∈ t.places)).map fun t => t.size)
  unfold thrN
  rcases f1 with f1 | f1
  · rw [f1]; exact hx.2
  · obtain ⟨t, ht2, e4⟩ := List.mem_map.mp f1
    rw [← e4]
    obtain ⟨h3, h4⟩ := List.mem_filter.mp ht2
    obtain ⟨i, hi, rfl⟩ := List.mem_map.mp h3
    have h5 := (List.mem_filter.mp hi).2
    unfold inI at h5
    have h6 := List.all_eq_true.mp h5 p hp
    rw [h4, Bool.not_true, Bool.false_or] at h6
    exact of_decide_eq_true h6
theorem usort_ext {a b : List Int} (h : ∀ k, k ∈ a ↔ k ∈ b) : usort a = usort b := by
  unfold usort
  have hp : (uniqI a).Perm (uniqI b) := (List.perm_ext_iff_of_nodup (nodup_uniqI a) (nodup_uniqI b)).mpr fun k => by rw [mem_uniqI, mem_uniqI, h k]
  exact isort_uniq ((isort_perm _).trans hp) (isort_sorted _)
theorem tight_law (hw : WsOk m ws) (ht : TsOk m ws ts) : tightS m ws ts = tightT m ws ts := by
  rw [tightS_eq, tightT_eq]
  have hsub : ∀ S ∈ setsN ts.length, S.length ≤ (inside ws (thrS m ws (pickT ts S)) ts).length ∧ thrS m ws (pickT ts S) ∈ rowsN m ws.length := fun S hS => by
    obtain ⟨_, g2, g3⟩ := setsN_set _ S hS
    exact ⟨nodup_sub g2 (sub_inside g3), thr_row hw (pick_sz ht g3)⟩
  have hany : (setsN ts.length).any (lackS m ws ts) = (rowsN m ws.length).any (lackT ws ts) := by
    rw [Bool.eq_iff_iff, List.any_eq_true, List.any_eq_true]
    constructor
    · rintro ⟨S, hS, h⟩
      have h := of_decide_eq_true h
      obtain ⟨h1, h2⟩ := hsub S hS
      refine ⟨_, h2, decide_eq_true ?_⟩
      rw [roomOf_thr]
      omega
    · rintro ⟨r, hr, h⟩
      have h := of_decide_eq_true h
      have h1 := room_le hw ht (rows_ok r hr)
      refine ⟨inside ws r ts, mem_setsN _ _, decide_eq_true ?_⟩
      omega
  rw [hany]
  cases hn : (rowsN m ws.length).any (lackT ws ts) with
  | true => rfl
  | false =>
    rw [if_neg (by simp), if_neg (by simp)]
    have nT : ∀ r ∈ rowsN m ws.length, ((inside ws r ts).length : Int) ≤ roomOf ws r := fun r hr => by
      have h := List.any_eq_false.mp hn r hr
      have h : ¬ roomOf ws r < ((inside ws r ts).length : Int) := fun z => h (decide_eq_true z)
      omega
    have nS : ∀ S ∈ setsN ts.length, (S.length : Int) ≤ roomS m ws (pickT ts S) := fun S hS => by
      rw [hn] at hany
      have h := List.any_eq_false.mp hany S hS
      have h : ¬ roomS m ws (pickT ts S) < (S.length : Int) := fun z => h (decide_eq_true z)
      omega
    congr 1
    refine usort_ext fun k => ?_
    rw [List.mem_flatMap, List.mem_flatMap]
    constructor
    · rintro ⟨S, hS, h⟩
      unfold hitS at h
      split at h
      · rename_i he
        obtain ⟨h1, h2⟩ := hsub S hS
        have h3 := nT _ h2
        rw [roomOf_thr] at h3
        refine ⟨_, h2, ?_⟩
        unfold hitT
        rw [roomOf_thr, if_pos (by omega)]
        obtain ⟨i, hi, rfl⟩ := List.mem_map.mp h
        exact List.mem_map.mpr ⟨i, sub_inside (setsN_set _ S hS).2.2 i hi, rfl⟩
      · cases h
    · rintro ⟨r, hr, h⟩
      unfold hitT at h
      split at h
      · rename_i he
        have hI : inside ws r ts ∈ setsN ts.length := mem_setsN _ _
        have h1 := nS _ hI
        have h2 := room_le hw ht (rows_ok r hr)
        refine ⟨_, hI, ?_⟩
        unfold hitS
        rw [if_pos (by omega)]
        exact h
      · cases h
end
end K32
end

section
set_option Elab.async false
set_option linter.all false
set_option maxRecDepth 100000
set_option maxHeartbeats 400000
namespace K32
open PySem PySem.Spec PyProof.Rows L2 DL
def resT : Option (List Int) → D
  | none => .tup [.str "refused", .str "barred"]
  | some t => .tup [.str "told", iT t]
theorem heard_t {K : PySem.W.Frag} {N : DHp} {m : Nat} {ws : List Wall} {ts : List Thing} (hw : WsOk m ws) (ht : TsOk m ws ts) (h12 : ts.length ≤ 12) {act : DAct} (ha : ∀ Qa Ea, p_tight K [wsD ws, tsD ts] N Qa Ea → act N Qa Ea) {Q : DVK} (q : Q (resT (tightT m ws ts)) N) : h__law_heard K act N Q := by
  refine ⟨fun d M' => M' = N ∧ ∃ t, tightT m ws ts = some t ∧ d = iT t, fun c gs M' => M' = N ∧ tightT m ws ts = none ∧ c = .ref (He.ga K "Refused") ∧ gs = [(("why" : Str), D.str "barred")], fun Qa Ea hq he => ha _ _ ⟨m, ws, ts, rfl, hw, ht, fun h => absurd h (by omega), fun _ => ?_⟩, ?_, ?_⟩
  · cases z : tightT m ws ts with
    | none => exact he _ _ _ ⟨rfl, z, rfl, rfl⟩
    | some t => exact hq _ _ ⟨rfl, t, z, rfl⟩
  · rintro d M' ⟨rfl, t, z, rfl⟩
    rw [z] at q
    exact Back.same q
  · rintro c gs M' ⟨rfl, z, rfl, rfl⟩
    rw [z] at q
    exact .inl ⟨rfl, _, rfl, Back.same q⟩
theorem heard_m {K : PySem.W.Frag} {N : DHp} {m : Nat} {ws : List Wall} {ts : List Thing} (hw : WsOk m ws) (ht : TsOk m ws ts) (h12 : 12 < ts.length) {act : DAct} (ha : ∀ Qa Ea, p_tight K [wsD ws, tsD ts] N Qa Ea → act N Qa Ea) {Q : DVK} (q : Q (.tup [.str "many", .str "things", .int 12]) N) : h__law_heard K act N Q := by
  refine ⟨fun d M' => False, fun c gs M' => M' = N ∧ c = .ref (He.ga K "TooMany") ∧ gs = [(("limit" : Str), D.int 12), (("what" : Str), D.str "things")], fun Qa Ea hq he => ha _ _ ⟨m, ws, ts, rfl, hw, ht, fun _ => he _ _ _ ⟨rfl, rfl, rfl⟩, fun h => absurd h12 (by omega)⟩, fun _ _ h => h.elim, ?_⟩
  rintro c gs M' ⟨rfl, rfl, rfl⟩
  exact .inr ⟨rfl, _, _, rfl, Back.same q⟩
/-! ### small data -/
theorem name_nice : ∀ x ∈ someNames, Nice 20 0 (.str x) := fun x hx => nice_str ((show ∀ x ∈ someNames, ((x.cps.toList.all fun c => decide (c < 16 ^ 8)) && (PyData.canLay0 (.str x) && decide (x.cps.size ≤ 20))) = true by decide +kernel) x hx)
theorem wall_nice {m : Nat} {ws : List Wall} (hw : WsOk m ws) : ∀ w ∈ ws, Nice 192 2 w.d := fun w h => by
  obtain ⟨h1, h2, h3, h4, h5⟩ := hw.wl w h
  have n1 := name_nice _ h5
  have n2 := nice_ints (ns := w.counts) (n := 3) (fun i hi => by have := h2 i hi; omega) (by have := hw.m3; omega)
  have n3 := nice_int (i := w.jams) (by omega)
  exact (nice_tup (w := 63) (k := 1) (n := 3) (fun d hd => by
    simp only [List.mem_cons, List.not_mem_nil, or_false] at hd
    rcases hd with rfl | rfl | rfl
    · exact n1.mono (by omega) (by omega)
    · exact n2.mono (by omega) (by omega)
    · exact n3.mono (by omega) (by omega)) (by simp)).mono (by omega) (by omega)
theorem thing_nice {m : Nat} {ws : List Wall} {ts : List Thing} (hw : WsOk m ws) (ht : TsOk m ws ts) : ∀ t ∈ ts, Nice 500 2 t.d := fun t h => by
  have h1 := ht.sz t h
  have h2 := ht.pl t h
  have hm := hw.m3
  have n1 := nice_int (i := (t.size : Nat)) (by omega)
  have n2 := nice_tup (w := 20) (k := 0) (n := 10) (ds := t.places.map D.str) (fun d hd => by
    obtain ⟨p, hp, rfl⟩ := List.mem_map.mp hd
    obtain ⟨w, hw2, rfl⟩ := List.mem_map.mp (h2.2 p hp)
    exact name_nice _ (hw.wl w hw2).2.2.2.2) (by rw [List.length_map]; exact h2.1)
  exact (nice_pair (w := 210) (k := 1) (n1.mono (by omega) (by omega)) (n2.mono (by omega) (by omega))).mono (by omega) (by omega)
theorem both_nice {m : Nat} {ws : List Wall} {ts : List Thing} (hw : WsOk m ws) (ht : TsOk m ws ts) : Nice 20000 4 (.tup [wsD ws, tsD ts]) := by
  have n1 := nice_tup (w := 192) (k := 2) (n := 3) (ds := ws.map Wall.d) (fun d hd => by
    obtain ⟨w, hw2, rfl⟩ := List.mem_map.mp hd
    exact wall_nice hw w hw2) (by rw [List.length_map]; exact hw.w3)
  have n2 := nice_tup (w := 500) (k := 2) (n := 13) (ds := ts.map Thing.d) (fun d hd => by
    obtain ⟨t, ht2, rfl⟩ := List.mem_map.mp hd
    exact thing_nice hw ht t ht2) (by rw [List.length_map]; exact ht.few)
  exact (nice_pair (w := 7000) (k := 3) (n1.mono (by omega) (by omega)) (n2.mono (by omega) (by omega))).mono (by omega) (by omega)
theorem tight_small {m : Nat} {ws : List Wall} {ts : List Thing} (ht : TsOk m ws ts) {t : List Int} (h : tightT m ws ts = some t) : Nice 300 1 (iT t) := by
  rw [tightT_eq] at h
  split at h
  · cases h
  · obtain rfl := Option.some.inj h
    have h13 := ht.few
    refine (nice_ints (n := 13) (fun i hi => ?_) ?_).mono (by omega) (by omega)
    · have := flat_lt i (mem_usort.mp hi)
      omega
    · rw [usort_length]
      have := uniq_lt (flat_lt (ws := ws) (ts := ts) (rs := rowsN m ws.length))
      omega
theorem resT_nice {m : Nat} {ws : List Wall} {ts : List Thing} (ht : TsOk m ws ts) : Nice 1000000 50 (resT (tightT m ws ts)) := by
  have n1 : Nice 20 0 (.str "refused") := nice_str (by decide +kernel)
  have n2 : Nice 20 0 (.str "barred") := nice_str (by decide +kernel)
  have n3 : Nice 20 0 (.str "told") := nice_str (by decide +kernel)
  cases z : tightT m ws ts with
  | none => exact (nice_pair n1 n2).mono (by omega) (by omega)
  | some t => exact (nice_pair (w := 300) (k := 1) (n3.mono (by omega) (by omega)) (tight_small ht z)).mono (by omega) (by omega)
theorem opt_nice {m : Nat} {ws : List Wall} {ts : List Thing} (ht : TsOk m ws ts) : Nice 300 1 (optI (tightT m ws ts)) := by
  cases z : tightT m ws ts with
  | none => exact nice_non.mono (by omega) (by omega)
  | some t => exact tight_small ht z
theorem frz_res {N : DHp} (o : Option (List Int)) : frz N (resT o) = resT o := by cases o <;> rfl
theorem frz_opt {N : DHp} (o : Option (List Int)) : frz N (optI o) = optI o := by cases o <;> rfl
theorem res_ne (o : Option (List Int)) : (∀ p, resT o ≠ .ref p) ∧ isScalar (resT o) = false := by cases o <;> exact ⟨fun p h => (nomatch h), rfl⟩
theorem ne_def {o : Option (List Int)} {M : DHp} {Q : DVK} (h1 : EqOk M (optI o)) (h : Q (.bl (!eqD M (optI o) (optI o))) M) : rNee (optI o) (optI o) M Q := by
  cases o <;> exact ⟨h1, h1, h⟩
theorem opt_res {o : Option (List Int)} {M : DHp} {a0 a1 a2 a3 a4 a5 a6 a7 a8 a10 a11 a12 a13 : Option D} {Q : DVK} {W : DW} (q : Q (resT o) M) : (dIfE (dB (dOp (rIsD false) (dVar 9) (dC .non))) (dTup (dCons (dC (.str "refused")) (dCons (dC (.str "barred")) (dNil)))) (dTup (dCons (dC (.str "told")) (dCons (dVar 9) (dNil))))) [a0, a1, a2, a3, a4, a5, a6, a7, a8, some (optI o), a10, a11, a12, a13] M Q W := by
  refine ⟨rfl, ?_⟩
  cases o with
  | none => exact ⟨small_line (by simp), q⟩
  | some t => exact ⟨small_line (by simp), q⟩
/-! ### the law -/
theorem law_w (K : PySem.W.Frag) {m : Nat} {ws : List Wall} {N : DHp} {a0 a1 a2 a3 a4 a5 a9 a10 a11 a12 a13 : Option D} {Z : DEnds} {W : DW} {chk : DHp → Prop} (hc : ∀ N, chk N) (hw : WsOk m ws) (q : ∀ o6 o7 o8, Z.nx [a0, a1, a2, a3, a4, a5, o6, o7, o8, a9, a10, a11, a12, a13] N) : ∀ (vs : List Wall) (o6 o7 o8 : Option D), (∀ v ∈ vs, v ∈ ws) →
    dForL (.tp [.nm 6, .nm 7, .nm 8]) (dIfS (dNot (dTru (dCall (p__law_alike K) (dCons (dCall (p_rest_tails K) (dCons (dVar 7) (dCons (dVar 8) (dNil)))) (dCons (dCall (p__law_rooms K) (dCons (dVar 7) (dCons (dVar 8) (dNil)))) (dNil)))))) (dRet (dC (.bl false))) (dNext)) Z W chk (vs.map Wall.d) [a0, a1, a2, a3, a4, a5, o6, o7, o8, a9, a10, a11, a12, a13] N
  | [], o6, o7, o8, _ => ⟨hc _, q o6 o7 o8⟩
  | v :: vs, o6, o7, o8, hv => by
    obtain ⟨h1, h2, h3, h4, h5⟩ := hw.wl v (hv v List.mem_cons_self)
    have hm3 := hw.m3
    refine ⟨hc _, _, rfl, v.counts, v.jams, rfl, by omega, v.counts, v.jams, rfl, by omega, iT (restI v.counts v.jams), iT (restI v.counts v.jams), rfl, rfl, ?_, fun p h => (nomatch h), rfl, ?_⟩
    · refine (nice_ints (n := 3) (fun i hi => ?_) (by rw [restI_length]; omega)).mono (by omega) (by omega)
      obtain ⟨t, ht, rfl⟩ := List.mem_map.mp hi
      obtain ⟨k, _, rfl⟩ := List.mem_map.mp ht
      have hs : ∀ xs : List Int, (∀ c ∈ xs, 0 ≤ c ∧ c ≤ 2) → xs.sum ≤ 2 * (xs.length : Int) := by
        intro xs
        induction xs with
        | nil => intro _; simp
        | cons x xs ih =>
          intro hx
          have g1 := hx x List.mem_cons_self
          have g2 := ih fun c hc => hx c (List.mem_cons_of_mem _ hc)
          rw [List.sum_cons, List.length_cons]
          omega
      have g := hs (v.counts.drop k) fun c hc => h2 c (List.mem_of_mem_drop hc)
      have g2 : (v.counts.drop k).length ≤ 3 := by rw [List.length_drop]; omega
      split <;> omega
    · exact law_w K hc hw q vs _ _ _ fun u hu => hv u (List.mem_cons_of_mem _ hu)
theorem law_at (K : PySem.W.Frag) {P : Addr} {m : Nat} {ws : List Wall} {ts : List Thing} {N : DHp} (hw : WsOk m ws) (ht : TsOk m ws ts) (h12 : ts.length ≤ 12) (htb : TblsOk [(P, "law.<locals>.<lambda>")] N) {a0 a1 a2 a3 a6 a7 a8 a12 a13 : Option D} {Z : DEnds} {W : DW} {chk : DHp → Prop} (hc : ∀ N, chk N) {kept : Str} (hk : (D.tup [wsD ws, tsD ts]).py.shown = kept)
    (q : ∀ o11, Z.nx [a0, a1, a2, a3, some (wsD ws), some (tsD ts), a6, a7, a8, some (resT (tightT m ws ts)), some (.str kept), o11, a12, a13] N) : ∀ (ds : List D) (o11 : Option D),
    dForL (.nm 11) (dIfS (dOr (dNot (dTru (dCall (p__law_alike K) (dCons (dLam [(P, "law.<locals>.<lambda>")] (h__law_heard K) (dCall (p_tight K) (dCons (dVar 4) (dCons (dVar 5) (dNil))))) (dCons (dVar 9) (dNil)))))) (dB (dOp rNee (dCB rReprDD (dCons (dTup (dCons (dVar 4) (dCons (dVar 5) (dNil)))) (dNil))) (dVar 10)))) (dRet (dC (.bl false))) (dNext)) Z W chk ds [a0, a1, a2, a3, some (wsD ws), some (tsD ts), a6, a7, a8, some (resT (tightT m ws ts)), some (.str kept), o11, a12, a13] N
  | [], o11 => ⟨hc _, q o11⟩
  | d :: ds, o11 => by
    refine ⟨hc _, _, rfl, htb, heard_t hw ht h12 (fun _ _ h => h) ?_⟩
    refine ⟨_, _, rfl, rfl, by rw [frz_res]; exact resT_nice ht, (res_ne _).1, (res_ne _).2, ?_⟩
    refine ⟨small_line (by simp), ?_⟩
    have rn := both_nice hw ht
    refine ⟨rn.pure, rn.show_, rn.noDict, Nat.le_trans rn.depth (by omega), rn.fits (by omega), ?_⟩
    rw [show (frz N (D.tup [wsD ws, tsD ts])).py.shown = kept from hk]
    refine (show ∀ (b : Bool) (P R : Prop), b = true → R → (if (if true = true then !b else b) = true then P else R) from fun b P R hb hp => by subst hb; exact hp) _ _ _ (decide_eq_true rfl) ?_
    exact law_at K hw ht h12 htb hc hk q ds _
theorem more_ok {m : Nat} {ws : List Wall} {ts : List Thing} (hw : WsOk m ws) (ht : TsOk m ws ts) {w : Wall} (hm : w ∈ ws) (k : Nat) (hk : k ≤ 13) : TsOk m ws ((ts ++ List.replicate 13 (⟨1, [w.name]⟩ : Thing)).take k) := by
  have hall : ∀ t ∈ (ts ++ List.replicate 13 (⟨1, [w.name]⟩ : Thing)).take k, t ∈ ts ∨ t = (⟨1, [w.name]⟩ : Thing) := fun t h => (List.mem_append.mp (List.mem_of_mem_take h)).imp id fun z => (List.mem_replicate.mp z).2
  refine ⟨by rw [List.length_take]; omega, fun t h => ?_, fun t h => ?_⟩
  · rcases hall t h with h | rfl
    · exact ht.sz t h
    · exact ⟨Nat.le_refl 1, hw.m1⟩
  · rcases hall t h with h | rfl
    · exact ht.pl t h
    · exact ⟨by simp, fun p hp => by rw [List.mem_singleton.mp hp]; exact List.mem_map.mpr ⟨w, hm, rfl⟩⟩
theorem law_tail3 (K : PySem.W.Frag) {P : Addr} {m : Nat} {ws : List Wall} {us : List Thing} {N : DHp} (hw : WsOk m ws) (ok12 : TsOk m ws us) (l12 : us.length ≤ 12) (htb : TblsOk [(P, "law.<locals>.<lambda>")] N) {a0 a1 a2 a3 a5 a6 a7 a8 a9 a10 a11 a12 : Option D} {Z : DEnds} {W : DW}
    (q : ∀ o9, Z.nx [a0, a1, a2, a3, some (wsD ws), a5, a6, a7, a8, o9, a10, a11, a12, some (tsD us)] N) :
    (dSeq (dSet 9 (dCall (p__law_tight_by_thresholds K) (dCons (dVar 4) (dCons (dVar 13) (dNil)))))
    (dSeq (dSet 9 (dIfE (dB (dOp (rIsD false) (dVar 9) (dC .non))) (dTup (dCons (dC (.str "refused")) (dCons (dC (.str "barred")) (dNil)))) (dTup (dCons (dC (.str "told")) (dCons (dVar 9) (dNil))))))
    (dIfS (dNot (dTru (dCall (p__law_alike K) (dCons (dLam [(P, "law.<locals>.<lambda>")] (h__law_heard K) (dCall (p_tight K) (dCons (dVar 4) (dCons (dVar 13) (dNil))))) (dCons (dVar 9) (dNil)))))) (dRet (dC (.bl false))) (dNext)))) Z [a0, a1, a2, a3, some (wsD ws), a5, a6, a7, a8, a9, a10, a11, a12, some (tsD us)] N W := by
  refine ⟨m, ws, us, rfl, hw, ok12, ?_⟩
  refine opt_res ?_
  refine ⟨htb, heard_t hw ok12 l12 (fun _ _ h => h) ?_⟩
  refine ⟨_, _, rfl, rfl, by rw [frz_res]; exact resT_nice ok12, (res_ne _).1, (res_ne _).2, ?_⟩
  exact q _
theorem law_tail2 (K : PySem.W.Frag) {P : Addr} {m : Nat} {ws : List Wall} {us : List Thing} {N : DHp} (hw : WsOk m ws) (ok13 : TsOk m ws us) (l13 : us.length = 13) (htb : TblsOk [(P, "law.<locals>.<lambda>")] N) {a0 a1 a2 a3 a5 a6 a7 a8 a9 a10 a11 a13 : Option D} {Z : DEnds} {W : DW}
    (q : ∀ o9 o13, Z.nx [a0, a1, a2, a3, some (wsD ws), a5, a6, a7, a8, o9, a10, a11, some (tsD us), o13] N) :
    (dSeq (dIfS (dNot (dTru (dCall (p__law_alike K) (dCons (dLam [(P, "law.<locals>.<lambda>")] (h__law_heard K) (dCall (p_tight K) (dCons (dVar 4) (dCons (dVar 12) (dNil))))) (dCons (dTup (dCons (dC (.str "many")) (dCons (dC (.str "things")) (dCons (dC (.int 12)) (dNil))))) (dNil)))))) (dRet (dC (.bl false))) (dNext))
    (dSeq (dSet 13 (dSl (dVar 12) (dNoPart) (dPart (dC (.int 12)))))
    (dSeq (dSet 9 (dCall (p__law_tight_by_thresholds K) (dCons (dVar 4) (dCons (dVar 13) (dNil)))))
    (dSeq (dSet 9 (dIfE (dB (dOp (rIsD false) (dVar 9) (dC .non))) (dTup (dCons (dC (.str "refused")) (dCons (dC (.str "barred")) (dNil)))) (dTup (dCons (dC (.str "told")) (dCons (dVar 9) (dNil))))))
    (dIfS (dNot (dTru (dCall (p__law_alike K) (dCons (dLam [(P, "law.<locals>.<lambda>")] (h__law_heard K) (dCall (p_tight K) (dCons (dVar 4) (dCons (dVar 13) (dNil))))) (dCons (dVar 9) (dNil)))))) (dRet (dC (.bl false))) (dNext)))))) Z [a0, a1, a2, a3, some (wsD ws), a5, a6, a7, a8, a9, a10, a11, some (tsD us), a13] N W := by
  refine ⟨htb, heard_m hw ok13 (by omega) (fun _ _ h => h) ?_⟩
  refine ⟨small_line (by simp), _, _, rfl, rfl, ?_, fun p h => (nomatch h), rfl, ?_⟩
  · have n1 : Nice 20 0 (.str "many") := nice_str (by decide +kernel)
    have n2 : Nice 20 0 (.str "things") := nice_str (by decide +kernel)
    have n3 : Nice 20 0 (.int 12) := nice_int (by decide)
    exact (nice_tup (w := 20) (k := 0) (n := 3) (fun d hd => by
      simp only [List.mem_cons, List.not_mem_nil, or_false] at hd
      rcases hd with rfl | rfl | rfl
      · exact n1
      · exact n2
      · exact n3) (by simp)).mono (by omega) (by omega)
  have ok12 : TsOk m ws (us.take 12) := ⟨by rw [List.length_take]; omega, fun t h => ok13.sz t (List.mem_of_mem_take h), fun t h => ok13.pl t (List.mem_of_mem_take h)⟩
  have h3 := law_tail3 K hw ok12 (by rw [List.length_take]; omega) htb (a0 := a0) (a1 := a1) (a2 := a2) (a3 := a3) (a5 := a5) (a6 := a6) (a7 := a7) (a8 := a8) (a9 := a9) (a10 := a10) (a11 := a11) (a12 := some (tsD us)) (Z := Z) (W := W) fun o9 => q o9 _
  have e2 : tsD (us.take 12) = .tup (cutG (us.map Thing.d) none (some ((12 : Nat) : Int))) := by
    rw [cut_hi, ← List.map_take]
    rfl
  rw [e2] at h3
  exact h3
theorem law_tail (K : PySem.W.Frag) {P : Addr} {m : Nat} {ws : List Wall} {ts : List Thing} {N : DHp} (hw : WsOk m ws) (ht : TsOk m ws ts) (htb : TblsOk [(P, "law.<locals>.<lambda>")] N) {a0 a1 a2 a3 a6 a7 a8 a9 a10 a11 a12 a13 : Option D} {Z : DEnds} {W : DW}
    (q : ∀ o9 o12 o13, Z.nx [a0, a1, a2, a3, some (wsD ws), some (tsD ts), a6, a7, a8, o9, a10, a11, o12, o13] N) :
    (dSeq (dSet 12 (dSl (dOp rAddD (dVar 5) (dOp rMulD (dTup (dCons (dTup (dCons (dC (.int 1)) (dCons (dTup (dCons (dOp rIxDD (dOp rIxDD (dVar 4) (dC (.int 0))) (dC (.int 0))) (dNil))) (dNil)))) (dNil))) (dC (.int 13)))) (dNoPart) (dPart (dC (.int 13)))))
    (dSeq (dIfS (dNot (dTru (dCall (p__law_alike K) (dCons (dLam [(P, "law.<locals>.<lambda>")] (h__law_heard K) (dCall (p_tight K) (dCons (dVar 4) (dCons (dVar 12) (dNil))))) (dCons (dTup (dCons (dC (.str "many")) (dCons (dC (.str "things")) (dCons (dC (.int 12)) (dNil))))) (dNil)))))) (dRet (dC (.bl false))) (dNext))
    (dSeq (dSet 13 (dSl (dVar 12) (dNoPart) (dPart (dC (.int 12)))))
    (dSeq (dSet 9 (dCall (p__law_tight_by_thresholds K) (dCons (dVar 4) (dCons (dVar 13) (dNil)))))
    (dSeq (dSet 9 (dIfE (dB (dOp (rIsD false) (dVar 9) (dC .non))) (dTup (dCons (dC (.str "refused")) (dCons (dC (.str "barred")) (dNil)))) (dTup (dCons (dC (.str "told")) (dCons (dVar 9) (dNil))))))
    (dIfS (dNot (dTru (dCall (p__law_alike K) (dCons (dLam [(P, "law.<locals>.<lambda>")] (h__law_heard K) (dCall (p_tight K) (dCons (dVar 4) (dCons (dVar 13) (dNil))))) (dCons (dVar 9) (dNil)))))) (dRet (dC (.bl false))) (dNext))))))) Z [a0, a1, a2, a3, some (wsD ws), some (tsD ts), a6, a7, a8, a9, a10, a11, a12, a13] N W := by
  obtain ⟨w, r, hwr, hm⟩ := wall0 hw
  have hmem : w ∈ ws := by rw [hwr]; exact List.mem_cons_self
  have h13 := ht.few
  have l13 : ((ts ++ List.replicate 13 (⟨1, [w.name]⟩ : Thing)).take 13).length = 13 := by rw [List.length_take]; simp
  have h2 := law_tail2 K hw (more_ok hw ht hmem 13 (Nat.le_refl _)) l13 htb (a0 := a0) (a1 := a1) (a2 := a2) (a3 := a3) (a5 := some (tsD ts)) (a6 := a6) (a7 := a7) (a8 := a8) (a9 := a9) (a10 := a10) (a11 := a11) (a13 := a13) (Z := Z) (W := W) fun o9 o13 => q o9 _ o13
  have e : tsD ((ts ++ List.replicate 13 (⟨1, [w.name]⟩ : Thing)).take 13) = .tup (cutG (ts.map Thing.d ++ (List.replicate (13 : Int).toNat [D.tup [.int 1, .tup [.str w.name]]]).flatten) none (some ((13 : Nat) : Int))) := by
    rw [cut_hi, tsD, List.map_take, List.map_append, List.map_replicate, show (13 : Int).toNat = 13 from rfl, List.flatten_replicate_singleton]
    rfl
  rw [e] at h2
  refine ⟨_, w.d, rfl, by rw [hwr]; exact L2.atI_nat (j := 0) rfl, _, .str w.name, rfl, L2.atI_nat (j := 0) rfl, small_line (by simp), small_line (by simp), small_line (by simp), by simp, by omega, by omega, by simp, small_line (by simp; omega), ?_⟩
  exact h2
end K32
end

section
set_option Elab.async false
set_option linter.all false
set_option maxRecDepth 100000
set_option maxHeartbeats 400000
namespace K32
open PySem PySem.Spec PyProof.Rows L2 DL
theorem law_mid (K : PySem.W.Frag) {P : Addr} {m : Nat} {ws : List Wall} {ts : List Thing} {N : DHp} (hw : WsOk m ws) (ht : TsOk m ws ts) (h7 : ts.length ≤ 7) (htb : TblsOk [(P, "law.<locals>.<lambda>")] N) {a0 a1 a2 a3 a6 a7 a8 a9 a10 a11 a12 a13 : Option D} {Z : DEnds} {W : DW}
    (q : ∀ o9 o10 o11 o12 o13, Z.nx [a0, a1, a2, a3, some (wsD ws), some (tsD ts), a6, a7, a8, o9, o10, o11, o12, o13] N) :
    (dSeq (dSet 9 (dCall (p__law_tight_by_sets K) (dCons (dVar 4) (dCons (dVar 5) (dNil)))))
    (dSeq (dIfS (dB (dOp rNee (dVar 9) (dCall (p__law_tight_by_thresholds K) (dCons (dVar 4) (dCons (dVar 5) (dNil)))))) (dRet (dC (.bl false))) (dNext))
    (dSeq (dSet 9 (dIfE (dB (dOp (rIsD false) (dVar 9) (dC .non))) (dTup (dCons (dC (.str "refused")) (dCons (dC (.str "barred")) (dNil)))) (dTup (dCons (dC (.str "told")) (dCons (dVar 9) (dNil))))))
    (dSeq (dSet 10 (dCB rReprDD (dCons (dTup (dCons (dVar 4) (dCons (dVar 5) (dNil)))) (dNil))))
    (dSeq (dFor (dRng1 (dCons (dC (.int 2)) (dNil))) (.nm 11) (dIfS (dOr (dNot (dTru (dCall (p__law_alike K) (dCons (dLam [(P, "law.<locals>.<lambda>")] (h__law_heard K) (dCall (p_tight K) (dCons (dVar 4) (dCons (dVar 5) (dNil))))) (dCons (dVar 9) (dNil)))))) (dB (dOp rNee (dCB rReprDD (dCons (dTup (dCons (dVar 4) (dCons (dVar 5) (dNil)))) (dNil))) (dVar 10)))) (dRet (dC (.bl false))) (dNext)))
    (dSeq (dSet 12 (dSl (dOp rAddD (dVar 5) (dOp rMulD (dTup (dCons (dTup (dCons (dC (.int 1)) (dCons (dTup (dCons (dOp rIxDD (dOp rIxDD (dVar 4) (dC (.int 0))) (dC (.int 0))) (dNil))) (dNil)))) (dNil))) (dC (.int 13)))) (dNoPart) (dPart (dC (.int 13)))))
    (dSeq (dIfS (dNot (dTru (dCall (p__law_alike K) (dCons (dLam [(P, "law.<locals>.<lambda>")] (h__law_heard K) (dCall (p_tight K) (dCons (dVar 4) (dCons (dVar 12) (dNil))))) (dCons (dTup (dCons (dC (.str "many")) (dCons (dC (.str "things")) (dCons (dC (.int 12)) (dNil))))) (dNil)))))) (dRet (dC (.bl false))) (dNext))
    (dSeq (dSet 13 (dSl (dVar 12) (dNoPart) (dPart (dC (.int 12)))))
    (dSeq (dSet 9 (dCall (p__law_tight_by_thresholds K) (dCons (dVar 4) (dCons (dVar 13) (dNil)))))
    (dSeq (dSet 9 (dIfE (dB (dOp (rIsD false) (dVar 9) (dC .non))) (dTup (dCons (dC (.str "refused")) (dCons (dC (.str "barred")) (dNil)))) (dTup (dCons (dC (.str "told")) (dCons (dVar 9) (dNil))))))
    (dIfS (dNot (dTru (dCall (p__law_alike K) (dCons (dLam [(P, "law.<locals>.<lambda>")] (h__law_heard K) (dCall (p_tight K) (dCons (dVar 4) (dCons (dVar 13) (dNil))))) (dCons (dVar 9) (dNil)))))) (dRet (dC (.bl false))) (dNext)))))))))))) Z [a0, a1, a2, a3, some (wsD ws), some (tsD ts), a6, a7, a8, a9, a10, a11, a12, a13] N W := by
  refine ⟨m, ws, ts, rfl, hw, ht, h7, ?_⟩
  rw [tight_law hw ht]
  refine ⟨m, ws, ts, rfl, hw, ht, ?_⟩
  have no := opt_nice (m := m) (ws := ws) ht
  have eo : EqOk N (optI (tightT m ws ts)) := by
    unfold EqOk
    rw [frz_opt]
    exact ⟨no.pure, no.shaped (by omega)⟩
  refine ne_def eo ?_
  have ee : eqD N (optI (tightT m ws ts)) (optI (tightT m ws ts)) = true := by
    unfold eqD
    rw [frz_opt]
    exact eqv_self _ no.noDict
  rw [ee]
  refine opt_res ?_
  have rn := both_nice hw ht
  refine ⟨small_line (by simp), rn.pure, rn.show_, rn.noDict, Nat.le_trans rn.depth (by omega), rn.fits (by omega), ?_⟩
  refine ⟨by omega, by omega, ?_⟩
  refine law_at K hw ht (by omega) htb (fun _ => trivial) rfl (fun o11 => ?_) _ _
  exact law_tail K hw ht htb fun o9 o12 o13 => q o9 _ _ o12 o13
theorem law_l2 (K : PySem.W.Frag) {P B : Addr} {a0 : Option D} {Z : DEnds} {W : DW} {chk : DHp → Prop} (hc : ∀ N, chk N) (q : ∀ (N : DHp) (o2 o3 o4 o5 o6 o7 o8 o9 o10 o11 o12 o13 : Option D), Z.nx [a0, some (.ref B), o2, o3, o4, o5, o6, o7, o8, o9, o10, o11, o12, o13] N) : ∀ (is : List Nat) (b : Bag) (N : DHp) (o2 o3 o4 o5 o6 o7 o8 o9 o10 o11 o12 o13 : Option D), (∀ i ∈ is, i < 5) → b.ok → N B = some b.o → TblsOk [(P, "law.<locals>.<lambda>")] N →
    dForL (.nm 2) (dSeq (dSet 3 (dOp rAddD (dC (.int 1)) (dCall (p__law_take K) (dCons (dVar 1) (dCons (dC (.int 3)) (dNil))))))
    (dSeq (dSet 4 (dCall (p__law_drawn_walls K) (dCons (dVar 1) (dCons (dVar 3) (dCons (dOp rAddD (dC (.int 1)) (dCall (p__law_take K) (dCons (dVar 1) (dCons (dC (.int 3)) (dNil))))) (dCons (dC (.int 2)) (dNil)))))))
    (dSeq (dSet 5 (dCall (p__law_drawn_things K) (dCons (dVar 1) (dCons (dVar 3) (dCons (dVar 4) (dCons (dOp rIxDD (dLst (dCons (dC (.int 2)) (dCons (dC (.int 4)) (dCons (dC (.int 7)) (dCons (dC (.int 5)) (dCons (dC (.int 1)) (dNil))))))) (dVar 2)) (dNil)))))))
    (dSeq (dFor (dSeqI (dVar 4)) (.tp [.nm 6, .nm 7, .nm 8]) (dIfS (dNot (dTru (dCall (p__law_alike K) (dCons (dCall (p_rest_tails K) (dCons (dVar 7) (dCons (dVar 8) (dNil)))) (dCons (dCall (p__law_rooms K) (dCons (dVar 7) (dCons (dVar 8) (dNil)))) (dNil)))))) (dRet (dC (.bl false))) (dNext)))
    (dSeq (dSet 9 (dCall (p__law_tight_by_sets K) (dCons (dVar 4) (dCons (dVar 5) (dNil)))))
    (dSeq (dIfS (dB (dOp rNee (dVar 9) (dCall (p__law_tight_by_thresholds K) (dCons (dVar 4) (dCons (dVar 5) (dNil)))))) (dRet (dC (.bl false))) (dNext))
    (dSeq (dSet 9 (dIfE (dB (dOp (rIsD false) (dVar 9) (dC .non))) (dTup (dCons (dC (.str "refused")) (dCons (dC (.str "barred")) (dNil)))) (dTup (dCons (dC (.str "told")) (dCons (dVar 9) (dNil))))))
    (dSeq (dSet 10 (dCB rReprDD (dCons (dTup (dCons (dVar 4) (dCons (dVar 5) (dNil)))) (dNil))))
    (dSeq (dFor (dRng1 (dCons (dC (.int 2)) (dNil))) (.nm 11) (dIfS (dOr (dNot (dTru (dCall (p__law_alike K) (dCons (dLam [(P, "law.<locals>.<lambda>")] (h__law_heard K) (dCall (p_tight K) (dCons (dVar 4) (dCons (dVar 5) (dNil))))) (dCons (dVar 9) (dNil)))))) (dB (dOp rNee (dCB rReprDD (dCons (dTup (dCons (dVar 4) (dCons (dVar 5) (dNil)))) (dNil))) (dVar 10)))) (dRet (dC (.bl false))) (dNext)))
    (dSeq (dSet 12 (dSl (dOp rAddD (dVar 5) (dOp rMulD (dTup (dCons (dTup (dCons (dC (.int 1)) (dCons (dTup (dCons (dOp rIxDD (dOp rIxDD (dVar 4) (dC (.int 0))) (dC (.int 0))) (dNil))) (dNil)))) (dNil))) (dC (.int 13)))) (dNoPart) (dPart (dC (.int 13)))))
    (dSeq (dIfS (dNot (dTru (dCall (p__law_alike K) (dCons (dLam [(P, "law.<locals>.<lambda>")] (h__law_heard K) (dCall (p_tight K) (dCons (dVar 4) (dCons (dVar 12) (dNil))))) (dCons (dTup (dCons (dC (.str "many")) (dCons (dC (.str "things")) (dCons (dC (.int 12)) (dNil))))) (dNil)))))) (dRet (dC (.bl false))) (dNext))
    (dSeq (dSet 13 (dSl (dVar 12) (dNoPart) (dPart (dC (.int 12)))))
    (dSeq (dSet 9 (dCall (p__law_tight_by_thresholds K) (dCons (dVar 4) (dCons (dVar 13) (dNil)))))
    (dSeq (dSet 9 (dIfE (dB (dOp (rIsD false) (dVar 9) (dC .non))) (dTup (dCons (dC (.str "refused")) (dCons (dC (.str "barred")) (dNil)))) (dTup (dCons (dC (.str "told")) (dCons (dVar 9) (dNil))))))
    (dIfS (dNot (dTru (dCall (p__law_alike K) (dCons (dLam [(P, "law.<locals>.<lambda>")] (h__law_heard K) (dCall (p_tight K) (dCons (dVar 4) (dCons (dVar 13) (dNil))))) (dCons (dVar 9) (dNil)))))) (dRet (dC (.bl false))) (dNext)))))))))))))))) Z W chk (is.map fun (i : Nat) => D.int (0 + (i : Int))) [a0, some (.ref B), o2, o3, o4, o5, o6, o7, o8, o9, o10, o11, o12, o13] N
  | [], b, N, o2, o3, o4, o5, o6, o7, o8, o9, o10, o11, o12, o13, hi, hb, hN, ht => ⟨hc _, q N o2 o3 o4 o5 o6 o7 o8 o9 o10 o11 o12 o13⟩
  | i :: is, b, N, o2, o3, o4, o5, o6, o7, o8, o9, o10, o11, o12, o13, hi, hb, hN, ht => by
    refine ⟨hc _, _, rfl, ?_⟩
    refine ⟨B, 3, rfl, ⟨b, hb, hN⟩, by omega, by omega, fun b1 d1 hb1 hd1 => ?_⟩
    obtain ⟨v1, hv1, rfl⟩ := hd1
    refine ⟨B, 3, rfl, ⟨b1, hb1, updD_same⟩, by omega, by omega, fun b2 d2 hb2 hd2 => ?_⟩
    obtain ⟨v2, hv2, rfl⟩ := hd2
    rw [updD_updD]
    refine ⟨B, 1 + v1, 1 + v2, rfl, ⟨b2, hb2, updD_same⟩, by omega, by omega, by omega, by omega, fun b3 d3 hb3 hd3 => ?_⟩
    obtain ⟨ws, hw, rfl⟩ := hd3
    rw [updD_updD]
    have hi5 := hi i List.mem_cons_self
    have hg : ∃ k : Nat, k ≤ 7 ∧ L2.atI [D.int 2, .int 4, .int 7, .int 5, .int 1] (0 + (i : Int)) = some (.int (k : Nat)) := by
      rw [Int.zero_add]
      have : i = 0 ∨ i = 1 ∨ i = 2 ∨ i = 3 ∨ i = 4 := by omega
      rcases this with rfl | rfl | rfl | rfl | rfl
      · exact ⟨2, by omega, L2.atI_nat (j := 0) rfl⟩
      · exact ⟨4, by omega, L2.atI_nat (j := 1) rfl⟩
      · exact ⟨7, by omega, L2.atI_nat (j := 2) rfl⟩
      · exact ⟨5, by omega, L2.atI_nat (j := 3) rfl⟩
      · exact ⟨1, by omega, L2.atI_nat (j := 4) rfl⟩
    obtain ⟨k, hk7, hk⟩ := hg
    refine ⟨small_line (by simp), _, _, rfl, hk, ?_⟩
    refine ⟨B, 1 + v1, ws, k, rfl, ⟨b3, hb3, updD_same⟩, hw, hk7, fun b4 d4 hb4 hd4 => ?_⟩
    obtain ⟨ts, hts, htl, rfl⟩ := hd4
    rw [updD_updD]
    have ht4 : TblsOk [(P, "law.<locals>.<lambda>")] (updD N B b4.o) := by
      refine ⟨fun a q h => ?_, fun t htm => ?_⟩
      · by_cases e : a = B
        · subst e; rw [updD_same] at h; cases h
        · rw [updD_ne e] at h; exact ht.1 a q h
      · have h1 := ht.2 t htm
        rw [updD_ne (fun e => by rw [e, hN] at h1; cases h1)]
        exact h1
    refine ⟨_, rfl, ?_⟩
    refine law_w K (fun _ => trivial) hw (fun o6 o7 o8 => ?_) ws o6 o7 o8 (fun _ h => h)
    refine law_mid K hw hts (by omega) ht4 fun o9 o10 o11 o12 o13 => ?_
    exact law_l2 K hc q is b4 _ _ _ _ _ _ _ _ _ _ _ _ _ (fun j hj => hi j (List.mem_cons_of_mem _ hj)) hb4 updD_same ht4
theorem b_law (K : PySem.W.Frag) (P : Addr) (_ : ErrK K) : Body 14 1 (p_law K P) (t_law K P) := by
  rintro ds M Q E ⟨ns, rfl, rfl, q⟩
  refine ⟨rfl, ns, rfl, fun B b hB hb => ?_⟩
  refine ⟨by omega, by omega, ?_⟩
  refine law_l2 K (fun _ => trivial) (fun N o2 o3 o4 o5 o6 o7 o8 o9 o10 o11 o12 o13 => ?_) (List.range 5) b _ _ _ _ _ _ _ _ _ _ _ _ _ (fun i hi => List.mem_range.mp hi) hb updD_same (tbls_lst (tblsM_ok (by simp)) hB)
  exact tblsM_back q
end K32
end

section
set_option Elab.async false
set_option linter.all false
set_option maxRecDepth 100000
set_option maxHeartbeats 2000000
/-! DH: the head: own errors' facts by a look at the heap, the Hook, the end of a law with tables where nothing is shown. -/
namespace DL
open PySem PySem.Spec PyProof.Rows L2
/-! ### an own error's class, its __init__ -/
abbrev IniW : Type := Option (Str × Str × Arguments × FuncBody × Scope × Addr × List Str × Addr)
/-- the __init__ of the class x, but for where it stands -/
def iniW (K : PySem.W.Frag) (x : Str) : IniW := match K.lookup (He.ma K (He.ga K x) "__init__") with
  | some ⟨_, _, .func fd, _⟩ => some (fd.name, fd.qualname, fd.params, fd.body, fd.scope, fd.globals, fd.closure.map (·.1), fd.builtins)
  | _ => none
/-- .. as the text has it -/
def iniV (qual : Str) (pa : Arguments) (bo : List Stmt) (sc : Scope) : IniW := some (("__init__" : Str), qual, pa, .stmts bo, sc, mainGlobals, [("__class__" : Str)], builtinsNs)
def fnOf (K : PySem.W.Frag) (a : Addr) : Option FuncData := match K.lookup a with
  | some ⟨_, _, .func fd, _⟩ => some fd
  | _ => none
def vsOf (K : PySem.W.Frag) (v : Value) : Array Value := match v with
  | .ref a => (match K.lookup a with
    | some ⟨_, _, .fields vs, _⟩ => vs
    | _ => #[])
  | _ => #[]
def isNoneV : Value → Bool
  | .none => true
  | _ => false
/-- what __init__'s function object holds besides its text -/
def iniB (file : Str) (K : PySem.W.Frag) (C : Addr) (qual : Str) (fd : FuncData) : Bool :=
  isNoneV fd.defaults && (isNoneV fd.kwdefaults && (PySem.W.codeIn K fd.code qual && ((match ((vsOf K fd.code)[2]? : Option Value) with
    | some (Value.str f _) => file == f
    | _ => false) && (match fd.closure with
    | [(_, cc)] => (match K.lookup cc with
      | some ⟨_, _, .cell (some (.ref C')), _⟩ => decide (C' = C)
      | _ => false)
    | _ => false))))
def clsB (K : PySem.W.Frag) (C : Addr) : Bool := match K.lookup C with
  | some ⟨.type "type", _, .cls cd, sl⟩ => (match cd.mro, sl.toList with
    | .ref C' :: bm, [_, _, _, _, some (.builtin n), _] => decide (C' = C) && (decide (n = "ValueError.__new__") && (!cd.hasDel && (cd.hasDict && PySem.HandSPX.refsVE bm)))
    | _, _ => false)
  | _ => false
theorem clsB_ok {K : PySem.W.Frag} {C : Addr} (h : clsB K C = true) : ∃ nm q N bs bm sn sub ab col dd k0 k1 k2 k3 k5, K.lookup C = some (excClassObj nm q C N bs bm true sn sub ab col dd k0 k1 k2 k3 k5 "ValueError.__new__") ∧ PySem.HandSPX.refsVE bm = true := by
  unfold clsB at h
  split at h
  · rename_i dd cd sl lk
    split at h
    · rename_i C' bm k0 k1 k2 k3 n k5 em es
      obtain ⟨h1, h⟩ := He.ba h
      obtain ⟨h2, h⟩ := He.ba h
      obtain ⟨h3, h⟩ := He.ba h
      obtain ⟨h4, h5⟩ := He.ba h
      obtain ⟨nm, bs, mro, N, q, hd, sn, sub, ab, col, del⟩ := cd
      dsimp only at em h3 h4
      have e1 := of_decide_eq_true h1
      have e2 := of_decide_eq_true h2
      have e3 : del = false := by simpa using h3
      subst e1 e2 e3 h4 em
      have esl : sl = #[k0, k1, k2, k3, some (.builtin "ValueError.__new__"), k5] := by
        obtain ⟨l⟩ := sl
        have : l = _ := es
        rw [this]
      subst esl
      exact ⟨nm, q, N, bs, bm, sn, sub, ab, col, dd, k0, k1, k2, k3, k5, lk, h5⟩
    · cases h
  · cases h
def txtB (K : PySem.W.Frag) (file qual x f : Str) : Bool :=
  clsB K (He.ga K x) && (He.eqO (PySem.W.findIn K (.ref (He.ga K x)) "__setattr__") (some (some (.builtin "object.__setattr__"))) && (He.eqO (PySem.W.findIn K (.ref (He.ga K x)) "__init__") (some (some (.ref (He.ma K (He.ga K x) "__init__")))) &&
    (decide (PySem.W.typeIn K (.ref (He.ma K (He.ga K x) "__init__")) = some (.type "function")) && (PySem.W.keepIn K (.ref (He.ga K x)) && (decide (PySem.W.subIn K (.ref (He.ga K x)) (.type "BaseException") = some true) && (decide (PySem.W.subIn K (.ref (He.ga K x)) (.type "ValueError") = some true) &&
      (decide (PySem.W.mroIn K (He.ga K x) (.ref (He.ga K x)) = some true) && (decide (PySem.W.typeIn K (.ref (He.ga K x)) = some (.type "type")) && (He.eqO (PySem.W.nsIn K cStatics "thirdparty.any") (some none) && (He.eqO (PySem.W.ks_superIn K (He.ga K x) (He.ga K x) "__init__") (some (some (.builtin "ValueError.__init__"))) &&
        (He.eqO (PySem.W.nsIn K mainGlobals "super") (some none) && (He.eqO (PySem.W.findIn K (.ref (He.ga K x)) f) (some none) && (match fnOf K (He.ma K (He.ga K x) "__init__") with
          | some fd => iniB file K (He.ga K x) qual fd
          | none => false)))))))))))))
/-- the written part of an own error's class: from the look -/
theorem txt_of {P : Program} {K : PySem.W.Frag} {mg : Str → Option Value} {x f qual : Str} {pa : Arguments} {bo : List Stmt} {sc : Scope} (h : txtB K P.main.file qual x f = true) (e : iniW K x = iniV qual pa bo sc) (g : mg x = some (.ref (He.ga K x))) (top : (P.main.scope.names.lookup ("super" : Str)).isSome = false) :
    ∃ fI cc, OEK.Txt P K mg x (He.ga K x) fI cc ∧ PySem.W.findIn K (.ref (He.ga K x)) f = some none ∧ ∃ (oc : Value) (od : Option Addr) (doc pm : Value) (an : Option Addr) (cda : Addr) (ct : Value) (osl : Array (Option Value)) (ccl : Value) (cdd : Option Addr) (vs : Array Value) (ccs : Array (Option Value)) (file : Str) (tf : Tok),
      K.lookup fI = some ⟨oc, od, .func (PySem.W.ksFn "__init__" qual pa bo sc .none .none doc pm an (.ref cda) ct cc), osl⟩ ∧ PySem.W.codeIn K (.ref cda) qual = true ∧ K.lookup cda = some ⟨ccl, cdd, .fields vs, ccs⟩ ∧ vs[2]? = some (.str file tf) ∧ ((P.main.file : Str) == file) = true := by
  unfold txtB at h
  obtain ⟨h1, h⟩ := He.ba h
  obtain ⟨h2, h⟩ := He.ba h
  obtain ⟨h3, h⟩ := He.ba h
  obtain ⟨h4, h⟩ := He.ba h
  obtain ⟨h5, h⟩ := He.ba h
  obtain ⟨h6, h⟩ := He.ba h
  obtain ⟨h7, h⟩ := He.ba h
  obtain ⟨h8, h⟩ := He.ba h
  obtain ⟨h9, h⟩ := He.ba h
  obtain ⟨h10, h⟩ := He.ba h
  obtain ⟨h11, h⟩ := He.ba h
  obtain ⟨h12, h⟩ := He.ba h
  obtain ⟨h13, h⟩ := He.ba h
  unfold iniW at e
  unfold fnOf at h
  cases lk : K.lookup (He.ma K (He.ga K x) "__init__") with
  | none => rw [lk] at h; cases h
  | some o =>
    obtain ⟨oc, od, dt, osl⟩ := o
    rw [lk] at h e
    cases dt with
    | func fd =>
      obtain ⟨m1, m2, m3, m4, m5, m6, m7, m8, m9, m10, m11, m12, m13, m14, m15⟩ := fd
      unfold iniV at e
      simp only [Option.some.injEq, Prod.mk.injEq] at e
      obtain ⟨e1, e2, e3, e4, e5, e6, e7, e8⟩ := e
      dsimp only at h
      unfold iniB at h
      obtain ⟨k1, h⟩ := He.ba h
      obtain ⟨k2, h⟩ := He.ba h
      obtain ⟨k3, h⟩ := He.ba h
      obtain ⟨k4, k5⟩ := He.ba h
      dsimp only at k1 k2 k3 k4 k5
      have d8 : m8 = .none := by
        cases m8 with
        | none => rfl
        | _ => cases k1
      have d9 : m9 = .none := by
        cases m9 with
        | none => rfl
        | _ => cases k2
      obtain ⟨cda, rfl⟩ := He.codeIn_ref k3
      cases m7 with
      | nil => cases k5
      | cons y r =>
        cases r with
        | cons z r => cases k5
        | nil =>
          obtain ⟨yn, cc⟩ := y
          have ey : yn = "__class__" := by simpa using e7
          subst d8 d9 e1 e2 e3 e4 e5 e6 e8 ey
          dsimp only at k5
          unfold vsOf at k4
          dsimp only at k4
          cases lkc : K.lookup cda with
          | none => rw [lkc] at k4; cases k4
          | some oc2 =>
            obtain ⟨ccl, cdd, dt2, ccs⟩ := oc2
            rw [lkc] at k4
            cases dt2 with
            | fields vs =>
              dsimp only at k4
              cases ev : vs[2]? with
              | none => rw [ev] at k4; cases k4
              | some fv =>
                rw [ev] at k4
                cases fv with
                | str file tf =>
                  cases lkl : K.lookup cc with
                  | none => rw [lkl] at k5; cases k5
                  | some ol =>
                    obtain ⟨lc, ld, dt3, lsl⟩ := ol
                    rw [lkl] at k5
                    cases dt3 with
                    | cell cv =>
                      cases cv with
                      | none => cases k5
                      | some cv =>
                        cases cv with
                        | ref C' =>
                          have eC : C' = He.ga K x := of_decide_eq_true k5
                          subst eC
                          exact ⟨_, cc, ⟨g, clsB_ok h1, He.eqO_ok h2, He.eqO_ok h3, of_decide_eq_true h4, h5, of_decide_eq_true h6, of_decide_eq_true h7, of_decide_eq_true h8, of_decide_eq_true h9, He.eqO_ok h10, He.eqO_ok h11, ⟨lc, ld, lsl, lkl⟩, He.eqO_ok h12, top⟩, He.eqO_ok h13,
                            oc, od, m10, m11, m12, cda, m14, osl, ccl, cdd, vs, ccs, file, tf, lk, k3, lkc, ev, k4⟩
                        | _ => cases k5
                    | _ => cases k5
                | _ => cases k4
            | _ => cases k4
    | _ => cases h
/-- an own error with one field -/
theorem err1_of {P : Program} {K : PySem.W.Frag} {mg : Str → Option Value} {x f qual : Str} {p1 p2 r0 r1 r2 r3 r4 r5 q1 q2 q3 q4 : Pos} (h : txtB K P.main.file qual x f = true)
    (e : iniW K x = iniV qual (OEK.iA1 f p1 p2) (OEK.iB1 f r0 r1 r2 r3 r4 r5 q1 q2 q3 q4) (OEK.iS1 f)) (g : mg x = some (.ref (He.ga K x))) (top : (P.main.scope.names.lookup ("super" : Str)).isSome = false)
    (hb : ∀ (doc pm : Value) (an : Option Addr) (cd ct : Value) (cc : Addr) (a v : Value), bindArgs (PySem.W.ksFn "__init__" qual (OEK.iA1 f p1 p2) (OEK.iB1 f r0 r1 r2 r3 r4 r5 q1 q2 q3 q4) (OEK.iS1 f) .none .none doc pm an cd ct cc) ⟨[a, v], []⟩ = pure ([(PySem.Str.ofString "self", a), (f, v)] : List (Str × Value)))
    (hc : OEK.CallEq f r0 r1 r2 r3 r4) (n1 : (f == ("self" : Str)) = false := by decide) (n2 : (f == ("__debug__" : Str)) = false := by decide) (n3 : (f == ("__class__" : Str)) = false := by decide) (n4 : (f == ("super" : Str)) = false := by decide) : Err1 P K mg x f := by
  obtain ⟨fI, cc, T, no, oc, od, doc, pm, an, cda, ct, osl, ccl, cdd, vs, ccs, file, tf, h1, h2, h3, h4, h5⟩ := txt_of h e g top
  exact ⟨fI, cc, qual, T, ⟨oc, od, doc, pm, an, cda, ct, osl, p1, p2, r0, r1, r2, r3, r4, r5, q1, q2, q3, q4, ccl, cdd, vs, ccs, file, tf, h1, h2, h3, h4, h5, fun a v => hb doc pm an (.ref cda) ct cc a v, hc⟩, ⟨n1, n2, n3, n4, no⟩⟩
/-- .. with two -/
theorem err2_of {P : Program} {K : PySem.W.Frag} {mg : Str → Option Value} {x f f2 qual : Str} {p1 p2 p3 r0 r1 r2 r3 r6 r4 r5 q1 q2 q3 q4 w1 w2 w3 w4 : Pos} (h : txtB K P.main.file qual x f = true) (hno : PySem.W.findIn K (.ref (He.ga K x)) f2 = some none)
    (e : iniW K x = iniV qual (OEK.iA2 f f2 p1 p2 p3) (OEK.iB2 f f2 r0 r1 r2 r3 r6 r4 r5 q1 q2 q3 q4 w1 w2 w3 w4) (OEK.iS2 f f2)) (g : mg x = some (.ref (He.ga K x))) (top : (P.main.scope.names.lookup ("super" : Str)).isSome = false)
    (hb : ∀ (doc pm : Value) (an : Option Addr) (cd ct : Value) (cc : Addr) (a v v2 : Value), bindArgs (PySem.W.ksFn "__init__" qual (OEK.iA2 f f2 p1 p2 p3) (OEK.iB2 f f2 r0 r1 r2 r3 r6 r4 r5 q1 q2 q3 q4 w1 w2 w3 w4) (OEK.iS2 f f2) .none .none doc pm an cd ct cc) ⟨[a, v, v2], []⟩ = pure ([(PySem.Str.ofString "self", a), (f, v), (f2, v2)] : List (Str × Value)))
    (hc : OEK.CallEq2 f f2 r0 r1 r2 r3 r6 r4) (n1 : (f == ("self" : Str)) = false := by decide) (n2 : (f == ("__debug__" : Str)) = false := by decide) (n3 : (f == ("__class__" : Str)) = false := by decide) (n4 : (f == ("super" : Str)) = false := by decide)
    (z1 : (f2 == ("self" : Str)) = false := by decide) (z2 : (f2 == ("__debug__" : Str)) = false := by decide) (z3 : (f2 == ("__class__" : Str)) = false := by decide) (z4 : (f2 == ("super" : Str)) = false := by decide) (hff : (f2 == f) = false := by decide) : Err2 P K mg x f f2 := by
  obtain ⟨fI, cc, T, no, oc, od, doc, pm, an, cda, ct, osl, ccl, cdd, vs, ccs, file, tf, h1, h2, h3, h4, h5⟩ := txt_of h e g top
  exact ⟨fI, cc, qual, T, ⟨oc, od, doc, pm, an, cda, ct, osl, p1, p2, p3, r0, r1, r2, r3, r6, r4, r5, q1, q2, q3, q4, w1, w2, w3, w4, ccl, cdd, vs, ccs, file, tf, h1, h2, h3, h4, h5, fun a v v2 => hb doc pm an (.ref cda) ct cc a v v2, hc⟩, ⟨n1, n2, n3, n4, no⟩, ⟨z1, z2, z3, z4, hno⟩, hff⟩
def excB (K : PySem.W.Frag) (D : Addr) : Bool :=
  He.eqO (PySem.W.findIn K (.ref D) "__getattribute__") (some (some (.builtin "BaseException.__getattribute__"))) && (He.eqO (PySem.W.findIn K (.ref D) "__getattr__") (some none) && (decide (PySem.W.subIn K (.ref D) (.type "BaseException") = some true) && (PySem.W.hasDictIn K D &&
    (He.eqO (PySem.W.findIn K (.ref D) "__class__") (some (some (.builtin "object.__class__"))) && (He.eqO (PySem.W.specialIn K (.builtin "object.__class__") "__get__") (some (some (.builtin "getset_descriptor.__get__"))) && (decide (PySem.W.takesIn K (.builtin "object.__class__") = some true) && decide (PySem.W.mroIn K D (.type "object") = some true)))))))
theorem excB_ok {K : PySem.W.Frag} {D : Addr} (h : excB K D = true) : ExcC K D := by
  unfold excB at h
  obtain ⟨h1, h⟩ := He.ba h
  obtain ⟨h2, h⟩ := He.ba h
  obtain ⟨h3, h⟩ := He.ba h
  obtain ⟨h4, h⟩ := He.ba h
  obtain ⟨h5, h⟩ := He.ba h
  obtain ⟨h6, h⟩ := He.ba h
  obtain ⟨h7, h8⟩ := He.ba h
  exact ⟨He.eqO_ok h1, He.eqO_ok h2, of_decide_eq_true h3, h4, He.eqO_ok h5, He.eqO_ok h6, of_decide_eq_true h7, of_decide_eq_true h8⟩
/-! ### the Hook -/
def asY (g : Addr → Option Obj) (n : Nat) : List Addr := cStatics :: He.asD g n
def frY (g : Addr → Option Obj) (n : Nat) : PySem.W.Frag := He.frT g (asY g n)
structure SaysY (fa : List He.Fa) (fn : List He.DefD) (tf : List He.Defn) (ex : PySem.W.Frag → Bool) (xs : List Str) (vals : List IniW) (h : Heap) (K : PySem.W.Frag) : Prop where
  d : He.SaysD fa fn K
  more : ex K = true
  ini : xs.map (iniW K) = vals
  hd : ∀ p ∈ tf, PySem.W.codeHdIn K (He.cT K p).1 (He.cT K p).2 = true
  out : ∀ p ∈ tf, K.lookup (He.cT K p).2 = none
  empty : ∀ p ∈ tf, h.get? (He.cT K p).2 = some { cls := .none, data := .fields #[] }
abbrev AlY : Type := He.AlD × Bool × List IniW
def obsY (n : Nat) (fa : List He.Fa) (fn : List He.DefD) (tf : List He.Defn) (ex : PySem.W.Frag → Bool) (xs : List Str) (g : Addr → Option Obj) : AlY := (He.obsD fa fn (frY g n), ex (frY g n) && He.tabsB g tf (frY g n), xs.map (iniW (frY g n)))
def valY (fn : List He.DefD) (vals : List IniW) : AlY := (He.valD fn, true, vals)
theorem saysY_of {n : Nat} {fa : List He.Fa} {fn : List He.DefD} {tf : List He.Defn} {ex : PySem.W.Frag → Bool} {xs : List Str} {vals : List IniW} {h : Heap} (e : obsY n fa fn tf ex xs h.get? = valY fn vals) : SaysY fa fn tf ex xs vals h (frY h.get? n) := by
  have e1 : He.obsD fa fn (frY h.get? n) = He.valD fn := congrArg (fun z : AlY => z.1) e
  have e2 : (ex (frY h.get? n) && He.tabsB h.get? tf (frY h.get? n)) = true := congrArg (fun z : AlY => z.2.1) e
  have e3 : xs.map (iniW (frY h.get? n)) = vals := congrArg (fun z : AlY => z.2.2) e
  obtain ⟨h1, h2⟩ := He.ba e2
  have each : ∀ p ∈ tf, PySem.W.codeHdIn (frY h.get? n) (He.cT (frY h.get? n) p).1 (He.cT (frY h.get? n) p).2 = true ∧ ∃ o, h.get? (He.cT (frY h.get? n) p).2 = some o ∧ He.emptyTab o = true := fun p hp => by
    obtain ⟨h3, h4⟩ := He.ba (List.all_eq_true.mp h2 p hp)
    refine ⟨h3, ?_⟩
    cases q : h.get? (He.cT (frY h.get? n) p).2 with
    | none => rw [q] at h4; cases h4
    | some o => rw [q] at h4; exact ⟨o, rfl, h4⟩
  refine ⟨e1, h1, e3, fun p hp => (each p hp).1, fun p hp => ?_, fun p hp => ?_⟩
  · obtain ⟨_, o, q, z⟩ := each p hp
    exact He.frT_none q z
  · obtain ⟨_, o, q, z⟩ := each p hp
    rw [q, He.emptyTab_eq z]
def hookY (n : Nat) (fa : List He.Fa) (fn : List He.DefD) (tf : List He.Defn) (ex : PySem.W.Frag → Bool) (xs : List Str) (vals : List IniW) : PySem.W.Hook where
  α := AlY
  obs := fun s => obsY n fa fn tf ex xs s.heap.get?
  val := fun _ => valY fn vals
  says := fun _ h => ∃ K : PySem.W.Frag, K.In h ∧ SaysY fa fn tf ex xs vals h K
  of := fun _ _ e => ⟨_, He.frT_in, saysY_of e⟩
  keeps := fun _ _ _ ⟨K, hK, c⟩ k => ⟨K, PySem.W.Frag.In.keeps hK k, ⟨c.d, c.more, c.ini, c.hd, c.out, fun p hp => k _ _ (c.empty p hp)⟩⟩
theorem obsY_eq {n : Nat} {fa : List He.Fa} {fn : List He.DefD} {tf : List He.Defn} {ex : PySem.W.Frag → Bool} {xs : List Str} {vals : List IniW} {g : Addr → Option Obj} {s : Shared} (h : ∀ a, g a = s.heap.get? a) : obsY n fa fn tf ex xs g = (hookY n fa fn tf ex xs vals).obs s := by
  have e : g = s.heap.get? := funext h
  rw [e] <;> rfl
end DL
end

section
set_option Elab.async false
set_option linter.all false
set_option maxRecDepth 100000
set_option maxHeartbeats 2000000
/-! DH2: the end of a law: its call, from where nothing is shown, with tables of code objects. -/
namespace DL
open PySem PySem.Spec PyProof.Rows L2
/-- the tables of cs, and the script at a where K does not hold it -/
def startH (K : PySem.W.Frag) (cs : List (Addr × Addr)) (a : Addr) (so : Obj) (xs : List V) : Hp := fun b => if b ∈ cs.map (·.2) then some (.tbl #[]) else if b = a then (match K.lookup a with
  | some _ => none
  | none => some (.frz so (.lst xs))) else none
theorem law_callQT {P : Program} {w : World} {K : PySem.W.Frag} {mg mb : Str → Option Value} {CX : CXT} {k : Nat} {fa a : Addr} {cs : List (Addr × Addr)} {fd : FuncData} {x : Str} {sp : Sp} {s₁ : Shared} {us : List Value} {is : List Int}
    (kin : K.In s₁.heap) (gns : s₁.heap.Ns mainGlobals mg) (bns : s₁.heap.Ns builtinsNs mb) (bbt : ∀ x : Str, x ≠ "__name__" → mb x = bootBuiltins x) (nlim : s₁.heap.NoLimit) (ngen : s₁.gens = #[])
    (tEmp : ∀ p ∈ cs, s₁.heap.get? p.2 = some { cls := .none, data := .fields #[] }) (tOut : ∀ p ∈ cs, K.lookup p.2 = none) (tHd : ∀ p ∈ cs, PySem.W.CodeHd s₁.heap p.1 p.2)
    (bmod : ∃ (bm : Addr) (ob : Obj), mg "__builtins__" = some (.ref bm) ∧ bm ≠ builtinsNs ∧ s₁.heap.get? bm = some ob ∧ ob.cls = .type "module" ∧ ob.dict = some builtinsNs ∧ ob.data = .plain)
    (scr : s₁.heap.get? a = some { cls := .type "list", data := .seq us.toArray }) (isI : IntsAre us is) (few : is.length ≤ sizeLine) (room : Room k callerA)
    (F : ∀ base : Heap, K.In base → base.Ns mainGlobals mg → (∀ p ∈ cs, LamX.TabB base mg p.1 p.2) → FnQ true P w K mg base CX k fa fd [x] sp) (bind : ∀ (s : Shared) (u : Value), BindsTo s fd ⟨[u], []⟩ [(x, u)])
    (prom : ∀ H : Hp, (∀ p ∈ cs, H p.2 = some (.tbl #[])) → SqL K H a (is.map V.int) → sp [.ref a] H (fun v _ => v = .bl true) fun _ _ _ => False)
    (noX : ∀ H e s', CX [] H s₁ (fun _ _ _ => False) e s' → False) :
    codeAny (model P w) callerA (.call (.ref fa) ⟨[.ref a], []⟩) (fun r s' => r = .ok (.ret (.bool true)) ∧ OldK s₁.heap s'.heap ∧ s'.os = s₁.os ∧ AllBare s'.gens) s₁ := by
  have rv := vals_ints isI
  have lenV := isI.length
  obtain ⟨so, hso⟩ : ∃ so : Obj, so = { cls := .type "list", data := .seq us.toArray } := ⟨_, rfl⟩
  have scr' : s₁.heap.get? a = some so := by rw [hso]; exact scr
  have isT : ∀ b : Addr, b ∈ cs.map (·.2) → s₁.heap.get? b = some { cls := .none, data := .fields #[] } := fun b hb => by
    obtain ⟨p, hp, e⟩ := List.mem_map.mp hb
    rw [← e]; exact tEmp p hp
  have outT : ∀ b : Addr, b ∈ cs.map (·.2) → K.lookup b = none := fun b hb => by
    obtain ⟨p, hp, e⟩ := List.mem_map.mp hb
    rw [← e]; exact tOut p hp
  have memT : ∀ p ∈ cs, p.2 ∈ cs.map (·.2) := fun p hp => List.mem_map.mpr ⟨p, hp, rfl⟩
  have aT : a ∉ cs.map (·.2) := fun z => by
    have q := isT a z
    rw [scr] at q
    have z' : Data.seq us.toArray _ = Data.fields #[] := congrArg Obj.data (Option.some.inj q)
    cases z'
  obtain ⟨H, hH⟩ : ∃ H : Hp, H = startH K cs a so (is.map V.int) := ⟨_, rfl⟩
  have HT : ∀ b, b ∈ cs.map (·.2) → H b = some (.tbl #[]) := fun b hb => by rw [hH]; exact if_pos hb
  have Ha : ∀ o, K.lookup a = some o → H a = none := fun o e => by
    rw [hH]; unfold startH; rw [if_neg aT, if_pos rfl, e]
  have Ha' : K.lookup a = none → H a = some (.frz so (.lst (is.map V.int))) := fun e => by
    rw [hH]; unfold startH; rw [if_neg aT, if_pos rfl, e]
  have Ho : ∀ b, b ∉ cs.map (·.2) → b ≠ a → H b = none := fun b h1 h2 => by
    rw [hH]; unfold startH; rw [if_neg h1, if_neg h2]
  have cases3 : ∀ b u, H b = some u → (b ∈ cs.map (·.2) ∧ u = .tbl #[]) ∨ (b = a ∧ K.lookup a = none ∧ u = .frz so (.lst (is.map V.int))) := fun b u e => by
    by_cases h1 : b ∈ cs.map (·.2)
    · rw [HT b h1] at e; exact .inl ⟨h1, (Option.some.inj e).symm⟩
    · by_cases h2 : b = a
      · subst h2
        cases ek : K.lookup b with
        | some o => rw [Ha o ek] at e; cases e
        | none => rw [Ha' ek] at e; exact .inr ⟨rfl, rfl, (Option.some.inj e).symm⟩
      · rw [Ho b h1 h2] at e; cases e
  have sq : SqL K H a (is.map V.int) := by
    cases ek : K.lookup a with
    | some o =>
      have e := kin a o ek
      rw [scr] at e; cases e
      exact .inr ⟨_, us.toArray, _, ek, rfl, rfl, rfl, by rw [List.size_toArray, lenV]; exact few, by simpa using rv⟩
    | none => exact .inl (.inr ⟨so, Ha' ek⟩)
  have hok : HOk P w H s₁.heap := fun b u e => by
    rcases cases3 b u e with ⟨h1, rfl⟩ | ⟨rfl, _, rfl⟩
    · exact isT b h1
    · rw [hso]; exact ⟨scr, by rw [List.length_map]; exact few, us, _, rv, scr⟩
  have plainNone : ∀ {b : Addr} {o : Obj}, s₁.heap.get? b = some o → (∀ vs n, o.data ≠ .seq vs n) → o.data ≠ .fields #[] → H b = none := fun {b o} e h1 h2 => by
    cases q : H b with
    | none => rfl
    | some u =>
      rcases cases3 b u q with ⟨h3, _⟩ | ⟨rfl, _, _⟩
      · rw [isT b h3] at e; cases e; exact (h2 rfl).elim
      · rw [scr] at e; cases e; exact (h1 _ _ rfl).elim
  have dictNone : ∀ {b : Addr} {o : Obj} {es : Array DictEntry} {ep : Nat}, s₁.heap.get? b = some o → o.data = .dict es ep → H b = none := fun {b o es ep} e d =>
    plainNone e (fun vs n z => by rw [d] at z; cases z) fun z => by rw [d] at z; cases z
  have nsK : ∀ {b : Addr} {m : Str → Option Value}, s₁.heap.Ns b m → (hidT s₁.heap H).Ns b m := fun {b m} ⟨o, es, ep, e, d, r⟩ => ⟨o, es, ep, hidT_get e (dictNone e d), d, r⟩
  have kinB : K.In (hidT s₁.heap H) := fun b o e => hidT_get (kin b o e) (by
    cases q : H b with
    | none => rfl
    | some u =>
      rcases cases3 b u q with ⟨h3, _⟩ | ⟨rfl, h4, _⟩
      · rw [outT b h3] at e; cases e
      · rw [h4] at e; cases e)
  have modB : L2.Mod K mg (hidT s₁.heap H) := ⟨kinB, nsK gns, ⟨mb, nsK bns, bbt⟩, let ⟨mc, h1, h2⟩ := nlim; ⟨mc, nsK h1, h2⟩⟩
  have TB : ∀ p ∈ cs, LamX.TabB (hidT s₁.heap H) mg p.1 p.2 := fun p hp => by
    have eP := tEmp p hp
    refine ⟨?_, ?_, fun z => ?_⟩
    · obtain ⟨o, ws, file, tf, flags, tg, inF, text, tt, e1, r1, r2, r3, r4, rest⟩ := tHd p hp
      refine ⟨o, ws, file, tf, flags, tg, inF, text, tt, hidT_get e1 (plainNone e1 (fun vs n z => ?_) fun z => ?_), r1, r2, r3, r4, rest⟩
      · rw [r2] at z; cases z
      · rw [r2] at z; cases z; simp at r3
    · obtain ⟨bm, ob, b1, b2, b3, b4, b5, b6⟩ := bmod
      have nG : bm ≠ mainGlobals := fun q => by
        obtain ⟨o, es, ep, e, hd, _⟩ := gns
        rw [q, e] at b3; cases b3
        rw [hd] at b6; cases b6
      have nP : bm ≠ p.2 := fun q => by
        rw [q, eP] at b3; cases b3; cases b6
      refine ⟨bm, ob, b1, b2, nG, nP, hidT_get b3 (plainNone b3 (fun vs n z => ?_) fun z => ?_), b4, b5, b6⟩
      · rw [b6] at z; cases z
      · rw [b6] at z; cases z
    · obtain ⟨o, es, ep, e, hd, _⟩ := gns
      rw [z, eP] at e; cases e
      cases hd
  have env : Env0 P w K mg (hidT s₁.heap H) callerA [] s₁ H := ⟨rfl, modB, fun b o e => of_hidT e, Nat.le_of_eq (hidT_size _ _), trivial, fun b hb => absurd (show b ∈ ([] : List Addr) from hb) (by simp), hok, .of_eq ngen⟩
  refine codeAny_mono ((F _ kinB (nsK gns) TB).run callerA (fun _ => rfl) room [] s₁ H env ⟨[.ref a], []⟩ [.ref a] [.ref a] (bind s₁ (.ref a)) (.cons rfl .nil) _ _ (prom H (fun p hp => HT _ (memT p hp)) sq)) fun r s' h => ?_
  match r, h with
  | .error e, h => exact (noX H e s' h).elim
  | .ok .next, h => exact h.elim
  | .ok .brk, h => exact h.elim
  | .ok .cont, h => exact h.elim
  | .ok (.ret u), ⟨v, H', os, bare, un, hok', r', q⟩ =>
    have q' : v = .bl true := q
    subst q'
    obtain rfl : u = Value.bool true := r'
    have keep : ∀ b o, b ∉ cs.map (·.2) → s₁.heap.get? b = some o → s'.heap.get? b = some o := fun b o nb e => by
      cases q : H b with
      | none => exact un.keep b o e q (by intro z; exact absurd (show b ∈ ([] : List Addr) from z) (by simp)) (by simp)
      | some u =>
        rcases cases3 b u q with ⟨h3, _⟩ | ⟨_, _, rfl⟩
        · exact absurd h3 nb
        · obtain ⟨e1, _⟩ := hok b _ q
          obtain ⟨e2, _⟩ := hok' b _ (un.frzs b so _ q)
          rw [e] at e1; cases e1
          exact e2
    have grown : ∀ p ∈ cs, ∃ more : Array Value, s'.heap.get? p.2 = some { cls := .none, data := .fields more } := fun p hp => by
      obtain ⟨more, z⟩ := un.tbls p.2 #[] (HT _ (memT p hp))
      exact ⟨_, hok' p.2 _ z⟩
    refine ⟨rfl, ⟨fun b o e => ?_, fun b o e => ?_⟩, os, bare⟩
    · by_cases hb : b ∈ cs.map (·.2)
      · obtain ⟨p, hp, ep⟩ := List.mem_map.mp hb
        obtain ⟨more, hm⟩ := grown p hp
        rw [← ep] at e ⊢
        rw [tEmp p hp] at e; cases e
        exact .inr (.inl ⟨((tHd p hp).tab (tEmp p hp)).isCodeTable, rfl, #[], more, rfl, by rw [Array.empty_append]; exact hm⟩)
      · exact .inl (keep b o hb e)
    · by_cases hb : b ∈ cs.map (·.2)
      · obtain ⟨p, hp, ep⟩ := List.mem_map.mp hb
        obtain ⟨more, hm⟩ := grown p hp
        rw [← ep]; exact ⟨_, hm⟩
      · exact ⟨o, keep b o hb e⟩
/-- a law's promise: what it is called with -/
theorem law_sp {K : PySem.W.Frag} {p : DSp} {T : List (Addr × Str)} {H : Hp} {a : Addr} {is : List Int} (hT : ∀ t ∈ T, H t.1 = some (.tbl #[])) (sq : SqL K H a (is.map V.int))
    (h : p [.rol (is.map D.int)] (tblsM T) (fun d _ => d = .bl true) fun _ _ _ => False) : lfSp K p [.ref a] H (fun v _ => v = .bl true) fun _ _ _ => False := by
  have na : ∀ u, H a = some u → (∀ ps, u ≠ .tbl ps) → tblsM T a = none := fun u e nt => by
    cases q : tblsM T a with
    | none => rfl
    | some o =>
      obtain ⟨q', h1, _⟩ := tblsM_some q
      have := hT _ h1
      rw [e] at this
      cases this
      exact (nt _ rfl).elim
  refine ⟨_, tblsM T, _, _, .cons (.rol (xs := is.map V.int) ?_ (RepL.ofInts is)) .nil, ?_, h, fun v H' d M' x m r q => ?_, fun c pd H' gs M' x m r q => q⟩
  · rcases sq with f | f
    · refine .inl ⟨f, ?_⟩
      rcases f with f | ⟨o, f⟩
      · exact na _ f (fun _ z => nomatch z)
      · exact na _ f (fun _ z => nomatch z)
    · exact .inr f
  · intro b o e
    obtain ⟨q, h1, rfl⟩ := tblsM_some e
    exact ⟨#[], hT _ h1, by unfold TriplesOk; simp, fun pos cv z => by simp [codeAmong] at z⟩
  · rw [show d = .bl true from q] at r
    exact r.blI
theorem walk_ofQT {l : PySem.W.OpenLaw} {n k : Nat} {q : Program} {loose : List Str} {XP : (Str → Option Value) → Heap → Prop} {YP : World → Heap → Prop} {d : DefRec} {CX : World → CXT} {x : Str}
    (hn : l.most = some n) (hn2 : n ≤ sizeLine) (hdf : d.params.defaults = []) (room : Room k callerA)
    (F : ∀ (w : World) (mg : Str → Option Value) (fa : Addr) (h : Heap), YP w h → h.Ns mainGlobals mg → mg d.name = some (.ref fa) →
      ∃ (K : PySem.W.Frag) (fd : FuncData) (cs : List (Addr × Addr)) (sp : Sp), K.In h ∧ (∀ p ∈ cs, h.get? p.2 = some { cls := .none, data := .fields #[] }) ∧ (∀ p ∈ cs, K.lookup p.2 = none) ∧ (∀ p ∈ cs, PySem.W.CodeHd h p.1 p.2) ∧ (∀ (s : Shared) (u : Value), BindsTo s fd ⟨[u], []⟩ [(x, u)]) ∧
        (∀ (H : Hp) (a : Addr) (is : List Int), is.length ≤ n → (∀ p ∈ cs, H p.2 = some (.tbl #[])) → SqL K H a (is.map V.int) → sp [.ref a] H (fun v _ => v = .bl true) fun _ _ _ => False) ∧
        ∀ base : Heap, K.In base → base.Ns mainGlobals mg → (∀ p ∈ cs, LamX.TabB base mg p.1 p.2) → FnQ true l.prog w K mg base (CX w) k fa fd [x] sp)
    (noX : ∀ (w : World) (H : Hp) (s : Shared) (e : Value) (s' : Shared), CX w [] H s (fun _ _ _ => False) e s' → False) :
    PySem.W.WalkO q loose XP YP l.row.toRowW d [] (fun f vs => PySem.call f vs) := by
  refine Att.attach_callB hn hdf fun w s₀ s₁ mg mb fa o pm cd doc a vs is G Y ho hd hcd hmg hobj hints hlen hbits hg => ?_
  obtain ⟨K, fd, cs, sp, kin, h1, h2, h3, hb, hsp, hF⟩ := F w mg fa _ Y G.T.g hmg
  exact law_callQT kin G.T.g G.T.b G.T.builtins G.T.nolimit hg h1 h2 h3 G.T.bmain hobj hints (Nat.le_trans hlen hn2) room hF hb (fun H hH hS => hsp H a is hlen hH hS) fun H e s' => noX w H s₁ e s'
/-- a class's first def -/
def initOf : Stmt → Stmt
  | .ClassDef _ _ _ b _ _ _ _ _ _ _ => b.getD 0 (.Pass ⟨0, 0, 0, 0⟩)
  | s => s
theorem code_is {K : PySem.W.Frag} {x : Str} {st : Stmt} {fd : FuncData} (F : FnP K x st (He.ga K x) fd) {cdv : Value} (h : CodeAt K (He.ga K x) cdv) : cdv = .ref (He.cT K (x, none)).1 := by
  obtain ⟨oc, od, dV, kV, doc, pm, an, cd, ct, osl, rfl, lk, hcd, _, _⟩ := F.ex
  obtain ⟨oc2, od2, fd2, osl2, lk2, e⟩ := h
  rw [lk] at lk2
  cases lk2
  obtain ⟨c, rfl⟩ := He.codeIn_ref hcd
  have e2 : He.codeOf K (x, none) = c := He.codeOf_eq (p := (x, none)) lk rfl
  rw [← e]
  show Value.ref c = .ref (He.codeOf K (x, none))
  rw [e2]
theorem fnQ_body {P : Program} {w : World} {K : PySem.W.Frag} {mg : Str → Option Value} {base : Heap} {g : Bool} {N ps : List Str} {k : Nat} {p : DSp} {t : DTS} {x : Str} {params : Arguments} {body : List Stmt} {scope : Scope} {f : Addr} {fd : FuncData} (F : FunD K x x params body scope [] [] f fd) (S : FnScope N ps scope)
    (ht : ∀ (cdv : Value) (A : Around) (outer : List Env) (s : Shared) (H : Hp) (E : XK), CodeAt K f cdv → Room k (cxOf (L2.CX P w) P w K mg base N x scope f cdv A outer s H E).A → (g = true → Quiet (cxOf (L2.CX P w) P w K mg base N x scope f cdv A outer s H E).A) →
      Takes (cxOf (L2.CX P w) P w K mg base N x scope f cdv A outer s H E) (fun c d _ H => E c d H) → DSs (cxOf (L2.CX P w) P w K mg base N x scope f cdv A outer s H E) (fun c d _ H => E c d H) body t)
    (hp : Body N.length ps.length p t) : FnQ g P w K mg base (L2.CX P w) (k + 1) f fd ps (lfSp K p) :=
  fnQ_of F S (fun vs H Q0 E0 h => by
    obtain ⟨ds, M, Q, E, r, m, q, _, _⟩ := h
    rw [r.length]
    exact (hp ds M Q E q).1) fun cdv A outer s H vs Q0 E0 hca hq hr h => by
    obtain ⟨ds, M, Q, E, r, m, q, k1, k2⟩ := h
    refine ⟨_, (ht cdv A outer s H E0 hca hr hq (takes_of rfl rfl rfl rfl)).pss, ?_⟩
    refine lfS.use ⟨repS_start r, m⟩ (hp ds M Q E q).2 ⟨fun σ' H' δ' M' x a q => k1.back _ H' _ M' x a.m .non q, k1.back, fun _ _ _ _ _ _ z => z.elim, fun _ _ _ _ _ _ z => z.elim⟩ ?_
    intro c pd σ' H' gs δ' M' x s m r q
    exact k2.back c pd H' gs M' x m r q
end DL
end

section
set_option Elab.async false
set_option linter.all false
set_option maxRecDepth 100000
set_option maxHeartbeats 4000000
namespace K32
open PySem PySem.Spec PyProof.Rows L2 DL

structure Frees (mg : Str → Option Value) : Prop where
  f_abs : mg "abs" = none
  f_all : mg "all" = none
  f_dict : mg "dict" = none
  f_enumerate : mg "enumerate" = none
  f_int : mg "int" = none
  f_isinstance : mg "isinstance" = none
  f_len : mg "len" = none
  f_list : mg "list" = none
  f_max : mg "max" = none
  f_min : mg "min" = none
  f_range : mg "range" = none
  f_repr : mg "repr" = none
  f_set : mg "set" = none
  f_sorted : mg "sorted" = none
  f_sum : mg "sum" = none
  f_tuple : mg "tuple" = none
  f_zip : mg "zip" = none
  i_MOST_THINGS : ∃ t, mg "MOST_THINGS" = some (.int 12 t)
/-! ### _law_bag -/
theorem sc__law_bag : FnScope ["script", "cell"] ["script"] (defScope (top 23)) := ⟨rfl, rfl, rfl, by decide +kernel, rfl, by decide +kernel, by decide +kernel⟩
theorem d__law_bag {P₀ : Program} {w : World} {K : PySem.W.Frag} {mg : Str → Option Value} {base : Heap} {f : Addr} {cdv : Value} {A : Around} {outer : List Env} {s : Shared} {H : Hp} {E : XK} (hx : ErrF P₀ K mg) (fr : Frees mg) (hca : CodeAt K f cdv) (hr : Room 0 (cxOf (L2.CX P₀ w) P₀ w K mg base ["script", "cell"] "_law_bag" (defScope (top 23)) f cdv A outer s H E).A) (hq : false = true → Quiet (cxOf (L2.CX P₀ w) P₀ w K mg base ["script", "cell"] "_law_bag" (defScope (top 23)) f cdv A outer s H E).A)
    (tk : Takes (cxOf (L2.CX P₀ w) P₀ w K mg base ["script", "cell"] "_law_bag" (defScope (top 23)) f cdv A outer s H E) (fun c d _ H => E c d H)) : DSs (cxOf (L2.CX P₀ w) P₀ w K mg base ["script", "cell"] "_law_bag" (defScope (top 23)) f cdv A outer s H E) (fun c d _ H => E c d H) (defBody (top 23)) (t__law_bag K) := by
  have hxx := hx
  obtain ⟨he_LockerError, he_NoWall, he_NoThing, he_Refused, he_TooMany, er_Refused, er_TooMany, hxf_Refused, hxf_TooMany, hxf_NoThing, hxf_NoWall, hno_Refused_why, hno_TooMany_what, hno_TooMany_limit, hno_NoThing_number, hno_NoWall_name, ek⟩ := hx
  exact dss_one (ds_ret (de_lstM (da_cons (de_int) (da_cons (de_int) (da_cons (de_int) (da_cons (de_lc rfl sc__law_bag.nd (di_seq (de_slice (de_var 0) (do_none) (do_some (de_int)))) (own := [("cell", 1)]) (blkOk_by (by kernel_rfl)) (by decide) (fun _ _ _ _ _ => dg_name (i := 1) sc__law_bag.nd rfl (by first | exact Or.inl rfl | exact Or.inr rfl)) (fun _ _ _ _ _ => dts_nil) (fun _ _ _ _ _ => de_callB dc_abs (da_cons (de_var 1) (da_nil)) fr.f_abs (by decide +kernel))) (da_nil)))))))
/-! ### _law_take -/
theorem sc__law_take : FnScope ["bag", "many", "cell", "stirred", "value", "begin", "second"] ["bag", "many"] (defScope (top 24)) := ⟨rfl, rfl, rfl, by decide +kernel, rfl, by decide +kernel, by decide +kernel⟩
theorem d__law_take {P₀ : Program} {w : World} {K : PySem.W.Frag} {mg : Str → Option Value} {base : Heap} {f : Addr} {cdv : Value} {A : Around} {outer : List Env} {s : Shared} {H : Hp} {E : XK} (hx : ErrF P₀ K mg) (fr : Frees mg) (hca : CodeAt K f cdv) (hr : Room 0 (cxOf (L2.CX P₀ w) P₀ w K mg base ["bag", "many", "cell", "stirred", "value", "begin", "second"] "_law_take" (defScope (top 24)) f cdv A outer s H E).A) (hq : false = true → Quiet (cxOf (L2.CX P₀ w) P₀ w K mg base ["bag", "many", "cell", "stirred", "value", "begin", "second"] "_law_take" (defScope (top 24)) f cdv A outer s H E).A)
    (tk : Takes (cxOf (L2.CX P₀ w) P₀ w K mg base ["bag", "many", "cell", "stirred", "value", "begin", "second"] "_law_take" (defScope (top 24)) f cdv A outer s H E) (fun c d _ H => E c d H)) : DSs (cxOf (L2.CX P₀ w) P₀ w K mg base ["bag", "many", "cell", "stirred", "value", "begin", "second"] "_law_take" (defScope (top 24)) f cdv A outer s H E) (fun c d _ H => E c d H) (defBody (top 24)) (t__law_take K) := by
  have hxx := hx
  obtain ⟨he_LockerError, he_NoWall, he_NoThing, he_Refused, he_TooMany, er_Refused, er_TooMany, hxf_Refused, hxf_TooMany, hxf_NoThing, hxf_NoWall, hno_Refused_why, hno_TooMany_what, hno_TooMany_limit, hno_NoThing_number, hno_NoWall_name, ek⟩ := hx
  exact dss_cons (ds_if (dt_cmp (do_eq hr.units) (de_ix (de_var 0) (de_int)) (de_int) (by rfl)) (dss_cons (ds_set sc__law_take.nd (i := 2) rfl (by first | exact Or.inl rfl | exact Or.inr rfl) (de_ix (de_op do_add (de_slice (de_ix (de_var 0) (de_int)) (do_some (de_ix (de_var 0) (de_int))) (do_none)) (de_lst (da_cons (de_int) (da_nil)))) (de_int)))
    (dss_cons (ds_augI (de_var 0) (de_int) (de_int) di_add)
    (dss_cons (ds_if (dt_cmp do_ge (de_var 2) (de_op do_pow (de_int) (de_int)) (by rfl)) (dss_one (ds_stI (de_var 0) (de_int) (de_var 2))) (dss_nil))
    (dss_cons (ds_set sc__law_take.nd (i := 3) rfl (by first | exact Or.inl rfl | exact Or.inr rfl) (de_op do_add (de_op do_add (de_op do_mul (de_ix (de_var 0) (de_int)) (de_int)) (de_op do_mod (de_callT dc_int (da_cons (de_var 2) (da_nil)) fr.f_int (by decide +kernel)) (de_int))) (de_op do_mul (de_int) (de_ix (de_var 0) (de_int)))))
    (dss_one (ds_stI (de_var 0) (de_int) (de_op do_mod (de_callT dc_int (da_cons (de_var 3) (da_nil)) fr.f_int (by decide +kernel)) (de_int)))))))) (dss_nil))
    (dss_cons (ds_if (dt_cmp do_gt (de_ix (de_var 0) (de_int)) (de_int) (by rfl)) (dss_cons (ds_set sc__law_take.nd (i := 4) rfl (by first | exact Or.inl rfl | exact Or.inr rfl) (de_op do_mod (de_callT dc_int (da_cons (de_ix (de_var 0) (de_int)) (da_nil)) fr.f_int (by decide +kernel)) (de_var 1)))
    (dss_cons (ds_stI (de_var 0) (de_int) (de_op do_div (de_callT dc_int (da_cons (de_ix (de_var 0) (de_int)) (da_nil)) fr.f_int (by decide +kernel)) (de_var 1)))
    (dss_one (ds_ret (de_var 4))))) (dss_nil))
    (dss_cons (ds_set sc__law_take.nd (i := 5) rfl (by first | exact Or.inl rfl | exact Or.inr rfl) (de_op do_mod (de_callT dc_int (da_cons (de_op do_mul (de_op do_add (de_ix (de_var 0) (de_int)) (de_int)) (de_int)) (da_nil)) fr.f_int (by decide +kernel)) (de_int)))
    (dss_cons (ds_set sc__law_take.nd (i := 6) rfl (by first | exact Or.inl rfl | exact Or.inr rfl) (de_op do_mod (de_callT dc_int (da_cons (de_op do_mul (de_op do_mod (de_callT dc_int (da_cons (de_op do_mul (de_var 5) (de_var 5)) (da_nil)) fr.f_int (by decide +kernel)) (de_int)) (de_int)) (da_nil)) fr.f_int (by decide +kernel)) (de_int)))
    (dss_one (ds_ret (de_op do_mod (de_callT dc_int (da_cons (de_op do_div (de_var 6) (de_int)) (da_nil)) fr.f_int (by decide +kernel)) (de_var 1)))))))
/-! ### _law_mixed -/
theorem sc__law_mixed : FnScope ["bag", "things", "left", "found"] ["bag", "things"] (defScope (top 25)) := ⟨rfl, rfl, rfl, by decide +kernel, rfl, by decide +kernel, by decide +kernel⟩
theorem d__law_mixed {P₀ : Program} {w : World} {K : PySem.W.Frag} {mg : Str → Option Value} {base : Heap} {f : Addr} {cdv : Value} {A : Around} {outer : List Env} {s : Shared} {H : Hp} {E : XK} (hx : ErrF P₀ K mg) (fr : Frees mg) (c__law_take : Cal false P₀ w K mg base 1 "_law_take" (p__law_take K)) (hca : CodeAt K f cdv) (hr : Room 1 (cxOf (L2.CX P₀ w) P₀ w K mg base ["bag", "things", "left", "found"] "_law_mixed" (defScope (top 25)) f cdv A outer s H E).A) (hq : false = true → Quiet (cxOf (L2.CX P₀ w) P₀ w K mg base ["bag", "things", "left", "found"] "_law_mixed" (defScope (top 25)) f cdv A outer s H E).A)
    (tk : Takes (cxOf (L2.CX P₀ w) P₀ w K mg base ["bag", "things", "left", "found"] "_law_mixed" (defScope (top 25)) f cdv A outer s H E) (fun c d _ H => E c d H)) : DSs (cxOf (L2.CX P₀ w) P₀ w K mg base ["bag", "things", "left", "found"] "_law_mixed" (defScope (top 25)) f cdv A outer s H E) (fun c d _ H => E c d H) (defBody (top 25)) (t__law_mixed K) := by
  have hxx := hx
  obtain ⟨he_LockerError, he_NoWall, he_NoThing, he_Refused, he_TooMany, er_Refused, er_TooMany, hxf_Refused, hxf_TooMany, hxf_NoThing, hxf_NoWall, hno_Refused_why, hno_TooMany_what, hno_TooMany_limit, hno_NoThing_number, hno_NoWall_name, ek⟩ := hx
  exact dss_cons (ds_par (i := 2) (j := 3) rfl sc__law_mixed.nd rfl rfl (by decide) rfl rfl (da_cons (de_callT dc_list (da_cons (de_var 1) (da_nil)) fr.f_list (by decide +kernel)) (da_cons (de_lstM (da_nil)) (da_nil))) (by rfl))
    (dss_cons (ds_while (passes_of rfl) (dt_cmp (do_ne hr.units) (de_var 2) (de_lst (da_nil)) (by rfl)) (dss_one (ds_expr (de_mt PySem.F.plainAttrs_list PySem.F.slot_list_append PySem.F.type_list_append dm_append (de_var 3) (da_cons (de_mt PySem.F.plainAttrs_list PySem.F.slot_list_pop PySem.F.type_list_pop dm_pop (de_var 2) (da_cons (de_call c__law_take (hr.mono (by decide)) tk (da_cons (de_var 0) (da_cons (de_callB dc_len (da_cons (de_var 2) (da_nil)) fr.f_len (by decide +kernel)) (da_nil)))) (da_nil))) (da_nil))))))
    (dss_one (ds_ret (de_var 3))))
/-! ### _law_names -/
theorem sc__law_names : FnScope ["bag", "many"] ["bag", "many"] (defScope (top 26)) := ⟨rfl, rfl, rfl, by decide +kernel, rfl, by decide +kernel, by decide +kernel⟩
theorem d__law_names {P₀ : Program} {w : World} {K : PySem.W.Frag} {mg : Str → Option Value} {base : Heap} {f : Addr} {cdv : Value} {A : Around} {outer : List Env} {s : Shared} {H : Hp} {E : XK} (hx : ErrF P₀ K mg) (fr : Frees mg) (c__law_mixed : Cal false P₀ w K mg base 2 "_law_mixed" (p__law_mixed K)) (hca : CodeAt K f cdv) (hr : Room 2 (cxOf (L2.CX P₀ w) P₀ w K mg base ["bag", "many"] "_law_names" (defScope (top 26)) f cdv A outer s H E).A) (hq : false = true → Quiet (cxOf (L2.CX P₀ w) P₀ w K mg base ["bag", "many"] "_law_names" (defScope (top 26)) f cdv A outer s H E).A)
    (tk : Takes (cxOf (L2.CX P₀ w) P₀ w K mg base ["bag", "many"] "_law_names" (defScope (top 26)) f cdv A outer s H E) (fun c d _ H => E c d H)) : DSs (cxOf (L2.CX P₀ w) P₀ w K mg base ["bag", "many"] "_law_names" (defScope (top 26)) f cdv A outer s H E) (fun c d _ H => E c d H) (defBody (top 26)) (t__law_names K) := by
  have hxx := hx
  obtain ⟨he_LockerError, he_NoWall, he_NoThing, he_Refused, he_TooMany, er_Refused, er_TooMany, hxf_Refused, hxf_TooMany, hxf_NoThing, hxf_NoWall, hno_Refused_why, hno_TooMany_what, hno_TooMany_limit, hno_NoThing_number, hno_NoWall_name, ek⟩ := hx
  exact dss_one (ds_ret (de_callB dc_sorted (da_cons (de_slice (de_call c__law_mixed (hr.mono (by decide)) tk (da_cons (de_var 0) (da_cons (de_lst (da_cons (de_str) (da_cons (de_str) (da_cons (de_str) (da_cons (de_str) (da_cons (de_str) (da_cons (de_str) (da_cons (de_str) (da_cons (de_str) (da_cons (de_str) (da_cons (de_str) (da_nil)))))))))))) (da_nil)))) (do_none) (do_some (de_var 1))) (da_nil)) fr.f_sorted (by decide +kernel)))
/-! ### _law_drawn_counts -/
theorem sc__law_drawn_counts : FnScope ["bag", "m", "most", "found", "size"] ["bag", "m", "most"] (defScope (top 27)) := ⟨rfl, rfl, rfl, by decide +kernel, rfl, by decide +kernel, by decide +kernel⟩
theorem d__law_drawn_counts {P₀ : Program} {w : World} {K : PySem.W.Frag} {mg : Str → Option Value} {base : Heap} {f : Addr} {cdv : Value} {A : Around} {outer : List Env} {s : Shared} {H : Hp} {E : XK} (hx : ErrF P₀ K mg) (fr : Frees mg) (c__law_take : Cal false P₀ w K mg base 1 "_law_take" (p__law_take K)) (hca : CodeAt K f cdv) (hr : Room 1 (cxOf (L2.CX P₀ w) P₀ w K mg base ["bag", "m", "most", "found", "size"] "_law_drawn_counts" (defScope (top 27)) f cdv A outer s H E).A) (hq : false = true → Quiet (cxOf (L2.CX P₀ w) P₀ w K mg base ["bag", "m", "most", "found", "size"] "_law_drawn_counts" (defScope (top 27)) f cdv A outer s H E).A)
    (tk : Takes (cxOf (L2.CX P₀ w) P₀ w K mg base ["bag", "m", "most", "found", "size"] "_law_drawn_counts" (defScope (top 27)) f cdv A outer s H E) (fun c d _ H => E c d H)) : DSs (cxOf (L2.CX P₀ w) P₀ w K mg base ["bag", "m", "most", "found", "size"] "_law_drawn_counts" (defScope (top 27)) f cdv A outer s H E) (fun c d _ H => E c d H) (defBody (top 27)) (t__law_drawn_counts K) := by
  have hxx := hx
  obtain ⟨he_LockerError, he_NoWall, he_NoThing, he_Refused, he_TooMany, er_Refused, er_TooMany, hxf_Refused, hxf_TooMany, hxf_NoThing, hxf_NoWall, hno_Refused_why, hno_TooMany_what, hno_TooMany_limit, hno_NoThing_number, hno_NoWall_name, ek⟩ := hx
  exact dss_cons (ds_setLcM rfl sc__law_drawn_counts.nd (i := 3) rfl rfl (sw_true rfl rfl (by rfl) (by decide +kernel)) (di_range1 (da_cons (de_var 1) (da_nil)) fr.f_range) (own := [("size", 4)]) (blkOk_by (by kernel_rfl)) (by decide) (fun _ _ _ _ _ => dg_name (i := 4) sc__law_drawn_counts.nd rfl (by first | exact Or.inl rfl | exact Or.inr rfl)) (fun _ _ _ _ _ => dts_nil) (fun _ _ _ _ _ => de_call c__law_take (hr.mono (by decide)) LamX.takes0 (da_cons (de_var 0) (da_cons (de_op do_add (de_var 2) (de_int)) (da_nil)))))
    (dss_cons (ds_if (dt_cmp (do_eq hr.units) (de_callB (dc_sum rfl) (da_cons (de_var 3) (da_nil)) fr.f_sum (by decide +kernel)) (de_int) (by rfl)) (dss_one (ds_stI (de_var 3) (de_call c__law_take (hr.mono (by decide)) tk (da_cons (de_var 0) (da_cons (de_var 1) (da_nil)))) (de_int))) (dss_nil))
    (dss_one (ds_ret (de_callT dc_tuple (da_cons (de_var 3) (da_nil)) fr.f_tuple (by decide +kernel)))))
/-! ### _law_some -/
theorem sc__law_some : FnScope ["bag", "things"] ["bag", "things"] (defScope (top 28)) := ⟨rfl, rfl, rfl, by decide +kernel, rfl, by decide +kernel, by decide +kernel⟩
theorem d__law_some {P₀ : Program} {w : World} {K : PySem.W.Frag} {mg : Str → Option Value} {base : Heap} {f : Addr} {cdv : Value} {A : Around} {outer : List Env} {s : Shared} {H : Hp} {E : XK} (hx : ErrF P₀ K mg) (fr : Frees mg) (c__law_take : Cal false P₀ w K mg base 1 "_law_take" (p__law_take K)) (hca : CodeAt K f cdv) (hr : Room 1 (cxOf (L2.CX P₀ w) P₀ w K mg base ["bag", "things"] "_law_some" (defScope (top 28)) f cdv A outer s H E).A) (hq : false = true → Quiet (cxOf (L2.CX P₀ w) P₀ w K mg base ["bag", "things"] "_law_some" (defScope (top 28)) f cdv A outer s H E).A)
    (tk : Takes (cxOf (L2.CX P₀ w) P₀ w K mg base ["bag", "things"] "_law_some" (defScope (top 28)) f cdv A outer s H E) (fun c d _ H => E c d H)) : DSs (cxOf (L2.CX P₀ w) P₀ w K mg base ["bag", "things"] "_law_some" (defScope (top 28)) f cdv A outer s H E) (fun c d _ H => E c d H) (defBody (top 28)) (t__law_some K) := by
  have hxx := hx
  obtain ⟨he_LockerError, he_NoWall, he_NoThing, he_Refused, he_TooMany, er_Refused, er_TooMany, hxf_Refused, hxf_TooMany, hxf_NoThing, hxf_NoWall, hno_Refused_why, hno_TooMany_what, hno_TooMany_limit, hno_NoThing_number, hno_NoWall_name, ek⟩ := hx
  exact dss_one (ds_ret (de_ix (de_var 1) (de_call c__law_take (hr.mono (by decide)) tk (da_cons (de_var 0) (da_cons (de_callB dc_len (da_cons (de_var 1) (da_nil)) fr.f_len (by decide +kernel)) (da_nil))))))
/-! ### _law_drawn_walls -/
theorem sc__law_drawn_walls : FnScope ["bag", "m", "many", "most", "names", "name"] ["bag", "m", "many", "most"] (defScope (top 29)) := ⟨rfl, rfl, rfl, by decide +kernel, rfl, by decide +kernel, by decide +kernel⟩
theorem d__law_drawn_walls {P₀ : Program} {w : World} {K : PySem.W.Frag} {mg : Str → Option Value} {base : Heap} {f : Addr} {cdv : Value} {A : Around} {outer : List Env} {s : Shared} {H : Hp} {E : XK} (hx : ErrF P₀ K mg) (fr : Frees mg) (c__law_names : Cal false P₀ w K mg base 3 "_law_names" (p__law_names K)) (c__law_some : Cal false P₀ w K mg base 2 "_law_some" (p__law_some K)) (c__law_drawn_counts : Cal false P₀ w K mg base 2 "_law_drawn_counts" (p__law_drawn_counts K)) (hca : CodeAt K f cdv) (hr : Room 3 (cxOf (L2.CX P₀ w) P₀ w K mg base ["bag", "m", "many", "most", "names", "name"] "_law_drawn_walls" (defScope (top 29)) f cdv A outer s H E).A) (hq : false = true → Quiet (cxOf (L2.CX P₀ w) P₀ w K mg base ["bag", "m", "many", "most", "names", "name"] "_law_drawn_walls" (defScope (top 29)) f cdv A outer s H E).A)
    (tk : Takes (cxOf (L2.CX P₀ w) P₀ w K mg base ["bag", "m", "many", "most", "names", "name"] "_law_drawn_walls" (defScope (top 29)) f cdv A outer s H E) (fun c d _ H => E c d H)) : DSs (cxOf (L2.CX P₀ w) P₀ w K mg base ["bag", "m", "many", "most", "names", "name"] "_law_drawn_walls" (defScope (top 29)) f cdv A outer s H E) (fun c d _ H => E c d H) (defBody (top 29)) (t__law_drawn_walls K) := by
  have hxx := hx
  obtain ⟨he_LockerError, he_NoWall, he_NoThing, he_Refused, he_TooMany, er_Refused, er_TooMany, hxf_Refused, hxf_TooMany, hxf_NoThing, hxf_NoWall, hno_Refused_why, hno_TooMany_what, hno_TooMany_limit, hno_NoThing_number, hno_NoWall_name, ek⟩ := hx
  exact dss_cons (ds_set sc__law_drawn_walls.nd (i := 4) rfl (by first | exact Or.inl rfl | exact Or.inr rfl) (de_call c__law_names (hr.mono (by decide)) tk (da_cons (de_var 0) (da_cons (de_var 2) (da_nil)))))
    (dss_one (ds_ret (de_callT dc_tuple (da_cons (de_lc rfl sc__law_drawn_walls.nd (di_seq (de_var 4)) (own := [("name", 5)]) (blkOk_by (by kernel_rfl)) (by decide) (fun _ _ _ _ _ => dg_name (i := 5) sc__law_drawn_walls.nd rfl (by first | exact Or.inl rfl | exact Or.inr rfl)) (fun _ _ _ _ _ => dts_nil) (fun _ _ _ _ _ => de_tup (da_cons (de_var 5) (da_cons (de_call c__law_drawn_counts (hr.mono (by decide)) LamX.takes0 (da_cons (de_var 0) (da_cons (de_var 1) (da_cons (de_var 3) (da_nil))))) (da_cons (de_call c__law_some (hr.mono (by decide)) LamX.takes0 (da_cons (de_var 0) (da_cons (de_lst (da_cons (de_int) (da_cons (de_int) (da_cons (de_int) (da_cons (de_int) (da_nil)))))) (da_nil)))) (da_nil)))))) (da_nil)) fr.f_tuple (by decide +kernel))))
/-! ### _law_places -/
theorem sc__law_places : FnScope ["bag", "names"] ["bag", "names"] (defScope (top 30)) := ⟨rfl, rfl, rfl, by decide +kernel, rfl, by decide +kernel, by decide +kernel⟩
theorem d__law_places {P₀ : Program} {w : World} {K : PySem.W.Frag} {mg : Str → Option Value} {base : Heap} {f : Addr} {cdv : Value} {A : Around} {outer : List Env} {s : Shared} {H : Hp} {E : XK} (hx : ErrF P₀ K mg) (fr : Frees mg) (c__law_mixed : Cal false P₀ w K mg base 2 "_law_mixed" (p__law_mixed K)) (c__law_take : Cal false P₀ w K mg base 1 "_law_take" (p__law_take K)) (hca : CodeAt K f cdv) (hr : Room 2 (cxOf (L2.CX P₀ w) P₀ w K mg base ["bag", "names"] "_law_places" (defScope (top 30)) f cdv A outer s H E).A) (hq : false = true → Quiet (cxOf (L2.CX P₀ w) P₀ w K mg base ["bag", "names"] "_law_places" (defScope (top 30)) f cdv A outer s H E).A)
    (tk : Takes (cxOf (L2.CX P₀ w) P₀ w K mg base ["bag", "names"] "_law_places" (defScope (top 30)) f cdv A outer s H E) (fun c d _ H => E c d H)) : DSs (cxOf (L2.CX P₀ w) P₀ w K mg base ["bag", "names"] "_law_places" (defScope (top 30)) f cdv A outer s H E) (fun c d _ H => E c d H) (defBody (top 30)) (t__law_places K) := by
  have hxx := hx
  obtain ⟨he_LockerError, he_NoWall, he_NoThing, he_Refused, he_TooMany, er_Refused, er_TooMany, hxf_Refused, hxf_TooMany, hxf_NoThing, hxf_NoWall, hno_Refused_why, hno_TooMany_what, hno_TooMany_limit, hno_NoThing_number, hno_NoWall_name, ek⟩ := hx
  exact dss_one (ds_ret (de_callT dc_tuple (da_cons (de_callB dc_sorted (da_cons (de_slice (de_call c__law_mixed (hr.mono (by decide)) tk (da_cons (de_var 0) (da_cons (de_var 1) (da_nil)))) (do_none) (do_some (de_op do_add (de_int) (de_call c__law_take (hr.mono (by decide)) tk (da_cons (de_var 0) (da_cons (de_callB dc_len (da_cons (de_var 1) (da_nil)) fr.f_len (by decide +kernel)) (da_nil))))))) (da_nil)) fr.f_sorted (by decide +kernel)) (da_nil)) fr.f_tuple (by decide +kernel)))
/-! ### _law_drawn_things -/
theorem sc__law_drawn_things : FnScope ["bag", "m", "walls", "many", "names", "wall", "turn"] ["bag", "m", "walls", "many"] (defScope (top 31)) := ⟨rfl, rfl, rfl, by decide +kernel, rfl, by decide +kernel, by decide +kernel⟩
theorem d__law_drawn_things {P₀ : Program} {w : World} {K : PySem.W.Frag} {mg : Str → Option Value} {base : Heap} {f : Addr} {cdv : Value} {A : Around} {outer : List Env} {s : Shared} {H : Hp} {E : XK} (hx : ErrF P₀ K mg) (fr : Frees mg) (c__law_take : Cal false P₀ w K mg base 1 "_law_take" (p__law_take K)) (c__law_places : Cal false P₀ w K mg base 3 "_law_places" (p__law_places K)) (hca : CodeAt K f cdv) (hr : Room 3 (cxOf (L2.CX P₀ w) P₀ w K mg base ["bag", "m", "walls", "many", "names", "wall", "turn"] "_law_drawn_things" (defScope (top 31)) f cdv A outer s H E).A) (hq : false = true → Quiet (cxOf (L2.CX P₀ w) P₀ w K mg base ["bag", "m", "walls", "many", "names", "wall", "turn"] "_law_drawn_things" (defScope (top 31)) f cdv A outer s H E).A)
    (tk : Takes (cxOf (L2.CX P₀ w) P₀ w K mg base ["bag", "m", "walls", "many", "names", "wall", "turn"] "_law_drawn_things" (defScope (top 31)) f cdv A outer s H E) (fun c d _ H => E c d H)) : DSs (cxOf (L2.CX P₀ w) P₀ w K mg base ["bag", "m", "walls", "many", "names", "wall", "turn"] "_law_drawn_things" (defScope (top 31)) f cdv A outer s H E) (fun c d _ H => E c d H) (defBody (top 31)) (t__law_drawn_things K) := by
  have hxx := hx
  obtain ⟨he_LockerError, he_NoWall, he_NoThing, he_Refused, he_TooMany, er_Refused, er_TooMany, hxf_Refused, hxf_TooMany, hxf_NoThing, hxf_NoWall, hno_Refused_why, hno_TooMany_what, hno_TooMany_limit, hno_NoThing_number, hno_NoWall_name, ek⟩ := hx
  exact dss_cons (ds_set sc__law_drawn_things.nd (i := 4) rfl (by first | exact Or.inl rfl | exact Or.inr rfl) (de_lc rfl sc__law_drawn_things.nd (di_seq (de_var 2)) (own := [("wall", 5)]) (blkOk_by (by kernel_rfl)) (by decide) (fun _ _ _ _ _ => dg_name (i := 5) sc__law_drawn_things.nd rfl (by first | exact Or.inl rfl | exact Or.inr rfl)) (fun _ _ _ _ _ => dts_nil) (fun _ _ _ _ _ => de_ix (de_var 5) (de_int))))
    (dss_one (ds_ret (de_callT dc_tuple (da_cons (de_lc rfl sc__law_drawn_things.nd (di_range1 (da_cons (de_call c__law_take (hr.mono (by decide)) tk (da_cons (de_var 0) (da_cons (de_op do_add (de_var 3) (de_int)) (da_nil)))) (da_nil)) fr.f_range) (own := [("turn", 6)]) (blkOk_by (by kernel_rfl)) (by decide) (fun _ _ _ _ _ => dg_name (i := 6) sc__law_drawn_things.nd rfl (by first | exact Or.inl rfl | exact Or.inr rfl)) (fun _ _ _ _ _ => dts_nil) (fun _ _ _ _ _ => de_tup (da_cons (de_op do_add (de_int) (de_call c__law_take (hr.mono (by decide)) LamX.takes0 (da_cons (de_var 0) (da_cons (de_var 1) (da_nil))))) (da_cons (de_call c__law_places (hr.mono (by decide)) LamX.takes0 (da_cons (de_var 0) (da_cons (de_var 4) (da_nil)))) (da_nil))))) (da_nil)) fr.f_tuple (by decide +kernel))))
/-! ### _law_sets -/
theorem sc__law_sets : FnScope ["many", "found", "at", "some"] ["many"] (defScope (top 39)) := ⟨rfl, rfl, rfl, by decide +kernel, rfl, by decide +kernel, by decide +kernel⟩
theorem d__law_sets {P₀ : Program} {w : World} {K : PySem.W.Frag} {mg : Str → Option Value} {base : Heap} {f : Addr} {cdv : Value} {A : Around} {outer : List Env} {s : Shared} {H : Hp} {E : XK} (hx : ErrF P₀ K mg) (fr : Frees mg) (hca : CodeAt K f cdv) (hr : Room 0 (cxOf (L2.CX P₀ w) P₀ w K mg base ["many", "found", "at", "some"] "_law_sets" (defScope (top 39)) f cdv A outer s H E).A) (hq : false = true → Quiet (cxOf (L2.CX P₀ w) P₀ w K mg base ["many", "found", "at", "some"] "_law_sets" (defScope (top 39)) f cdv A outer s H E).A)
    (tk : Takes (cxOf (L2.CX P₀ w) P₀ w K mg base ["many", "found", "at", "some"] "_law_sets" (defScope (top 39)) f cdv A outer s H E) (fun c d _ H => E c d H)) : DSs (cxOf (L2.CX P₀ w) P₀ w K mg base ["many", "found", "at", "some"] "_law_sets" (defScope (top 39)) f cdv A outer s H E) (fun c d _ H => E c d H) (defBody (top 39)) (t__law_sets K) := by
  have hxx := hx
  obtain ⟨he_LockerError, he_NoWall, he_NoThing, he_Refused, he_TooMany, er_Refused, er_TooMany, hxf_Refused, hxf_TooMany, hxf_NoThing, hxf_NoWall, hno_Refused_why, hno_TooMany_what, hno_TooMany_limit, hno_NoThing_number, hno_NoWall_name, ek⟩ := hx
  exact dss_cons (ds_set sc__law_sets.nd (i := 1) rfl (by first | exact Or.inl rfl | exact Or.inr rfl) (de_lst (da_cons (de_tup (da_nil)) (da_nil))))
    (dss_cons (ds_for (passes_of rfl) rfl (di_range1 (da_cons (de_var 0) (da_nil)) fr.f_range) (dg_name (i := 2) sc__law_sets.nd rfl (by first | exact Or.inl rfl | exact Or.inr rfl)) (dss_one (ds_set sc__law_sets.nd (i := 1) rfl (by first | exact Or.inl rfl | exact Or.inr rfl) (de_op do_add (de_var 1) (de_lc rfl sc__law_sets.nd (di_seq (de_var 1)) (own := [("some", 3)]) (blkOk_by (by kernel_rfl)) (by decide) (fun _ _ _ _ _ => dg_name (i := 3) sc__law_sets.nd rfl (by first | exact Or.inl rfl | exact Or.inr rfl)) (fun _ _ _ _ _ => dts_nil) (fun _ _ _ _ _ => de_op do_add (de_var 3) (de_tup (da_cons (de_var 2) (da_nil)))))))))
    (dss_one (ds_ret (de_var 1))))
/-! ### _law_tails -/
theorem sc__law_tails : FnScope ["counts", "at"] ["counts"] (defScope (top 18)) := ⟨rfl, rfl, rfl, by decide +kernel, rfl, by decide +kernel, by decide +kernel⟩
theorem d__law_tails {P₀ : Program} {w : World} {K : PySem.W.Frag} {mg : Str → Option Value} {base : Heap} {f : Addr} {cdv : Value} {A : Around} {outer : List Env} {s : Shared} {H : Hp} {E : XK} (hx : ErrF P₀ K mg) (fr : Frees mg) (hca : CodeAt K f cdv) (hr : Room 0 (cxOf (L2.CX P₀ w) P₀ w K mg base ["counts", "at"] "_law_tails" (defScope (top 18)) f cdv A outer s H E).A) (hq : false = true → Quiet (cxOf (L2.CX P₀ w) P₀ w K mg base ["counts", "at"] "_law_tails" (defScope (top 18)) f cdv A outer s H E).A)
    (tk : Takes (cxOf (L2.CX P₀ w) P₀ w K mg base ["counts", "at"] "_law_tails" (defScope (top 18)) f cdv A outer s H E) (fun c d _ H => E c d H)) : DSs (cxOf (L2.CX P₀ w) P₀ w K mg base ["counts", "at"] "_law_tails" (defScope (top 18)) f cdv A outer s H E) (fun c d _ H => E c d H) (defBody (top 18)) (t__law_tails K) := by
  have hxx := hx
  obtain ⟨he_LockerError, he_NoWall, he_NoThing, he_Refused, he_TooMany, er_Refused, er_TooMany, hxf_Refused, hxf_TooMany, hxf_NoThing, hxf_NoWall, hno_Refused_why, hno_TooMany_what, hno_TooMany_limit, hno_NoThing_number, hno_NoWall_name, ek⟩ := hx
  exact dss_one (ds_ret (de_callT dc_tuple (da_cons (de_lc rfl sc__law_tails.nd (di_range1 (da_cons (de_callB dc_len (da_cons (de_var 0) (da_nil)) fr.f_len (by decide +kernel)) (da_nil)) fr.f_range) (own := [("at", 1)]) (blkOk_by (by kernel_rfl)) (by decide) (fun _ _ _ _ _ => dg_name (i := 1) sc__law_tails.nd rfl (by first | exact Or.inl rfl | exact Or.inr rfl)) (fun _ _ _ _ _ => dts_nil) (fun _ _ _ _ _ => de_callB (dc_sum rfl) (da_cons (de_slice (de_var 0) (do_some (de_var 1)) (do_none)) (da_nil)) fr.f_sum (by decide +kernel))) (da_nil)) fr.f_tuple (by decide +kernel)))
/-! ### _law_rooms -/
theorem sc__law_rooms : FnScope ["counts", "jams", "tail"] ["counts", "jams"] (defScope (top 34)) := ⟨rfl, rfl, rfl, by decide +kernel, rfl, by decide +kernel, by decide +kernel⟩
theorem d__law_rooms {P₀ : Program} {w : World} {K : PySem.W.Frag} {mg : Str → Option Value} {base : Heap} {f : Addr} {cdv : Value} {A : Around} {outer : List Env} {s : Shared} {H : Hp} {E : XK} (hx : ErrF P₀ K mg) (fr : Frees mg) (c__law_tails : Cal false P₀ w K mg base 1 "_law_tails" (p__law_tails K)) (hca : CodeAt K f cdv) (hr : Room 1 (cxOf (L2.CX P₀ w) P₀ w K mg base ["counts", "jams", "tail"] "_law_rooms" (defScope (top 34)) f cdv A outer s H E).A) (hq : false = true → Quiet (cxOf (L2.CX P₀ w) P₀ w K mg base ["counts", "jams", "tail"] "_law_rooms" (defScope (top 34)) f cdv A outer s H E).A)
    (tk : Takes (cxOf (L2.CX P₀ w) P₀ w K mg base ["counts", "jams", "tail"] "_law_rooms" (defScope (top 34)) f cdv A outer s H E) (fun c d _ H => E c d H)) : DSs (cxOf (L2.CX P₀ w) P₀ w K mg base ["counts", "jams", "tail"] "_law_rooms" (defScope (top 34)) f cdv A outer s H E) (fun c d _ H => E c d H) (defBody (top 34)) (t__law_rooms K) := by
  have hxx := hx
  obtain ⟨he_LockerError, he_NoWall, he_NoThing, he_Refused, he_TooMany, er_Refused, er_TooMany, hxf_Refused, hxf_TooMany, hxf_NoThing, hxf_NoWall, hno_Refused_why, hno_TooMany_what, hno_TooMany_limit, hno_NoThing_number, hno_NoWall_name, ek⟩ := hx
  exact dss_one (ds_ret (de_callT dc_tuple (da_cons (de_lc rfl sc__law_rooms.nd (di_seq (de_call c__law_tails (hr.mono (by decide)) tk (da_cons (de_var 0) (da_nil)))) (own := [("tail", 2)]) (blkOk_by (by kernel_rfl)) (by decide) (fun _ _ _ _ _ => dg_name (i := 2) sc__law_rooms.nd rfl (by first | exact Or.inl rfl | exact Or.inr rfl)) (fun _ _ _ _ _ => dts_nil) (fun _ _ _ _ _ => de_callB (dc_max rfl) (da_cons (de_int) (da_cons (de_op do_sub (de_var 2) (de_var 1)) (da_nil))) fr.f_max (by decide +kernel))) (da_nil)) fr.f_tuple (by decide +kernel)))
/-! ### _law_room_from -/
theorem sc__law_room_from : FnScope ["walls", "name", "least", "counts", "jams", "wall"] ["walls", "name", "least"] (defScope (top 36)) := ⟨rfl, rfl, rfl, by decide +kernel, rfl, by decide +kernel, by decide +kernel⟩
theorem d__law_room_from {P₀ : Program} {w : World} {K : PySem.W.Frag} {mg : Str → Option Value} {base : Heap} {f : Addr} {cdv : Value} {A : Around} {outer : List Env} {s : Shared} {H : Hp} {E : XK} (hx : ErrF P₀ K mg) (fr : Frees mg) (c__law_rooms : Cal false P₀ w K mg base 2 "_law_rooms" (p__law_rooms K)) (hca : CodeAt K f cdv) (hr : Room 2 (cxOf (L2.CX P₀ w) P₀ w K mg base ["walls", "name", "least", "counts", "jams", "wall"] "_law_room_from" (defScope (top 36)) f cdv A outer s H E).A) (hq : false = true → Quiet (cxOf (L2.CX P₀ w) P₀ w K mg base ["walls", "name", "least", "counts", "jams", "wall"] "_law_room_from" (defScope (top 36)) f cdv A outer s H E).A)
    (tk : Takes (cxOf (L2.CX P₀ w) P₀ w K mg base ["walls", "name", "least", "counts", "jams", "wall"] "_law_room_from" (defScope (top 36)) f cdv A outer s H E) (fun c d _ H => E c d H)) : DSs (cxOf (L2.CX P₀ w) P₀ w K mg base ["walls", "name", "least", "counts", "jams", "wall"] "_law_room_from" (defScope (top 36)) f cdv A outer s H E) (fun c d _ H => E c d H) (defBody (top 36)) (t__law_room_from K) := by
  have hxx := hx
  obtain ⟨he_LockerError, he_NoWall, he_NoThing, he_Refused, he_TooMany, er_Refused, er_TooMany, hxf_Refused, hxf_TooMany, hxf_NoThing, hxf_NoWall, hno_Refused_why, hno_TooMany_what, hno_TooMany_limit, hno_NoThing_number, hno_NoWall_name, ek⟩ := hx
  exact dss_cons (ds_unp (de_ix (de_lc rfl sc__law_room_from.nd (di_seq (de_var 0)) (own := [("wall", 5)]) (blkOk_by (by kernel_rfl)) (by decide) (fun _ _ _ _ _ => dg_name (i := 5) sc__law_room_from.nd rfl (by first | exact Or.inl rfl | exact Or.inr rfl)) (fun _ _ _ _ _ => dts_one (dt_cmp (do_eq hr.units) (de_ix (de_var 5) (de_int)) (de_var 1) (by rfl))) (fun _ _ _ _ _ => de_tup (da_cons (de_ix (de_var 5) (de_int)) (da_cons (de_ix (de_var 5) (de_int)) (da_nil))))) (de_int)) (dg_tup rfl (dgs_cons (dg_name (i := 3) sc__law_room_from.nd rfl (by first | exact Or.inl rfl | exact Or.inr rfl)) (dgs_cons (dg_name (i := 4) sc__law_room_from.nd rfl (by first | exact Or.inl rfl | exact Or.inr rfl)) (dgs_nil)))))
    (dss_one (ds_ret (de_ix (de_op do_add (de_call c__law_rooms (hr.mono (by decide)) tk (da_cons (de_var 3) (da_cons (de_var 4) (da_nil)))) (de_tup (da_cons (de_int) (da_nil)))) (de_op do_sub (de_var 2) (de_int)))))
/-! ### _law_threshold -/
theorem sc__law_threshold : FnScope ["m", "things", "name", "size", "places"] ["m", "things", "name"] (defScope (top 35)) := ⟨rfl, rfl, rfl, by decide +kernel, rfl, by decide +kernel, by decide +kernel⟩
theorem d__law_threshold {P₀ : Program} {w : World} {K : PySem.W.Frag} {mg : Str → Option Value} {base : Heap} {f : Addr} {cdv : Value} {A : Around} {outer : List Env} {s : Shared} {H : Hp} {E : XK} (hx : ErrF P₀ K mg) (fr : Frees mg) (hca : CodeAt K f cdv) (hr : Room 0 (cxOf (L2.CX P₀ w) P₀ w K mg base ["m", "things", "name", "size", "places"] "_law_threshold" (defScope (top 35)) f cdv A outer s H E).A) (hq : false = true → Quiet (cxOf (L2.CX P₀ w) P₀ w K mg base ["m", "things", "name", "size", "places"] "_law_threshold" (defScope (top 35)) f cdv A outer s H E).A)
    (tk : Takes (cxOf (L2.CX P₀ w) P₀ w K mg base ["m", "things", "name", "size", "places"] "_law_threshold" (defScope (top 35)) f cdv A outer s H E) (fun c d _ H => E c d H)) : DSs (cxOf (L2.CX P₀ w) P₀ w K mg base ["m", "things", "name", "size", "places"] "_law_threshold" (defScope (top 35)) f cdv A outer s H E) (fun c d _ H => E c d H) (defBody (top 35)) (t__law_threshold K) := by
  have hxx := hx
  obtain ⟨he_LockerError, he_NoWall, he_NoThing, he_Refused, he_TooMany, er_Refused, er_TooMany, hxf_Refused, hxf_TooMany, hxf_NoThing, hxf_NoWall, hno_Refused_why, hno_TooMany_what, hno_TooMany_limit, hno_NoThing_number, hno_NoWall_name, ek⟩ := hx
  exact dss_one (ds_ret (de_callB (dc_min rfl) (da_cons (de_op do_add (de_lc rfl sc__law_threshold.nd (di_seq (de_var 1)) (own := [("size", 3), ("places", 4)]) (blkOk_by (by kernel_rfl)) (by decide) (fun _ _ _ _ _ => dg_tup rfl (dgs_cons (dg_name (i := 3) sc__law_threshold.nd rfl (by first | exact Or.inl rfl | exact Or.inr rfl)) (dgs_cons (dg_name (i := 4) sc__law_threshold.nd rfl (by first | exact Or.inl rfl | exact Or.inr rfl)) (dgs_nil)))) (fun _ _ _ _ _ => dts_one (dt_cmp do_in (de_var 2) (de_var 4) (by rfl))) (fun _ _ _ _ _ => de_var 3)) (de_lst (da_cons (de_op do_add (de_var 0) (de_int)) (da_nil)))) (da_nil)) fr.f_min (by decide +kernel)))
/-! ### _law_room_of -/
theorem sc__law_room_of : FnScope ["walls", "things", "m", "wall"] ["walls", "things"] (defScope (top 37)) := ⟨rfl, rfl, rfl, by decide +kernel, rfl, by decide +kernel, by decide +kernel⟩
theorem d__law_room_of {P₀ : Program} {w : World} {K : PySem.W.Frag} {mg : Str → Option Value} {base : Heap} {f : Addr} {cdv : Value} {A : Around} {outer : List Env} {s : Shared} {H : Hp} {E : XK} (hx : ErrF P₀ K mg) (fr : Frees mg) (c__law_room_from : Cal false P₀ w K mg base 3 "_law_room_from" (p__law_room_from K)) (c__law_threshold : Cal false P₀ w K mg base 1 "_law_threshold" (p__law_threshold K)) (hca : CodeAt K f cdv) (hr : Room 3 (cxOf (L2.CX P₀ w) P₀ w K mg base ["walls", "things", "m", "wall"] "_law_room_of" (defScope (top 37)) f cdv A outer s H E).A) (hq : false = true → Quiet (cxOf (L2.CX P₀ w) P₀ w K mg base ["walls", "things", "m", "wall"] "_law_room_of" (defScope (top 37)) f cdv A outer s H E).A)
    (tk : Takes (cxOf (L2.CX P₀ w) P₀ w K mg base ["walls", "things", "m", "wall"] "_law_room_of" (defScope (top 37)) f cdv A outer s H E) (fun c d _ H => E c d H)) : DSs (cxOf (L2.CX P₀ w) P₀ w K mg base ["walls", "things", "m", "wall"] "_law_room_of" (defScope (top 37)) f cdv A outer s H E) (fun c d _ H => E c d H) (defBody (top 37)) (t__law_room_of K) := by
  have hxx := hx
  obtain ⟨he_LockerError, he_NoWall, he_NoThing, he_Refused, he_TooMany, er_Refused, er_TooMany, hxf_Refused, hxf_TooMany, hxf_NoThing, hxf_NoWall, hno_Refused_why, hno_TooMany_what, hno_TooMany_limit, hno_NoThing_number, hno_NoWall_name, ek⟩ := hx
  exact dss_cons (ds_set sc__law_room_of.nd (i := 2) rfl (by first | exact Or.inl rfl | exact Or.inr rfl) (de_callB dc_len (da_cons (de_ix (de_ix (de_var 0) (de_int)) (de_int)) (da_nil)) fr.f_len (by decide +kernel)))
    (dss_one (ds_ret (de_callB (dc_sum rfl) (da_cons (de_lc rfl sc__law_room_of.nd (di_seq (de_var 0)) (own := [("wall", 3)]) (blkOk_by (by kernel_rfl)) (by decide) (fun _ _ _ _ _ => dg_name (i := 3) sc__law_room_of.nd rfl (by first | exact Or.inl rfl | exact Or.inr rfl)) (fun _ _ _ _ _ => dts_nil) (fun _ _ _ _ _ => de_call c__law_room_from (hr.mono (by decide)) LamX.takes0 (da_cons (de_var 0) (da_cons (de_ix (de_var 3) (de_int)) (da_cons (de_call c__law_threshold (hr.mono (by decide)) LamX.takes0 (da_cons (de_var 2) (da_cons (de_var 1) (da_cons (de_ix (de_var 3) (de_int)) (da_nil))))) (da_nil)))))) (da_nil)) fr.f_sum (by decide +kernel))))
/-! ### _law_tight_by_sets -/
theorem sc__law_tight_by_sets : FnScope ["walls", "things", "found", "some", "room", "at"] ["walls", "things"] (defScope (top 40)) := ⟨rfl, rfl, rfl, by decide +kernel, rfl, by decide +kernel, by decide +kernel⟩
theorem d__law_tight_by_sets {P₀ : Program} {w : World} {K : PySem.W.Frag} {mg : Str → Option Value} {base : Heap} {f : Addr} {cdv : Value} {A : Around} {outer : List Env} {s : Shared} {H : Hp} {E : XK} (hx : ErrF P₀ K mg) (fr : Frees mg) (c__law_sets : Cal false P₀ w K mg base 1 "_law_sets" (p__law_sets K)) (c__law_room_of : Cal false P₀ w K mg base 4 "_law_room_of" (p__law_room_of K)) (hca : CodeAt K f cdv) (hr : Room 4 (cxOf (L2.CX P₀ w) P₀ w K mg base ["walls", "things", "found", "some", "room", "at"] "_law_tight_by_sets" (defScope (top 40)) f cdv A outer s H E).A) (hq : false = true → Quiet (cxOf (L2.CX P₀ w) P₀ w K mg base ["walls", "things", "found", "some", "room", "at"] "_law_tight_by_sets" (defScope (top 40)) f cdv A outer s H E).A)
    (tk : Takes (cxOf (L2.CX P₀ w) P₀ w K mg base ["walls", "things", "found", "some", "room", "at"] "_law_tight_by_sets" (defScope (top 40)) f cdv A outer s H E) (fun c d _ H => E c d H)) : DSs (cxOf (L2.CX P₀ w) P₀ w K mg base ["walls", "things", "found", "some", "room", "at"] "_law_tight_by_sets" (defScope (top 40)) f cdv A outer s H E) (fun c d _ H => E c d H) (defBody (top 40)) (t__law_tight_by_sets K) := by
  have hxx := hx
  obtain ⟨he_LockerError, he_NoWall, he_NoThing, he_Refused, he_TooMany, er_Refused, er_TooMany, hxf_Refused, hxf_TooMany, hxf_NoThing, hxf_NoWall, hno_Refused_why, hno_TooMany_what, hno_TooMany_limit, hno_NoThing_number, hno_NoWall_name, ek⟩ := hx
  exact dss_cons (ds_set sc__law_tight_by_sets.nd (i := 2) rfl (by first | exact Or.inl rfl | exact Or.inr rfl) (de_lst (da_nil)))
    (dss_cons (ds_for (passes_of rfl) rfl (di_seq (de_call c__law_sets (hr.mono (by decide)) tk (da_cons (de_callB dc_len (da_cons (de_var 1) (da_nil)) fr.f_len (by decide +kernel)) (da_nil)))) (dg_name (i := 3) sc__law_tight_by_sets.nd rfl (by first | exact Or.inl rfl | exact Or.inr rfl)) (dss_cons (ds_set sc__law_tight_by_sets.nd (i := 4) rfl (by first | exact Or.inl rfl | exact Or.inr rfl) (de_call c__law_room_of (hr.mono (by decide)) tk (da_cons (de_var 0) (da_cons (de_lc rfl sc__law_tight_by_sets.nd (di_seq (de_var 3)) (own := [("at", 5)]) (blkOk_by (by kernel_rfl)) (by decide) (fun _ _ _ _ _ => dg_name (i := 5) sc__law_tight_by_sets.nd rfl (by first | exact Or.inl rfl | exact Or.inr rfl)) (fun _ _ _ _ _ => dts_nil) (fun _ _ _ _ _ => de_ix (de_var 1) (de_var 5))) (da_nil)))))
    (dss_cons (ds_if (dt_cmp do_gt (de_callB dc_len (da_cons (de_var 3) (da_nil)) fr.f_len (by decide +kernel)) (de_var 4) (by rfl)) (dss_one (ds_ret (de_non))) (dss_nil))
    (dss_one (ds_set sc__law_tight_by_sets.nd (i := 2) rfl (by first | exact Or.inl rfl | exact Or.inr rfl) (de_op do_add (de_var 2) (de_ifExp (dt_cmp (do_eq hr.units) (de_callB dc_len (da_cons (de_var 3) (da_nil)) fr.f_len (by decide +kernel)) (de_var 4) (by rfl)) (de_callT dc_list (da_cons (de_var 3) (da_nil)) fr.f_list (by decide +kernel)) (de_lst (da_nil)))))))))
    (dss_one (ds_ret (de_callT dc_tuple (da_cons (de_srtSet rfl (de_var 2) fr.f_sorted fr.f_set) (da_nil)) fr.f_tuple (by decide +kernel)))))
/-! ### _law_all_thresholds -/
theorem sc__law_all_thresholds : FnScope ["m", "many", "found", "turn", "longer", "one", "least"] ["m", "many"] (defScope (top 19)) := ⟨rfl, rfl, rfl, by decide +kernel, rfl, by decide +kernel, by decide +kernel⟩
theorem d__law_all_thresholds {P₀ : Program} {w : World} {K : PySem.W.Frag} {mg : Str → Option Value} {base : Heap} {f : Addr} {cdv : Value} {A : Around} {outer : List Env} {s : Shared} {H : Hp} {E : XK} (hx : ErrF P₀ K mg) (fr : Frees mg) (hca : CodeAt K f cdv) (hr : Room 0 (cxOf (L2.CX P₀ w) P₀ w K mg base ["m", "many", "found", "turn", "longer", "one", "least"] "_law_all_thresholds" (defScope (top 19)) f cdv A outer s H E).A) (hq : false = true → Quiet (cxOf (L2.CX P₀ w) P₀ w K mg base ["m", "many", "found", "turn", "longer", "one", "least"] "_law_all_thresholds" (defScope (top 19)) f cdv A outer s H E).A)
    (tk : Takes (cxOf (L2.CX P₀ w) P₀ w K mg base ["m", "many", "found", "turn", "longer", "one", "least"] "_law_all_thresholds" (defScope (top 19)) f cdv A outer s H E) (fun c d _ H => E c d H)) : DSs (cxOf (L2.CX P₀ w) P₀ w K mg base ["m", "many", "found", "turn", "longer", "one", "least"] "_law_all_thresholds" (defScope (top 19)) f cdv A outer s H E) (fun c d _ H => E c d H) (defBody (top 19)) (t__law_all_thresholds K) := by
  have hxx := hx
  obtain ⟨he_LockerError, he_NoWall, he_NoThing, he_Refused, he_TooMany, er_Refused, er_TooMany, hxf_Refused, hxf_TooMany, hxf_NoThing, hxf_NoWall, hno_Refused_why, hno_TooMany_what, hno_TooMany_limit, hno_NoThing_number, hno_NoWall_name, ek⟩ := hx
  exact dss_cons (ds_set sc__law_all_thresholds.nd (i := 2) rfl (by first | exact Or.inl rfl | exact Or.inr rfl) (de_lst (da_cons (de_tup (da_nil)) (da_nil))))
    (dss_cons (ds_for (passes_of rfl) rfl (di_range1 (da_cons (de_var 1) (da_nil)) fr.f_range) (dg_name (i := 3) sc__law_all_thresholds.nd rfl (by first | exact Or.inl rfl | exact Or.inr rfl)) (dss_cons (ds_set sc__law_all_thresholds.nd (i := 4) rfl (by first | exact Or.inl rfl | exact Or.inr rfl) (de_lstM (da_nil)))
    (dss_cons (ds_for (passes_of rfl) rfl (di_seq (de_var 2)) (dg_name (i := 5) sc__law_all_thresholds.nd rfl (by first | exact Or.inl rfl | exact Or.inr rfl)) (dss_one (ds_expr (de_mt PySem.F.plainAttrs_list PySem.F.slot_list_extend PySem.F.type_list_extend dm_extend (de_var 4) (da_cons (de_lc rfl sc__law_all_thresholds.nd (di_range2 (da_cons (de_int) (da_cons (de_op do_add (de_var 0) (de_int)) (da_nil))) fr.f_range) (own := [("least", 6)]) (blkOk_by (by kernel_rfl)) (by decide) (fun _ _ _ _ _ => dg_name (i := 6) sc__law_all_thresholds.nd rfl (by first | exact Or.inl rfl | exact Or.inr rfl)) (fun _ _ _ _ _ => dts_nil) (fun _ _ _ _ _ => de_op do_add (de_var 5) (de_tup (da_cons (de_var 6) (da_nil))))) (da_nil))))))
    (dss_one (ds_set sc__law_all_thresholds.nd (i := 2) rfl (by first | exact Or.inl rfl | exact Or.inr rfl) (de_var 4))))))
    (dss_one (ds_ret (de_var 2))))
/-! ### _law_less_greatest -/
theorem sc__law_less_greatest : FnScope ["counts", "many", "found", "left", "at", "gone"] ["counts", "many"] (defScope (top 21)) := ⟨rfl, rfl, rfl, by decide +kernel, rfl, by decide +kernel, by decide +kernel⟩
theorem d__law_less_greatest {P₀ : Program} {w : World} {K : PySem.W.Frag} {mg : Str → Option Value} {base : Heap} {f : Addr} {cdv : Value} {A : Around} {outer : List Env} {s : Shared} {H : Hp} {E : XK} (hx : ErrF P₀ K mg) (fr : Frees mg) (hca : CodeAt K f cdv) (hr : Room 0 (cxOf (L2.CX P₀ w) P₀ w K mg base ["counts", "many", "found", "left", "at", "gone"] "_law_less_greatest" (defScope (top 21)) f cdv A outer s H E).A) (hq : false = true → Quiet (cxOf (L2.CX P₀ w) P₀ w K mg base ["counts", "many", "found", "left", "at", "gone"] "_law_less_greatest" (defScope (top 21)) f cdv A outer s H E).A)
    (tk : Takes (cxOf (L2.CX P₀ w) P₀ w K mg base ["counts", "many", "found", "left", "at", "gone"] "_law_less_greatest" (defScope (top 21)) f cdv A outer s H E) (fun c d _ H => E c d H)) : DSs (cxOf (L2.CX P₀ w) P₀ w K mg base ["counts", "many", "found", "left", "at", "gone"] "_law_less_greatest" (defScope (top 21)) f cdv A outer s H E) (fun c d _ H => E c d H) (defBody (top 21)) (t__law_less_greatest K) := by
  have hxx := hx
  obtain ⟨he_LockerError, he_NoWall, he_NoThing, he_Refused, he_TooMany, er_Refused, er_TooMany, hxf_Refused, hxf_TooMany, hxf_NoThing, hxf_NoWall, hno_Refused_why, hno_TooMany_what, hno_TooMany_limit, hno_NoThing_number, hno_NoWall_name, ek⟩ := hx
  exact dss_cons (ds_par (i := 2) (j := 3) rfl sc__law_less_greatest.nd rfl rfl (by decide) rfl rfl (da_cons (de_callT dc_list (da_cons (de_var 0) (da_nil)) fr.f_list (by decide +kernel)) (da_cons (de_var 1) (da_nil))) (by rfl))
    (dss_cons (ds_for (passes_of rfl) rfl (di_range3 (da_cons (de_op do_sub (de_callB dc_len (da_cons (de_var 0) (da_nil)) fr.f_len (by decide +kernel)) (de_int)) (da_cons (de_un du_neg (de_int)) (da_cons (de_un du_neg (de_int)) (da_nil)))) fr.f_range) (dg_name (i := 4) sc__law_less_greatest.nd rfl (by first | exact Or.inl rfl | exact Or.inr rfl)) (dss_cons (ds_set sc__law_less_greatest.nd (i := 5) rfl (by first | exact Or.inl rfl | exact Or.inr rfl) (de_callB (dc_min rfl) (da_cons (de_var 3) (da_cons (de_ix (de_var 2) (de_var 4)) (da_nil))) fr.f_min (by decide +kernel)))
    (dss_cons (ds_augI (de_var 2) (de_var 4) (de_var 5) di_sub)
    (dss_one (ds_aug sc__law_less_greatest.nd (i := 3) rfl (by first | exact Or.inl rfl | exact Or.inr rfl) (de_var 5) di_sub)))))
    (dss_one (ds_ret (de_callT dc_tuple (da_cons (de_var 2) (da_nil)) fr.f_tuple (by decide +kernel)))))
/-! ### _law_beyond -/
theorem sc__law_beyond : FnScope ["walls", "thresholds", "wall", "one"] ["walls", "thresholds"] (defScope (top 22)) := ⟨rfl, rfl, rfl, by decide +kernel, rfl, by decide +kernel, by decide +kernel⟩
theorem d__law_beyond {P₀ : Program} {w : World} {K : PySem.W.Frag} {mg : Str → Option Value} {base : Heap} {f : Addr} {cdv : Value} {A : Around} {outer : List Env} {s : Shared} {H : Hp} {E : XK} (hx : ErrF P₀ K mg) (fr : Frees mg) (c__law_less_greatest : Cal false P₀ w K mg base 1 "_law_less_greatest" (p__law_less_greatest K)) (hca : CodeAt K f cdv) (hr : Room 1 (cxOf (L2.CX P₀ w) P₀ w K mg base ["walls", "thresholds", "wall", "one"] "_law_beyond" (defScope (top 22)) f cdv A outer s H E).A) (hq : false = true → Quiet (cxOf (L2.CX P₀ w) P₀ w K mg base ["walls", "thresholds", "wall", "one"] "_law_beyond" (defScope (top 22)) f cdv A outer s H E).A)
    (tk : Takes (cxOf (L2.CX P₀ w) P₀ w K mg base ["walls", "thresholds", "wall", "one"] "_law_beyond" (defScope (top 22)) f cdv A outer s H E) (fun c d _ H => E c d H)) : DSs (cxOf (L2.CX P₀ w) P₀ w K mg base ["walls", "thresholds", "wall", "one"] "_law_beyond" (defScope (top 22)) f cdv A outer s H E) (fun c d _ H => E c d H) (defBody (top 22)) (t__law_beyond K) := by
  have hxx := hx
  obtain ⟨he_LockerError, he_NoWall, he_NoThing, he_Refused, he_TooMany, er_Refused, er_TooMany, hxf_Refused, hxf_TooMany, hxf_NoThing, hxf_NoWall, hno_Refused_why, hno_TooMany_what, hno_TooMany_limit, hno_NoThing_number, hno_NoWall_name, ek⟩ := hx
  exact dss_one (ds_ret (de_callB (dc_sum rfl) (da_cons (de_lc rfl sc__law_beyond.nd (di_zip (da_cons (de_var 0) (da_cons (de_var 1) (da_nil))) fr.f_zip) (own := [("wall", 2), ("one", 3)]) (blkOk_by (by kernel_rfl)) (by decide) (fun _ _ _ _ _ => dg_tup rfl (dgs_cons (dg_name (i := 2) sc__law_beyond.nd rfl (by first | exact Or.inl rfl | exact Or.inr rfl)) (dgs_cons (dg_name (i := 3) sc__law_beyond.nd rfl (by first | exact Or.inl rfl | exact Or.inr rfl)) (dgs_nil)))) (fun _ _ _ _ _ => dts_nil) (fun _ _ _ _ _ => de_callB (dc_sum rfl) (da_cons (de_slice (de_call c__law_less_greatest (hr.mono (by decide)) LamX.takes0 (da_cons (de_ix (de_var 2) (de_int)) (da_cons (de_ix (de_var 2) (de_int)) (da_nil)))) (do_some (de_op do_sub (de_var 3) (de_int))) (do_none)) (da_nil)) fr.f_sum (by decide +kernel))) (da_nil)) fr.f_sum (by decide +kernel)))
/-! ### _law_is_within -/
theorem sc__law_is_within : FnScope ["walls", "thing", "thresholds", "least", "wall", "one", "name"] ["walls", "thing", "thresholds"] (defScope (top 20)) := ⟨rfl, rfl, rfl, by decide +kernel, rfl, by decide +kernel, by decide +kernel⟩
theorem d__law_is_within {P₀ : Program} {w : World} {K : PySem.W.Frag} {mg : Str → Option Value} {base : Heap} {f : Addr} {cdv : Value} {A : Around} {outer : List Env} {s : Shared} {H : Hp} {E : XK} (hx : ErrF P₀ K mg) (fr : Frees mg) (hca : CodeAt K f cdv) (hr : Room 0 (cxOf (L2.CX P₀ w) P₀ w K mg base ["walls", "thing", "thresholds", "least", "wall", "one", "name"] "_law_is_within" (defScope (top 20)) f cdv A outer s H E).A) (hq : false = true → Quiet (cxOf (L2.CX P₀ w) P₀ w K mg base ["walls", "thing", "thresholds", "least", "wall", "one", "name"] "_law_is_within" (defScope (top 20)) f cdv A outer s H E).A)
    (tk : Takes (cxOf (L2.CX P₀ w) P₀ w K mg base ["walls", "thing", "thresholds", "least", "wall", "one", "name"] "_law_is_within" (defScope (top 20)) f cdv A outer s H E) (fun c d _ H => E c d H)) : DSs (cxOf (L2.CX P₀ w) P₀ w K mg base ["walls", "thing", "thresholds", "least", "wall", "one", "name"] "_law_is_within" (defScope (top 20)) f cdv A outer s H E) (fun c d _ H => E c d H) (defBody (top 20)) (t__law_is_within K) := by
  have hxx := hx
  obtain ⟨he_LockerError, he_NoWall, he_NoThing, he_Refused, he_TooMany, er_Refused, er_TooMany, hxf_Refused, hxf_TooMany, hxf_NoThing, hxf_NoWall, hno_Refused_why, hno_TooMany_what, hno_TooMany_limit, hno_NoThing_number, hno_NoWall_name, ek⟩ := hx
  exact dss_cons (ds_set sc__law_is_within.nd (i := 3) rfl (by first | exact Or.inl rfl | exact Or.inr rfl) (de_callT (dc_dict rfl) (da_cons (de_lc rfl sc__law_is_within.nd (di_zip (da_cons (de_var 0) (da_cons (de_var 2) (da_nil))) fr.f_zip) (own := [("wall", 4), ("one", 5)]) (blkOk_by (by kernel_rfl)) (by decide) (fun _ _ _ _ _ => dg_tup rfl (dgs_cons (dg_name (i := 4) sc__law_is_within.nd rfl (by first | exact Or.inl rfl | exact Or.inr rfl)) (dgs_cons (dg_name (i := 5) sc__law_is_within.nd rfl (by first | exact Or.inl rfl | exact Or.inr rfl)) (dgs_nil)))) (fun _ _ _ _ _ => dts_nil) (fun _ _ _ _ _ => de_tup (da_cons (de_ix (de_var 4) (de_int)) (da_cons (de_var 5) (da_nil))))) (da_nil)) fr.f_dict (by decide +kernel)))
    (dss_one (ds_ret (de_cmp (do_eq hr.units) (de_lc rfl sc__law_is_within.nd (di_seq (de_ix (de_var 1) (de_int))) (own := [("name", 6)]) (blkOk_by (by kernel_rfl)) (by decide) (fun _ _ _ _ _ => dg_name (i := 6) sc__law_is_within.nd rfl (by first | exact Or.inl rfl | exact Or.inr rfl)) (fun _ _ _ _ _ => dts_one (dt_cmp do_lt (de_ix (de_var 1) (de_int)) (de_dget hr.units (de_var 3) (de_var 6)) (by rfl))) (fun _ _ _ _ _ => de_int)) (de_lst (da_nil)) (by rfl))))
/-! ### _law_tight_by_thresholds -/
theorem sc__law_tight_by_thresholds : FnScope ["walls", "things", "found", "thresholds", "some", "at"] ["walls", "things"] (defScope (top 38)) := ⟨rfl, rfl, rfl, by decide +kernel, rfl, by decide +kernel, by decide +kernel⟩
theorem d__law_tight_by_thresholds {P₀ : Program} {w : World} {K : PySem.W.Frag} {mg : Str → Option Value} {base : Heap} {f : Addr} {cdv : Value} {A : Around} {outer : List Env} {s : Shared} {H : Hp} {E : XK} (hx : ErrF P₀ K mg) (fr : Frees mg) (c__law_all_thresholds : Cal false P₀ w K mg base 1 "_law_all_thresholds" (p__law_all_thresholds K)) (c__law_is_within : Cal false P₀ w K mg base 1 "_law_is_within" (p__law_is_within K)) (c__law_beyond : Cal false P₀ w K mg base 2 "_law_beyond" (p__law_beyond K)) (hca : CodeAt K f cdv) (hr : Room 2 (cxOf (L2.CX P₀ w) P₀ w K mg base ["walls", "things", "found", "thresholds", "some", "at"] "_law_tight_by_thresholds" (defScope (top 38)) f cdv A outer s H E).A) (hq : false = true → Quiet (cxOf (L2.CX P₀ w) P₀ w K mg base ["walls", "things", "found", "thresholds", "some", "at"] "_law_tight_by_thresholds" (defScope (top 38)) f cdv A outer s H E).A)
    (tk : Takes (cxOf (L2.CX P₀ w) P₀ w K mg base ["walls", "things", "found", "thresholds", "some", "at"] "_law_tight_by_thresholds" (defScope (top 38)) f cdv A outer s H E) (fun c d _ H => E c d H)) : DSs (cxOf (L2.CX P₀ w) P₀ w K mg base ["walls", "things", "found", "thresholds", "some", "at"] "_law_tight_by_thresholds" (defScope (top 38)) f cdv A outer s H E) (fun c d _ H => E c d H) (defBody (top 38)) (t__law_tight_by_thresholds K) := by
  have hxx := hx
  obtain ⟨he_LockerError, he_NoWall, he_NoThing, he_Refused, he_TooMany, er_Refused, er_TooMany, hxf_Refused, hxf_TooMany, hxf_NoThing, hxf_NoWall, hno_Refused_why, hno_TooMany_what, hno_TooMany_limit, hno_NoThing_number, hno_NoWall_name, ek⟩ := hx
  exact dss_cons (ds_set sc__law_tight_by_thresholds.nd (i := 2) rfl (by first | exact Or.inl rfl | exact Or.inr rfl) (de_lst (da_nil)))
    (dss_cons (ds_for (passes_of rfl) rfl (di_seq (de_call c__law_all_thresholds (hr.mono (by decide)) tk (da_cons (de_callB dc_len (da_cons (de_ix (de_ix (de_var 0) (de_int)) (de_int)) (da_nil)) fr.f_len (by decide +kernel)) (da_cons (de_callB dc_len (da_cons (de_var 0) (da_nil)) fr.f_len (by decide +kernel)) (da_nil))))) (dg_name (i := 3) sc__law_tight_by_thresholds.nd rfl (by first | exact Or.inl rfl | exact Or.inr rfl)) (dss_cons (ds_setLc rfl sc__law_tight_by_thresholds.nd (i := 4) rfl rfl (sw_true rfl rfl (by rfl) (by decide +kernel)) (di_range1 (da_cons (de_callB dc_len (da_cons (de_var 1) (da_nil)) fr.f_len (by decide +kernel)) (da_nil)) fr.f_range) (own := [("at", 5)]) (blkOk_by (by kernel_rfl)) (by decide) (fun _ _ _ _ _ => dg_name (i := 5) sc__law_tight_by_thresholds.nd rfl (by first | exact Or.inl rfl | exact Or.inr rfl)) (fun _ _ _ _ _ => dts_one (dt_truth (de_call c__law_is_within (hr.mono (by decide)) LamX.takes0 (da_cons (de_var 0) (da_cons (de_ix (de_var 1) (de_var 5)) (da_cons (de_var 3) (da_nil))))))) (fun _ _ _ _ _ => de_var 5))
    (dss_cons (ds_if (dt_cmp do_gt (de_callB dc_len (da_cons (de_var 4) (da_nil)) fr.f_len (by decide +kernel)) (de_call c__law_beyond (hr.mono (by decide)) tk (da_cons (de_var 0) (da_cons (de_var 3) (da_nil)))) (by rfl)) (dss_one (ds_ret (de_non))) (dss_nil))
    (dss_one (ds_set sc__law_tight_by_thresholds.nd (i := 2) rfl (by first | exact Or.inl rfl | exact Or.inr rfl) (de_op do_add (de_var 2) (de_ifExp (dt_cmp (do_eq hr.units) (de_callB dc_len (da_cons (de_var 4) (da_nil)) fr.f_len (by decide +kernel)) (de_call c__law_beyond (hr.mono (by decide)) tk (da_cons (de_var 0) (da_cons (de_var 3) (da_nil)))) (by rfl)) (de_var 4) (de_lst (da_nil)))))))))
    (dss_one (ds_ret (de_callT dc_tuple (da_cons (de_srtSet rfl (de_var 2) fr.f_sorted fr.f_set) (da_nil)) fr.f_tuple (by decide +kernel)))))
/-! ### _law_alike -/
theorem sc__law_alike : FnScope ["found", "due"] ["found", "due"] (defScope (top 32)) := ⟨rfl, rfl, rfl, by decide +kernel, rfl, by decide +kernel, by decide +kernel⟩
theorem d__law_alike {P₀ : Program} {w : World} {K : PySem.W.Frag} {mg : Str → Option Value} {base : Heap} {f : Addr} {cdv : Value} {A : Around} {outer : List Env} {s : Shared} {H : Hp} {E : XK} (hx : ErrF P₀ K mg) (fr : Frees mg) (hca : CodeAt K f cdv) (hr : Room 0 (cxOf (L2.CX P₀ w) P₀ w K mg base ["found", "due"] "_law_alike" (defScope (top 32)) f cdv A outer s H E).A) (hq : true = true → Quiet (cxOf (L2.CX P₀ w) P₀ w K mg base ["found", "due"] "_law_alike" (defScope (top 32)) f cdv A outer s H E).A)
    (tk : Takes (cxOf (L2.CX P₀ w) P₀ w K mg base ["found", "due"] "_law_alike" (defScope (top 32)) f cdv A outer s H E) (fun c d _ H => E c d H)) : DSs (cxOf (L2.CX P₀ w) P₀ w K mg base ["found", "due"] "_law_alike" (defScope (top 32)) f cdv A outer s H E) (fun c d _ H => E c d H) (defBody (top 32)) (t__law_alike K) := by
  have hxx := hx
  obtain ⟨he_LockerError, he_NoWall, he_NoThing, he_Refused, he_TooMany, er_Refused, er_TooMany, hxf_Refused, hxf_TooMany, hxf_NoThing, hxf_NoWall, hno_Refused_why, hno_TooMany_what, hno_TooMany_limit, hno_NoThing_number, hno_NoWall_name, ek⟩ := hx
  exact dss_one (ds_ret (de_and (de_cmp (do_eq hr.units) (de_callB (dc_repr rfl (hq rfl) hr.units) (da_cons (de_var 0) (da_nil)) fr.f_repr (by decide +kernel)) (de_callB (dc_repr rfl (hq rfl) hr.units) (da_cons (de_var 1) (da_nil)) fr.f_repr (by decide +kernel)) (by rfl)) (de_one (de_cmp (do_eq hr.units) (de_var 0) (de_var 1) (by rfl)))))
/-! ### _law_heard -/
theorem sc__law_heard : FnScope ["act", "e"] ["act"] (defScope (top 33)) := ⟨rfl, rfl, rfl, by decide +kernel, rfl, by decide +kernel, by decide +kernel⟩
theorem d__law_heard {X : Cx} {K : PySem.W.Frag} (hK : X.K = K) (hx : ErrF X.prog X.K X.mg) (fr : Frees X.mg) {g : Addr} {cdg : Value} (s : Shared) (H : Hp) (act : DTE)
    (hact : ∀ (W : WX) (pn : List (Addr × Obj)) (xe : Value → Shared → Prop) (p1 p2 : Pos), Takes ((hrdCx X ["act", "e"] "_law_heard" (defScope (top 33)) g cdg s H).tr pn xe) W → DE ((hrdCx X ["act", "e"] "_law_heard" (defScope (top 33)) g cdg s H).tr pn xe) W (.Call (.Name "act" p1) [] [] p2) act) :
    DSs (hrdCx X ["act", "e"] "_law_heard" (defScope (top 33)) g cdg s H) WF (defBody (top 33)) (t__law_heard K act) := by
  subst hK
  have hxx := hx
  obtain ⟨he_LockerError, he_NoWall, he_NoThing, he_Refused, he_TooMany, er_Refused, er_TooMany, hxf_Refused, hxf_TooMany, hxf_NoThing, hxf_NoWall, hno_Refused_why, hno_TooMany_what, hno_TooMany_limit, hno_NoThing_number, hno_NoWall_name, ek⟩ := hx
  exact dss_one (ds_try_as (i := 1) rfl rfl sc__law_heard.nd rfl rfl ⟨rfl, by decide, .inl he_LockerError⟩ LamX.takes0 (fun W pn xe tk2 _ => dss_one (ds_ret (de_tup (da_cons (de_str) (da_cons ((hact W pn xe _ _ tk2)) (da_nil)))))) (fun a oe cls d pn hz hf => dss_cons (ds_if (dt_truth (de_callB (dc_isX hz hf) (da_cons (de_var 1) (da_cons (de_globRef rfl (he_Refused)) (da_nil))) fr.f_isinstance (by decide +kernel))) (dss_one (ds_ret (de_tup (da_cons (de_str) (da_cons (de_xf (hxf_Refused) (hno_Refused_why) hz hf (de_var 1)) (da_nil)))))) (dss_nil))
    (dss_cons (ds_if (dt_truth (de_callB (dc_isX hz hf) (da_cons (de_var 1) (da_cons (de_globRef rfl (he_TooMany)) (da_nil))) fr.f_isinstance (by decide +kernel))) (dss_one (ds_ret (de_tup (da_cons (de_str) (da_cons (de_xf (hxf_TooMany) (hno_TooMany_what) hz hf (de_var 1)) (da_cons (de_xf (hxf_TooMany) (hno_TooMany_limit) hz hf (de_var 1)) (da_nil))))))) (dss_nil))
    (dss_cons (ds_if (dt_truth (de_callB (dc_isX hz hf) (da_cons (de_var 1) (da_cons (de_globRef rfl (he_NoThing)) (da_nil))) fr.f_isinstance (by decide +kernel))) (dss_one (ds_ret (de_tup (da_cons (de_str) (da_cons (de_xf (hxf_NoThing) (hno_NoThing_number) hz hf (de_var 1)) (da_nil)))))) (dss_nil))
    (dss_one (ds_ret (de_ifExp (dt_truth (de_callB (dc_isX hz hf) (da_cons (de_var 1) (da_cons (de_globRef rfl (he_NoWall)) (da_nil))) fr.f_isinstance (by decide +kernel))) (de_tup (da_cons (de_str) (da_cons (de_xf (hxf_NoWall) (hno_NoWall_name) hz hf (de_var 1)) (da_nil)))) (de_tup (da_cons (de_str) (da_nil))))))))))
theorem lam__law_heard {X : Cx} {W0 : WX} {k : Nat} {g c P : Addr} {fd : FuncData} {qn : Str} {params : Arguments} {body : Expr} {scope : Scope} {p lpos pos : Pos} {tb : DTE} (HB : HOk__law_heard X.K) (hx : ErrF X.prog X.K X.mg) (fr : Frees X.mg) (F : FnP X.K "_law_heard" (top 33) g fd) (hm : X.mg "_law_heard" = some (.ref g))
    (TB : LamX.TabB X.base X.mg c P) (hcode : X.env.code = .ref c) (hqn : X.env.qual ++ "<lambda>" = qn) (hr : Room (k + 2) X.A) (L : LamX.LamS X.env.scope scope) (hdef : defaultsOf params X.env = ([], [])) (hbind : ∀ (q : Str) (cl : List (Str × Addr)) (pm cv ctv : Value), bindArgs (PySem.W.kla_fn "<lambda>" q params body scope cl pm cv ctv) ⟨[], []⟩ = pure [])
    (hbody : ∀ (A : Around) (outer : List Env) (s : Shared) (H : Hp) (E : XK) (f c' : Addr), Room k (A.deeper (LamX.lamEnv X scope s.heap.objs.size f c')) → Takes (LamX.lamCx X A outer s H E scope f c') (fun cls d _ H => E cls d H) → DE (LamX.lamCx X A outer s H E scope f c') (fun cls d _ H => E cls d H) body tb) (hg : Gl X "_law_heard" := by rfl) :
    DE X W0 (.Call (.Name "_law_heard" p) [.Lambda params body scope lpos] [] pos) (dLam [(P, qn)] (h__law_heard X.K) tb) := by
  subst hqn
  exact de_lamcall (Ng := ["act", "e"]) (a := "act") (T := [(P, X.env.qual ++ "<lambda>")]) (t := h__law_heard X.K) F hm (fun _ _ _ _ _ _ us hl => match us, hl with | [_], _ => rfl) sc__law_heard rfl (by first | exact Or.inl rfl | exact Or.inr (Or.inl rfl)) (fun cdv => gives_of (by decide) (fun s H ta ha => d__law_heard rfl hx fr s H ta ha) (fun act M Q f c vs xs h => HB act M Q f c _ vs xs h)) TB hcode (List.mem_singleton.mpr rfl) (fun p hp _ => by cases List.mem_singleton.mp hp; rfl) hr L hdef hbind hbody hg
/-! ### tails_of -/
theorem sc_tails_of : FnScope ["counts", "at"] ["counts"] (defScope (top 7)) := ⟨rfl, rfl, rfl, by decide +kernel, rfl, by decide +kernel, by decide +kernel⟩
theorem d_tails_of {P₀ : Program} {w : World} {K : PySem.W.Frag} {mg : Str → Option Value} {base : Heap} {f : Addr} {cdv : Value} {A : Around} {outer : List Env} {s : Shared} {H : Hp} {E : XK} (hx : ErrF P₀ K mg) (fr : Frees mg) (hca : CodeAt K f cdv) (hr : Room 0 (cxOf (L2.CX P₀ w) P₀ w K mg base ["counts", "at"] "tails_of" (defScope (top 7)) f cdv A outer s H E).A) (hq : false = true → Quiet (cxOf (L2.CX P₀ w) P₀ w K mg base ["counts", "at"] "tails_of" (defScope (top 7)) f cdv A outer s H E).A)
    (tk : Takes (cxOf (L2.CX P₀ w) P₀ w K mg base ["counts", "at"] "tails_of" (defScope (top 7)) f cdv A outer s H E) (fun c d _ H => E c d H)) : DSs (cxOf (L2.CX P₀ w) P₀ w K mg base ["counts", "at"] "tails_of" (defScope (top 7)) f cdv A outer s H E) (fun c d _ H => E c d H) (defBody (top 7)) (t_tails_of K) := by
  have hxx := hx
  obtain ⟨he_LockerError, he_NoWall, he_NoThing, he_Refused, he_TooMany, er_Refused, er_TooMany, hxf_Refused, hxf_TooMany, hxf_NoThing, hxf_NoWall, hno_Refused_why, hno_TooMany_what, hno_TooMany_limit, hno_NoThing_number, hno_NoWall_name, ek⟩ := hx
  exact dss_one (ds_ret (de_callT dc_tuple (da_cons (de_lc rfl sc_tails_of.nd (di_range1 (da_cons (de_callB dc_len (da_cons (de_var 0) (da_nil)) fr.f_len (by decide +kernel)) (da_nil)) fr.f_range) (own := [("at", 1)]) (blkOk_by (by kernel_rfl)) (by decide) (fun _ _ _ _ _ => dg_name (i := 1) sc_tails_of.nd rfl (by first | exact Or.inl rfl | exact Or.inr rfl)) (fun _ _ _ _ _ => dts_nil) (fun _ _ _ _ _ => de_callB (dc_sum rfl) (da_cons (de_slice (de_var 0) (do_some (de_var 1)) (do_none)) (da_nil)) fr.f_sum (by decide +kernel))) (da_nil)) fr.f_tuple (by decide +kernel)))
/-! ### rest_tails -/
theorem sc_rest_tails : FnScope ["counts", "jams", "tail"] ["counts", "jams"] (defScope (top 10)) := ⟨rfl, rfl, rfl, by decide +kernel, rfl, by decide +kernel, by decide +kernel⟩
theorem d_rest_tails {P₀ : Program} {w : World} {K : PySem.W.Frag} {mg : Str → Option Value} {base : Heap} {f : Addr} {cdv : Value} {A : Around} {outer : List Env} {s : Shared} {H : Hp} {E : XK} (hx : ErrF P₀ K mg) (fr : Frees mg) (c_tails_of : Cal false P₀ w K mg base 1 "tails_of" (p_tails_of K)) (hca : CodeAt K f cdv) (hr : Room 1 (cxOf (L2.CX P₀ w) P₀ w K mg base ["counts", "jams", "tail"] "rest_tails" (defScope (top 10)) f cdv A outer s H E).A) (hq : false = true → Quiet (cxOf (L2.CX P₀ w) P₀ w K mg base ["counts", "jams", "tail"] "rest_tails" (defScope (top 10)) f cdv A outer s H E).A)
    (tk : Takes (cxOf (L2.CX P₀ w) P₀ w K mg base ["counts", "jams", "tail"] "rest_tails" (defScope (top 10)) f cdv A outer s H E) (fun c d _ H => E c d H)) : DSs (cxOf (L2.CX P₀ w) P₀ w K mg base ["counts", "jams", "tail"] "rest_tails" (defScope (top 10)) f cdv A outer s H E) (fun c d _ H => E c d H) (defBody (top 10)) (t_rest_tails K) := by
  have hxx := hx
  obtain ⟨he_LockerError, he_NoWall, he_NoThing, he_Refused, he_TooMany, er_Refused, er_TooMany, hxf_Refused, hxf_TooMany, hxf_NoThing, hxf_NoWall, hno_Refused_why, hno_TooMany_what, hno_TooMany_limit, hno_NoThing_number, hno_NoWall_name, ek⟩ := hx
  exact dss_one (ds_ret (de_callT dc_tuple (da_cons (de_lc rfl sc_rest_tails.nd (di_seq (de_call c_tails_of (hr.mono (by decide)) tk (da_cons (de_var 0) (da_nil)))) (own := [("tail", 2)]) (blkOk_by (by kernel_rfl)) (by decide) (fun _ _ _ _ _ => dg_name (i := 2) sc_rest_tails.nd rfl (by first | exact Or.inl rfl | exact Or.inr rfl)) (fun _ _ _ _ _ => dts_nil) (fun _ _ _ _ _ => de_callB (dc_max rfl) (da_cons (de_int) (da_cons (de_op do_sub (de_var 2) (de_var 1)) (da_nil))) fr.f_max (by decide +kernel))) (da_nil)) fr.f_tuple (by decide +kernel)))
/-! ### threshold_rows -/
theorem sc_threshold_rows : FnScope ["m", "many", "found", "turn", "row", "threshold"] ["m", "many"] (defScope (top 12)) := ⟨rfl, rfl, rfl, by decide +kernel, rfl, by decide +kernel, by decide +kernel⟩
theorem d_threshold_rows {P₀ : Program} {w : World} {K : PySem.W.Frag} {mg : Str → Option Value} {base : Heap} {f : Addr} {cdv : Value} {A : Around} {outer : List Env} {s : Shared} {H : Hp} {E : XK} (hx : ErrF P₀ K mg) (fr : Frees mg) (hca : CodeAt K f cdv) (hr : Room 0 (cxOf (L2.CX P₀ w) P₀ w K mg base ["m", "many", "found", "turn", "row", "threshold"] "threshold_rows" (defScope (top 12)) f cdv A outer s H E).A) (hq : false = true → Quiet (cxOf (L2.CX P₀ w) P₀ w K mg base ["m", "many", "found", "turn", "row", "threshold"] "threshold_rows" (defScope (top 12)) f cdv A outer s H E).A)
    (tk : Takes (cxOf (L2.CX P₀ w) P₀ w K mg base ["m", "many", "found", "turn", "row", "threshold"] "threshold_rows" (defScope (top 12)) f cdv A outer s H E) (fun c d _ H => E c d H)) : DSs (cxOf (L2.CX P₀ w) P₀ w K mg base ["m", "many", "found", "turn", "row", "threshold"] "threshold_rows" (defScope (top 12)) f cdv A outer s H E) (fun c d _ H => E c d H) (defBody (top 12)) (t_threshold_rows K) := by
  have hxx := hx
  obtain ⟨he_LockerError, he_NoWall, he_NoThing, he_Refused, he_TooMany, er_Refused, er_TooMany, hxf_Refused, hxf_TooMany, hxf_NoThing, hxf_NoWall, hno_Refused_why, hno_TooMany_what, hno_TooMany_limit, hno_NoThing_number, hno_NoWall_name, ek⟩ := hx
  exact dss_cons (ds_set sc_threshold_rows.nd (i := 2) rfl (by first | exact Or.inl rfl | exact Or.inr rfl) (de_lst (da_cons (de_tup (da_nil)) (da_nil))))
    (dss_cons (ds_for (passes_of rfl) rfl (di_range1 (da_cons (de_var 1) (da_nil)) fr.f_range) (dg_name (i := 3) sc_threshold_rows.nd rfl (by first | exact Or.inl rfl | exact Or.inr rfl)) (dss_one (ds_setLc2 rfl sc_threshold_rows.nd (i := 2) rfl rfl (sw_true rfl rfl (by rfl) (by decide +kernel)) (di_seq (de_var 2)) (own := [("row", 4), ("threshold", 5)]) (blkOk_by (by kernel_rfl)) (by decide) (vs1 := [5]) (by decide) (by decide) (fun _ _ _ _ _ => dg_name (i := 4) sc_threshold_rows.nd rfl (by first | exact Or.inl rfl | exact Or.inr rfl)) (fun _ _ _ _ _ => dts_nil) (fun _ _ _ _ _ => di_range2 (da_cons (de_int) (da_cons (de_op do_add (de_var 0) (de_int)) (da_nil))) fr.f_range) (fun _ _ _ _ _ => dg_name (i := 5) sc_threshold_rows.nd rfl (by first | exact Or.inl rfl | exact Or.inr rfl)) (fun _ _ _ _ _ => dts_nil) (fun _ _ _ _ _ => de_tup (da_star (de_var 4) (da_cons (de_var 5) (da_nil)))))))
    (dss_one (ds_ret (de_var 2))))
/-! ### room_from -/
theorem sc_room_from : FnScope ["wall", "size"] ["wall", "size"] (defScope (top 11)) := ⟨rfl, rfl, rfl, by decide +kernel, rfl, by decide +kernel, by decide +kernel⟩
theorem d_room_from {P₀ : Program} {w : World} {K : PySem.W.Frag} {mg : Str → Option Value} {base : Heap} {f : Addr} {cdv : Value} {A : Around} {outer : List Env} {s : Shared} {H : Hp} {E : XK} (hx : ErrF P₀ K mg) (fr : Frees mg) (c_rest_tails : Cal false P₀ w K mg base 2 "rest_tails" (p_rest_tails K)) (hca : CodeAt K f cdv) (hr : Room 2 (cxOf (L2.CX P₀ w) P₀ w K mg base ["wall", "size"] "room_from" (defScope (top 11)) f cdv A outer s H E).A) (hq : false = true → Quiet (cxOf (L2.CX P₀ w) P₀ w K mg base ["wall", "size"] "room_from" (defScope (top 11)) f cdv A outer s H E).A)
    (tk : Takes (cxOf (L2.CX P₀ w) P₀ w K mg base ["wall", "size"] "room_from" (defScope (top 11)) f cdv A outer s H E) (fun c d _ H => E c d H)) : DSs (cxOf (L2.CX P₀ w) P₀ w K mg base ["wall", "size"] "room_from" (defScope (top 11)) f cdv A outer s H E) (fun c d _ H => E c d H) (defBody (top 11)) (t_room_from K) := by
  have hxx := hx
  obtain ⟨he_LockerError, he_NoWall, he_NoThing, he_Refused, he_TooMany, er_Refused, er_TooMany, hxf_Refused, hxf_TooMany, hxf_NoThing, hxf_NoWall, hno_Refused_why, hno_TooMany_what, hno_TooMany_limit, hno_NoThing_number, hno_NoWall_name, ek⟩ := hx
  exact dss_one (ds_ret (de_ix (de_tup (da_star (de_call c_rest_tails (hr.mono (by decide)) tk (da_cons (de_ix (de_var 0) (de_int)) (da_cons (de_ix (de_var 0) (de_int)) (da_nil)))) (da_cons (de_int) (da_nil)))) (de_op do_sub (de_var 1) (de_int))))
/-! ### room_of -/
theorem sc_room_of : FnScope ["walls", "thresholds", "wall", "threshold"] ["walls", "thresholds"] (defScope (top 14)) := ⟨rfl, rfl, rfl, by decide +kernel, rfl, by decide +kernel, by decide +kernel⟩
theorem d_room_of {P₀ : Program} {w : World} {K : PySem.W.Frag} {mg : Str → Option Value} {base : Heap} {f : Addr} {cdv : Value} {A : Around} {outer : List Env} {s : Shared} {H : Hp} {E : XK} (hx : ErrF P₀ K mg) (fr : Frees mg) (c_room_from : Cal false P₀ w K mg base 3 "room_from" (p_room_from K)) (hca : CodeAt K f cdv) (hr : Room 3 (cxOf (L2.CX P₀ w) P₀ w K mg base ["walls", "thresholds", "wall", "threshold"] "room_of" (defScope (top 14)) f cdv A outer s H E).A) (hq : false = true → Quiet (cxOf (L2.CX P₀ w) P₀ w K mg base ["walls", "thresholds", "wall", "threshold"] "room_of" (defScope (top 14)) f cdv A outer s H E).A)
    (tk : Takes (cxOf (L2.CX P₀ w) P₀ w K mg base ["walls", "thresholds", "wall", "threshold"] "room_of" (defScope (top 14)) f cdv A outer s H E) (fun c d _ H => E c d H)) : DSs (cxOf (L2.CX P₀ w) P₀ w K mg base ["walls", "thresholds", "wall", "threshold"] "room_of" (defScope (top 14)) f cdv A outer s H E) (fun c d _ H => E c d H) (defBody (top 14)) (t_room_of K) := by
  have hxx := hx
  obtain ⟨he_LockerError, he_NoWall, he_NoThing, he_Refused, he_TooMany, er_Refused, er_TooMany, hxf_Refused, hxf_TooMany, hxf_NoThing, hxf_NoWall, hno_Refused_why, hno_TooMany_what, hno_TooMany_limit, hno_NoThing_number, hno_NoWall_name, ek⟩ := hx
  exact dss_one (ds_ret (de_callB (dc_sum rfl) (da_cons (de_lc rfl sc_room_of.nd (di_zip (da_cons (de_var 0) (da_cons (de_var 1) (da_nil))) fr.f_zip) (own := [("wall", 2), ("threshold", 3)]) (blkOk_by (by kernel_rfl)) (by decide) (fun _ _ _ _ _ => dg_tup rfl (dgs_cons (dg_name (i := 2) sc_room_of.nd rfl (by first | exact Or.inl rfl | exact Or.inr rfl)) (dgs_cons (dg_name (i := 3) sc_room_of.nd rfl (by first | exact Or.inl rfl | exact Or.inr rfl)) (dgs_nil)))) (fun _ _ _ _ _ => dts_nil) (fun _ _ _ _ _ => de_call c_room_from (hr.mono (by decide)) LamX.takes0 (da_cons (de_var 2) (da_cons (de_var 3) (da_nil))))) (da_nil)) fr.f_sum (by decide +kernel)))
/-! ### is_within -/
theorem sc_is_within : FnScope ["walls", "thresholds", "thing", "size", "places", "wall", "threshold"] ["walls", "thresholds", "thing"] (defScope (top 13)) := ⟨rfl, rfl, rfl, by decide +kernel, rfl, by decide +kernel, by decide +kernel⟩
theorem d_is_within {P₀ : Program} {w : World} {K : PySem.W.Frag} {mg : Str → Option Value} {base : Heap} {f : Addr} {cdv : Value} {A : Around} {outer : List Env} {s : Shared} {H : Hp} {E : XK} (hx : ErrF P₀ K mg) (fr : Frees mg) (hca : CodeAt K f cdv) (hr : Room 0 (cxOf (L2.CX P₀ w) P₀ w K mg base ["walls", "thresholds", "thing", "size", "places", "wall", "threshold"] "is_within" (defScope (top 13)) f cdv A outer s H E).A) (hq : false = true → Quiet (cxOf (L2.CX P₀ w) P₀ w K mg base ["walls", "thresholds", "thing", "size", "places", "wall", "threshold"] "is_within" (defScope (top 13)) f cdv A outer s H E).A)
    (tk : Takes (cxOf (L2.CX P₀ w) P₀ w K mg base ["walls", "thresholds", "thing", "size", "places", "wall", "threshold"] "is_within" (defScope (top 13)) f cdv A outer s H E) (fun c d _ H => E c d H)) : DSs (cxOf (L2.CX P₀ w) P₀ w K mg base ["walls", "thresholds", "thing", "size", "places", "wall", "threshold"] "is_within" (defScope (top 13)) f cdv A outer s H E) (fun c d _ H => E c d H) (defBody (top 13)) (t_is_within K) := by
  have hxx := hx
  obtain ⟨he_LockerError, he_NoWall, he_NoThing, he_Refused, he_TooMany, er_Refused, er_TooMany, hxf_Refused, hxf_TooMany, hxf_NoThing, hxf_NoWall, hno_Refused_why, hno_TooMany_what, hno_TooMany_limit, hno_NoThing_number, hno_NoWall_name, ek⟩ := hx
  exact dss_cons (ds_unp (de_var 2) (dg_tup rfl (dgs_cons (dg_name (i := 3) sc_is_within.nd rfl (by first | exact Or.inl rfl | exact Or.inr rfl)) (dgs_cons (dg_name (i := 4) sc_is_within.nd rfl (by first | exact Or.inl rfl | exact Or.inr rfl)) (dgs_nil)))))
    (dss_one (ds_ret (de_callB (dc_all rfl) (da_cons (de_lc rfl sc_is_within.nd (di_zip (da_cons (de_var 0) (da_cons (de_var 1) (da_nil))) fr.f_zip) (own := [("wall", 5), ("threshold", 6)]) (blkOk_by (by kernel_rfl)) (by decide) (fun _ _ _ _ _ => dg_tup rfl (dgs_cons (dg_name (i := 5) sc_is_within.nd rfl (by first | exact Or.inl rfl | exact Or.inr rfl)) (dgs_cons (dg_name (i := 6) sc_is_within.nd rfl (by first | exact Or.inl rfl | exact Or.inr rfl)) (dgs_nil)))) (fun _ _ _ _ _ => dts_one (dt_cmp do_in (de_ix (de_var 5) (de_int)) (de_var 4) (by rfl))) (fun _ _ _ _ _ => de_cmp do_ge (de_var 3) (de_var 6) (by rfl))) (da_nil)) fr.f_all (by decide +kernel))))
/-! ### tight_numbers -/
theorem sc_tight_numbers : FnScope ["walls", "numbered", "found", "thresholds", "inside", "room", "number", "thing"] ["walls", "numbered"] (defScope (top 15)) := ⟨rfl, rfl, rfl, by decide +kernel, rfl, by decide +kernel, by decide +kernel⟩
theorem d_tight_numbers {P₀ : Program} {w : World} {K : PySem.W.Frag} {mg : Str → Option Value} {base : Heap} {f : Addr} {cdv : Value} {A : Around} {outer : List Env} {s : Shared} {H : Hp} {E : XK} (hx : ErrF P₀ K mg) (fr : Frees mg) (c_threshold_rows : Cal false P₀ w K mg base 1 "threshold_rows" (p_threshold_rows K)) (c_is_within : Cal false P₀ w K mg base 1 "is_within" (p_is_within K)) (c_room_of : Cal false P₀ w K mg base 4 "room_of" (p_room_of K)) (hca : CodeAt K f cdv) (hr : Room 4 (cxOf (L2.CX P₀ w) P₀ w K mg base ["walls", "numbered", "found", "thresholds", "inside", "room", "number", "thing"] "tight_numbers" (defScope (top 15)) f cdv A outer s H E).A) (hq : false = true → Quiet (cxOf (L2.CX P₀ w) P₀ w K mg base ["walls", "numbered", "found", "thresholds", "inside", "room", "number", "thing"] "tight_numbers" (defScope (top 15)) f cdv A outer s H E).A)
    (tk : Takes (cxOf (L2.CX P₀ w) P₀ w K mg base ["walls", "numbered", "found", "thresholds", "inside", "room", "number", "thing"] "tight_numbers" (defScope (top 15)) f cdv A outer s H E) (fun c d _ H => E c d H)) : DSs (cxOf (L2.CX P₀ w) P₀ w K mg base ["walls", "numbered", "found", "thresholds", "inside", "room", "number", "thing"] "tight_numbers" (defScope (top 15)) f cdv A outer s H E) (fun c d _ H => E c d H) (defBody (top 15)) (t_tight_numbers K) := by
  have hxx := hx
  obtain ⟨he_LockerError, he_NoWall, he_NoThing, he_Refused, he_TooMany, er_Refused, er_TooMany, hxf_Refused, hxf_TooMany, hxf_NoThing, hxf_NoWall, hno_Refused_why, hno_TooMany_what, hno_TooMany_limit, hno_NoThing_number, hno_NoWall_name, ek⟩ := hx
  exact dss_cons (ds_set sc_tight_numbers.nd (i := 2) rfl (by first | exact Or.inl rfl | exact Or.inr rfl) (de_lstM (da_nil)))
    (dss_cons (ds_for (passes_of rfl) rfl (di_seq (de_call c_threshold_rows (hr.mono (by decide)) tk (da_cons (de_callB dc_len (da_cons (de_ix (de_ix (de_var 0) (de_int)) (de_int)) (da_nil)) fr.f_len (by decide +kernel)) (da_cons (de_callB dc_len (da_cons (de_var 0) (da_nil)) fr.f_len (by decide +kernel)) (da_nil))))) (dg_name (i := 3) sc_tight_numbers.nd rfl (by first | exact Or.inl rfl | exact Or.inr rfl)) (dss_cons (ds_setLc rfl sc_tight_numbers.nd (i := 4) rfl rfl (sw_true rfl rfl (by rfl) (by decide +kernel)) (di_seq (de_var 1)) (own := [("number", 6), ("thing", 7)]) (blkOk_by (by kernel_rfl)) (by decide) (fun _ _ _ _ _ => dg_tup rfl (dgs_cons (dg_name (i := 6) sc_tight_numbers.nd rfl (by first | exact Or.inl rfl | exact Or.inr rfl)) (dgs_cons (dg_name (i := 7) sc_tight_numbers.nd rfl (by first | exact Or.inl rfl | exact Or.inr rfl)) (dgs_nil)))) (fun _ _ _ _ _ => dts_one (dt_truth (de_call c_is_within (hr.mono (by decide)) LamX.takes0 (da_cons (de_var 0) (da_cons (de_var 3) (da_cons (de_var 7) (da_nil))))))) (fun _ _ _ _ _ => de_var 6))
    (dss_cons (ds_set sc_tight_numbers.nd (i := 5) rfl (by first | exact Or.inl rfl | exact Or.inr rfl) (de_call c_room_of (hr.mono (by decide)) tk (da_cons (de_var 0) (da_cons (de_var 3) (da_nil)))))
    (dss_cons (ds_if (dt_cmp do_gt (de_callB dc_len (da_cons (de_var 4) (da_nil)) fr.f_len (by decide +kernel)) (de_var 5) (by rfl)) (dss_one (ds_ret (de_non))) (dss_nil))
    (dss_one (ds_if (dt_cmp (do_eq hr.units) (de_callB dc_len (da_cons (de_var 4) (da_nil)) fr.f_len (by decide +kernel)) (de_var 5) (by rfl)) (dss_one (ds_expr (de_mt PySem.F.plainAttrs_list PySem.F.slot_list_extend PySem.F.type_list_extend dm_extend (de_var 2) (da_cons (de_var 4) (da_nil))))) (dss_nil)))))))
    (dss_one (ds_ret (de_callT dc_tuple (da_cons (de_srtSc rfl sc_tight_numbers.nd (di_seq (de_var 2)) (own := [("number", 6)]) (blkOk_by (by kernel_rfl)) (by decide) (fun _ _ _ _ _ => dg_name (i := 6) sc_tight_numbers.nd rfl (by first | exact Or.inl rfl | exact Or.inr rfl)) (fun _ _ _ _ _ => dts_nil) (fun _ _ _ _ _ => de_var 6) fr.f_sorted) (da_nil)) fr.f_tuple (by decide +kernel)))))
/-! ### tight -/
theorem sc_tight : FnScope ["walls", "things", "found"] ["walls", "things"] (defScope (top 16)) := ⟨rfl, rfl, rfl, by decide +kernel, rfl, by decide +kernel, by decide +kernel⟩
theorem d_tight {P₀ : Program} {w : World} {K : PySem.W.Frag} {mg : Str → Option Value} {base : Heap} {f : Addr} {cdv : Value} {A : Around} {outer : List Env} {s : Shared} {H : Hp} {E : XK} (hx : ErrF P₀ K mg) (fr : Frees mg) (c_tight_numbers : Cal false P₀ w K mg base 5 "tight_numbers" (p_tight_numbers K)) (hca : CodeAt K f cdv) (hr : Room 5 (cxOf (L2.CX P₀ w) P₀ w K mg base ["walls", "things", "found"] "tight" (defScope (top 16)) f cdv A outer s H E).A) (hq : false = true → Quiet (cxOf (L2.CX P₀ w) P₀ w K mg base ["walls", "things", "found"] "tight" (defScope (top 16)) f cdv A outer s H E).A)
    (tk : Takes (cxOf (L2.CX P₀ w) P₀ w K mg base ["walls", "things", "found"] "tight" (defScope (top 16)) f cdv A outer s H E) (fun c d _ H => E c d H)) : DSs (cxOf (L2.CX P₀ w) P₀ w K mg base ["walls", "things", "found"] "tight" (defScope (top 16)) f cdv A outer s H E) (fun c d _ H => E c d H) (defBody (top 16)) (t_tight K) := by
  have hxx := hx
  obtain ⟨he_LockerError, he_NoWall, he_NoThing, he_Refused, he_TooMany, er_Refused, er_TooMany, hxf_Refused, hxf_TooMany, hxf_NoThing, hxf_NoWall, hno_Refused_why, hno_TooMany_what, hno_TooMany_limit, hno_NoThing_number, hno_NoWall_name, ek⟩ := hx
  obtain ⟨_, i_MOST_THINGS⟩ := fr.i_MOST_THINGS
  exact dss_cons (ds_if (dt_cmp do_gt (de_callB dc_len (da_cons (de_var 1) (da_nil)) fr.f_len (by decide +kernel)) (de_globInt (i := 12) rfl i_MOST_THINGS) (by rfl)) (dss_one (ds_raiseE2 rfl er_TooMany hr tk (da_cons (de_str) (da_cons (de_globInt (i := 12) rfl i_MOST_THINGS) (da_nil))))) (dss_nil))
    (dss_cons (ds_set sc_tight.nd (i := 2) rfl (by first | exact Or.inl rfl | exact Or.inr rfl) (de_call c_tight_numbers (hr.mono (by decide)) tk (da_cons (de_var 0) (da_cons (de_lstEnum rfl (da_cons (de_var 1) (da_nil)) fr.f_list fr.f_enumerate) (da_nil)))))
    (dss_cons (ds_if (dt_cmp do_is (de_var 2) (de_non) (by rfl)) (dss_one (ds_raiseE rfl er_Refused hr tk (da_cons (de_str) (da_nil)))) (dss_nil))
    (dss_one (ds_ret (de_var 2)))))
/-! ### law -/
theorem sc_law : FnScope ["script", "bag", "turn", "m", "walls", "things", "name", "counts", "jams", "due", "kept", "again", "many", "some"] ["script"] (defScope (top 41)) := ⟨rfl, rfl, rfl, by decide +kernel, rfl, by decide +kernel, by decide +kernel⟩
theorem d_law {P₀ : Program} {w : World} {K : PySem.W.Frag} {mg : Str → Option Value} {base : Heap} {f : Addr} {cdv : Value} {A : Around} {outer : List Env} {s : Shared} {H : Hp} {E : XK} (hx : ErrF P₀ K mg) (fr : Frees mg) (c__law_bag : Cal false P₀ w K mg base 1 "_law_bag" (p__law_bag K)) (c__law_take : Cal false P₀ w K mg base 1 "_law_take" (p__law_take K)) (c__law_drawn_walls : Cal false P₀ w K mg base 4 "_law_drawn_walls" (p__law_drawn_walls K)) (c__law_drawn_things : Cal false P₀ w K mg base 4 "_law_drawn_things" (p__law_drawn_things K)) (c__law_alike : Cal true P₀ w K mg base 1 "_law_alike" (p__law_alike K)) (c__law_rooms : Cal false P₀ w K mg base 2 "_law_rooms" (p__law_rooms K)) (c_rest_tails : Cal false P₀ w K mg base 2 "rest_tails" (p_rest_tails K)) (c__law_tight_by_sets : Cal false P₀ w K mg base 5 "_law_tight_by_sets" (p__law_tight_by_sets K)) (c__law_tight_by_thresholds : Cal false P₀ w K mg base 3 "_law_tight_by_thresholds" (p__law_tight_by_thresholds K)) {gH : Addr} {fdH : FuncData} (FH__law_heard : FnP K "_law_heard" (top 33) gH fdH) (hmH__law_heard : mg "_law_heard" = some (.ref gH)) (HB__law_heard : HOk__law_heard K) {cc P : Addr} (TB : LamX.TabB base mg cc P) (hcode : CodeAt K f cdv → cdv = .ref cc) (c_tight : Cal false P₀ w K mg base 6 "tight" (p_tight K)) (hca : CodeAt K f cdv) (hr : Room 8 (cxOf (L2.CX P₀ w) P₀ w K mg base ["script", "bag", "turn", "m", "walls", "things", "name", "counts", "jams", "due", "kept", "again", "many", "some"] "law" (defScope (top 41)) f cdv A outer s H E).A) (hq : true = true → Quiet (cxOf (L2.CX P₀ w) P₀ w K mg base ["script", "bag", "turn", "m", "walls", "things", "name", "counts", "jams", "due", "kept", "again", "many", "some"] "law" (defScope (top 41)) f cdv A outer s H E).A)
    (tk : Takes (cxOf (L2.CX P₀ w) P₀ w K mg base ["script", "bag", "turn", "m", "walls", "things", "name", "counts", "jams", "due", "kept", "again", "many", "some"] "law" (defScope (top 41)) f cdv A outer s H E) (fun c d _ H => E c d H)) : DSs (cxOf (L2.CX P₀ w) P₀ w K mg base ["script", "bag", "turn", "m", "walls", "things", "name", "counts", "jams", "due", "kept", "again", "many", "some"] "law" (defScope (top 41)) f cdv A outer s H E) (fun c d _ H => E c d H) (defBody (top 41)) (t_law K P) := by
  have hxx := hx
  obtain ⟨he_LockerError, he_NoWall, he_NoThing, he_Refused, he_TooMany, er_Refused, er_TooMany, hxf_Refused, hxf_TooMany, hxf_NoThing, hxf_NoWall, hno_Refused_why, hno_TooMany_what, hno_TooMany_limit, hno_NoThing_number, hno_NoWall_name, ek⟩ := hx
  exact dss_cons (ds_set sc_law.nd (i := 1) rfl (by first | exact Or.inl rfl | exact Or.inr rfl) (de_call c__law_bag (hr.mono (by decide)) tk (da_cons (de_var 0) (da_nil))))
    (dss_cons (ds_for (passes_of rfl) rfl (di_range1 (da_cons (de_int) (da_nil)) fr.f_range) (dg_name (i := 2) sc_law.nd rfl (by first | exact Or.inl rfl | exact Or.inr rfl)) (dss_cons (ds_set sc_law.nd (i := 3) rfl (by first | exact Or.inl rfl | exact Or.inr rfl) (de_op do_add (de_int) (de_call c__law_take (hr.mono (by decide)) tk (da_cons (de_var 1) (da_cons (de_int) (da_nil))))))
    (dss_cons (ds_set sc_law.nd (i := 4) rfl (by first | exact Or.inl rfl | exact Or.inr rfl) (de_call c__law_drawn_walls (hr.mono (by decide)) tk (da_cons (de_var 1) (da_cons (de_var 3) (da_cons (de_op do_add (de_int) (de_call c__law_take (hr.mono (by decide)) tk (da_cons (de_var 1) (da_cons (de_int) (da_nil))))) (da_cons (de_int) (da_nil)))))))
    (dss_cons (ds_set sc_law.nd (i := 5) rfl (by first | exact Or.inl rfl | exact Or.inr rfl) (de_call c__law_drawn_things (hr.mono (by decide)) tk (da_cons (de_var 1) (da_cons (de_var 3) (da_cons (de_var 4) (da_cons (de_ix (de_lst (da_cons (de_int) (da_cons (de_int) (da_cons (de_int) (da_cons (de_int) (da_cons (de_int) (da_nil))))))) (de_var 2)) (da_nil)))))))
    (dss_cons (ds_for (passes_of rfl) rfl (di_seq (de_var 4)) (dg_tup rfl (dgs_cons (dg_name (i := 6) sc_law.nd rfl (by first | exact Or.inl rfl | exact Or.inr rfl)) (dgs_cons (dg_name (i := 7) sc_law.nd rfl (by first | exact Or.inl rfl | exact Or.inr rfl)) (dgs_cons (dg_name (i := 8) sc_law.nd rfl (by first | exact Or.inl rfl | exact Or.inr rfl)) (dgs_nil))))) (dss_one (ds_if (dt_not (dt_truth (de_call c__law_alike (hr.mono (by decide)) tk (da_cons (de_call c_rest_tails (hr.mono (by decide)) tk (da_cons (de_var 7) (da_cons (de_var 8) (da_nil)))) (da_cons (de_call c__law_rooms (hr.mono (by decide)) tk (da_cons (de_var 7) (da_cons (de_var 8) (da_nil)))) (da_nil))) (hq := fun _ => hq rfl)))) (dss_one (ds_ret (de_bl))) (dss_nil))))
    (dss_cons (ds_set sc_law.nd (i := 9) rfl (by first | exact Or.inl rfl | exact Or.inr rfl) (de_call c__law_tight_by_sets (hr.mono (by decide)) tk (da_cons (de_var 4) (da_cons (de_var 5) (da_nil)))))
    (dss_cons (ds_if (dt_cmp (do_ne hr.units) (de_var 9) (de_call c__law_tight_by_thresholds (hr.mono (by decide)) tk (da_cons (de_var 4) (da_cons (de_var 5) (da_nil)))) (by rfl)) (dss_one (ds_ret (de_bl))) (dss_nil))
    (dss_cons (ds_set sc_law.nd (i := 9) rfl (by first | exact Or.inl rfl | exact Or.inr rfl) (de_ifExp (dt_cmp do_is (de_var 9) (de_non) (by rfl)) (de_tup (da_cons (de_str) (da_cons (de_str) (da_nil)))) (de_tup (da_cons (de_str) (da_cons (de_var 9) (da_nil))))))
    (dss_cons (ds_set sc_law.nd (i := 10) rfl (by first | exact Or.inl rfl | exact Or.inr rfl) (de_callB (dc_repr rfl (hq rfl) hr.units) (da_cons (de_tup (da_cons (de_var 4) (da_cons (de_var 5) (da_nil)))) (da_nil)) fr.f_repr (by decide +kernel)))
    (dss_cons (ds_for (passes_of rfl) rfl (di_range1 (da_cons (de_int) (da_nil)) fr.f_range) (dg_name (i := 11) sc_law.nd rfl (by first | exact Or.inl rfl | exact Or.inr rfl)) (dss_one (ds_if (DPW.dt (dw_or (dt_not (dt_truth (de_call c__law_alike (hr.mono (by decide)) tk (da_cons (lam__law_heard (k := 6) HB__law_heard hxx fr FH__law_heard hmH__law_heard TB (hcode hca) (by kernel_rfl) (hr.mono (by decide)) (LamX.lamS_by (by kernel_rfl)) rfl (fun _ _ _ _ _ => rfl) (fun A outer s H E f c' hr tk => de_call c_tight (hr.mono (by decide)) tk (da_cons (de_var 4) (da_cons (de_var 5) (da_nil))))) (da_cons (de_var 9) (da_nil))) (hq := fun _ => hq rfl)))) (dw_or1 (dt_cmp (do_ne hr.units) (de_callB (dc_repr rfl (hq rfl) hr.units) (da_cons (de_tup (da_cons (de_var 4) (da_cons (de_var 5) (da_nil)))) (da_nil)) fr.f_repr (by decide +kernel)) (de_var 10) (by rfl))))) (dss_one (ds_ret (de_bl))) (dss_nil))))
    (dss_cons (ds_set sc_law.nd (i := 12) rfl (by first | exact Or.inl rfl | exact Or.inr rfl) (de_slice (de_op do_add (de_var 5) (de_op do_mul (de_tup (da_cons (de_tup (da_cons (de_int) (da_cons (de_tup (da_cons (de_ix (de_ix (de_var 4) (de_int)) (de_int)) (da_nil))) (da_nil)))) (da_nil))) (de_int))) (do_none) (do_some (de_int))))
    (dss_cons (ds_if (dt_not (dt_truth (de_call c__law_alike (hr.mono (by decide)) tk (da_cons (lam__law_heard (k := 6) HB__law_heard hxx fr FH__law_heard hmH__law_heard TB (hcode hca) (by kernel_rfl) (hr.mono (by decide)) (LamX.lamS_by (by kernel_rfl)) rfl (fun _ _ _ _ _ => rfl) (fun A outer s H E f c' hr tk => de_call c_tight (hr.mono (by decide)) tk (da_cons (de_var 4) (da_cons (de_var 12) (da_nil))))) (da_cons (de_tup (da_cons (de_str) (da_cons (de_str) (da_cons (de_int) (da_nil))))) (da_nil))) (hq := fun _ => hq rfl)))) (dss_one (ds_ret (de_bl))) (dss_nil))
    (dss_cons (ds_set sc_law.nd (i := 13) rfl (by first | exact Or.inl rfl | exact Or.inr rfl) (de_slice (de_var 12) (do_none) (do_some (de_int))))
    (dss_cons (ds_set sc_law.nd (i := 9) rfl (by first | exact Or.inl rfl | exact Or.inr rfl) (de_call c__law_tight_by_thresholds (hr.mono (by decide)) tk (da_cons (de_var 4) (da_cons (de_var 13) (da_nil)))))
    (dss_cons (ds_set sc_law.nd (i := 9) rfl (by first | exact Or.inl rfl | exact Or.inr rfl) (de_ifExp (dt_cmp do_is (de_var 9) (de_non) (by rfl)) (de_tup (da_cons (de_str) (da_cons (de_str) (da_nil)))) (de_tup (da_cons (de_str) (da_cons (de_var 9) (da_nil))))))
    (dss_one (ds_if (dt_not (dt_truth (de_call c__law_alike (hr.mono (by decide)) tk (da_cons (lam__law_heard (k := 6) HB__law_heard hxx fr FH__law_heard hmH__law_heard TB (hcode hca) (by kernel_rfl) (hr.mono (by decide)) (LamX.lamS_by (by kernel_rfl)) rfl (fun _ _ _ _ _ => rfl) (fun A outer s H E f c' hr tk => de_call c_tight (hr.mono (by decide)) tk (da_cons (de_var 4) (da_cons (de_var 13) (da_nil))))) (da_cons (de_var 9) (da_nil))) (hq := fun _ => hq rfl)))) (dss_one (ds_ret (de_bl))) (dss_nil))))))))))))))))))
    (dss_one (ds_ret (de_bl))))
end K32
end

section
set_option Elab.async false
set_option linter.all false
set_option maxRecDepth 100000
set_option maxHeartbeats 4000000
namespace K32
open PySem PySem.Spec PyProof.Rows L2 DL

theorem ok__law_bag {P₀ : Program} {w : World} {K : PySem.W.Frag} {mg : Str → Option Value} {base : Heap} {f : Addr} {fd : FuncData} (F : FnP K "_law_bag" (top 23) f fd) (hm : mg "_law_bag" = some (.ref f)) (hx : ErrF P₀ K mg) (fr : Frees mg) :
    Cal false P₀ w K mg base 1 "_law_bag" (p__law_bag K) :=
  cal_of (N := ["script", "cell"]) (ps := ["script"]) (t := t__law_bag K) F sc__law_bag hm (fun _ _ _ _ _ _ us hl => match us, hl with | [_], _ => rfl) (fun cdv A outer s H E hca hr hq tk => d__law_bag hx fr hca hr hq tk) (b__law_bag K (errK hx))
theorem ok__law_take {P₀ : Program} {w : World} {K : PySem.W.Frag} {mg : Str → Option Value} {base : Heap} {f : Addr} {fd : FuncData} (F : FnP K "_law_take" (top 24) f fd) (hm : mg "_law_take" = some (.ref f)) (hx : ErrF P₀ K mg) (fr : Frees mg) :
    Cal false P₀ w K mg base 1 "_law_take" (p__law_take K) :=
  cal_of (N := ["bag", "many", "cell", "stirred", "value", "begin", "second"]) (ps := ["bag", "many"]) (t := t__law_take K) F sc__law_take hm (fun _ _ _ _ _ _ us hl => match us, hl with | [_, _], _ => rfl) (fun cdv A outer s H E hca hr hq tk => d__law_take hx fr hca hr hq tk) (b__law_take K (errK hx))
theorem ok__law_mixed {P₀ : Program} {w : World} {K : PySem.W.Frag} {mg : Str → Option Value} {base : Heap} {f : Addr} {fd : FuncData} (F : FnP K "_law_mixed" (top 25) f fd) (hm : mg "_law_mixed" = some (.ref f)) (hx : ErrF P₀ K mg) (fr : Frees mg) (c__law_take : Cal false P₀ w K mg base 1 "_law_take" (p__law_take K)) :
    Cal false P₀ w K mg base 2 "_law_mixed" (p__law_mixed K) :=
  cal_of (N := ["bag", "things", "left", "found"]) (ps := ["bag", "things"]) (t := t__law_mixed K) F sc__law_mixed hm (fun _ _ _ _ _ _ us hl => match us, hl with | [_, _], _ => rfl) (fun cdv A outer s H E hca hr hq tk => d__law_mixed hx fr c__law_take hca hr hq tk) (b__law_mixed K (errK hx))
theorem ok__law_names {P₀ : Program} {w : World} {K : PySem.W.Frag} {mg : Str → Option Value} {base : Heap} {f : Addr} {fd : FuncData} (F : FnP K "_law_names" (top 26) f fd) (hm : mg "_law_names" = some (.ref f)) (hx : ErrF P₀ K mg) (fr : Frees mg) (c__law_mixed : Cal false P₀ w K mg base 2 "_law_mixed" (p__law_mixed K)) :
    Cal false P₀ w K mg base 3 "_law_names" (p__law_names K) :=
  cal_of (N := ["bag", "many"]) (ps := ["bag", "many"]) (t := t__law_names K) F sc__law_names hm (fun _ _ _ _ _ _ us hl => match us, hl with | [_, _], _ => rfl) (fun cdv A outer s H E hca hr hq tk => d__law_names hx fr c__law_mixed hca hr hq tk) (b__law_names K (errK hx))
theorem ok__law_drawn_counts {P₀ : Program} {w : World} {K : PySem.W.Frag} {mg : Str → Option Value} {base : Heap} {f : Addr} {fd : FuncData} (F : FnP K "_law_drawn_counts" (top 27) f fd) (hm : mg "_law_drawn_counts" = some (.ref f)) (hx : ErrF P₀ K mg) (fr : Frees mg) (c__law_take : Cal false P₀ w K mg base 1 "_law_take" (p__law_take K)) :
    Cal false P₀ w K mg base 2 "_law_drawn_counts" (p__law_drawn_counts K) :=
  cal_of (N := ["bag", "m", "most", "found", "size"]) (ps := ["bag", "m", "most"]) (t := t__law_drawn_counts K) F sc__law_drawn_counts hm (fun _ _ _ _ _ _ us hl => match us, hl with | [_, _, _], _ => rfl) (fun cdv A outer s H E hca hr hq tk => d__law_drawn_counts hx fr c__law_take hca hr hq tk) (b__law_drawn_counts K (errK hx))
theorem ok__law_some {P₀ : Program} {w : World} {K : PySem.W.Frag} {mg : Str → Option Value} {base : Heap} {f : Addr} {fd : FuncData} (F : FnP K "_law_some" (top 28) f fd) (hm : mg "_law_some" = some (.ref f)) (hx : ErrF P₀ K mg) (fr : Frees mg) (c__law_take : Cal false P₀ w K mg base 1 "_law_take" (p__law_take K)) :
    Cal false P₀ w K mg base 2 "_law_some" (p__law_some K) :=
  cal_of (N := ["bag", "things"]) (ps := ["bag", "things"]) (t := t__law_some K) F sc__law_some hm (fun _ _ _ _ _ _ us hl => match us, hl with | [_, _], _ => rfl) (fun cdv A outer s H E hca hr hq tk => d__law_some hx fr c__law_take hca hr hq tk) (b__law_some K (errK hx))
theorem ok__law_drawn_walls {P₀ : Program} {w : World} {K : PySem.W.Frag} {mg : Str → Option Value} {base : Heap} {f : Addr} {fd : FuncData} (F : FnP K "_law_drawn_walls" (top 29) f fd) (hm : mg "_law_drawn_walls" = some (.ref f)) (hx : ErrF P₀ K mg) (fr : Frees mg) (c__law_names : Cal false P₀ w K mg base 3 "_law_names" (p__law_names K)) (c__law_some : Cal false P₀ w K mg base 2 "_law_some" (p__law_some K)) (c__law_drawn_counts : Cal false P₀ w K mg base 2 "_law_drawn_counts" (p__law_drawn_counts K)) :
    Cal false P₀ w K mg base 4 "_law_drawn_walls" (p__law_drawn_walls K) :=
  cal_of (N := ["bag", "m", "many", "most", "names", "name"]) (ps := ["bag", "m", "many", "most"]) (t := t__law_drawn_walls K) F sc__law_drawn_walls hm (fun _ _ _ _ _ _ us hl => match us, hl with | [_, _, _, _], _ => rfl) (fun cdv A outer s H E hca hr hq tk => d__law_drawn_walls hx fr c__law_names c__law_some c__law_drawn_counts hca hr hq tk) (b__law_drawn_walls K (errK hx))
theorem ok__law_places {P₀ : Program} {w : World} {K : PySem.W.Frag} {mg : Str → Option Value} {base : Heap} {f : Addr} {fd : FuncData} (F : FnP K "_law_places" (top 30) f fd) (hm : mg "_law_places" = some (.ref f)) (hx : ErrF P₀ K mg) (fr : Frees mg) (c__law_mixed : Cal false P₀ w K mg base 2 "_law_mixed" (p__law_mixed K)) (c__law_take : Cal false P₀ w K mg base 1 "_law_take" (p__law_take K)) :
    Cal false P₀ w K mg base 3 "_law_places" (p__law_places K) :=
  cal_of (N := ["bag", "names"]) (ps := ["bag", "names"]) (t := t__law_places K) F sc__law_places hm (fun _ _ _ _ _ _ us hl => match us, hl with | [_, _], _ => rfl) (fun cdv A outer s H E hca hr hq tk => d__law_places hx fr c__law_mixed c__law_take hca hr hq tk) (b__law_places K (errK hx))
theorem ok__law_drawn_things {P₀ : Program} {w : World} {K : PySem.W.Frag} {mg : Str → Option Value} {base : Heap} {f : Addr} {fd : FuncData} (F : FnP K "_law_drawn_things" (top 31) f fd) (hm : mg "_law_drawn_things" = some (.ref f)) (hx : ErrF P₀ K mg) (fr : Frees mg) (c__law_take : Cal false P₀ w K mg base 1 "_law_take" (p__law_take K)) (c__law_places : Cal false P₀ w K mg base 3 "_law_places" (p__law_places K)) :
    Cal false P₀ w K mg base 4 "_law_drawn_things" (p__law_drawn_things K) :=
  cal_of (N := ["bag", "m", "walls", "many", "names", "wall", "turn"]) (ps := ["bag", "m", "walls", "many"]) (t := t__law_drawn_things K) F sc__law_drawn_things hm (fun _ _ _ _ _ _ us hl => match us, hl with | [_, _, _, _], _ => rfl) (fun cdv A outer s H E hca hr hq tk => d__law_drawn_things hx fr c__law_take c__law_places hca hr hq tk) (b__law_drawn_things K (errK hx))
theorem ok__law_sets {P₀ : Program} {w : World} {K : PySem.W.Frag} {mg : Str → Option Value} {base : Heap} {f : Addr} {fd : FuncData} (F : FnP K "_law_sets" (top 39) f fd) (hm : mg "_law_sets" = some (.ref f)) (hx : ErrF P₀ K mg) (fr : Frees mg) :
    Cal false P₀ w K mg base 1 "_law_sets" (p__law_sets K) :=
  cal_of (N := ["many", "found", "at", "some"]) (ps := ["many"]) (t := t__law_sets K) F sc__law_sets hm (fun _ _ _ _ _ _ us hl => match us, hl with | [_], _ => rfl) (fun cdv A outer s H E hca hr hq tk => d__law_sets hx fr hca hr hq tk) (b__law_sets K (errK hx))
theorem ok__law_tails {P₀ : Program} {w : World} {K : PySem.W.Frag} {mg : Str → Option Value} {base : Heap} {f : Addr} {fd : FuncData} (F : FnP K "_law_tails" (top 18) f fd) (hm : mg "_law_tails" = some (.ref f)) (hx : ErrF P₀ K mg) (fr : Frees mg) :
    Cal false P₀ w K mg base 1 "_law_tails" (p__law_tails K) :=
  cal_of (N := ["counts", "at"]) (ps := ["counts"]) (t := t__law_tails K) F sc__law_tails hm (fun _ _ _ _ _ _ us hl => match us, hl with | [_], _ => rfl) (fun cdv A outer s H E hca hr hq tk => d__law_tails hx fr hca hr hq tk) (b__law_tails K (errK hx))
theorem ok__law_rooms {P₀ : Program} {w : World} {K : PySem.W.Frag} {mg : Str → Option Value} {base : Heap} {f : Addr} {fd : FuncData} (F : FnP K "_law_rooms" (top 34) f fd) (hm : mg "_law_rooms" = some (.ref f)) (hx : ErrF P₀ K mg) (fr : Frees mg) (c__law_tails : Cal false P₀ w K mg base 1 "_law_tails" (p__law_tails K)) :
    Cal false P₀ w K mg base 2 "_law_rooms" (p__law_rooms K) :=
  cal_of (N := ["counts", "jams", "tail"]) (ps := ["counts", "jams"]) (t := t__law_rooms K) F sc__law_rooms hm (fun _ _ _ _ _ _ us hl => match us, hl with | [_, _], _ => rfl) (fun cdv A outer s H E hca hr hq tk => d__law_rooms hx fr c__law_tails hca hr hq tk) (b__law_rooms K (errK hx))
theorem ok__law_room_from {P₀ : Program} {w : World} {K : PySem.W.Frag} {mg : Str → Option Value} {base : Heap} {f : Addr} {fd : FuncData} (F : FnP K "_law_room_from" (top 36) f fd) (hm : mg "_law_room_from" = some (.ref f)) (hx : ErrF P₀ K mg) (fr : Frees mg) (c__law_rooms : Cal false P₀ w K mg base 2 "_law_rooms" (p__law_rooms K)) :
    Cal false P₀ w K mg base 3 "_law_room_from" (p__law_room_from K) :=
  cal_of (N := ["walls", "name", "least", "counts", "jams", "wall"]) (ps := ["walls", "name", "least"]) (t := t__law_room_from K) F sc__law_room_from hm (fun _ _ _ _ _ _ us hl => match us, hl with | [_, _, _], _ => rfl) (fun cdv A outer s H E hca hr hq tk => d__law_room_from hx fr c__law_rooms hca hr hq tk) (b__law_room_from K (errK hx))
theorem ok__law_threshold {P₀ : Program} {w : World} {K : PySem.W.Frag} {mg : Str → Option Value} {base : Heap} {f : Addr} {fd : FuncData} (F : FnP K "_law_threshold" (top 35) f fd) (hm : mg "_law_threshold" = some (.ref f)) (hx : ErrF P₀ K mg) (fr : Frees mg) :
    Cal false P₀ w K mg base 1 "_law_threshold" (p__law_threshold K) :=
  cal_of (N := ["m", "things", "name", "size", "places"]) (ps := ["m", "things", "name"]) (t := t__law_threshold K) F sc__law_threshold hm (fun _ _ _ _ _ _ us hl => match us, hl with | [_, _, _], _ => rfl) (fun cdv A outer s H E hca hr hq tk => d__law_threshold hx fr hca hr hq tk) (b__law_threshold K (errK hx))
theorem ok__law_room_of {P₀ : Program} {w : World} {K : PySem.W.Frag} {mg : Str → Option Value} {base : Heap} {f : Addr} {fd : FuncData} (F : FnP K "_law_room_of" (top 37) f fd) (hm : mg "_law_room_of" = some (.ref f)) (hx : ErrF P₀ K mg) (fr : Frees mg) (c__law_room_from : Cal false P₀ w K mg base 3 "_law_room_from" (p__law_room_from K)) (c__law_threshold : Cal false P₀ w K mg base 1 "_law_threshold" (p__law_threshold K)) :
    Cal false P₀ w K mg base 4 "_law_room_of" (p__law_room_of K) :=
  cal_of (N := ["walls", "things", "m", "wall"]) (ps := ["walls", "things"]) (t := t__law_room_of K) F sc__law_room_of hm (fun _ _ _ _ _ _ us hl => match us, hl with | [_, _], _ => rfl) (fun cdv A outer s H E hca hr hq tk => d__law_room_of hx fr c__law_room_from c__law_threshold hca hr hq tk) (b__law_room_of K (errK hx))
theorem ok__law_tight_by_sets {P₀ : Program} {w : World} {K : PySem.W.Frag} {mg : Str → Option Value} {base : Heap} {f : Addr} {fd : FuncData} (F : FnP K "_law_tight_by_sets" (top 40) f fd) (hm : mg "_law_tight_by_sets" = some (.ref f)) (hx : ErrF P₀ K mg) (fr : Frees mg) (c__law_sets : Cal false P₀ w K mg base 1 "_law_sets" (p__law_sets K)) (c__law_room_of : Cal false P₀ w K mg base 4 "_law_room_of" (p__law_room_of K)) :
    Cal false P₀ w K mg base 5 "_law_tight_by_sets" (p__law_tight_by_sets K) :=
  cal_of (N := ["walls", "things", "found", "some", "room", "at"]) (ps := ["walls", "things"]) (t := t__law_tight_by_sets K) F sc__law_tight_by_sets hm (fun _ _ _ _ _ _ us hl => match us, hl with | [_, _], _ => rfl) (fun cdv A outer s H E hca hr hq tk => d__law_tight_by_sets hx fr c__law_sets c__law_room_of hca hr hq tk) (b__law_tight_by_sets K (errK hx))
theorem ok__law_all_thresholds {P₀ : Program} {w : World} {K : PySem.W.Frag} {mg : Str → Option Value} {base : Heap} {f : Addr} {fd : FuncData} (F : FnP K "_law_all_thresholds" (top 19) f fd) (hm : mg "_law_all_thresholds" = some (.ref f)) (hx : ErrF P₀ K mg) (fr : Frees mg) :
    Cal false P₀ w K mg base 1 "_law_all_thresholds" (p__law_all_thresholds K) :=
  cal_of (N := ["m", "many", "found", "turn", "longer", "one", "least"]) (ps := ["m", "many"]) (t := t__law_all_thresholds K) F sc__law_all_thresholds hm (fun _ _ _ _ _ _ us hl => match us, hl with | [_, _], _ => rfl) (fun cdv A outer s H E hca hr hq tk => d__law_all_thresholds hx fr hca hr hq tk) (b__law_all_thresholds K (errK hx))
theorem ok__law_less_greatest {P₀ : Program} {w : World} {K : PySem.W.Frag} {mg : Str → Option Value} {base : Heap} {f : Addr} {fd : FuncData} (F : FnP K "_law_less_greatest" (top 21) f fd) (hm : mg "_law_less_greatest" = some (.ref f)) (hx : ErrF P₀ K mg) (fr : Frees mg) :
    Cal false P₀ w K mg base 1 "_law_less_greatest" (p__law_less_greatest K) :=
  cal_of (N := ["counts", "many", "found", "left", "at", "gone"]) (ps := ["counts", "many"]) (t := t__law_less_greatest K) F sc__law_less_greatest hm (fun _ _ _ _ _ _ us hl => match us, hl with | [_, _], _ => rfl) (fun cdv A outer s H E hca hr hq tk => d__law_less_greatest hx fr hca hr hq tk) (b__law_less_greatest K (errK hx))
theorem ok__law_beyond {P₀ : Program} {w : World} {K : PySem.W.Frag} {mg : Str → Option Value} {base : Heap} {f : Addr} {fd : FuncData} (F : FnP K "_law_beyond" (top 22) f fd) (hm : mg "_law_beyond" = some (.ref f)) (hx : ErrF P₀ K mg) (fr : Frees mg) (c__law_less_greatest : Cal false P₀ w K mg base 1 "_law_less_greatest" (p__law_less_greatest K)) :
    Cal false P₀ w K mg base 2 "_law_beyond" (p__law_beyond K) :=
  cal_of (N := ["walls", "thresholds", "wall", "one"]) (ps := ["walls", "thresholds"]) (t := t__law_beyond K) F sc__law_beyond hm (fun _ _ _ _ _ _ us hl => match us, hl with | [_, _], _ => rfl) (fun cdv A outer s H E hca hr hq tk => d__law_beyond hx fr c__law_less_greatest hca hr hq tk) (b__law_beyond K (errK hx))
theorem ok__law_is_within {P₀ : Program} {w : World} {K : PySem.W.Frag} {mg : Str → Option Value} {base : Heap} {f : Addr} {fd : FuncData} (F : FnP K "_law_is_within" (top 20) f fd) (hm : mg "_law_is_within" = some (.ref f)) (hx : ErrF P₀ K mg) (fr : Frees mg) :
    Cal false P₀ w K mg base 1 "_law_is_within" (p__law_is_within K) :=
  cal_of (N := ["walls", "thing", "thresholds", "least", "wall", "one", "name"]) (ps := ["walls", "thing", "thresholds"]) (t := t__law_is_within K) F sc__law_is_within hm (fun _ _ _ _ _ _ us hl => match us, hl with | [_, _, _], _ => rfl) (fun cdv A outer s H E hca hr hq tk => d__law_is_within hx fr hca hr hq tk) (b__law_is_within K (errK hx))
theorem ok__law_tight_by_thresholds {P₀ : Program} {w : World} {K : PySem.W.Frag} {mg : Str → Option Value} {base : Heap} {f : Addr} {fd : FuncData} (F : FnP K "_law_tight_by_thresholds" (top 38) f fd) (hm : mg "_law_tight_by_thresholds" = some (.ref f)) (hx : ErrF P₀ K mg) (fr : Frees mg) (c__law_all_thresholds : Cal false P₀ w K mg base 1 "_law_all_thresholds" (p__law_all_thresholds K)) (c__law_is_within : Cal false P₀ w K mg base 1 "_law_is_within" (p__law_is_within K)) (c__law_beyond : Cal false P₀ w K mg base 2 "_law_beyond" (p__law_beyond K)) :
    Cal false P₀ w K mg base 3 "_law_tight_by_thresholds" (p__law_tight_by_thresholds K) :=
  cal_of (N := ["walls", "things", "found", "thresholds", "some", "at"]) (ps := ["walls", "things"]) (t := t__law_tight_by_thresholds K) F sc__law_tight_by_thresholds hm (fun _ _ _ _ _ _ us hl => match us, hl with | [_, _], _ => rfl) (fun cdv A outer s H E hca hr hq tk => d__law_tight_by_thresholds hx fr c__law_all_thresholds c__law_is_within c__law_beyond hca hr hq tk) (b__law_tight_by_thresholds K (errK hx))
theorem ok__law_alike {P₀ : Program} {w : World} {K : PySem.W.Frag} {mg : Str → Option Value} {base : Heap} {f : Addr} {fd : FuncData} (F : FnP K "_law_alike" (top 32) f fd) (hm : mg "_law_alike" = some (.ref f)) (hx : ErrF P₀ K mg) (fr : Frees mg) :
    Cal true P₀ w K mg base 1 "_law_alike" (p__law_alike K) :=
  cal_of (N := ["found", "due"]) (ps := ["found", "due"]) (t := t__law_alike K) F sc__law_alike hm (fun _ _ _ _ _ _ us hl => match us, hl with | [_, _], _ => rfl) (fun cdv A outer s H E hca hr hq tk => d__law_alike hx fr hca hr hq tk) (b__law_alike K (errK hx))
theorem ok_tails_of {P₀ : Program} {w : World} {K : PySem.W.Frag} {mg : Str → Option Value} {base : Heap} {f : Addr} {fd : FuncData} (F : FnP K "tails_of" (top 7) f fd) (hm : mg "tails_of" = some (.ref f)) (hx : ErrF P₀ K mg) (fr : Frees mg) :
    Cal false P₀ w K mg base 1 "tails_of" (p_tails_of K) :=
  cal_of (N := ["counts", "at"]) (ps := ["counts"]) (t := t_tails_of K) F sc_tails_of hm (fun _ _ _ _ _ _ us hl => match us, hl with | [_], _ => rfl) (fun cdv A outer s H E hca hr hq tk => d_tails_of hx fr hca hr hq tk) (b_tails_of K (errK hx))
theorem ok_rest_tails {P₀ : Program} {w : World} {K : PySem.W.Frag} {mg : Str → Option Value} {base : Heap} {f : Addr} {fd : FuncData} (F : FnP K "rest_tails" (top 10) f fd) (hm : mg "rest_tails" = some (.ref f)) (hx : ErrF P₀ K mg) (fr : Frees mg) (c_tails_of : Cal false P₀ w K mg base 1 "tails_of" (p_tails_of K)) :
    Cal false P₀ w K mg base 2 "rest_tails" (p_rest_tails K) :=
  cal_of (N := ["counts", "jams", "tail"]) (ps := ["counts", "jams"]) (t := t_rest_tails K) F sc_rest_tails hm (fun _ _ _ _ _ _ us hl => match us, hl with | [_, _], _ => rfl) (fun cdv A outer s H E hca hr hq tk => d_rest_tails hx fr c_tails_of hca hr hq tk) (b_rest_tails K (errK hx))
theorem ok_threshold_rows {P₀ : Program} {w : World} {K : PySem.W.Frag} {mg : Str → Option Value} {base : Heap} {f : Addr} {fd : FuncData} (F : FnP K "threshold_rows" (top 12) f fd) (hm : mg "threshold_rows" = some (.ref f)) (hx : ErrF P₀ K mg) (fr : Frees mg) :
    Cal false P₀ w K mg base 1 "threshold_rows" (p_threshold_rows K) :=
  cal_of (N := ["m", "many", "found", "turn", "row", "threshold"]) (ps := ["m", "many"]) (t := t_threshold_rows K) F sc_threshold_rows hm (fun _ _ _ _ _ _ us hl => match us, hl with | [_, _], _ => rfl) (fun cdv A outer s H E hca hr hq tk => d_threshold_rows hx fr hca hr hq tk) (b_threshold_rows K (errK hx))
theorem ok_room_from {P₀ : Program} {w : World} {K : PySem.W.Frag} {mg : Str → Option Value} {base : Heap} {f : Addr} {fd : FuncData} (F : FnP K "room_from" (top 11) f fd) (hm : mg "room_from" = some (.ref f)) (hx : ErrF P₀ K mg) (fr : Frees mg) (c_rest_tails : Cal false P₀ w K mg base 2 "rest_tails" (p_rest_tails K)) :
    Cal false P₀ w K mg base 3 "room_from" (p_room_from K) :=
  cal_of (N := ["wall", "size"]) (ps := ["wall", "size"]) (t := t_room_from K) F sc_room_from hm (fun _ _ _ _ _ _ us hl => match us, hl with | [_, _], _ => rfl) (fun cdv A outer s H E hca hr hq tk => d_room_from hx fr c_rest_tails hca hr hq tk) (b_room_from K (errK hx))
theorem ok_room_of {P₀ : Program} {w : World} {K : PySem.W.Frag} {mg : Str → Option Value} {base : Heap} {f : Addr} {fd : FuncData} (F : FnP K "room_of" (top 14) f fd) (hm : mg "room_of" = some (.ref f)) (hx : ErrF P₀ K mg) (fr : Frees mg) (c_room_from : Cal false P₀ w K mg base 3 "room_from" (p_room_from K)) :
    Cal false P₀ w K mg base 4 "room_of" (p_room_of K) :=
  cal_of (N := ["walls", "thresholds", "wall", "threshold"]) (ps := ["walls", "thresholds"]) (t := t_room_of K) F sc_room_of hm (fun _ _ _ _ _ _ us hl => match us, hl with | [_, _], _ => rfl) (fun cdv A outer s H E hca hr hq tk => d_room_of hx fr c_room_from hca hr hq tk) (b_room_of K (errK hx))
theorem ok_is_within {P₀ : Program} {w : World} {K : PySem.W.Frag} {mg : Str → Option Value} {base : Heap} {f : Addr} {fd : FuncData} (F : FnP K "is_within" (top 13) f fd) (hm : mg "is_within" = some (.ref f)) (hx : ErrF P₀ K mg) (fr : Frees mg) :
    Cal false P₀ w K mg base 1 "is_within" (p_is_within K) :=
  cal_of (N := ["walls", "thresholds", "thing", "size", "places", "wall", "threshold"]) (ps := ["walls", "thresholds", "thing"]) (t := t_is_within K) F sc_is_within hm (fun _ _ _ _ _ _ us hl => match us, hl with | [_, _, _], _ => rfl) (fun cdv A outer s H E hca hr hq tk => d_is_within hx fr hca hr hq tk) (b_is_within K (errK hx))
theorem ok_tight_numbers {P₀ : Program} {w : World} {K : PySem.W.Frag} {mg : Str → Option Value} {base : Heap} {f : Addr} {fd : FuncData} (F : FnP K "tight_numbers" (top 15) f fd) (hm : mg "tight_numbers" = some (.ref f)) (hx : ErrF P₀ K mg) (fr : Frees mg) (c_threshold_rows : Cal false P₀ w K mg base 1 "threshold_rows" (p_threshold_rows K)) (c_is_within : Cal false P₀ w K mg base 1 "is_within" (p_is_within K)) (c_room_of : Cal false P₀ w K mg base 4 "room_of" (p_room_of K)) :
    Cal false P₀ w K mg base 5 "tight_numbers" (p_tight_numbers K) :=
  cal_of (N := ["walls", "numbered", "found", "thresholds", "inside", "room", "number", "thing"]) (ps := ["walls", "numbered"]) (t := t_tight_numbers K) F sc_tight_numbers hm (fun _ _ _ _ _ _ us hl => match us, hl with | [_, _], _ => rfl) (fun cdv A outer s H E hca hr hq tk => d_tight_numbers hx fr c_threshold_rows c_is_within c_room_of hca hr hq tk) (b_tight_numbers K (errK hx))
theorem ok_tight {P₀ : Program} {w : World} {K : PySem.W.Frag} {mg : Str → Option Value} {base : Heap} {f : Addr} {fd : FuncData} (F : FnP K "tight" (top 16) f fd) (hm : mg "tight" = some (.ref f)) (hx : ErrF P₀ K mg) (fr : Frees mg) (c_tight_numbers : Cal false P₀ w K mg base 5 "tight_numbers" (p_tight_numbers K)) :
    Cal false P₀ w K mg base 6 "tight" (p_tight K) :=
  cal_of (N := ["walls", "things", "found"]) (ps := ["walls", "things"]) (t := t_tight K) F sc_tight hm (fun _ _ _ _ _ _ us hl => match us, hl with | [_, _], _ => rfl) (fun cdv A outer s H E hca hr hq tk => d_tight hx fr c_tight_numbers hca hr hq tk) (b_tight K (errK hx))
theorem okq_law {P₀ : Program} {w : World} {K : PySem.W.Frag} {mg : Str → Option Value} {base : Heap} {f : Addr} {fd : FuncData} (F : FnP K "law" (top 41) f fd) (hm : mg "law" = some (.ref f)) (hx : ErrF P₀ K mg) (fr : Frees mg) (c__law_bag : Cal false P₀ w K mg base 1 "_law_bag" (p__law_bag K)) (c__law_take : Cal false P₀ w K mg base 1 "_law_take" (p__law_take K)) (c__law_drawn_walls : Cal false P₀ w K mg base 4 "_law_drawn_walls" (p__law_drawn_walls K)) (c__law_drawn_things : Cal false P₀ w K mg base 4 "_law_drawn_things" (p__law_drawn_things K)) (c__law_alike : Cal true P₀ w K mg base 1 "_law_alike" (p__law_alike K)) (c__law_rooms : Cal false P₀ w K mg base 2 "_law_rooms" (p__law_rooms K)) (c_rest_tails : Cal false P₀ w K mg base 2 "rest_tails" (p_rest_tails K)) (c__law_tight_by_sets : Cal false P₀ w K mg base 5 "_law_tight_by_sets" (p__law_tight_by_sets K)) (c__law_tight_by_thresholds : Cal false P₀ w K mg base 3 "_law_tight_by_thresholds" (p__law_tight_by_thresholds K)) {gH : Addr} {fdH : FuncData} (FH__law_heard : FnP K "_law_heard" (top 33) gH fdH) (hmH__law_heard : mg "_law_heard" = some (.ref gH)) {cc P : Addr} (TB : LamX.TabB base mg cc P) (hcode : ∀ cdv, CodeAt K f cdv → cdv = .ref cc) (c_tight : Cal false P₀ w K mg base 6 "tight" (p_tight K)) :
    FnQ true P₀ w K mg base (L2.CX P₀ w) 9 f fd ["script"] (lfSp K (p_law K P)) :=
  fnQ_body (N := ["script", "bag", "turn", "m", "walls", "things", "name", "counts", "jams", "due", "kept", "again", "many", "some"]) (ps := ["script"]) (t := t_law K P) F sc_law (fun cdv A outer s H E hca hr hq tk => d_law hx fr c__law_bag c__law_take c__law_drawn_walls c__law_drawn_things c__law_alike c__law_rooms c_rest_tails c__law_tight_by_sets c__law_tight_by_thresholds FH__law_heard hmH__law_heard (b__law_heard K (errK hx)) TB (hcode _) c_tight hca hr hq tk) (b_law K P (errK hx))
end K32
end

section
set_option Elab.async false
set_option linter.all false
set_option maxRecDepth 100000
set_option maxHeartbeats 0
namespace K32
open PySem PySem.Spec PyProof.Rows L2 DL
abbrev R0 : Program := PySem.Challenge.pw_owedapart_k32_rooms_and_tight_sets
def fns0 : List (Nat × Str) := [(23, "_law_bag"), (24, "_law_take"), (25, "_law_mixed"), (26, "_law_names"), (27, "_law_drawn_counts"), (28, "_law_some"), (29, "_law_drawn_walls"), (30, "_law_places"), (31, "_law_drawn_things"), (39, "_law_sets"), (18, "_law_tails"), (34, "_law_rooms"), (36, "_law_room_from"), (35, "_law_threshold"), (37, "_law_room_of"), (40, "_law_tight_by_sets"), (19, "_law_all_thresholds"), (21, "_law_less_greatest"), (22, "_law_beyond"), (20, "_law_is_within"), (38, "_law_tight_by_thresholds"), (32, "_law_alike"), (33, "_law_heard"), (7, "tails_of"), (10, "rest_tails"), (12, "threshold_rows"), (11, "room_from"), (14, "room_of"), (13, "is_within"), (15, "tight_numbers")]
def fns1 : List (Nat × Str) := [(16, "tight"), (41, "law")]
def fns : List (Nat × Str) := fns0 ++ fns1
def dd (p : Nat × Str) : He.DefD := ⟨(p.2, none), p.2, p.2, defArgs (top p.1), defBody (top p.1), defScope (top p.1), [], []⟩
def fn : List He.DefD := fns.map dd
def fa0 : List He.Fa := [.glo "_law_bag", .glo "_law_take", .glo "_law_mixed", .glo "_law_names", .glo "_law_drawn_counts", .glo "_law_some", .glo "_law_drawn_walls", .glo "_law_places", .glo "_law_drawn_things", .glo "_law_sets", .glo "_law_tails", .glo "_law_rooms", .glo "_law_room_from", .glo "_law_threshold", .glo "_law_room_of", .glo "_law_tight_by_sets", .glo "_law_all_thresholds", .glo "_law_less_greatest", .glo "_law_beyond", .glo "_law_is_within", .glo "_law_tight_by_thresholds", .glo "_law_alike", .glo "_law_heard", .glo "tails_of", .glo "rest_tails", .glo "threshold_rows", .glo "room_from", .glo "room_of", .glo "is_within", .glo "tight_numbers"]
def fa1 : List He.Fa := [.glo "tight", .glo "law", .free "abs", .free "all", .free "dict", .free "enumerate", .free "int", .free "isinstance", .free "len", .free "list", .free "max", .free "min", .free "range", .free "repr", .free "set", .free "sorted", .free "sum", .free "tuple", .free "zip", .int "MOST_THINGS" 12, .glo "LockerError", .glo "NoWall", .glo "NoThing", .glo "Refused", .glo "TooMany", .exm "Refused" "LockerError" true, .exm "TooMany" "LockerError" true, .noat "Refused" "why", .noat "TooMany" "what", .noat "TooMany" "limit"]
def fa2 : List He.Fa := [.noat "NoThing" "number", .noat "NoWall" "name"]
def fa : List He.Fa := fa0 ++ fa1 ++ fa2
def tf : List He.Defn := [("law", none)]
def xs : List Str := ["Refused", "TooMany"]
def vals : List IniW := [iniV "Refused.__init__" (defArgs (initOf (top 4))) (defBody (initOf (top 4))) (defScope (initOf (top 4))), iniV "TooMany.__init__" (defArgs (initOf (top 5))) (defBody (initOf (top 5))) (defScope (initOf (top 5)))]
def ex (K : PySem.W.Frag) : Bool := txtB K R0.main.file "Refused.__init__" "Refused" "why" && (txtB K R0.main.file "TooMany.__init__" "TooMany" "what" && (excB K (He.ga K "Refused") && (excB K (He.ga K "TooMany") && (xfB K (He.ga K "Refused") && (xfB K (He.ga K "TooMany") && (xfB K (He.ga K "NoThing") && (xfB K (He.ga K "NoWall") && (decide (PySem.W.kitOne K (.ref (He.ga K "Refused")) (.ref (He.ga K "Refused")) = some true) && (decide (PySem.W.kitOne K (.ref (He.ga K "TooMany")) (.ref (He.ga K "Refused")) = some false) && (decide (PySem.W.kitOne K (.ref (He.ga K "TooMany")) (.ref (He.ga K "TooMany")) = some true)))))))))))
abbrev R : PySem.W.OpenRow := PySem.W.OpenLaw.row PySem.Challenge.rw_owedapart_k32_rooms_and_tight_sets
abbrev hk : PySem.W.Hook := hookY 5 fa fn tf ex xs vals
def ob (s : PySem.W.SharedT) : AlY := obsY 5 fa fn tf ex xs (HandSHeadRun.getT s)
theorem ob_eq (s : PySem.W.SharedT) : ob s = hk.obs s.abs := obsY_eq (HandSHeadRun.getT_eq s)
def names0 : List Str := ["LockerError", "NoWall", "NoThing", "Refused", "TooMany", "tails_of", "rest_tails", "room_from", "threshold_rows", "is_within", "room_of", "tight_numbers", "tight", "_law_tails", "_law_all_thresholds", "_law_is_within", "_law_less_greatest", "_law_beyond", "_law_bag", "_law_take", "_law_mixed", "_law_names", "_law_drawn_counts", "_law_some", "_law_drawn_walls", "_law_places", "_law_drawn_things", "_law_alike", "_law_heard", "_law_rooms"]
def names1 : List Str := ["_law_threshold", "_law_room_from", "_law_room_of", "_law_tight_by_thresholds", "_law_sets", "_law_tight_by_sets", "MOST_THINGS"]
def names : List Str := names0 ++ names1
theorem run (w : World) : HandSHeadRun.RunEq R (PySem.W.view R.prog [41]) hk ob 6000 names w := by
  intro os
  kernel_rfl
theorem errF {P : Program} {K : PySem.W.Frag} {h : Heap} {mg : Str → Option Value} (kin : K.In h) (gns : h.Ns mainGlobals mg) (hP : P = R.prog) (c : SaysY fa fn tf ex xs vals h K) : ErrF P K mg := by
  subst hP
  have m := c.more
  unfold ex at m
  obtain ⟨m1, m⟩ := He.ba m
  obtain ⟨m2, m⟩ := He.ba m
  obtain ⟨m3, m⟩ := He.ba m
  obtain ⟨m4, m⟩ := He.ba m
  obtain ⟨m5, m⟩ := He.ba m
  obtain ⟨m6, m⟩ := He.ba m
  obtain ⟨m7, m⟩ := He.ba m
  obtain ⟨m8, m⟩ := He.ba m
  obtain ⟨m9, m⟩ := He.ba m
  obtain ⟨m10, m⟩ := He.ba m
  have gLockerError := He.glo_ok kin gns (c.d.fact 50 (f := .glo "LockerError") rfl)
  have gNoWall := He.glo_ok kin gns (c.d.fact 51 (f := .glo "NoWall") rfl)
  have gNoThing := He.glo_ok kin gns (c.d.fact 52 (f := .glo "NoThing") rfl)
  have gRefused := He.glo_ok kin gns (c.d.fact 53 (f := .glo "Refused") rfl)
  have gTooMany := He.glo_ok kin gns (c.d.fact 54 (f := .glo "TooMany") rfl)
  have x1 := He.exm_ok (c.d.fact 55 (f := .exm "Refused" "LockerError" true) rfl)
  have x2 := He.exm_ok (c.d.fact 56 (f := .exm "TooMany" "LockerError" true) rfl)
  have n1 := He.noat_ok (c.d.fact 57 (f := .noat "Refused" "why") rfl)
  have n2 := He.noat_ok (c.d.fact 58 (f := .noat "TooMany" "what") rfl)
  have n3 := He.noat_ok (c.d.fact 59 (f := .noat "TooMany" "limit") rfl)
  have n4 := He.noat_ok (c.d.fact 60 (f := .noat "NoThing" "number") rfl)
  have n5 := He.noat_ok (c.d.fact 61 (f := .noat "NoWall" "name") rfl)
  have i1 : iniW K "Refused" = iniV "Refused.__init__" (defArgs (initOf (top 4))) (defBody (initOf (top 4))) (defScope (initOf (top 4))) := (List.cons.inj c.ini).1
  have i2 : iniW K "TooMany" = iniV "TooMany.__init__" (defArgs (initOf (top 5))) (defBody (initOf (top 5))) (defScope (initOf (top 5))) := (List.cons.inj (List.cons.inj c.ini).2).1
  exact ⟨gLockerError, gNoWall, gNoThing, gRefused, gTooMany, err1_of m1 i1 gRefused rfl (fun _ _ _ _ _ _ _ _ => rfl) (fun env => ⟨_, rfl⟩), err2_of m2 n3 i2 gTooMany rfl (fun _ _ _ _ _ _ _ _ _ => rfl) (fun env => ⟨_, rfl⟩), xfB_ok m5, xfB_ok m6, xfB_ok m7, xfB_ok m8, n1, n2, n3, n4, n5, ⟨x1, x2, excB_ok m3, excB_ok m4, of_decide_eq_true m9, of_decide_eq_true m10, of_decide_eq_true m⟩⟩
theorem law_ok {P : Program} {w : World} {K : PySem.W.Frag} {h base : Heap} {mg : Str → Option Value} (kin : K.In h) (gns : h.Ns mainGlobals mg) (hP : P = R.prog) (c : SaysY fa fn tf ex xs vals h K) {fd_law : FuncData} (F_law : FnP K "law" (top 41) (He.ga K "law") fd_law)
    (TB : ∀ p ∈ [He.cT K ("law", none)], LamX.TabB base mg p.1 p.2) : FnQ true P w K mg base (L2.CX P w) 9 (He.ga K "law") fd_law ["script"] (lfSp K (p_law K (He.cT K ("law", none)).2)) := by
  obtain ⟨fd__law_bag, F__law_bag⟩ := c.d.def_ 0 (d := dd (23, "_law_bag")) rfl
  obtain ⟨fd__law_take, F__law_take⟩ := c.d.def_ 1 (d := dd (24, "_law_take")) rfl
  obtain ⟨fd__law_mixed, F__law_mixed⟩ := c.d.def_ 2 (d := dd (25, "_law_mixed")) rfl
  obtain ⟨fd__law_names, F__law_names⟩ := c.d.def_ 3 (d := dd (26, "_law_names")) rfl
  obtain ⟨fd__law_drawn_counts, F__law_drawn_counts⟩ := c.d.def_ 4 (d := dd (27, "_law_drawn_counts")) rfl
  obtain ⟨fd__law_some, F__law_some⟩ := c.d.def_ 5 (d := dd (28, "_law_some")) rfl
  obtain ⟨fd__law_drawn_walls, F__law_drawn_walls⟩ := c.d.def_ 6 (d := dd (29, "_law_drawn_walls")) rfl
  obtain ⟨fd__law_places, F__law_places⟩ := c.d.def_ 7 (d := dd (30, "_law_places")) rfl
  obtain ⟨fd__law_drawn_things, F__law_drawn_things⟩ := c.d.def_ 8 (d := dd (31, "_law_drawn_things")) rfl
  obtain ⟨fd__law_sets, F__law_sets⟩ := c.d.def_ 9 (d := dd (39, "_law_sets")) rfl
  obtain ⟨fd__law_tails, F__law_tails⟩ := c.d.def_ 10 (d := dd (18, "_law_tails")) rfl
  obtain ⟨fd__law_rooms, F__law_rooms⟩ := c.d.def_ 11 (d := dd (34, "_law_rooms")) rfl
  obtain ⟨fd__law_room_from, F__law_room_from⟩ := c.d.def_ 12 (d := dd (36, "_law_room_from")) rfl
  obtain ⟨fd__law_threshold, F__law_threshold⟩ := c.d.def_ 13 (d := dd (35, "_law_threshold")) rfl
  obtain ⟨fd__law_room_of, F__law_room_of⟩ := c.d.def_ 14 (d := dd (37, "_law_room_of")) rfl
  obtain ⟨fd__law_tight_by_sets, F__law_tight_by_sets⟩ := c.d.def_ 15 (d := dd (40, "_law_tight_by_sets")) rfl
  obtain ⟨fd__law_all_thresholds, F__law_all_thresholds⟩ := c.d.def_ 16 (d := dd (19, "_law_all_thresholds")) rfl
  obtain ⟨fd__law_less_greatest, F__law_less_greatest⟩ := c.d.def_ 17 (d := dd (21, "_law_less_greatest")) rfl
  obtain ⟨fd__law_beyond, F__law_beyond⟩ := c.d.def_ 18 (d := dd (22, "_law_beyond")) rfl
  obtain ⟨fd__law_is_within, F__law_is_within⟩ := c.d.def_ 19 (d := dd (20, "_law_is_within")) rfl
  obtain ⟨fd__law_tight_by_thresholds, F__law_tight_by_thresholds⟩ := c.d.def_ 20 (d := dd (38, "_law_tight_by_thresholds")) rfl
  obtain ⟨fd__law_alike, F__law_alike⟩ := c.d.def_ 21 (d := dd (32, "_law_alike")) rfl
  obtain ⟨fd__law_heard, F__law_heard⟩ := c.d.def_ 22 (d := dd (33, "_law_heard")) rfl
  obtain ⟨fd_tails_of, F_tails_of⟩ := c.d.def_ 23 (d := dd (7, "tails_of")) rfl
  obtain ⟨fd_rest_tails, F_rest_tails⟩ := c.d.def_ 24 (d := dd (10, "rest_tails")) rfl
  obtain ⟨fd_threshold_rows, F_threshold_rows⟩ := c.d.def_ 25 (d := dd (12, "threshold_rows")) rfl
  obtain ⟨fd_room_from, F_room_from⟩ := c.d.def_ 26 (d := dd (11, "room_from")) rfl
  obtain ⟨fd_room_of, F_room_of⟩ := c.d.def_ 27 (d := dd (14, "room_of")) rfl
  obtain ⟨fd_is_within, F_is_within⟩ := c.d.def_ 28 (d := dd (13, "is_within")) rfl
  obtain ⟨fd_tight_numbers, F_tight_numbers⟩ := c.d.def_ 29 (d := dd (15, "tight_numbers")) rfl
  obtain ⟨fd_tight, F_tight⟩ := c.d.def_ 30 (d := dd (16, "tight")) rfl
  have fr : Frees mg := ⟨He.free_ok kin gns (c.d.fact 32 (f := .free "abs") rfl), He.free_ok kin gns (c.d.fact 33 (f := .free "all") rfl), He.free_ok kin gns (c.d.fact 34 (f := .free "dict") rfl), He.free_ok kin gns (c.d.fact 35 (f := .free "enumerate") rfl), He.free_ok kin gns (c.d.fact 36 (f := .free "int") rfl), He.free_ok kin gns (c.d.fact 37 (f := .free "isinstance") rfl), He.free_ok kin gns (c.d.fact 38 (f := .free "len") rfl), He.free_ok kin gns (c.d.fact 39 (f := .free "list") rfl), He.free_ok kin gns (c.d.fact 40 (f := .free "max") rfl), He.free_ok kin gns (c.d.fact 41 (f := .free "min") rfl), He.free_ok kin gns (c.d.fact 42 (f := .free "range") rfl), He.free_ok kin gns (c.d.fact 43 (f := .free "repr") rfl), He.free_ok kin gns (c.d.fact 44 (f := .free "set") rfl), He.free_ok kin gns (c.d.fact 45 (f := .free "sorted") rfl), He.free_ok kin gns (c.d.fact 46 (f := .free "sum") rfl), He.free_ok kin gns (c.d.fact 47 (f := .free "tuple") rfl), He.free_ok kin gns (c.d.fact 48 (f := .free "zip") rfl), He.int_ok kin gns (c.d.fact 49 (f := .int "MOST_THINGS" 12) rfl)⟩
  have hx : ErrF P K mg := errF kin gns hP c
  have c__law_bag := ok__law_bag (P₀ := P) (w := w) (base := base) F__law_bag (He.glo_ok kin gns (c.d.fact 0 (f := .glo "_law_bag") rfl)) hx fr
  have c__law_take := ok__law_take (P₀ := P) (w := w) (base := base) F__law_take (He.glo_ok kin gns (c.d.fact 1 (f := .glo "_law_take") rfl)) hx fr
  have c__law_mixed := ok__law_mixed (P₀ := P) (w := w) (base := base) F__law_mixed (He.glo_ok kin gns (c.d.fact 2 (f := .glo "_law_mixed") rfl)) hx fr c__law_take
  have c__law_names := ok__law_names (P₀ := P) (w := w) (base := base) F__law_names (He.glo_ok kin gns (c.d.fact 3 (f := .glo "_law_names") rfl)) hx fr c__law_mixed
  have c__law_drawn_counts := ok__law_drawn_counts (P₀ := P) (w := w) (base := base) F__law_drawn_counts (He.glo_ok kin gns (c.d.fact 4 (f := .glo "_law_drawn_counts") rfl)) hx fr c__law_take
  have c__law_some := ok__law_some (P₀ := P) (w := w) (base := base) F__law_some (He.glo_ok kin gns (c.d.fact 5 (f := .glo "_law_some") rfl)) hx fr c__law_take
  have c__law_drawn_walls := ok__law_drawn_walls (P₀ := P) (w := w) (base := base) F__law_drawn_walls (He.glo_ok kin gns (c.d.fact 6 (f := .glo "_law_drawn_walls") rfl)) hx fr c__law_names c__law_some c__law_drawn_counts
  have c__law_places := ok__law_places (P₀ := P) (w := w) (base := base) F__law_places (He.glo_ok kin gns (c.d.fact 7 (f := .glo "_law_places") rfl)) hx fr c__law_mixed c__law_take
  have c__law_drawn_things := ok__law_drawn_things (P₀ := P) (w := w) (base := base) F__law_drawn_things (He.glo_ok kin gns (c.d.fact 8 (f := .glo "_law_drawn_things") rfl)) hx fr c__law_take c__law_places
  have c__law_sets := ok__law_sets (P₀ := P) (w := w) (base := base) F__law_sets (He.glo_ok kin gns (c.d.fact 9 (f := .glo "_law_sets") rfl)) hx fr
  have c__law_tails := ok__law_tails (P₀ := P) (w := w) (base := base) F__law_tails (He.glo_ok kin gns (c.d.fact 10 (f := .glo "_law_tails") rfl)) hx fr
  have c__law_rooms := ok__law_rooms (P₀ := P) (w := w) (base := base) F__law_rooms (He.glo_ok kin gns (c.d.fact 11 (f := .glo "_law_rooms") rfl)) hx fr c__law_tails
  have c__law_room_from := ok__law_room_from (P₀ := P) (w := w) (base := base) F__law_room_from (He.glo_ok kin gns (c.d.fact 12 (f := .glo "_law_room_from") rfl)) hx fr c__law_rooms
  have c__law_threshold := ok__law_threshold (P₀ := P) (w := w) (base := base) F__law_threshold (He.glo_ok kin gns (c.d.fact 13 (f := .glo "_law_threshold") rfl)) hx fr
  have c__law_room_of := ok__law_room_of (P₀ := P) (w := w) (base := base) F__law_room_of (He.glo_ok kin gns (c.d.fact 14 (f := .glo "_law_room_of") rfl)) hx fr c__law_room_from c__law_threshold
  have c__law_tight_by_sets := ok__law_tight_by_sets (P₀ := P) (w := w) (base := base) F__law_tight_by_sets (He.glo_ok kin gns (c.d.fact 15 (f := .glo "_law_tight_by_sets") rfl)) hx fr c__law_sets c__law_room_of
  have c__law_all_thresholds := ok__law_all_thresholds (P₀ := P) (w := w) (base := base) F__law_all_thresholds (He.glo_ok kin gns (c.d.fact 16 (f := .glo "_law_all_thresholds") rfl)) hx fr
  have c__law_less_greatest := ok__law_less_greatest (P₀ := P) (w := w) (base := base) F__law_less_greatest (He.glo_ok kin gns (c.d.fact 17 (f := .glo "_law_less_greatest") rfl)) hx fr
  have c__law_beyond := ok__law_beyond (P₀ := P) (w := w) (base := base) F__law_beyond (He.glo_ok kin gns (c.d.fact 18 (f := .glo "_law_beyond") rfl)) hx fr c__law_less_greatest
  have c__law_is_within := ok__law_is_within (P₀ := P) (w := w) (base := base) F__law_is_within (He.glo_ok kin gns (c.d.fact 19 (f := .glo "_law_is_within") rfl)) hx fr
  have c__law_tight_by_thresholds := ok__law_tight_by_thresholds (P₀ := P) (w := w) (base := base) F__law_tight_by_thresholds (He.glo_ok kin gns (c.d.fact 20 (f := .glo "_law_tight_by_thresholds") rfl)) hx fr c__law_all_thresholds c__law_is_within c__law_beyond
  have c__law_alike := ok__law_alike (P₀ := P) (w := w) (base := base) F__law_alike (He.glo_ok kin gns (c.d.fact 21 (f := .glo "_law_alike") rfl)) hx fr
  have c_tails_of := ok_tails_of (P₀ := P) (w := w) (base := base) F_tails_of (He.glo_ok kin gns (c.d.fact 23 (f := .glo "tails_of") rfl)) hx fr
  have c_rest_tails := ok_rest_tails (P₀ := P) (w := w) (base := base) F_rest_tails (He.glo_ok kin gns (c.d.fact 24 (f := .glo "rest_tails") rfl)) hx fr c_tails_of
  have c_threshold_rows := ok_threshold_rows (P₀ := P) (w := w) (base := base) F_threshold_rows (He.glo_ok kin gns (c.d.fact 25 (f := .glo "threshold_rows") rfl)) hx fr
  have c_room_from := ok_room_from (P₀ := P) (w := w) (base := base) F_room_from (He.glo_ok kin gns (c.d.fact 26 (f := .glo "room_from") rfl)) hx fr c_rest_tails
  have c_room_of := ok_room_of (P₀ := P) (w := w) (base := base) F_room_of (He.glo_ok kin gns (c.d.fact 27 (f := .glo "room_of") rfl)) hx fr c_room_from
  have c_is_within := ok_is_within (P₀ := P) (w := w) (base := base) F_is_within (He.glo_ok kin gns (c.d.fact 28 (f := .glo "is_within") rfl)) hx fr
  have c_tight_numbers := ok_tight_numbers (P₀ := P) (w := w) (base := base) F_tight_numbers (He.glo_ok kin gns (c.d.fact 29 (f := .glo "tight_numbers") rfl)) hx fr c_threshold_rows c_is_within c_room_of
  have c_tight := ok_tight (P₀ := P) (w := w) (base := base) F_tight (He.glo_ok kin gns (c.d.fact 30 (f := .glo "tight") rfl)) hx fr c_tight_numbers
  exact okq_law F_law (He.glo_ok kin gns (c.d.fact 31 (f := .glo "law") rfl)) hx fr c__law_bag c__law_take c__law_drawn_walls c__law_drawn_things c__law_alike c__law_rooms c_rest_tails c__law_tight_by_sets c__law_tight_by_thresholds F__law_heard (He.glo_ok kin gns (c.d.fact 22 (f := .glo "_law_heard") rfl)) (TB _ (by simp)) (fun cdv hc => code_is F_law hc) c_tight
end K32
open PySem PySem.W PySem.Calls PyProof.Rows
theorem PySem.Challenge.cw_owedapart_k32_rooms_and_tight_sets_holds : PySem.Challenge.rw_owedapart_k32_rooms_and_tight_sets.Holds := by
  w_on; o_law
  refine HandSHeadRun.head_any (r := K32.R) (q := view K32.R.prog [41]) (H := K32.hk) (ob := K32.ob) (M := 6000) (loose := K32.names) (d := HandSHeadRun.topDef K32.R.prog 41) (kwd := []) K32.ob_eq
    (by kernel_rfl) (fun s => by kernel_rfl) K32.run (by kernel_rfl) (by kernel_rfl) (by kernel_rfl) (by rfl) (by first | assumption | decide +kernel) (by decide +kernel) ⟨rfl, rfl, rfl, rfl, rfl, by decide +kernel⟩ ?hw ?hc
  case hw => w_witness2
  case hc =>
    refine DL.walk_ofQT (l := PySem.Challenge.rw_owedapart_k32_rooms_and_tight_sets) (n := 63) (k := 9) (x := "script") (CX := fun w => L2.CX K32.R.prog w) rfl (by decide) (by kernel_rfl) ⟨rfl, by decide, by decide⟩ ?F (fun _ _ _ _ _ z => by
      obtain ⟨_, _, _, _, _, _, _, _, _, _, _, _, z⟩ := z
      exact z)
    intro w mg fa h Y gns hmg0
    obtain ⟨K, kin, c⟩ := Y
    have hmg : mg ("law" : PySem.Str) = some (.ref fa) := by
      have e : (HandSHeadRun.topDef K32.R.prog 41).name = ("law" : PySem.Str) := by kernel_rfl
      rw [← e]
      exact hmg0
    obtain ⟨fd, F⟩ := c.d.def_ 31 (d := K32.dd (41, "law")) rfl
    have e := hmg.symm.trans (He.glo_ok kin gns (c.d.fact 31 (f := .glo "law") rfl))
    cases e
    have b := L2.FunD.bindsA (ps := ["script"]) F fun _ _ _ _ _ _ us hl => match us, hl with | [_], _ => rfl
    refine ⟨K, fd, [He.cT K ("law", none)], _, kin, ?_, ?_, ?_, fun s v => b s [v] rfl, ?_, fun base _ _ TB => K32.law_ok kin gns rfl c F TB⟩
    · intro p hp
      simp only [List.mem_cons, List.not_mem_nil, or_false] at hp
      rcases hp with rfl
      all_goals exact c.empty _ (by simp [K32.tf])
    · intro p hp
      simp only [List.mem_cons, List.not_mem_nil, or_false] at hp
      rcases hp with rfl
      all_goals exact c.out _ (by simp [K32.tf])
    · intro p hp
      simp only [List.mem_cons, List.not_mem_nil, or_false] at hp
      rcases hp with rfl
      all_goals exact PySem.W.codeHd_of_K kin (c.hd _ (by simp [K32.tf]))
    · intro H a is hl hH sq
      refine DL.law_sp (T := [((He.cT K ("law", none)).2, "law.<locals>.<lambda>")]) (fun t ht => ?_) sq ⟨is, rfl, rfl, fun _ => rfl⟩
      simp only [List.mem_cons, List.not_mem_nil, or_false] at ht
      rcases ht with rfl
      all_goals exact hH _ (by simp)
end
