import PyProof.Rows.All
import Wide.All
import OpenK.AllK
import Wide.FinOn
import HandS.ForMost
import HandS.ForExc
import HandS.TupAny
import HandS.TupMul
import HandS.Deep
import HandS.Flow
import HandS.SortInts
import HandS.IsInst
import HandS.Star
import HandS.Style
import HandS.Conv
import HandS.ExcInit
import HandS.ExcField
import HandS.ExcIs
import HandS.TryMany
import HandS.Lambda
import HandS.RaiseMore
import HandS.Zip
import HandS.Rev
import HandS.Small
import KE.GoesEnum
import HandS.Defaults
import HandS.HeadHook4
import HandS.ReCall
import HandS.Strs
import KE.KExcSuper
import HandS.WordsExc
import PyProof.ReprLen
import HandS.EndTab
import HandS.Head0
import HandS.Head1
import HandS.Head2
import KE.KStateDown
import Lean
import PySem.Challenge.RW_owedapart_k38_made_tails_and_takes
section
set_option Elab.async false
set_option linter.all false
set_option maxRecDepth 100000
/-! DL1: a layer of data over the hand layer: tuples and lists that no one changes any more are values (D), what changes stands in a small heap of its own (DHp). -/
namespace DL
open PySem PySem.Spec L2

/-- data: a tuple, a list that stays as it is, a list that may only be read (the script), a tuple on which no dict hangs (xtp), or a thing with an address -/
inductive D where
  | non
  | bl (b : Bool)
  | int (i : Int)
  | str (x : Str)
  | tup (xs : List D)
  | lst (xs : List D)
  | rol (xs : List D)
  | xtp (xs : List D)
  | exc (a : Addr) (d : Option Addr) (ns : List Str) (xs : List D)
  | lam (f c : Addr) (q : Str) (vs : List V) (xs : List D)
  | ref (a : Addr)

/-- what may change -/
inductive MO where
  | lst (xs : List D)
  | ins (C : Addr) (fs : List (Str × D))
  | tbl (q : Str)
  | busy

abbrev DHp := Addr → Option MO
def updD (M : DHp) (a : Addr) (o : MO) : DHp := fun b => if b = a then some o else M b
theorem updD_same {M : DHp} {a : Addr} {o : MO} : updD M a o a = some o := by unfold updD; rw [if_pos rfl]
theorem updD_ne {M : DHp} {a b : Addr} {o : MO} (h : b ≠ a) : updD M a o b = M b := by unfold updD; rw [if_neg h]
theorem updD_updD {M : DHp} {a : Addr} {o u : MO} : updD (updD M a o) a u = updD M a u := by
  funext b; unfold updD; split <;> rfl
theorem neD_of_none {M : DHp} {a b : Addr} {o : MO} (h : M a = some o) (h' : M b = none) : a ≠ b := by
  intro e; subst e; rw [h] at h'; cases h'

def FzT (K : PySem.W.Frag) (H : Hp) (M : DHp) (a : Addr) (xs : List V) : Prop :=
  (Rd H a (.tup xs) ∧ M a = none) ∨
    ∃ (o : Obj) (its : Array Value) (n : Nat), K.lookup a = some o ∧ o.cls = .type "tuple" ∧ o.data = .seq its n ∧ its.size ≤ sizeLine ∧ Vals xs its.toList
def FzL (K : PySem.W.Frag) (H : Hp) (M : DHp) (a : Addr) (xs : List V) : Prop :=
  (Rd H a (.lst xs) ∧ M a = none) ∨
    ∃ (o : Obj) (its : Array Value) (n : Nat), K.lookup a = some o ∧ o.cls = .type "list" ∧ o.dict = none ∧ o.data = .seq its n ∧ its.size ≤ sizeLine ∧ Vals xs its.toList
theorem FzT.seq {K : PySem.W.Frag} {H : Hp} {M : DHp} {a : Addr} {xs : List V} (h : FzT K H M a xs) : SqT K H a xs := by
  rcases h with ⟨h, _⟩ | h
  · exact .inl h
  · exact .inr h
theorem FzL.seq {K : PySem.W.Frag} {H : Hp} {M : DHp} {a : Addr} {xs : List V} (h : FzL K H M a xs) : SqL K H a xs := by
  rcases h with ⟨h, _⟩ | h
  · exact .inl h
  · exact .inr h

mutual
inductive Rep (K : PySem.W.Frag) (H : Hp) (M : DHp) : V → D → Prop
  | non : Rep K H M .non .non
  | bl (b : Bool) : Rep K H M (.bl b) (.bl b)
  | int (i : Int) : Rep K H M (.int i) (.int i)
  | str (x : Str) : Rep K H M (.str x) (.str x)
  | ref (a : Addr) : Rep K H M (.ref a) (.ref a)
  | tup {a : Addr} {xs : List V} {ds : List D} : FzT K H M a xs → RepL K H M xs ds → Rep K H M (.ref a) (.tup ds)
  | lst {a : Addr} {xs : List V} {ds : List D} : H a = some (.lst xs) → M a = none → RepL K H M xs ds → Rep K H M (.ref a) (.lst ds)
  | rol {a : Addr} {xs : List V} {ds : List D} : FzL K H M a xs → RepL K H M xs ds → Rep K H M (.ref a) (.rol ds)
  | xtp {a : Addr} {xs : List V} {ds : List D} {o : Obj} : H a = some (.frz o (.tup xs)) → o.dict = none → M a = none → RepL K H M xs ds → Rep K H M (.ref a) (.xtp ds)
  | lam {f c : Addr} {q : Str} {vs : List V} {ds : List D} : H c = some (LamX.CodeO c q) → M c = none → RepL K H M vs ds → Rep K H M (.ref f) (.lam f c q vs ds)
  | exc0 (a : Addr) : Rep K H M (.ref a) (.exc a none [] [])
  | exc1 {a d : Addr} {fs : List (Str × V)} {ds : List D} : H d = some (.xd fs) → M d = none → RepL K H M (fs.map (·.2)) ds → Rep K H M (.ref a) (.exc a (some d) (fs.map (·.1)) ds)
inductive RepL (K : PySem.W.Frag) (H : Hp) (M : DHp) : List V → List D → Prop
  | nil : RepL K H M [] []
  | cons {v : V} {vs : List V} {d : D} {ds : List D} : Rep K H M v d → RepL K H M vs ds → RepL K H M (v :: vs) (d :: ds)
end

/-- from one moment to a later one: what was not among the things that change is as it was, and is still not among them; what is busy is as it was, and busy -/
structure Ext (M : DHp) (H : Hp) (M' : DHp) (H' : Hp) : Prop where
  keep : ∀ a o, H a = some o → M a = none → (∀ ps, o ≠ .tbl ps) → H' a = some o ∧ M' a = none
  busy : ∀ a, M a = some .busy → H' a = H a ∧ M' a = some .busy
theorem Ext.kp {M M' : DHp} {H H' : Hp} (x : Ext M H M' H') {a : Addr} {o : HO} (h : H a = some o) (n : M a = none) (t : ∀ ps, o ≠ .tbl ps := by intro _ z; cases z) : H' a = some o ∧ M' a = none := x.keep a o h n t
theorem Ext.refl (M : DHp) (H : Hp) : Ext M H M H := ⟨fun _ _ h n _ => ⟨h, n⟩, fun _ h => ⟨rfl, h⟩⟩
theorem Ext.trans {M M1 M2 : DHp} {H H1 H2 : Hp} (a : Ext M H M1 H1) (b : Ext M1 H1 M2 H2) : Ext M H M2 H2 :=
  ⟨fun c o h n t => let ⟨h1, n1⟩ := a.keep c o h n t; b.keep c o h1 n1 t, fun c h => let ⟨h1, n1⟩ := a.busy c h; let ⟨h2, n2⟩ := b.busy c n1; ⟨h2.trans h1, n2⟩⟩

theorem Rd.ext {M M' : DHp} {H H' : Hp} {a : Addr} {u : HO} (x : Ext M H M' H') (r : Rd H a u) (n : M a = none) (hu : ∀ ps, u ≠ .tbl ps := by intro _ z; cases z) : Rd H' a u ∧ M' a = none := by
  rcases r with r | ⟨o, r⟩
  · exact ⟨.inl (x.keep _ _ r n hu).1, (x.keep _ _ r n hu).2⟩
  · exact ⟨.inr ⟨o, (x.kp r n).1⟩, (x.kp r n).2⟩
theorem FzT.ext {K : PySem.W.Frag} {M M' : DHp} {H H' : Hp} {a : Addr} {xs : List V} (x : Ext M H M' H') (h : FzT K H M a xs) : FzT K H' M' a xs := by
  rcases h with ⟨h, n⟩ | h
  · exact .inl (Rd.ext x h n)
  · exact .inr h
theorem FzL.ext {K : PySem.W.Frag} {M M' : DHp} {H H' : Hp} {a : Addr} {xs : List V} (x : Ext M H M' H') (h : FzL K H M a xs) : FzL K H' M' a xs := by
  rcases h with ⟨h, n⟩ | h
  · exact .inl (Rd.ext x h n)
  · exact .inr h

section
variable {K : PySem.W.Frag} {M M' : DHp} {H H' : Hp}
mutual
theorem Rep.ext (x : Ext M H M' H') : ∀ {v : V} {d : D}, Rep K H M v d → Rep K H' M' v d
  | _, _, .non => .non
  | _, _, .bl b => .bl b
  | _, _, .int i => .int i
  | _, _, .str y => .str y
  | _, _, .ref a => .ref a
  | _, _, .tup f r => .tup (f.ext x) (RepL.ext x r)
  | _, _, .lst f n r => .lst (x.kp f n).1 (x.kp f n).2 (RepL.ext x r)
  | _, _, .rol f r => .rol (f.ext x) (RepL.ext x r)
  | _, _, .xtp f e n r => .xtp (x.kp f n).1 e (x.kp f n).2 (RepL.ext x r)
  | _, _, .lam f n r => .lam (x.keep _ _ f n LamX.codeO_ne).1 (x.keep _ _ f n LamX.codeO_ne).2 (RepL.ext x r)
  | _, _, .exc0 a => .exc0 a
  | _, _, .exc1 f n r => .exc1 (x.kp f n).1 (x.kp f n).2 (RepL.ext x r)
theorem RepL.ext (x : Ext M H M' H') : ∀ {vs : List V} {ds : List D}, RepL K H M vs ds → RepL K H' M' vs ds
  | _, _, .nil => .nil
  | _, _, .cons r t => .cons (Rep.ext x r) (RepL.ext x t)
end
theorem RepL.length : ∀ {vs : List V} {ds : List D}, RepL K H M vs ds → vs.length = ds.length
  | _, _, .nil => rfl
  | _, _, .cons _ t => by simp [t.length]
theorem RepL.get : ∀ {vs : List V} {ds : List D} {i : Nat} {d : D}, RepL K H M vs ds → ds[i]? = some d → ∃ v, vs[i]? = some v ∧ Rep K H M v d
  | _, _, _, _, .nil, e => by simp at e
  | _, _, 0, _, .cons r _, e => by simp at e; subst e; exact ⟨_, rfl, r⟩
  | _, _, i + 1, _, .cons _ t, e => by
    obtain ⟨v, h1, h2⟩ := RepL.get (i := i) t (by simpa using e)
    exact ⟨v, by simpa using h1, h2⟩
theorem RepL.get' : ∀ {vs : List V} {ds : List D} {i : Nat} {v : V}, RepL K H M vs ds → vs[i]? = some v → ∃ d, ds[i]? = some d ∧ Rep K H M v d
  | _, _, _, _, .nil, e => by simp at e
  | _, _, 0, _, .cons r _, e => by simp at e; subst e; exact ⟨_, rfl, r⟩
  | _, _, i + 1, _, .cons _ t, e => by
    obtain ⟨v, h1, h2⟩ := RepL.get' (i := i) t (by simpa using e)
    exact ⟨v, by simpa using h1, h2⟩
theorem RepL.append : ∀ {vs ws : List V} {ds es : List D}, RepL K H M vs ds → RepL K H M ws es → RepL K H M (vs ++ ws) (ds ++ es)
  | _, _, _, _, .nil, s => s
  | _, _, _, _, .cons r t, s => .cons r (t.append s)
theorem RepL.take : ∀ {vs : List V} {ds : List D} (n : Nat), RepL K H M vs ds → RepL K H M (vs.take n) (ds.take n)
  | _, _, 0, _ => .nil
  | _, _, _ + 1, .nil => .nil
  | _, _, n + 1, .cons r t => .cons r (t.take n)
theorem RepL.drop : ∀ {vs : List V} {ds : List D} (n : Nat), RepL K H M vs ds → RepL K H M (vs.drop n) (ds.drop n)
  | _, _, 0, r => r
  | _, _, _ + 1, .nil => .nil
  | _, _, n + 1, .cons _ t => t.drop n
theorem RepL.set : ∀ {vs : List V} {ds : List D} {v : V} {d : D} (n : Nat), RepL K H M vs ds → Rep K H M v d → RepL K H M (vs.set n v) (ds.set n d)
  | _, _, _, _, _, .nil, _ => .nil
  | _, _, _, _, 0, .cons _ t, r => .cons r t
  | _, _, _, _, n + 1, .cons q t, r => .cons q (t.set n r)
theorem RepL.eraseIdx : ∀ {vs : List V} {ds : List D} (n : Nat), RepL K H M vs ds → RepL K H M (vs.eraseIdx n) (ds.eraseIdx n)
  | _, _, _, .nil => .nil
  | _, _, 0, .cons _ t => t
  | _, _, n + 1, .cons r t => .cons r (t.eraseIdx n)
theorem RepL.dropLast {vs : List V} {ds : List D} (r : RepL K H M vs ds) : RepL K H M vs.dropLast ds.dropLast := by
  rw [List.dropLast_eq_take, List.dropLast_eq_take, r.length]
  exact r.take _
theorem RepL.replicate {vs : List V} {ds : List D} (n : Nat) (r : RepL K H M vs ds) : RepL K H M (List.replicate n vs).flatten (List.replicate n ds).flatten := by
  induction n with
  | zero => exact .nil
  | succ n ih =>
    rw [List.replicate_succ, List.replicate_succ, List.flatten_cons, List.flatten_cons]
    exact r.append ih
end

/-- fields -/
def RepF (K : PySem.W.Frag) (H : Hp) (M : DHp) (fs : List (Str × V)) (gs : List (Str × D)) : Prop := Paired (fun (p : Str × V) (q : Str × D) => p.1 = q.1 ∧ Rep K H M p.2 q.2) fs gs
theorem RepF.ext {K : PySem.W.Frag} {M M' : DHp} {H H' : Hp} (x : Ext M H M' H') : ∀ {fs : List (Str × V)} {gs : List (Str × D)}, RepF K H M fs gs → RepF K H' M' fs gs
  | _, _, .nil => .nil
  | _, _, .cons r t => .cons ⟨r.1, r.2.ext x⟩ (RepF.ext x t)
theorem RepF.lookup {K : PySem.W.Frag} {M : DHp} {H : Hp} {f : Str} {d : D} : ∀ {fs : List (Str × V)} {gs : List (Str × D)}, RepF K H M fs gs → gs.lookup f = some d → ∃ v, fs.lookup f = some v ∧ Rep K H M v d
  | _, _, .nil, e => by simp at e
  | (a, v) :: fs, (b, c) :: gs, .cons r t, e => by
    obtain ⟨r1, r2⟩ := r
    have r1 : a = b := r1
    subst r1
    rw [List.lookup_cons] at e ⊢
    cases hb : f == a with
    | true =>
      rw [hb] at e
      simp only at e ⊢
      cases e
      exact ⟨v, rfl, r2⟩
    | false =>
      rw [hb] at e
      simp only at e ⊢
      exact RepF.lookup t e
theorem RepF.lookup_none {K : PySem.W.Frag} {M : DHp} {H : Hp} {f : Str} : ∀ {fs : List (Str × V)} {gs : List (Str × D)}, RepF K H M fs gs → gs.lookup f = none → fs.lookup f = none
  | _, _, .nil, e => by simp
  | (a, v) :: fs, (b, c) :: gs, .cons r t, e => by
    obtain ⟨r1, r2⟩ := r
    have r1 : a = b := r1
    subst r1
    rw [List.lookup_cons] at e ⊢
    cases hb : f == a with
    | true => rw [hb] at e; simp at e
    | false =>
      rw [hb] at e
      simp only at e ⊢
      exact RepF.lookup_none t e
def putFD (f : Str) (v : D) : List (Str × D) → List (Str × D)
  | [] => [(f, v)]
  | (g, u) :: r => if g = f then (g, v) :: r else (g, u) :: putFD f v r
theorem RepF.length {K : PySem.W.Frag} {M : DHp} {H : Hp} : ∀ {fs : List (Str × V)} {gs : List (Str × D)}, RepF K H M fs gs → fs.length = gs.length := fun r => Paired.length r

def RepO (K : PySem.W.Frag) (H : Hp) (M : DHp) (a : Addr) : MO → Prop
  | .lst ds => ∃ xs, H a = some (.lst xs) ∧ RepL K H M xs ds
  | .ins C gs => ∃ dx fs, H a = some (.ins C dx fs) ∧ RepF K H M fs gs
  | .tbl q => ∃ ps : Array Value, H a = some (.tbl ps) ∧ TriplesOk ps.toList ∧ ∀ (pos : Pos) (cv : Value), codeAmong pos ps.toList = some cv → ∃ c, cv = .ref c ∧ H c = some (LamX.CodeO c q) ∧ M c = none
  | .busy => ∃ xs, H a = some (.lst xs)
def RepM (K : PySem.W.Frag) (H : Hp) (M : DHp) : Prop := ∀ a o, M a = some o → RepO K H M a o
theorem RepM.there {K : PySem.W.Frag} {H : Hp} {M : DHp} {a : Addr} {o : MO} (r : RepM K H M) (h : M a = some o) : ∃ u, H a = some u := by
  have q := r a o h
  cases o with
  | lst ds => obtain ⟨xs, e, _⟩ := q; exact ⟨_, e⟩
  | ins C gs => obtain ⟨dx, fs, e, _⟩ := q; exact ⟨_, e⟩
  | tbl q' => obtain ⟨ps, e, _⟩ := q; exact ⟨_, e⟩
  | busy => obtain ⟨o, e⟩ := q; exact ⟨_, e⟩
theorem RepM.fresh {K : PySem.W.Frag} {H : Hp} {M : DHp} {a : Addr} (r : RepM K H M) (h : H a = none) : M a = none := by
  cases e : M a with
  | none => rfl
  | some o =>
    obtain ⟨u, q⟩ := r.there e
    rw [h] at q; cases q
theorem RepM.lst {K : PySem.W.Frag} {H : Hp} {M : DHp} {a : Addr} {ds : List D} (r : RepM K H M) (h : M a = Option.some (.lst ds)) : ∃ xs, H a = Option.some (.lst xs) ∧ RepL K H M xs ds := r a _ h
theorem RepM.nil {K : PySem.W.Frag} {H : Hp} : RepM K H (fun _ => none) := fun _ _ h => nomatch h

section
variable {K : PySem.W.Frag} {M M' : DHp} {H H' : Hp} {p : Addr} {o : HO} {mo : MO}
/-- a new thing is laid that stays as it is -/
theorem Ext.laid (r : RepM K H M) (h : H p = none) : Ext M H M (upd H p o) := ⟨fun a u e n _ => ⟨by rw [upd_ne (ne_of_none e h)]; exact e, n⟩, fun a e => by
  obtain ⟨u, q⟩ := r.there e
  exact ⟨upd_ne (ne_of_none q h), e⟩⟩
theorem RepO.ext (x : Ext M H M' H') {a : Addr} (e : H' a = H a) (q : RepO K H M a mo) : RepO K H' M' a mo := by
  cases mo with
  | lst ds => obtain ⟨xs, h, l⟩ := q; exact ⟨xs, e.trans h, l.ext x⟩
  | ins C gs => obtain ⟨dx, fs, h, l⟩ := q; exact ⟨dx, fs, e.trans h, l.ext x⟩
  | tbl q' =>
    obtain ⟨ps, h, t, l⟩ := q
    refine ⟨ps, e.trans h, t, fun pos cv hc => ?_⟩
    obtain ⟨c, e1, e2, e3⟩ := l pos cv hc
    exact ⟨c, e1, (x.keep c _ e2 e3 LamX.codeO_ne).1, (x.keep c _ e2 e3 LamX.codeO_ne).2⟩
  | busy => obtain ⟨o, h⟩ := q; exact ⟨o, e.trans h⟩
theorem RepM.laid (r : RepM K H M) (h : H p = none) : RepM K (upd H p o) M := fun a mo e => by
  obtain ⟨u, q⟩ := r.there e
  exact (r a mo e).ext (Ext.laid r h) (upd_ne (ne_of_none q h))
/-- a new thing is laid that may change -/
theorem Ext.laidM (r : RepM K H M) (h : H p = none) : Ext M H (updD M p mo) (upd H p o) := ⟨fun a u e n _ => by
  have ne := ne_of_none e h
  exact ⟨by rw [upd_ne ne]; exact e, by rw [updD_ne ne]; exact n⟩, fun a e => by
  obtain ⟨u, q⟩ := r.there e
  have ne := ne_of_none q h
  exact ⟨upd_ne ne, by rw [updD_ne ne]; exact e⟩⟩
theorem RepM.laidM (r : RepM K H M) (h : H p = none) (q : RepO K (upd H p o) (updD M p mo) p mo) : RepM K (upd H p o) (updD M p mo) := fun a m e => by
  by_cases ha : a = p
  · subst ha
    rw [updD_same] at e; cases e
    exact q
  · rw [updD_ne ha] at e
    exact (r a m e).ext (Ext.laidM r h) (upd_ne ha)
/-- a thing that may change is written -/
theorem Ext.write (e : M p = some mo) {mo' : MO} (nb : mo ≠ .busy := by intro z; cases z) : Ext M H (updD M p mo') (upd H p o) := ⟨fun a u h n _ => by
  have ne : a ≠ p := fun z => by subst z; rw [e] at n; cases n
  exact ⟨by rw [upd_ne ne]; exact h, by rw [updD_ne ne]; exact n⟩, fun a h => by
  have ne : a ≠ p := fun z => by subst z; rw [e] at h; exact nb (Option.some.inj h)
  exact ⟨upd_ne ne, by rw [updD_ne ne]; exact h⟩⟩
theorem RepM.write (r : RepM K H M) (e : M p = some mo) {mo' : MO} (nb : mo ≠ .busy := by intro z; cases z) (q : RepO K (upd H p o) (updD M p mo') p mo') : RepM K (upd H p o) (updD M p mo') := fun a m h => by
  by_cases ha : a = p
  · subst ha
    rw [updD_same] at h; cases h
    exact q
  · rw [updD_ne ha] at h
    exact (r a m h).ext (Ext.write e nb) (upd_ne ha)
end

/-! ### fewer things that change -/
def delD (M : DHp) (a : Addr) : DHp := fun b => if b = a then none else M b
theorem delD_same {M : DHp} {a : Addr} : delD M a a = none := by unfold delD; rw [if_pos rfl]
theorem delD_ne {M : DHp} {a b : Addr} (h : b ≠ a) : delD M a b = M b := by unfold delD; rw [if_neg h]
theorem delD_upd {M : DHp} {a : Addr} {o : MO} (h : M a = none) : delD (updD M a o) a = M := by
  funext b
  unfold delD updD
  by_cases e : b = a
  · rw [if_pos e, e, h]
  · rw [if_neg e, if_neg e]
theorem updD_comm {M : DHp} {a b : Addr} {o u : MO} (h : a ≠ b) : updD (updD M a o) b u = updD (updD M b u) a o := by
  funext c
  unfold updD
  by_cases e1 : c = b
  · rw [if_pos e1, if_neg (by rw [e1]; exact Ne.symm h), if_pos e1]
  · rw [if_neg e1]
    by_cases e2 : c = a
    · rw [if_pos e2, if_pos e2]
    · rw [if_neg e2, if_neg e2, if_neg e1]
/-- M' has of M's things just some, as they are -/
def Sub (M' M : DHp) : Prop := ∀ a o, M' a = some o → M a = some o
theorem Sub.refl (M : DHp) : Sub M M := fun _ _ h => h
theorem Sub.trans {M1 M2 M3 : DHp} (a : Sub M1 M2) (b : Sub M2 M3) : Sub M1 M3 := fun c o h => b c o (a c o h)
theorem Sub.none {M' M : DHp} (s : Sub M' M) {a : Addr} (h : M a = Option.none) : M' a = Option.none := by
  cases e : M' a with
  | none => rfl
  | some o => rw [s a o e] at h; cases h
theorem Sub.upd {M : DHp} {a : Addr} {o : MO} (h : M a = Option.none) : Sub M (updD M a o) := fun b u e => by
  rw [updD_ne (neD_of_none e h)]; exact e
theorem Sub.del (M : DHp) (a : Addr) : Sub (delD M a) M := fun b o e => by
  by_cases h : b = a
  · subst h; rw [delD_same] at e; cases e
  · rw [delD_ne h] at e; exact e
section
variable {K : PySem.W.Frag} {M M' : DHp} {H : Hp}
theorem FzT.sub (s : Sub M' M) {a : Addr} {xs : List V} (h : FzT K H M a xs) : FzT K H M' a xs := by
  rcases h with ⟨h, n⟩ | h
  · exact .inl ⟨h, s.none n⟩
  · exact .inr h
theorem FzL.sub (s : Sub M' M) {a : Addr} {xs : List V} (h : FzL K H M a xs) : FzL K H M' a xs := by
  rcases h with ⟨h, n⟩ | h
  · exact .inl ⟨h, s.none n⟩
  · exact .inr h
mutual
theorem Rep.sub (x : Sub M' M) : ∀ {v : V} {d : D}, Rep K H M v d → Rep K H M' v d
  | _, _, .non => .non
  | _, _, .bl b => .bl b
  | _, _, .int i => .int i
  | _, _, .str y => .str y
  | _, _, .ref a => .ref a
  | _, _, .tup f r => .tup (f.sub x) (RepL.sub x r)
  | _, _, .lst f n r => .lst f (x.none n) (RepL.sub x r)
  | _, _, .rol f r => .rol (f.sub x) (RepL.sub x r)
  | _, _, .xtp f e n r => .xtp f e (x.none n) (RepL.sub x r)
  | _, _, .lam f n r => .lam f (x.none n) (RepL.sub x r)
  | _, _, .exc0 a => .exc0 a
  | _, _, .exc1 f n r => .exc1 f (x.none n) (RepL.sub x r)
theorem RepL.sub (x : Sub M' M) : ∀ {vs : List V} {ds : List D}, RepL K H M vs ds → RepL K H M' vs ds
  | _, _, .nil => .nil
  | _, _, .cons r t => .cons (Rep.sub x r) (RepL.sub x t)
end
theorem RepF.sub (x : Sub M' M) : ∀ {fs : List (Str × V)} {gs : List (Str × D)}, RepF K H M fs gs → RepF K H M' fs gs
  | _, _, .nil => .nil
  | _, _, .cons r t => .cons ⟨r.1, r.2.sub x⟩ (RepF.sub x t)
theorem RepM.sub (x : Sub M' M) (r : RepM K H M) : RepM K H M' := fun a mo e => by
  have q := r a mo (x a mo e)
  cases mo with
  | lst ds => obtain ⟨xs, h, l⟩ := q; exact ⟨xs, h, l.sub x⟩
  | ins C gs => obtain ⟨dx, fs, h, l⟩ := q; exact ⟨dx, fs, h, l.sub x⟩
  | tbl q' =>
    obtain ⟨ps, h, t, l⟩ := q
    refine ⟨ps, h, t, fun pos cv hc => ?_⟩
    obtain ⟨c, e1, e2, e3⟩ := l pos cv hc
    exact ⟨c, e1, e2, x.none e3⟩
  | busy => exact q
theorem Ext.sub {M1 : DHp} {H1 : Hp} (x : Sub M' M) (kb : ∀ a, M1 a = some .busy → M' a = some .busy) (e : Ext M1 H1 M H) : Ext M1 H1 M' H := ⟨fun a o h n t => ⟨(e.keep a o h n t).1, x.none (e.keep a o h n t).2⟩, fun a h => ⟨(e.busy a h).1, kb a h⟩⟩
end

/-! ### slots -/
abbrev DSt := List (Option D)
structure RepS (K : PySem.W.Frag) (H : Hp) (M : DHp) (σ : St) (δ : DSt) : Prop where
  len : σ.length = δ.length
  at_ : ∀ (i : Nat) (d : D), δ[i]? = some (some d) → ∃ v, σ[i]? = some (some v) ∧ Rep K H M v d
theorem RepS.ext {K : PySem.W.Frag} {M M' : DHp} {H H' : Hp} {σ : St} {δ : DSt} (x : Ext M H M' H') (r : RepS K H M σ δ) : RepS K H' M' σ δ :=
  ⟨r.len, fun i d e => let ⟨v, h, q⟩ := r.at_ i d e; ⟨v, h, q.ext x⟩⟩
theorem RepS.set {K : PySem.W.Frag} {M : DHp} {H : Hp} {σ : St} {δ : DSt} (r : RepS K H M σ δ) (i : Nat) {v : V} {d : D} (q : Rep K H M v d) : RepS K H M (σ.set i (some v)) (δ.set i (some d)) := by
  refine ⟨by rw [List.length_set, List.length_set]; exact r.len, fun j e h => ?_⟩
  by_cases hj : i = j
  · subst hj
    by_cases hi : i < δ.length
    · rw [List.getElem?_set_self hi] at h
      cases h
      exact ⟨v, by rw [List.getElem?_set_self (by rw [r.len]; exact hi)], q⟩
    · rw [List.getElem?_eq_none (by rw [List.length_set]; omega)] at h
      cases h
  · rw [List.getElem?_set_ne hj] at h ⊢
    exact r.at_ j e h
theorem RepS.forget {K : PySem.W.Frag} {M : DHp} {H : Hp} {σ : St} {δ δ' : DSt} (r : RepS K H M σ δ) (hl : δ'.length = δ.length) (h : ∀ (i : Nat) d, δ'[i]? = some (some d) → δ[i]? = some (some d)) : RepS K H M σ δ' :=
  ⟨r.len.trans hl.symm, fun i d e => r.at_ i d (h i d e)⟩

/-! ### what is wanted -/
abbrev DVK := D → DHp → Prop
/-- of an exception: its class, its fields -/
abbrev DXK := Value → List (Str × D) → DHp → Prop
abbrev DW := Value → List (Str × D) → DSt → DHp → Prop
abbrev DTE := DSt → DHp → DVK → DW → Prop
abbrev DTT := DSt → DHp → (Bool → DHp → Prop) → DW → Prop
abbrev DTA := DSt → DHp → (List D → DHp → Prop) → DW → Prop
structure DEnds where
  nx : DSt → DHp → Prop
  rt : DVK
  bk : DSt → DHp → Prop := fun _ _ => False
  ct : DSt → DHp → Prop := fun _ _ => False
abbrev DTS := DEnds → DSt → DHp → DW → Prop
abbrev DSp := List D → DHp → DVK → DXK → Prop
abbrev WF : WX := fun _ _ _ _ => False

def XRep (K : PySem.W.Frag) (H : Hp) (M : DHp) (pd : Option Addr) (gs : List (Str × D)) : Prop :=
  (pd = none ∧ gs = []) ∨ ∃ d fs, pd = some d ∧ H d = some (.xd fs) ∧ M d = none ∧ RepF K H M fs gs
theorem XRep.ext {K : PySem.W.Frag} {M M' : DHp} {H H' : Hp} {pd : Option Addr} {gs : List (Str × D)} (x : Ext M H M' H') (r : XRep K H M pd gs) : XRep K H' M' pd gs := by
  rcases r with r | ⟨d, fs, e, h, n, f⟩
  · exact .inl r
  · exact .inr ⟨d, fs, e, (x.kp h n).1, (x.kp h n).2, f.ext x⟩

/-- what is wanted of a value, of data -/
def OkV (K : PySem.W.Frag) (M : DHp) (H : Hp) (Q : DVK) (Q0 : VK) : Prop := ∀ v H' d M', Ext M H M' H' → RepM K H' M' → Rep K H' M' v d → Q d M' → Q0 v H'
def OkW (K : PySem.W.Frag) (M : DHp) (H : Hp) (W : DW) (W0 : WX) : Prop := ∀ c pd σ' H' gs δ' M', Ext M H M' H' → RepS K H' M' σ' δ' → RepM K H' M' → XRep K H' M' pd gs → W c gs δ' M' → W0 c pd σ' H'
theorem OkV.ext {K : PySem.W.Frag} {M M' : DHp} {H H' : Hp} {Q : DVK} {Q0 : VK} (x : Ext M H M' H') (h : OkV K M H Q Q0) : OkV K M' H' Q Q0 := fun v H2 d M2 y => h v H2 d M2 (x.trans y)
theorem OkW.ext {K : PySem.W.Frag} {M M' : DHp} {H H' : Hp} {W : DW} {W0 : WX} (x : Ext M H M' H') (h : OkW K M H W W0) : OkW K M' H' W W0 := fun c pd σ H2 gs δ M2 y => h c pd σ H2 gs δ M2 (x.trans y)

/-- the state of the hand layer bears that of the data -/
structure At (K : PySem.W.Frag) (σ : St) (H : Hp) (δ : DSt) (M : DHp) : Prop where
  s : RepS K H M σ δ
  m : RepM K H M

/-- a reading of data as one of the hand layer -/
def lfE (K : PySem.W.Frag) (W0 : WX) (t : DTE) : TE := fun σ H Q0 => ∃ δ M Q W, At K σ H δ M ∧ t δ M Q W ∧ OkV K M H Q Q0 ∧ OkW K M H W W0
def lfT (K : PySem.W.Frag) (W0 : WX) (t : DTT) : TT := fun σ H Q0 => ∃ δ M Q W, At K σ H δ M ∧ t δ M Q W ∧ (∀ b H' M', Ext M H M' H' → RepM K H' M' → Q b M' → Q0 b H') ∧ OkW K M H W W0
def lfA (K : PySem.W.Frag) (W0 : WX) (t : DTA) : TA := fun σ H Q0 => ∃ δ M Q W, At K σ H δ M ∧ t δ M Q W ∧ (∀ vs H' ds M', Ext M H M' H' → RepM K H' M' → RepL K H' M' vs ds → Q ds M' → Q0 vs H') ∧ OkW K M H W W0
def OkS (K : PySem.W.Frag) (M : DHp) (H : Hp) (Q : DSt → DHp → Prop) (Q0 : St → Hp → Prop) : Prop := ∀ σ' H' δ' M', Ext M H M' H' → At K σ' H' δ' M' → Q δ' M' → Q0 σ' H'
theorem OkS.ext {K : PySem.W.Frag} {M M' : DHp} {H H' : Hp} {Q : DSt → DHp → Prop} {Q0 : St → Hp → Prop} (x : Ext M H M' H') (h : OkS K M H Q Q0) : OkS K M' H' Q Q0 := fun σ H2 δ M2 y => h σ H2 δ M2 (x.trans y)
structure OkD (K : PySem.W.Frag) (M : DHp) (H : Hp) (D' : DEnds) (D0 : Ends) : Prop where
  nx : OkS K M H D'.nx D0.nx
  rt : OkV K M H D'.rt D0.rt
  bk : OkS K M H D'.bk D0.bk
  ct : OkS K M H D'.ct D0.ct
theorem OkD.ext {K : PySem.W.Frag} {M M' : DHp} {H H' : Hp} {D' : DEnds} {D0 : Ends} (x : Ext M H M' H') (h : OkD K M H D' D0) : OkD K M' H' D' D0 := ⟨h.nx.ext x, h.rt.ext x, h.bk.ext x, h.ct.ext x⟩
def lfS (K : PySem.W.Frag) (W0 : WX) (t : DTS) : TS := fun D0 σ H => ∃ δ M D' W, At K σ H δ M ∧ t D' δ M W ∧ OkD K M H D' D0 ∧ OkW K M H W W0

structure DE (X : Cx) (W0 : WX) (e : Expr) (t : DTE) : Prop where
  pe : PE X e (lfE X.K W0 t)
structure DT (X : Cx) (W0 : WX) (e : Expr) (t : DTT) : Prop where
  pt : PT X e (lfT X.K W0 t)
structure DPW (X : Cx) (W0 : WX) (e : Expr) (t : DTT) : Prop where
  pw : PW X e (lfT X.K W0 t)
structure DA (X : Cx) (W0 : WX) (es : List Expr) (t : DTA) : Prop where
  pa : PA X es (lfA X.K W0 t)
structure DS (X : Cx) (W0 : WX) (st : Stmt) (t : DTS) : Prop where
  ps : PS X st (lfS X.K W0 t)
structure DSs (X : Cx) (W0 : WX) (st : List Stmt) (t : DTS) : Prop where
  pss : PSs X st (lfS X.K W0 t)

theorem PE.imp {X : Cx} {e : Expr} {t t' : TE} (h : PE X e t) (f : ∀ σ H Q, t' σ H Q → t σ H Q) : PE X e t' := ⟨fun pins s σ H Q I q => h.run pins s σ H Q I (f σ H Q q)⟩
theorem PT.imp {X : Cx} {e : Expr} {t t' : TT} (h : PT X e t) (f : ∀ σ H Q, t' σ H Q → t σ H Q) : PT X e t' := ⟨fun pins s σ H Q I q => h.run pins s σ H Q I (f σ H Q q)⟩
theorem PW.imp {X : Cx} {e : Expr} {t t' : TT} (h : PW X e t) (f : ∀ σ H Q, t' σ H Q → t σ H Q) : PW X e t' := ⟨fun wh pins s σ H Q I q => h.run wh pins s σ H Q I (f σ H Q q)⟩
theorem PA.imp {X : Cx} {e : List Expr} {t t' : TA} (h : PA X e t) (f : ∀ σ H Q, t' σ H Q → t σ H Q) : PA X e t' := ⟨fun pos pins s σ H Q I q => h.run pos pins s σ H Q I (f σ H Q q)⟩
theorem PS.imp {X : Cx} {e : Stmt} {t t' : TS} (h : PS X e t) (f : ∀ D σ H, t' D σ H → t D σ H) : PS X e t' := ⟨fun pins s σ H D I q => h.run pins s σ H D I (f D σ H q)⟩
theorem PSs.imp {X : Cx} {e : List Stmt} {t t' : TS} (h : PSs X e t) (f : ∀ D σ H, t' D σ H → t D σ H) : PSs X e t' := ⟨fun pins s σ H D I q => h.run pins s σ H D I (f D σ H q)⟩

/-- one step of data: the rule of the hand layer is read from the data's -/
theorem DE.mk' {X : Cx} {W0 : WX} {e : Expr} {t : DTE} {t0 : TE} (h : PE X e t0) (f : ∀ σ H Q0 δ M Q W, At X.K σ H δ M → t δ M Q W → OkV X.K M H Q Q0 → OkW X.K M H W W0 → t0 σ H Q0) : DE X W0 e t :=
  ⟨PE.imp h fun σ H Q0 ⟨δ, M, Q, W, a, q, k, w⟩ => f σ H Q0 δ M Q W a q k w⟩
theorem DT.mk' {X : Cx} {W0 : WX} {e : Expr} {t : DTT} {t0 : TT} (h : PT X e t0) (f : ∀ σ H Q0 δ M Q W, At X.K σ H δ M → t δ M Q W → (∀ b H' M', Ext M H M' H' → RepM X.K H' M' → Q b M' → Q0 b H') → OkW X.K M H W W0 → t0 σ H Q0) : DT X W0 e t :=
  ⟨PT.imp h fun σ H Q0 ⟨δ, M, Q, W, a, q, k, w⟩ => f σ H Q0 δ M Q W a q k w⟩
theorem DPW.mk' {X : Cx} {W0 : WX} {e : Expr} {t : DTT} {t0 : TT} (h : PW X e t0) (f : ∀ σ H Q0 δ M Q W, At X.K σ H δ M → t δ M Q W → (∀ b H' M', Ext M H M' H' → RepM X.K H' M' → Q b M' → Q0 b H') → OkW X.K M H W W0 → t0 σ H Q0) : DPW X W0 e t :=
  ⟨PW.imp h fun σ H Q0 ⟨δ, M, Q, W, a, q, k, w⟩ => f σ H Q0 δ M Q W a q k w⟩
theorem DA.mk' {X : Cx} {W0 : WX} {e : List Expr} {t : DTA} {t0 : TA} (h : PA X e t0) (f : ∀ σ H Q0 δ M Q W, At X.K σ H δ M → t δ M Q W → (∀ vs H' ds M', Ext M H M' H' → RepM X.K H' M' → RepL X.K H' M' vs ds → Q ds M' → Q0 vs H') → OkW X.K M H W W0 → t0 σ H Q0) : DA X W0 e t :=
  ⟨PA.imp h fun σ H Q0 ⟨δ, M, Q, W, a, q, k, w⟩ => f σ H Q0 δ M Q W a q k w⟩
theorem DS.mk' {X : Cx} {W0 : WX} {e : Stmt} {t : DTS} {t0 : TS} (h : PS X e t0) (f : ∀ D0 σ H δ M D' W, At X.K σ H δ M → t D' δ M W → OkD X.K M H D' D0 → OkW X.K M H W W0 → t0 D0 σ H) : DS X W0 e t :=
  ⟨PS.imp h fun D0 σ H ⟨δ, M, D', W, a, q, k, w⟩ => f D0 σ H δ M D' W a q k w⟩
theorem DSs.mk' {X : Cx} {W0 : WX} {e : List Stmt} {t : DTS} {t0 : TS} (h : PSs X e t0) (f : ∀ D0 σ H δ M D' W, At X.K σ H δ M → t D' δ M W → OkD X.K M H D' D0 → OkW X.K M H W W0 → t0 D0 σ H) : DSs X W0 e t :=
  ⟨PSs.imp h fun D0 σ H ⟨δ, M, D', W, a, q, k, w⟩ => f D0 σ H δ M D' W a q k w⟩
theorem At.ext {K : PySem.W.Frag} {σ : St} {H H' : Hp} {δ : DSt} {M M' : DHp} (a : At K σ H δ M) (x : Ext M H M' H') (m : RepM K H' M') : At K σ H' δ M' := ⟨a.s.ext x, m⟩
/-- a part is used: from what it is read as -/
theorem lfE.use {K : PySem.W.Frag} {W0 : WX} {t : DTE} {σ : St} {H : Hp} {δ : DSt} {M : DHp} {Q : DVK} {W : DW} {Q0 : VK} (a : At K σ H δ M) (q : t δ M Q W) (k : ∀ v H' d M', Ext M H M' H' → RepM K H' M' → Rep K H' M' v d → Q d M' → Q0 v H') (w : OkW K M H W W0) : lfE K W0 t σ H Q0 := ⟨δ, M, Q, W, a, q, k, w⟩
theorem lfT.use {K : PySem.W.Frag} {W0 : WX} {t : DTT} {σ : St} {H : Hp} {δ : DSt} {M : DHp} {Q : Bool → DHp → Prop} {W : DW} {Q0 : Bool → Hp → Prop} (a : At K σ H δ M) (q : t δ M Q W) (k : ∀ b H' M', Ext M H M' H' → RepM K H' M' → Q b M' → Q0 b H') (w : OkW K M H W W0) : lfT K W0 t σ H Q0 := ⟨δ, M, Q, W, a, q, k, w⟩
theorem lfA.use {K : PySem.W.Frag} {W0 : WX} {t : DTA} {σ : St} {H : Hp} {δ : DSt} {M : DHp} {Q : List D → DHp → Prop} {W : DW} {Q0 : List V → Hp → Prop} (a : At K σ H δ M) (q : t δ M Q W) (k : ∀ vs H' ds M', Ext M H M' H' → RepM K H' M' → RepL K H' M' vs ds → Q ds M' → Q0 vs H') (w : OkW K M H W W0) : lfA K W0 t σ H Q0 := ⟨δ, M, Q, W, a, q, k, w⟩
theorem lfS.use {K : PySem.W.Frag} {W0 : WX} {t : DTS} {D0 : Ends} {σ : St} {H : Hp} {δ : DSt} {M : DHp} {D' : DEnds} {W : DW} (a : At K σ H δ M) (q : t D' δ M W) (k : OkD K M H D' D0) (w : OkW K M H W W0) : lfS K W0 t D0 σ H := ⟨δ, M, D', W, a, q, k, w⟩
end DL
end

section
set_option Elab.async false
set_option linter.all false
set_option maxRecDepth 100000
/-! DL2: expressions. -/
namespace DL
open PySem PySem.Spec L2

/-! ### names, constants -/
def dVar (i : Nat) : DTE := fun δ M Q _ => match δ[i]? with
  | some (some d) => Q d M
  | _ => False
def dC (d : D) : DTE := fun _ M Q _ => Q d M
section
variable {X : Cx} {W0 : WX}
theorem de_var (i : Nat) {x : Str} {pos : Pos} (hN : X.N[i]? = some x := by rfl) (hv : Vis X.env.scope x := by first | exact Or.inl rfl | exact Or.inr (Or.inl rfl) | exact Or.inr (Or.inr rfl)) (hd : (x == ("__debug__" : Str)) = false := by decide)
    (hcd : (x == ("__classdict__" : Str)) = false := by decide) : DE X W0 (.Name x pos) (dVar i) :=
  .mk' (pe_var hN hv hd hcd) fun σ H Q0 δ M Q W a q k w => by
    unfold dVar at q
    split at q
    · rename_i d e
      obtain ⟨v, e', r⟩ := a.s.at_ i d e
      exact ⟨v, e', k v H d M (Ext.refl _ _) a.m r q⟩
    · exact q.elim
theorem de_int {i j pos} : DE X W0 (.Constant (.int i) j pos) (dC (.int i)) := .mk' pe_int fun σ H Q0 δ M Q W a q k w => k _ H _ M (Ext.refl _ _) a.m (.int i) q
theorem de_bl {b j pos} : DE X W0 (.Constant (.bool b) j pos) (dC (.bl b)) := .mk' pe_bl fun σ H Q0 δ M Q W a q k w => k _ H _ M (Ext.refl _ _) a.m (.bl b) q
theorem de_non {j pos} : DE X W0 (.Constant .none j pos) (dC .non) := .mk' pe_non fun σ H Q0 δ M Q W a q k w => k _ H _ M (Ext.refl _ _) a.m .non q
theorem de_str {x j pos} : DE X W0 (.Constant (.str x) j pos) (dC (.str x)) := .mk' pe_str fun σ H Q0 δ M Q W a q k w => k _ H _ M (Ext.refl _ _) a.m (.str x) q
/-- a module's constant: a number, a text, a def, a class -/
theorem de_globInt {x : Str} {i : Int} {t : Tok} {pos : Pos} (hg : Gl X x) (hm : X.mg x = some (.int i t)) (hd : (x == ("__debug__" : Str)) = false := by decide) : DE X W0 (.Name x pos) (dC (.int i)) :=
  .mk' (pe_glob (v := .int i) hg hm ⟨_, rfl⟩ hd) fun σ H Q0 δ M Q W a q k w => k _ H _ M (Ext.refl _ _) a.m (.int i) q
theorem de_globStr {x : Str} {i : Str} {t : Tok} {pos : Pos} (hg : Gl X x) (hm : X.mg x = some (.str i t)) (hd : (x == ("__debug__" : Str)) = false := by decide) : DE X W0 (.Name x pos) (dC (.str i)) :=
  .mk' (pe_glob (v := .str i) hg hm ⟨_, rfl⟩ hd) fun σ H Q0 δ M Q W a q k w => k _ H _ M (Ext.refl _ _) a.m (.str i) q
theorem de_globRef {x : Str} {i : Addr} {pos : Pos} (hg : Gl X x) (hm : X.mg x = some (.ref i)) (hd : (x == ("__debug__" : Str)) = false := by decide) : DE X W0 (.Name x pos) (dC (.ref i)) :=
  .mk' (pe_glob (v := .ref i) hg hm rfl hd) fun σ H Q0 δ M Q W a q k w => k _ H _ M (Ext.refl _ _) a.m (.ref i) q
end

/-! ### by values -/
abbrev DR2 := D → D → DHp → DVK → Prop
abbrev DR1 := D → DHp → DVK → Prop
abbrev DRs := List D → DHp → DVK → Prop
def LR2 (K : PySem.W.Frag) (r : R2) (dr : DR2) : Prop := ∀ (H : Hp) (M : DHp) (x y : V) (d e : D) (Q0 : VK) (Q : DVK), RepM K H M → Rep K H M x d → Rep K H M y e → dr d e M Q → OkV K M H Q Q0 → r x y H Q0
def LR1 (K : PySem.W.Frag) (r : V → Hp → VK → Prop) (dr : DR1) : Prop := ∀ (H : Hp) (M : DHp) (x : V) (d : D) (Q0 : VK) (Q : DVK), RepM K H M → Rep K H M x d → dr d M Q → OkV K M H Q Q0 → r x H Q0
def LRs (K : PySem.W.Frag) (r : List V → Hp → VK → Prop) (dr : DRs) : Prop := ∀ (H : Hp) (M : DHp) (xs : List V) (ds : List D) (Q0 : VK) (Q : DVK), RepM K H M → RepL K H M xs ds → dr ds M Q → OkV K M H Q Q0 → r xs H Q0
/-- nothing new -/
theorem OkV.here {K : PySem.W.Frag} {M : DHp} {H : Hp} {Q : DVK} {Q0 : VK} (k : OkV K M H Q Q0) (m : RepM K H M) {v : V} {d : D} (r : Rep K H M v d) (q : Q d M) : Q0 v H := k v H d M (Ext.refl _ _) m r q
theorem OkV.tup {K : PySem.W.Frag} {M : DHp} {H : Hp} {Q : DVK} {Q0 : VK} (k : OkV K M H Q Q0) (m : RepM K H M) {p : Addr} {vs : List V} {ds : List D} (hp : H p = none) (r : RepL K H M vs ds) (q : Q (.tup ds) M) : Q0 (.ref p) (upd H p (.tup vs)) :=
  k _ _ _ M (Ext.laid m hp) (m.laid hp) (.tup (.inl ⟨.inl upd_same, m.fresh hp⟩) (r.ext (Ext.laid m hp))) q
theorem OkV.lst {K : PySem.W.Frag} {M : DHp} {H : Hp} {Q : DVK} {Q0 : VK} (k : OkV K M H Q Q0) (m : RepM K H M) {p : Addr} {vs : List V} {ds : List D} (hp : H p = none) (r : RepL K H M vs ds) (q : Q (.lst ds) M) : Q0 (.ref p) (upd H p (.lst vs)) :=
  k _ _ _ M (Ext.laid m hp) (m.laid hp) (.lst upd_same (m.fresh hp) (r.ext (Ext.laid m hp))) q
/-- a list that may change -/
theorem OkV.mut {K : PySem.W.Frag} {M : DHp} {H : Hp} {Q : DVK} {Q0 : VK} (k : OkV K M H Q Q0) (m : RepM K H M) {p : Addr} {vs : List V} {ds : List D} (hp : H p = none) (r : RepL K H M vs ds) (q : Q (.ref p) (updD M p (.lst ds))) : Q0 (.ref p) (upd H p (.lst vs)) :=
  k _ _ _ _ (Ext.laidM m hp) (m.laidM (mo := .lst ds) hp ⟨vs, upd_same, r.ext (Ext.laidM m hp)⟩) (.ref p) q
theorem OkV.wr {K : PySem.W.Frag} {M : DHp} {H : Hp} {Q : DVK} {Q0 : VK} (k : OkV K M H Q Q0) (m : RepM K H M) {p : Addr} {es : List D} {vs : List V} {ds : List D} {v : V} {d : D} (hp : M p = some (.lst es)) (r : RepL K H M vs ds) (rv : Rep K H M v d) (q : Q d (updD M p (.lst ds))) : Q0 v (upd H p (.lst vs)) :=
  k _ _ _ _ (Ext.write hp) (m.write (mo' := .lst ds) hp (q := ⟨vs, upd_same, r.ext (Ext.write hp)⟩)) (rv.ext (Ext.write hp)) q

def dOp (dr : DR2) (ta tb : DTE) : DTE := fun δ M Q W => ta δ M (fun x M1 => tb δ M1 (fun y M2 => dr x y M2 Q) W) W
def dUn (dr : DR1) (ta : DTE) : DTE := fun δ M Q W => ta δ M (fun x M1 => dr x M1 Q) W
def DOpR (X : Cx) (f : Value → Value → Sem Value) (dr : DR2) : Prop := ∃ r, OpR X f r ∧ LR2 X.K r dr
def DUnR (X : Cx) (f : Value → Sem Value) (dr : DR1) : Prop := ∃ r, UnR X f r ∧ LR1 X.K r dr
section
variable {X : Cx} {W0 : WX} {a b : Expr} {ta tb : DTE} {pos : Pos}
theorem two {K : PySem.W.Frag} {ta tb : DTE} {r : R2} {dr : DR2} (l : LR2 K r dr) {σ : St} {H : Hp} {Q0 : VK} {δ : DSt} {M : DHp} {Q : DVK} {W : DW} (a : At K σ H δ M) (q : dOp dr ta tb δ M Q W) (k : OkV K M H Q Q0) (w : OkW K M H W W0) : tOp r (lfE K W0 ta) (lfE K W0 tb) σ H Q0 :=
  lfE.use a q (fun v H1 d M1 x m1 r1 q1 => lfE.use (a.ext x m1) q1 (fun v2 H2 d2 M2 x2 m2 r2 q2 => l H2 M2 v v2 d d2 _ _ m2 (r1.ext x2) r2 q2 (k.ext (x.trans x2))) (w.ext x)) w
theorem de_op {op : Operator} {dr : DR2} (ho : DOpR X (binaryOp op) dr) (ha : DE X W0 a ta) (hb : DE X W0 b tb) : DE X W0 (.BinOp a op b pos) (dOp dr ta tb) := by
  obtain ⟨r, ho, l⟩ := ho
  exact .mk' (pe_op ho ha.pe hb.pe) fun σ H Q0 δ M Q W a q k w => two l a q k w
theorem de_un {op : UnaryOp} {dr : DR1} (ho : DUnR X (unaryOp op) dr) (ha : DE X W0 a ta) : DE X W0 (.UnaryOp op a pos) (dUn dr ta) := by
  obtain ⟨r, ho, l⟩ := ho
  exact .mk' (pe_un ho ha.pe) fun σ H Q0 δ M Q W a q k w => lfE.use a q (fun v H1 d M1 x m1 r1 q1 => l H1 M1 v d _ _ m1 r1 q1 (k.ext x)) w
theorem de_cmp {op : CmpOp} {dr : DR2} (ho : DOpR X (compareOp op) dr) (ha : DE X W0 a ta) (hb : DE X W0 b tb) (hm : behindInMarks op b = false) : DE X W0 (.Compare a [op] [b] pos) (dOp dr ta tb) := by
  obtain ⟨r, ho, l⟩ := ho
  exact .mk' (pe_cmpR ho ha.pe hb.pe hm) fun σ H Q0 δ M Q W a q k w => two l a q k w
/-- a value that is a bool, as a test -/
def dB (t : DTE) : DTT := fun δ M Q W => t δ M (fun x M1 => match x with
  | .bl c => Q c M1
  | _ => False) W
theorem dt_cmp {op : CmpOp} {dr : DR2} (ho : DOpR X (compareOp op) dr) (ha : DE X W0 a ta) (hb : DE X W0 b tb) (hm : behindInMarks op b = false) : DT X W0 (.Compare a [op] [b] pos) (dB (dOp dr ta tb)) := by
  obtain ⟨r, ho, l⟩ := ho
  refine .mk' (pt_cmpR ho ha.pe hb.pe hm) fun σ H Q0 δ M Q W a q k w => two l a q (fun v H1 d M1 x m1 r1 q1 => ?_) w
  cases r1 with
  | bl c => exact ⟨c, rfl, k c H1 M1 x m1 q1⟩
  | non => exact q1.elim
  | int i => exact q1.elim
  | str i => exact q1.elim
  | ref i => exact q1.elim
  | tup f r => exact q1.elim
  | lst f n r => exact q1.elim
  | rol f r => exact q1.elim
  | xtp f e n r => exact q1.elim
  | lam f n r => exact q1.elim
  | exc0 a => exact q1.elim
  | exc1 f n r => exact q1.elim
end

/-! ### lists of the data -/
/-- a list, changing or not -/
def lstOf (M : DHp) : D → Option (List D)
  | .lst xs => some xs
  | .ref p => match M p with
    | some (.lst xs) => some xs
    | _ => none
  | _ => none
/-- a list or a tuple -/
def seqOf (M : DHp) : D → Option (List D)
  | .tup xs => some xs
  | .lst xs => some xs
  | .rol xs => some xs
  | .xtp xs => some xs
  | .ref p => match M p with
    | some (.lst xs) => some xs
    | _ => none
  | _ => none
theorem lstOf_rep {K : PySem.W.Frag} {H : Hp} {M : DHp} {d : D} {ds : List D} (h : lstOf M d = some ds) (m : RepM K H M) {v : V} (r : Rep K H M v d) : ∃ a vs, v = .ref a ∧ H a = some (.lst vs) ∧ RepL K H M vs ds := by
  cases r with
  | lst f n l => cases h; exact ⟨_, _, rfl, f, l⟩
  | ref a =>
    simp only [lstOf] at h
    split at h
    · rename_i xs e
      cases h
      obtain ⟨vs, e2, l⟩ := m.lst e
      exact ⟨a, vs, rfl, e2, l⟩
    · cases h
  | non => cases h
  | bl b => cases h
  | int i => cases h
  | str x => cases h
  | tup f r => cases h
  | rol f r => cases h
  | xtp f e n r => cases h
  | lam f n r => cases h
  | exc0 a => cases h
  | exc1 f n r => cases h
theorem seqOf_rep {K : PySem.W.Frag} {H : Hp} {M : DHp} {d : D} {ds : List D} (h : seqOf M d = some ds) (m : RepM K H M) {v : V} (r : Rep K H M v d) : ∃ a vs, v = .ref a ∧ (SqL K H a vs ∨ SqT K H a vs) ∧ RepL K H M vs ds := by
  cases r with
  | lst f n l => cases h; exact ⟨_, _, rfl, .inl (SqL.of f), l⟩
  | ref a =>
    simp only [seqOf] at h
    split at h
    · rename_i xs e
      cases h
      obtain ⟨vs, e2, l⟩ := m.lst e
      exact ⟨a, vs, rfl, .inl (SqL.of e2), l⟩
    · cases h
  | non => cases h
  | bl b => cases h
  | int i => cases h
  | str x => cases h
  | tup f r => cases h; exact ⟨_, _, rfl, .inr f.seq, r⟩
  | rol f r => cases h; exact ⟨_, _, rfl, .inl f.seq, r⟩
  | xtp f e n r => cases h; exact ⟨_, _, rfl, .inr (.inl (.inr ⟨_, f⟩)), r⟩
  | lam f n r => cases h
  | exc0 a => cases h
  | exc1 f n r => cases h

/-! ### + - * // % ** -/
def rAddD : DR2 := fun x y M Q => match x, y with
  | .int i, .int j => Q (.int (i + j)) M
  | .str i, .str j => i.length + j.length ≤ sizeLine ∧ Q (.str (i ++ j)) M
  | .tup a, .tup b => a.length + b.length ≤ sizeLine ∧ Q (.tup (a ++ b)) M
  | x, y => ∃ a b, lstOf M x = some a ∧ lstOf M y = some b ∧ a.length + b.length ≤ sizeLine ∧ Q (.lst (a ++ b)) M
theorem Rep.intI {K : PySem.W.Frag} {H : Hp} {M : DHp} {v : V} {i : Int} (r : Rep K H M v (.int i)) : v = .int i := by cases r; rfl
theorem Rep.strI {K : PySem.W.Frag} {H : Hp} {M : DHp} {v : V} {i : Str} (r : Rep K H M v (.str i)) : v = .str i := by cases r; rfl
theorem Rep.blI {K : PySem.W.Frag} {H : Hp} {M : DHp} {v : V} {i : Bool} (r : Rep K H M v (.bl i)) : v = .bl i := by cases r; rfl
theorem Rep.nonI {K : PySem.W.Frag} {H : Hp} {M : DHp} {v : V} (r : Rep K H M v .non) : v = .non := by cases r; rfl
theorem Rep.refI {K : PySem.W.Frag} {H : Hp} {M : DHp} {v : V} {a : Addr} (r : Rep K H M v (.ref a)) : v = .ref a := by cases r; rfl
theorem Rep.tupI {K : PySem.W.Frag} {H : Hp} {M : DHp} {v : V} {ds : List D} (r : Rep K H M v (.tup ds)) : ∃ a vs, v = .ref a ∧ FzT K H M a vs ∧ RepL K H M vs ds := by cases r with | tup f l => exact ⟨_, _, rfl, f, l⟩
theorem Rep.lstI {K : PySem.W.Frag} {H : Hp} {M : DHp} {v : V} {ds : List D} (r : Rep K H M v (.lst ds)) : ∃ a vs, v = .ref a ∧ H a = some (.lst vs) ∧ M a = none ∧ RepL K H M vs ds := by cases r with | lst f n l => exact ⟨_, _, rfl, f, n, l⟩
theorem Rep.xtpI {K : PySem.W.Frag} {H : Hp} {M : DHp} {v : V} {ds : List D} (r : Rep K H M v (.xtp ds)) : ∃ a vs o, v = .ref a ∧ H a = some (.frz o (.tup vs)) ∧ o.dict = none ∧ M a = none ∧ RepL K H M vs ds := by cases r with | xtp f e n l => exact ⟨_, _, _, rfl, f, e, n, l⟩
theorem Rep.rolI {K : PySem.W.Frag} {H : Hp} {M : DHp} {v : V} {ds : List D} (r : Rep K H M v (.rol ds)) : ∃ a vs, v = .ref a ∧ FzL K H M a vs ∧ RepL K H M vs ds := by cases r with | rol f l => exact ⟨_, _, rfl, f, l⟩
section
variable {X : Cx}
theorem do_add : DOpR X (binaryOp .Add) rAddD := by
  refine ⟨_, OpR.or op_add (OpR.or op_add_str (OpR.or op_catA op_cat)), ?_⟩
  intro H M x y d e Q0 Q m rx ry q k
  unfold rAddD at q
  split at q
  · rw [rx.intI, ry.intI]
    exact .inl ⟨_, _, rfl, rfl, k.here m (.int _) q⟩
  · rw [rx.strI, ry.strI]
    exact .inr (.inl ⟨_, _, rfl, rfl, q.1, k.here m (.str _) q.2⟩)
  · obtain ⟨a, vs, rfl, f, l⟩ := rx.tupI
    obtain ⟨b, ws, rfl, g, l'⟩ := ry.tupI
    refine .inr (.inr (.inl ⟨a, b, vs, ws, rfl, rfl, f.seq, g.seq, ?_, fun e => ?_, fun e e' => ?_, fun e e' p hp => ?_⟩))
    · rw [l.length, l'.length]; exact q.1
    · subst e
      cases l
      exact k.here m ry q.2
    · subst e'
      cases l'
      rw [List.append_nil] at q
      exact k.here m rx q.2
    · exact k.tup m hp (l.append l') q.2
  · obtain ⟨a, b, ea, eb, z, q⟩ := q
    obtain ⟨p, vs, rfl, f, l⟩ := lstOf_rep ea m rx
    obtain ⟨p', ws, rfl, g, l'⟩ := lstOf_rep eb m ry
    refine .inr (.inr (.inr ⟨p, p', vs, ws, rfl, rfl, f, g, ?_, fun p hp => k.lst m hp (l.append l') q⟩))
    rw [l.length, l'.length]; exact z
end
end DL
end

section
set_option Elab.async false
set_option linter.all false
set_option maxRecDepth 100000
/-! DL3: operators, comparisons, tests, subscripts, displays. -/
namespace DL
open PySem PySem.Spec L2
section
variable {X : Cx}
/-! ### arithmetic -/
def rSubD : DR2 := fun x y M Q => match x, y with
  | .int i, .int j => Q (.int (i - j)) M
  | _, _ => False
def rMulD : DR2 := fun x y M Q => match x, y with
  | .int i, .int j => CMul i j ∧ Q (.int (i * j)) M
  | .tup xs, .int k => xs ≠ [] ∧ 2 ≤ k ∧ k ≤ 1000 ∧ xs.length ≤ 1000 ∧ Q (.tup (List.replicate k.toNat xs).flatten) M
  | x, .int k => ∃ xs, lstOf M x = some xs ∧ -(2 ^ 63) ≤ k ∧ k < 2 ^ 63 ∧ xs.length * k.toNat ≤ sizeLine ∧ Q (.lst (List.replicate k.toNat xs).flatten) M
  | _, _ => False
def rDivD : DR2 := fun x y M Q => match x, y with
  | .int i, .int j => CDiv i j ∧ Q (.int (i / j)) M
  | _, _ => False
def rModD : DR2 := fun x y M Q => match x, y with
  | .int i, .int j => 0 < j ∧ Q (.int (i % j)) M
  | _, _ => False
def rPowD : DR2 := fun x y M Q => match x, y with
  | .int i, .int j => CPow i j ∧ Q (.int (i ^ j.toNat)) M
  | _, _ => False
def rNegD : DR1 := fun x M Q => match x with
  | .int i => Q (.int (-i)) M
  | _ => False
theorem do_sub : DOpR X (binaryOp .Sub) rSubD := by
  refine ⟨_, op_sub, fun H M x y d e Q0 Q m rx ry q k => ?_⟩
  unfold rSubD at q
  split at q
  · rw [rx.intI, ry.intI]
    exact ⟨_, _, rfl, rfl, k.here m (.int _) q⟩
  · exact q.elim
theorem do_mul : DOpR X (binaryOp .Mult) rMulD := by
  refine ⟨_, OpR.or op_mul (OpR.or op_repT op_rep), fun H M x y d e Q0 Q m rx ry q k => ?_⟩
  unfold rMulD at q
  split at q
  · rw [rx.intI, ry.intI]
    exact .inl ⟨_, _, rfl, rfl, q.1, k.here m (.int _) q.2⟩
  · obtain ⟨a, vs, rfl, f, l⟩ := rx.tupI
    rw [ry.intI]
    obtain ⟨h1, h2, h3, h4, q⟩ := q
    refine .inr (.inl ⟨a, _, vs, rfl, rfl, f.seq, fun e => h1 ?_, h2, h3, by rw [l.length]; exact h4, fun p hp => k.tup m hp (l.replicate _) q⟩)
    subst e; cases l; rfl
  · obtain ⟨xs, ex, h1, h2, h3, q⟩ := q
    obtain ⟨p, vs, rfl, f, l⟩ := lstOf_rep ex m rx
    rw [ry.intI]
    exact .inr (.inr ⟨p, _, vs, rfl, rfl, f, h1, h2, by rw [l.length]; exact h3, fun p hp => k.lst m hp (l.replicate _) q⟩)
  · exact q.elim
theorem do_div : DOpR X (binaryOp .FloorDiv) rDivD := by
  refine ⟨_, op_fdiv, fun H M x y d e Q0 Q m rx ry q k => ?_⟩
  unfold rDivD at q
  split at q
  · rw [rx.intI, ry.intI]
    exact ⟨_, _, rfl, rfl, q.1, k.here m (.int _) q.2⟩
  · exact q.elim
theorem do_mod : DOpR X (binaryOp .Mod) rModD := by
  refine ⟨_, op_mod, fun H M x y d e Q0 Q m rx ry q k => ?_⟩
  unfold rModD at q
  split at q
  · rw [rx.intI, ry.intI]
    exact ⟨_, _, rfl, rfl, q.1, k.here m (.int _) q.2⟩
  · exact q.elim
theorem do_pow : DOpR X (binaryOp .Pow) rPowD := by
  refine ⟨_, op_pow, fun H M x y d e Q0 Q m rx ry q k => ?_⟩
  unfold rPowD at q
  split at q
  · rw [rx.intI, ry.intI]
    exact ⟨_, _, rfl, rfl, q.1, k.here m (.int _) q.2⟩
  · exact q.elim
theorem du_neg : DUnR X (unaryOp .USub) rNegD := by
  refine ⟨_, un_neg, fun H M x d Q0 Q m rx q k => ?_⟩
  unfold rNegD at q
  split at q
  · rw [rx.intI]
    exact ⟨_, rfl, k.here m (.int _) q⟩
  · exact q.elim
/-! ### op= -/
def rAddI : DR2 := fun x y M Q => match x, y with
  | .int i, .int j => Q (.int (i + j)) M
  | _, _ => False
theorem di_add : DOpR X (inplaceOp .Add) rAddI := by
  refine ⟨_, iop_add, fun H M x y d e Q0 Q m rx ry q k => ?_⟩
  unfold rAddI at q
  split at q
  · rw [rx.intI, ry.intI]
    exact ⟨_, _, rfl, rfl, k.here m (.int _) q⟩
  · exact q.elim
theorem di_sub : DOpR X (inplaceOp .Sub) rSubD := by
  refine ⟨_, iop_sub, fun H M x y d e Q0 Q m rx ry q k => ?_⟩
  unfold rSubD at q
  split at q
  · rw [rx.intI, ry.intI]
    exact ⟨_, _, rfl, rfl, k.here m (.int _) q⟩
  · exact q.elim

/-! ### pure data -/
mutual
def D.py : D → PyData
  | .non => .none
  | .bl b => .bool b
  | .int i => .int i
  | .str x => .str x
  | .tup xs => .tuple (pys xs)
  | .lst xs => .list (pys xs)
  | .rol xs => .list (pys xs)
  | .xtp xs => .tuple (pys xs)
  | .exc _ _ _ _ => .none
  | .lam _ _ _ _ _ => .none
  | .ref _ => .none
def pys : List D → List PyData
  | [] => []
  | x :: xs => x.py :: pys xs
end
mutual
def D.pure : D → Bool
  | .non => true
  | .bl _ => true
  | .int _ => true
  | .str _ => true
  | .tup xs => pures xs
  | .lst xs => pures xs
  | .rol xs => pures xs
  | .xtp xs => pures xs
  | .exc _ _ _ _ => false
  | .lam _ _ _ _ _ => false
  | .ref _ => false
def pures : List D → Bool
  | [] => true
  | x :: xs => x.pure && pures xs
end
section
variable {K : PySem.W.Frag} {H : Hp} {M : DHp}
mutual
theorem Rep.dp : ∀ {v : V} {d : D}, Rep K H M v d → d.pure = true → Dp K H v d.py
  | _, _, .non, _ => by unfold D.py; exact .non
  | _, _, .bl b, _ => by unfold D.py; exact .bl b
  | _, _, .int i, _ => by unfold D.py; exact .int i
  | _, _, .str y, _ => by unfold D.py; exact .str y
  | _, _, .ref a, h => by unfold D.pure at h; cases h
  | _, _, .tup f r, h => by unfold D.py; unfold D.pure at h; exact .tup f.seq (RepL.dp r h)
  | _, _, .lst f n r, h => by unfold D.py; unfold D.pure at h; exact .lst (SqL.of f) (RepL.dp r h)
  | _, _, .rol f r, h => by unfold D.py; unfold D.pure at h; exact .lst f.seq (RepL.dp r h)
  | _, _, .xtp (o := o) f e n r, h => by unfold D.py; unfold D.pure at h; exact .tup (.inl (.inr ⟨o, f⟩)) (RepL.dp r h)
  | _, _, .lam f n r, h => by unfold D.pure at h; cases h
  | _, _, .exc0 a, h => by unfold D.pure at h; cases h
  | _, _, .exc1 f n r, h => by unfold D.pure at h; cases h
theorem RepL.dp : ∀ {vs : List V} {ds : List D}, RepL K H M vs ds → pures ds = true → DpAll K H vs (pys ds)
  | _, _, .nil, _ => by unfold pys; exact .nil
  | _, _, .cons r t, h => by
    unfold pys
    unfold pures at h
    obtain ⟨h1, h2⟩ := Bool.and_eq_true_iff.mp h
    exact .cons (Rep.dp r h1) (RepL.dp t h2)
end
end
/-- a changing list as the list that it is now -/
def frz (M : DHp) : D → D
  | .ref p => match M p with
    | some (.lst xs) => .lst xs
    | _ => .ref p
  | d => d
theorem Rep.frz {K : PySem.W.Frag} {H : Hp} {M : DHp} {v : V} {d : D} (r : Rep K H M v d) (m : RepM K H M) (h : (frz M d).pure = true) : Dp K H v (DL.frz M d).py := by
  cases r with
  | ref a =>
    cases e : M a with
    | none => simp [DL.frz, e, D.pure] at h
    | some o =>
      cases o with
      | lst xs =>
        have ef : DL.frz M (.ref a) = .lst xs := by simp [DL.frz, e]
        rw [ef] at h ⊢
        obtain ⟨vs, e2, l⟩ := m.lst e
        unfold D.py
        unfold D.pure at h
        exact .lst (SqL.of e2) (l.dp h)
      | ins C fs => simp [DL.frz, e, D.pure] at h
      | tbl q => simp [DL.frz, e, D.pure] at h
      | busy => simp [DL.frz, e, D.pure] at h
  | non => exact Rep.dp (M := M) .non h
  | bl b => exact Rep.dp (M := M) (.bl b) h
  | int i => exact Rep.dp (M := M) (.int i) h
  | str x => exact Rep.dp (M := M) (.str x) h
  | tup f r => exact Rep.dp (.tup f r) h
  | lst f n r => exact Rep.dp (.lst f n r) h
  | rol f r => exact Rep.dp (.rol f r) h
  | xtp f e n r => exact Rep.dp (.xtp f e n r) h
  | lam f n r => exact Rep.dp (.lam f n r) h
  | exc0 a => exact Rep.dp (M := M) (.exc0 a) h
  | exc1 f n r => exact Rep.dp (.exc1 f n r) h
/-- fit for == -/
def EqOk (M : DHp) (d : D) : Prop := (frz M d).pure = true ∧ SeqAt.shaped (frz M d).py = true
def eqD (M : DHp) (x y : D) : Bool := PyData.eqv (frz M x).py (frz M y).py
def rEqD' (neg : Bool) : DR2 := fun x y M Q => match x, y with
  | .int i, .int j => Q (.bl (if neg then !decide (i = j) else decide (i = j))) M
  | .str i, .str j => Q (.bl (if neg then !decide (i = j) else decide (i = j))) M
  | .bl i, .bl j => Q (.bl (if neg then !decide (i = j) else decide (i = j))) M
  | x, y => EqOk M x ∧ EqOk M y ∧ Q (.bl (if neg then !eqD M x y else eqD M x y)) M
abbrev rEqq : DR2 := rEqD' false
abbrev rNee : DR2 := rEqD' true
theorem do_eq (hu : X.A.units + 64 < cLine) : DOpR X (compareOp .Eq) rEqq := by
  refine ⟨_, OpR.or op_eq (op_eqD hu), fun H M x y d e Q0 Q m rx ry q k => ?_⟩
  unfold rEqq rEqD' at q
  split at q
  · rw [rx.intI, ry.intI]
    refine .inl ⟨rfl, k.here m (.bl _) ?_⟩
    simpa [V.int.injEq] using q
  · rw [rx.strI, ry.strI]
    refine .inl ⟨rfl, k.here m (.bl _) ?_⟩
    simpa [V.str.injEq] using q
  · rw [rx.blI, ry.blI]
    refine .inl ⟨rfl, k.here m (.bl _) ?_⟩
    simpa [V.bl.injEq] using q
  · obtain ⟨⟨p1, s1⟩, ⟨p2, s2⟩, q⟩ := q
    exact .inr ⟨_, _, rx.frz m p1, ry.frz m p2, s1, s2, k.here m (.bl _) q⟩
theorem do_ne (hu : X.A.units + 64 < cLine) : DOpR X (compareOp .NotEq) rNee := by
  refine ⟨_, OpR.or op_ne (op_neD hu), fun H M x y d e Q0 Q m rx ry q k => ?_⟩
  unfold rNee rEqD' at q
  split at q
  · rw [rx.intI, ry.intI]
    refine .inl ⟨rfl, k.here m (.bl _) ?_⟩
    simpa [V.int.injEq] using q
  · rw [rx.strI, ry.strI]
    refine .inl ⟨rfl, k.here m (.bl _) ?_⟩
    simpa [V.str.injEq] using q
  · rw [rx.blI, ry.blI]
    refine .inl ⟨rfl, k.here m (.bl _) ?_⟩
    simpa [V.bl.injEq] using q
  · obtain ⟨⟨p1, s1⟩, ⟨p2, s2⟩, q⟩ := q
    exact .inr ⟨_, _, rx.frz m p1, ry.frz m p2, s1, s2, k.here m (.bl _) q⟩
def rCmpD (p : Int → Int → Bool) : DR2 := fun x y M Q => match x, y with
  | .int i, .int j => Q (.bl (p i j)) M
  | _, _ => False
abbrev rLtD : DR2 := rCmpD fun i j => decide (i < j)
abbrev rLeD : DR2 := rCmpD fun i j => decide (i ≤ j)
abbrev rGtD : DR2 := rCmpD fun i j => decide (j < i)
abbrev rGeD : DR2 := rCmpD fun i j => decide (j ≤ i)
theorem lr_cmp {K : PySem.W.Frag} {p : Int → Int → Bool} : LR2 K (rI0 fun i j => .bl (p i j)) (rCmpD p) := by
  intro H M x y d e Q0 Q m rx ry q k
  unfold rCmpD at q
  split at q
  · rw [rx.intI, ry.intI]
    exact ⟨_, _, rfl, rfl, k.here m (.bl _) q⟩
  · exact q.elim
theorem do_lt : DOpR X (compareOp .Lt) rLtD := ⟨_, op_lt, lr_cmp⟩
theorem do_le : DOpR X (compareOp .LtE) rLeD := ⟨_, op_le, lr_cmp⟩
theorem do_gt : DOpR X (compareOp .Gt) rGtD := ⟨_, op_gt, lr_cmp⟩
theorem do_ge : DOpR X (compareOp .GtE) rGeD := ⟨_, op_ge, lr_cmp⟩
/-- is None -/
def isNonD : D → Bool
  | .non => true
  | _ => false
def rIsD (neg : Bool) : DR2 := fun x y M Q => isNonD y = true ∧ Q (.bl (if neg then !isNonD x else isNonD x)) M
theorem Rep.isNon {K : PySem.W.Frag} {H : Hp} {M : DHp} {v : V} {d : D} (r : Rep K H M v d) : decide (v = .non) = isNonD d := by
  cases r <;> first | rfl | exact decide_eq_false (by intro h; cases h)
theorem do_is : DOpR X (compareOp .Is) (rIsD false) := by
  refine ⟨_, op_isN, fun H M x y d e Q0 Q m rx ry q k => ?_⟩
  obtain ⟨h, q⟩ := q
  refine ⟨of_decide_eq_true (ry.isNon.trans h), ?_⟩
  rw [rx.isNon]
  exact k.here m (.bl _) q
theorem do_isnot : DOpR X (compareOp .IsNot) (rIsD true) := by
  refine ⟨_, op_notN, fun H M x y d e Q0 Q m rx ry q k => ?_⟩
  obtain ⟨h, q⟩ := q
  refine ⟨of_decide_eq_true (ry.isNon.trans h), ?_⟩
  rw [rx.isNon]
  exact k.here m (.bl _) q
/-! ### x in s -/
def flatD : D → Bool
  | .non => true
  | .bl _ => true
  | .int _ => true
  | .str _ => true
  | _ => false
def eqF : D → D → Bool
  | .non, .non => true
  | .bl a, .bl b => a == b
  | .bl a, .int b => (if a then 1 else 0) == b
  | .int a, .bl b => a == (if b then 1 else 0)
  | .int a, .int b => a == b
  | .str a, .str b => a == b
  | _, _ => false
theorem Rep.flat {K : PySem.W.Frag} {H : Hp} {M : DHp} {v : V} {d : D} (r : Rep K H M v d) (h : flatD d = true) : flatV v = true := by
  cases r <;> first | rfl | cases h
theorem RepL.flat {K : PySem.W.Frag} {H : Hp} {M : DHp} : ∀ {vs : List V} {ds : List D}, RepL K H M vs ds → ds.all flatD = true → vs.all flatV = true
  | _, _, .nil, _ => rfl
  | _, _, .cons r t, h => by
    rw [List.all_cons] at h ⊢
    obtain ⟨h1, h2⟩ := Bool.and_eq_true_iff.mp h
    rw [r.flat h1, t.flat h2]; rfl
theorem Rep.eqF {K : PySem.W.Frag} {H : Hp} {M : DHp} {v w : V} {d e : D} (r : Rep K H M v d) (s : Rep K H M w e) (h : flatD d = true) (h' : flatD e = true) : eqV v w = DL.eqF d e := by
  cases r <;> first | (cases h; done) | (cases s <;> first | rfl | cases h')
theorem RepL.inV {K : PySem.W.Frag} {H : Hp} {M : DHp} {v : V} {d : D} (r : Rep K H M v d) (h : flatD d = true) : ∀ {vs : List V} {ds : List D}, RepL K H M vs ds → ds.all flatD = true → L2.inV v vs = ds.any fun z => DL.eqF z d
  | _, _, .nil, _ => rfl
  | _, _, .cons s t, h' => by
    rw [List.all_cons] at h'
    obtain ⟨h1, h2⟩ := Bool.and_eq_true_iff.mp h'
    have e := t.inV r h h2
    unfold L2.inV at e ⊢
    rw [List.any_cons, List.any_cons, s.eqF r h1 h, e]
def rInDD (neg : Bool) : DR2 := fun x y M Q => ∃ ds, seqOf M y = some ds ∧ flatD x = true ∧ ds.all flatD = true ∧ Q (.bl (if neg then !ds.any fun z => eqF z x else ds.any fun z => eqF z x)) M
theorem do_in : DOpR X (compareOp .In) (rInDD false) := by
  refine ⟨_, op_in_seq, fun H M x y d e Q0 Q m rx ry q k => ?_⟩
  obtain ⟨ds, hs, h1, h2, q⟩ := q
  obtain ⟨a, vs, rfl, hq, l⟩ := seqOf_rep hs m ry
  refine ⟨a, vs, rfl, hq, rx.flat h1, l.flat h2, ?_⟩
  simp only [Bool.false_eq_true, if_false] at q ⊢
  rw [l.inV rx h1 h2]
  exact k.here m (.bl _) q
theorem do_notin : DOpR X (compareOp .NotIn) (rInDD true) := by
  refine ⟨_, op_notIn_seq, fun H M x y d e Q0 Q m rx ry q k => ?_⟩
  obtain ⟨ds, hs, h1, h2, q⟩ := q
  obtain ⟨a, vs, rfl, hq, l⟩ := seqOf_rep hs m ry
  refine ⟨a, vs, rfl, hq, rx.flat h1, l.flat h2, ?_⟩
  simp only [if_true] at q ⊢
  rw [l.inV rx h1 h2]
  exact k.here m (.bl _) q
end
end DL
end

section
set_option Elab.async false
set_option linter.all false
set_option maxRecDepth 100000
/-! DL4: tests, subscripts, displays, argument lists. -/
namespace DL
open PySem PySem.Spec L2
section
variable {X : Cx} {W0 : WX} {a b c : Expr} {pos : Pos} {rest : List Expr}
/-! ### truth -/
def dTru (t : DTE) : DTT := fun δ M Q W => t δ M (fun x M1 => match x with
  | .non => Q false M1
  | .bl k => Q k M1
  | .int i => Q (i != 0) M1
  | .str y => y.length ≤ sizeLine ∧ Q ((y.length : Int) != 0) M1
  | x => ∃ ds, seqOf M1 x = some ds ∧ Q (!ds.isEmpty) M1) W
theorem RepL.isEmpty {K : PySem.W.Frag} {H : Hp} {M : DHp} {vs : List V} {ds : List D} (r : RepL K H M vs ds) : vs.isEmpty = ds.isEmpty := by cases r <;> rfl
theorem dt_truth {ta : DTE} (ha : DE X W0 a ta) (he : ∀ whole, isTrue a X.env whole = (do let v ← whole; standAt a.pos; holding [v] (truthy v)) := by intro _; rfl) : DT X W0 a (dTru ta) :=
  .mk' (pt_truth ha.pe he) fun σ H Q0 δ M Q W at_ q k w => lfE.use at_ q (fun v H1 d M1 x m1 r1 q1 => by
    split at q1
    · rw [r1.nonI]; exact ⟨false, rfl, k _ _ _ x m1 q1⟩
    · rw [r1.blI]; exact ⟨_, rfl, k _ _ _ x m1 q1⟩
    · rw [r1.intI]; exact ⟨_, rfl, k _ _ _ x m1 q1⟩
    · rw [r1.strI]; exact ⟨_, ⟨q1.1, rfl⟩, k _ _ _ x m1 q1.2⟩
    · obtain ⟨ds, hs, q1⟩ := q1
      obtain ⟨p, vs, rfl, hq, l⟩ := seqOf_rep hs m1 r1
      refine ⟨!ds.isEmpty, ?_, k _ _ _ x m1 q1⟩
      rcases hq with hq | hq
      · exact .inl ⟨vs, hq, by rw [l.isEmpty]⟩
      · exact .inr (.inl ⟨vs, hq, by rw [l.isEmpty]⟩)) w

/-! ### and, or, not -/
def dAnd (t u : DTT) : DTT := fun δ M Q W => t δ M (fun c M1 => if c = true then u δ M1 Q W else Q false M1) W
def dOr (t u : DTT) : DTT := fun δ M Q W => t δ M (fun c M1 => if c = true then Q true M1 else u δ M1 Q W) W
def dNot (t : DTT) : DTT := fun δ M Q W => t δ M (fun c M1 => Q (!c) M1) W
variable {tA tB : DTT} {ta tb : DTE}
theorem dw_and1 (ha : DT X W0 a tA) : DPW X W0 (.BoolOp .And [a] pos) tA := ⟨pw_and1 ha.pt⟩
theorem dw_or1 (ha : DT X W0 a tA) : DPW X W0 (.BoolOp .Or [a] pos) tA := ⟨pw_or1 ha.pt⟩
theorem dw_and (ha : DT X W0 a tA) (hb : DPW X W0 (.BoolOp .And (b :: rest) pos) tB) : DPW X W0 (.BoolOp .And (a :: b :: rest) pos) (dAnd tA tB) :=
  .mk' (pw_and ha.pt hb.pw) fun σ H Q0 δ M Q W a q k w => lfT.use a q (fun c H1 M1 x m1 q1 => by
    cases c with
    | true => exact lfT.use (a.ext x m1) q1 (fun c2 H2 M2 x2 => k c2 H2 M2 (x.trans x2)) (w.ext x)
    | false => exact k false H1 M1 x m1 q1) w
theorem dw_or (ha : DT X W0 a tA) (hb : DPW X W0 (.BoolOp .Or (b :: rest) pos) tB) : DPW X W0 (.BoolOp .Or (a :: b :: rest) pos) (dOr tA tB) :=
  .mk' (pw_or ha.pt hb.pw) fun σ H Q0 δ M Q W a q k w => lfT.use a q (fun c H1 M1 x m1 q1 => by
    cases c with
    | false => exact lfT.use (a.ext x m1) q1 (fun c2 H2 M2 x2 => k c2 H2 M2 (x.trans x2)) (w.ext x)
    | true => exact k true H1 M1 x m1 q1) w
theorem DPW.dt {e : Expr} (h : DPW X W0 e tA) : DT X W0 e tA := ⟨h.pw.pt⟩
theorem dt_not (ha : DT X W0 a tA) : DT X W0 (.UnaryOp .Not a pos) (dNot tA) :=
  .mk' (pt_not ha.pt) fun σ H Q0 δ M Q W a q k w => lfT.use a q (fun c H1 M1 x m1 q1 => k (!c) H1 M1 x m1 q1) w
/-- .. as values -/
def dAndV (ta tb : DTE) : DTE := fun δ M Q W => ta δ M (fun x M1 => match x with
  | .bl c => if c = true then tb δ M1 Q W else Q (.bl false) M1
  | _ => False) W
def dOrV (ta tb : DTE) : DTE := fun δ M Q W => ta δ M (fun x M1 => match x with
  | .bl c => if c = true then Q (.bl true) M1 else tb δ M1 Q W
  | _ => False) W
def dNotV (tA : DTT) : DTE := fun δ M Q W => tA δ M (fun c M1 => Q (.bl (!c)) M1) W
theorem de_one {op} (h : DE X W0 a ta) : DE X W0 (.BoolOp op [a] pos) ta := ⟨pe_one h.pe⟩
theorem de_and (ha : DE X W0 a ta) (hb : DE X W0 (.BoolOp .And (b :: rest) pos) tb) : DE X W0 (.BoolOp .And (a :: b :: rest) pos) (dAndV ta tb) :=
  .mk' (pe_and ha.pe hb.pe) fun σ H Q0 δ M Q W a q k w => lfE.use a q (fun v H1 d M1 x m1 r1 q1 => by
    split at q1
    · rename_i c
      rw [r1.blI]
      refine ⟨c, rfl, ?_⟩
      cases c with
      | true => exact lfE.use (a.ext x m1) q1 (k.ext x) (w.ext x)
      | false => exact k _ H1 _ M1 x m1 (.bl false) q1
    · exact q1.elim) w
theorem de_or (ha : DE X W0 a ta) (hb : DE X W0 (.BoolOp .Or (b :: rest) pos) tb) : DE X W0 (.BoolOp .Or (a :: b :: rest) pos) (dOrV ta tb) :=
  .mk' (pe_or ha.pe hb.pe) fun σ H Q0 δ M Q W a q k w => lfE.use a q (fun v H1 d M1 x m1 r1 q1 => by
    split at q1
    · rename_i c
      rw [r1.blI]
      refine ⟨c, rfl, ?_⟩
      cases c with
      | false => exact lfE.use (a.ext x m1) q1 (k.ext x) (w.ext x)
      | true => exact k _ H1 _ M1 x m1 (.bl true) q1
    · exact q1.elim) w
def dNotE (ta : DTE) : DTE := fun δ M Q W => ta δ M (fun x M1 => match x with
  | .bl c => Q (.bl (!c)) M1
  | _ => False) W
theorem de_not (ha : DE X W0 a ta) : DE X W0 (.UnaryOp .Not a pos) (dNotE ta) :=
  .mk' (pe_not ha.pe) fun σ H Q0 δ M Q W a q k w => lfE.use a q (fun v H1 d M1 x m1 r1 q1 => by
    split at q1
    · rename_i c
      rw [r1.blI]
      exact ⟨c, rfl, k _ H1 _ M1 x m1 (.bl _) q1⟩
    · exact q1.elim) w
def dIfE (t : DTT) (ta tb : DTE) : DTE := fun δ M Q W => t δ M (fun c M1 => if c = true then ta δ M1 Q W else tb δ M1 Q W) W
theorem de_ifExp (hc : DT X W0 c tA) (ha : DE X W0 a ta) (hb : DE X W0 b tb) : DE X W0 (.IfExp c a b pos) (dIfE tA ta tb) :=
  .mk' (pe_ifExp hc.pt ha.pe hb.pe) fun σ H Q0 δ M Q W a q k w => lfT.use a q (fun d H1 M1 x m1 q1 => by
    cases d with
    | true => exact lfE.use (a.ext x m1) q1 (k.ext x) (w.ext x)
    | false => exact lfE.use (a.ext x m1) q1 (k.ext x) (w.ext x)) w
end

/-! ### subscripts -/
theorem RepL.atI {K : PySem.W.Frag} {H : Hp} {M : DHp} {vs : List V} {ds : List D} {i : Int} {d : D} (r : RepL K H M vs ds) (h : L2.atI ds i = some d) : ∃ v, L2.atI vs i = some v ∧ Rep K H M v d := by
  unfold L2.atI at h ⊢
  rw [r.length]
  cases e : ixN ds.length i with
  | none => rw [e] at h; cases h
  | some j =>
    rw [e] at h
    exact r.get h
def cutG {α : Type} (xs : List α) (lo hi : Option Int) : List α := (xs.drop (HT.sIx xs.length 0 lo)).take (HT.sIx xs.length xs.length hi - HT.sIx xs.length 0 lo)
theorem cutG_whole {α : Type} {xs : List α} {lo hi : Option Int} (h : HT.sIx xs.length 0 lo = 0 ∧ HT.sIx xs.length xs.length hi = xs.length) : cutG xs lo hi = xs := by
  unfold cutG
  rw [h.1, h.2]
  simp
theorem RepL.cut {K : PySem.W.Frag} {H : Hp} {M : DHp} {vs : List V} {ds : List D} (lo hi : Option Int) (r : RepL K H M vs ds) : RepL K H M (cutV vs lo hi) (cutG ds lo hi) := by
  unfold cutV cutG
  rw [r.length]
  exact (r.drop _).take _
def rIxDD : DR2 := fun x y M Q => match x, y with
  | .str z, .int i => z.length ≤ sizeLine ∧ ∃ c, L2.atI z.cps.toList i = some c ∧ Q (.str ⟨#[c]⟩) M
  | x, .int i => ∃ ds d, seqOf M x = some ds ∧ L2.atI ds i = some d ∧ Q d M
  | _, _ => False
section
variable {X : Cx} {W0 : WX} {a b : Expr} {ta tb : DTE} {pos : Pos}
theorem de_ix (ha : DE X W0 a ta) (hb : DE X W0 b tb) (hs : PlainIx b := by intro _ _; rfl) : DE X W0 (.Subscript a b pos) (dOp rIxDD ta tb) := by
  refine .mk' (pe_ix ix_seq ha.pe hb.pe hs) fun σ H Q0 δ M Q W a q k w => two (r := rIx X.K) (dr := rIxDD) (fun H M x y d e Q0 Q m rx ry q k => ?_) a q k w
  unfold rIxDD at q
  split at q
  · obtain ⟨h1, c, h2, q⟩ := q
    rw [rx.strI, ry.intI]
    exact .inr (.inr ⟨_, _, c, rfl, rfl, h1, h2, k.here m (.str _) q⟩)
  · obtain ⟨ds, d, hs, hd, q⟩ := q
    obtain ⟨p, vs, rfl, hq, l⟩ := seqOf_rep hs m rx
    obtain ⟨v, hv, rv⟩ := l.atI hd
    rw [ry.intI]
    rcases hq with hq | hq
    · exact .inl ⟨p, vs, _, v, rfl, rfl, hq, hv, k.here m rv q⟩
    · exact .inr (.inl ⟨p, vs, _, v, rfl, rfl, hq, hv, k.here m rv q⟩)
  · exact q.elim
/-- a bound of a slice -/
abbrev DTO := DSt → DHp → (Option Int → DHp → Prop) → DW → Prop
def lfO (K : PySem.W.Frag) (W0 : WX) (t : DTO) : TO := fun σ H Q0 => ∃ δ M Q W, At K σ H δ M ∧ t δ M Q W ∧ (∀ o H' M', Ext M H M' H' → RepM K H' M' → Q o M' → Q0 o H') ∧ OkW K M H W W0
structure DO (X : Cx) (W0 : WX) (e : Option Expr) (t : DTO) : Prop where
  po : PO X e (lfO X.K W0 t)
def dNoPart : DTO := fun _ M Q _ => Q none M
def dPart (te : DTE) : DTO := fun δ M Q W => te δ M (fun x M1 => match x with
  | .int i => Q (some i) M1
  | _ => False) W
theorem PO.imp {X : Cx} {e : Option Expr} {t t' : TO} (h : PO X e t) (f : ∀ σ H Q, t' σ H Q → t σ H Q) : PO X e t' := ⟨fun pins s σ H Q I q => h.run pins s σ H Q I (f σ H Q q)⟩
theorem do_none : DO X W0 none dNoPart := ⟨PO.imp po_none fun σ H Q0 ⟨δ, M, Q, W, a, q, k, w⟩ => k none H M (Ext.refl _ _) a.m q⟩
theorem do_some {e : Expr} {te : DTE} (h : DE X W0 e te) : DO X W0 (some e) (dPart te) := ⟨PO.imp (po_some h.pe) fun σ H Q0 ⟨δ, M, Q, W, a, q, k, w⟩ => lfE.use a q (fun v H1 d M1 x m1 r1 q1 => by
    split at q1
    · rw [r1.intI]
      exact ⟨_, rfl, k _ H1 M1 x m1 q1⟩
    · exact q1.elim) w⟩
def rSlD (x : D) (lo hi : Option Int) (M : DHp) (Q : DVK) : Prop := match x with
  | .str z => z.length ≤ sizeLine ∧ Q (.str (cutS z lo hi)) M
  | .tup ds => Q (.tup (cutG ds lo hi)) M
  | .rol ds => Q (.lst (cutG ds lo hi)) M
  | x => ∃ ds, lstOf M x = some ds ∧ Q (.lst (cutG ds lo hi)) M
def dSl (te : DTE) (tl th : DTO) : DTE := fun δ M Q W => te δ M (fun x M1 => tl δ M1 (fun l M2 => th δ M2 (fun u M3 => rSlD x l u M3 Q) W) W) W
theorem de_slice {e : Expr} {lo hi : Option Expr} {p2 : Pos} {te : DTE} {tl th : DTO} (he : DE X W0 e te) (hl : DO X W0 lo tl) (hu : DO X W0 hi th) : DE X W0 (.Subscript e (.Slice lo hi none p2) pos) (dSl te tl th) := by
  refine .mk' (pe_slice (SlR.or sl_str (SlR.or sl_tupA sl_list)) he.pe hl.po hu.po) fun σ H Q0 δ M Q W a q k w => ?_
  refine lfE.use a q (fun v H1 d M1 x1 m1 r1 q1 => ?_) w
  refine ⟨δ, M1, _, W, a.ext x1 m1, q1, fun l H2 M2 x2 m2 q2 => ?_, w.ext x1⟩
  refine ⟨δ, M2, _, W, a.ext (x1.trans x2) m2, q2, fun u H3 M3 x3 m3 q3 => ?_, w.ext (x1.trans x2)⟩
  have r3 := r1.ext (x2.trans x3)
  have k3 := k.ext ((x1.trans x2).trans x3)
  unfold rSlD at q3
  split at q3
  · rw [r3.strI]
    exact .inl ⟨_, rfl, q3.1, k3.here m3 (.str _) q3.2⟩
  · obtain ⟨p, vs, rfl, f, l⟩ := r3.tupI
    refine .inr (.inl ⟨p, vs, rfl, f.seq, fun e => ?_, fun _ p hp => k3.tup m3 hp (l.cut _ _) q3⟩)
    rw [l.length] at e
    rw [cutG_whole e] at q3
    exact k3.here m3 r3 q3
  · obtain ⟨p, vs, rfl, f, l⟩ := r3.rolI
    exact .inr (.inr ⟨p, vs, rfl, f.seq, fun p hp => k3.lst m3 hp (l.cut _ _) q3⟩)
  · obtain ⟨ds, hs, q3⟩ := q3
    obtain ⟨p, vs, rfl, f, l⟩ := lstOf_rep hs m3 r3
    exact .inr (.inr ⟨p, vs, rfl, SqL.of f, fun p hp => k3.lst m3 hp (l.cut _ _) q3⟩)
end

/-! ### argument lists, displays -/
def dNil : DTA := fun _ M Q _ => Q [] M
def dCons (ta : DTE) (tr : DTA) : DTA := fun δ M Q W => ta δ M (fun x M1 => tr δ M1 (fun xs M2 => Q (x :: xs) M2) W) W
def dStar (ta : DTE) (tr : DTA) : DTA := fun δ M Q W => ta δ M (fun x M1 => ∃ ds, seqOf M1 x = some ds ∧ tr δ M1 (fun xs M2 => Q (ds ++ xs) M2) W) W
section
variable {X : Cx} {W0 : WX} {e : Expr} {es : List Expr} {te : DTE} {t : DTA} {pos p : Pos}
theorem da_nil : DA X W0 [] dNil := .mk' pa_nil fun σ H Q0 δ M Q W a q k w => k [] H [] M (Ext.refl _ _) a.m .nil q
theorem da_cons (ha : DE X W0 e te) (hr : DA X W0 es t) (hs : starEach (e :: es) X.env = (false, eval e X.env) :: starEach es X.env := by rfl) : DA X W0 (e :: es) (dCons te t) :=
  .mk' (pa_cons ha.pe hr.pa hs) fun σ H Q0 δ M Q W a q k w => lfE.use a q (fun v H1 d M1 x1 m1 r1 q1 => lfA.use (a.ext x1 m1) q1 (fun vs H2 ds M2 x2 m2 r2 q2 => k _ H2 _ M2 (x1.trans x2) m2 (.cons (r1.ext x2) r2) q2) (w.ext x1)) w
theorem da_star (ha : DE X W0 e te) (hr : DA X W0 es t) (hs : starEach (.Starred e p :: es) X.env = (true, eval e X.env) :: starEach es X.env := by rfl) : DA X W0 (.Starred e p :: es) (dStar te t) :=
  .mk' (StX.pa_star ha.pe hr.pa hs) fun σ H Q0 δ M Q W a q k w => lfE.use a q (fun v H1 d M1 x1 m1 r1 q1 => by
    obtain ⟨ds, hs, q1⟩ := q1
    obtain ⟨b, vs, rfl, hq, l⟩ := seqOf_rep hs m1 r1
    exact ⟨b, vs, rfl, hq.symm, lfA.use (a.ext x1 m1) q1 (fun vs2 H2 ds2 M2 x2 m2 r2 q2 => k _ H2 _ M2 (x1.trans x2) m2 ((l.ext x2).append r2) q2) (w.ext x1)⟩) w
def dTup (t : DTA) : DTE := fun δ M Q W => t δ M (fun ds M1 => ds.length ≤ sizeLine ∧ Q (.tup ds) M1) W
/-- a list that stays as it is -/
def dLst (t : DTA) : DTE := fun δ M Q W => t δ M (fun ds M1 => ds.length ≤ sizeLine ∧ Q (.lst ds) M1) W
/-- a list that may change -/
def dLstM (t : DTA) : DTE := fun δ M Q W => t δ M (fun ds M1 => ds.length ≤ sizeLine ∧ ∀ p, M1 p = none → Q (.ref p) (updD M1 p (.lst ds))) W
theorem de_tup {x1} (h : DA X W0 es t) : DE X W0 (.Tuple es x1 pos) (dTup t) :=
  .mk' (pe_tup h.pa) fun σ H Q0 δ M Q W a q k w => lfA.use a q (fun vs H1 ds M1 x1 m1 r1 q1 => ⟨by rw [r1.length]; exact q1.1, fun p hp => (k.ext x1).tup m1 hp r1 q1.2⟩) w
theorem de_lst (h : DA X W0 es t) : DE X W0 (.List es pos) (dLst t) :=
  .mk' (pe_lst h.pa) fun σ H Q0 δ M Q W a q k w => lfA.use a q (fun vs H1 ds M1 x1 m1 r1 q1 => ⟨by rw [r1.length]; exact q1.1, fun p hp => (k.ext x1).lst m1 hp r1 q1.2⟩) w
theorem de_lstM (h : DA X W0 es t) : DE X W0 (.List es pos) (dLstM t) :=
  .mk' (pe_lst h.pa) fun σ H Q0 δ M Q W a q k w => lfA.use a q (fun vs H1 ds M1 x1 m1 r1 q1 => ⟨by rw [r1.length]; exact q1.1, fun p hp => (k.ext x1).mut m1 hp r1 (q1.2 p (m1.fresh hp))⟩) w
end
end DL
end

section
set_option Elab.async false
set_option linter.all false
set_option maxRecDepth 100000
/-! DL5: targets, statements, loops, comprehensions. -/
namespace DL
open PySem PySem.Spec L2
/-! ### targets: names and tuples of them -/
inductive Pat where
  | nm (i : Nat)
  | tp (ps : List Pat)
mutual
def gOf (K : PySem.W.Frag) : Pat → TG
  | .nm i => gName i
  | .tp ps => gTup K ps.length (gsOf K ps)
def gsOf (K : PySem.W.Frag) : List Pat → TGs
  | [] => gNil
  | p :: ps => gCons (gOf K p) (gsOf K ps)
end
mutual
def putP : Pat → D → DSt → Option DSt
  | .nm i, d, δ => some (δ.set i (some d))
  | .tp ps, d, δ => match d with
    | .tup ds => putPs ps ds δ
    | _ => none
def putPs : List Pat → List D → DSt → Option DSt
  | [], ds, δ => match ds with
    | [] => some δ
    | _ :: _ => none
  | p :: ps, ds, δ => match ds with
    | [] => none
    | d :: ds => match putP p d δ with
      | some δ' => putPs ps ds δ'
      | none => none
end
mutual
def slotsP : Pat → List Nat
  | .nm i => [i]
  | .tp ps => slotsPs ps
def slotsPs : List Pat → List Nat
  | [] => []
  | p :: ps => slotsP p ++ slotsPs ps
end
section
variable {K : PySem.W.Frag} {H : Hp} {M : DHp}
theorem putPs_len : ∀ {ps : List Pat} {ds : List D} {δ δ' : DSt}, putPs ps ds δ = some δ' → ds.length = ps.length
  | [], [], _, _, _ => rfl
  | [], _ :: _, _, _, h => by unfold putPs at h; cases h
  | p :: ps, [], _, _, h => by unfold putPs at h; cases h
  | p :: ps, d :: ds, δ, δ', h => by
    simp only [putPs] at h
    cases e : putP p d δ with
    | none => rw [e] at h; cases h
    | some δ1 =>
      rw [e] at h
      rw [List.length_cons, List.length_cons, putPs_len (δ := δ1) h]
mutual
theorem gOf_ok (m : RepM K H M) : ∀ (p : Pat) {d : D} {δ δ' : DSt} {v : V} {σ : St} {Q : St → Hp → Prop}, putP p d δ = some δ' → RepS K H M σ δ → Rep K H M v d →
    (∀ σ', RepS K H M σ' δ' → σ'.length = σ.length → (∀ j, j ∉ slotsP p → σ'[j]? = σ[j]?) → Q σ' H) → gOf K p v σ H Q
  | .nm i, d, δ, δ', v, σ, Q, h, s, r, k => by
    unfold putP at h
    cases h
    unfold gOf
    refine k _ (s.set i r) (List.length_set ..) fun j hj => ?_
    unfold slotsP at hj
    rw [List.getElem?_set_ne (by intro e; exact hj (by simp [e]))]
  | .tp ps, d, δ, δ', v, σ, Q, h, s, r, k => by
    unfold putP at h
    split at h
    · rename_i ds
      obtain ⟨a, vs, rfl, f, l⟩ := r.tupI
      unfold gOf
      refine ⟨a, vs, rfl, f.seq, by rw [l.length, putPs_len h], gsOf_ok m ps h s l fun σ' s' e1 e2 => k σ' s' e1 fun j hj => e2 j (by unfold slotsP at hj; exact hj)⟩
    · cases h
theorem gsOf_ok (m : RepM K H M) : ∀ (ps : List Pat) {ds : List D} {δ δ' : DSt} {vs : List V} {σ : St} {Q : St → Hp → Prop}, putPs ps ds δ = some δ' → RepS K H M σ δ → RepL K H M vs ds →
    (∀ σ', RepS K H M σ' δ' → σ'.length = σ.length → (∀ j, j ∉ slotsPs ps → σ'[j]? = σ[j]?) → Q σ' H) → gsOf K ps vs σ H Q
  | [], ds, δ, δ', vs, σ, Q, h, s, r, k => by
    unfold putPs at h
    split at h
    · cases h
      cases r
      unfold gsOf
      exact ⟨rfl, k σ s rfl fun _ _ => rfl⟩
    · cases h
  | p :: ps, ds, δ, δ', vs, σ, Q, h, s, r, k => by
    cases ds with
    | nil => simp only [putPs] at h; cases h
    | cons d ds =>
      cases r with
      | cons r t =>
        simp only [putPs] at h
        cases e : putP p d δ with
        | none => rw [e] at h; cases h
        | some δ1 =>
          rw [e] at h
          simp only at h
          unfold gsOf
          refine ⟨_, _, rfl, gOf_ok m p e s r fun σ1 s1 e1 e2 => gsOf_ok m ps h s1 t fun σ2 s2 e3 e4 => k σ2 s2 (e3.trans e1) fun j hj => ?_⟩
          unfold slotsPs at hj
          rw [List.mem_append, not_or] at hj
          rw [e4 j hj.2, e2 j hj.1]
end
end
structure DG (X : Cx) (tg : Expr) (p : Pat) : Prop where
  pg : PG X tg (gOf X.K p)
structure DGs (X : Cx) (tgs : List Expr) (ps : List Pat) : Prop where
  pgs : PGs X tgs (gsOf X.K ps)
section
variable {X : Cx} {W0 : WX} {pos : Pos}
theorem dg_name {i : Nat} {x : Str} (hN : X.N.Nodup) (hi : X.N[i]? = some x) (hx : Loc X.env.scope x) (hf : X.fn x = true ∨ X.env.scope.names.lookup x = some .local := by first | exact .inl rfl | exact .inr rfl | assumption) : DG X (.Name x pos) (.nm i) :=
  ⟨by unfold gOf; exact pg_name hN hi hx hf⟩
theorem dgs_nil : DGs X [] [] := ⟨by unfold gsOf; exact pgs_nil⟩
theorem dgs_cons {e : Expr} {es : List Expr} {p : Pat} {ps : List Pat} (h1 : DG X e p) (h2 : DGs X es ps) (hs : (assignEach (e :: es) X.env).map (·.2) = assign e X.env :: (assignEach es X.env).map (·.2) := by rfl) : DGs X (e :: es) (p :: ps) :=
  ⟨by unfold gsOf; exact pgs_cons h1.pg h2.pgs hs⟩
theorem dg_tup {es : List Expr} {k : Nat} {ps : List Pat} (hc : X.calm = true) (h : DGs X es ps) (hn : (assignEach es X.env).length = ps.length := by rfl) (hst : (assignEach es X.env).findIdx? (·.1) = none := by rfl) : DG X (.Tuple es k pos) (.tp ps) :=
  ⟨by unfold gOf; exact pg_tup hc h.pgs hn hst⟩

/-! ### plain statements -/
def dNext : DTS := fun D δ M _ => D.nx δ M
def dSeq (t u : DTS) : DTS := fun D δ M W => t { D with nx := fun δ' M' => u D δ' M' W } δ M W
variable {st : Stmt} {rest : List Stmt} {t u : DTS} {e : Expr} {te : DTE}
theorem dss_nil : DSs X W0 [] dNext := .mk' pss_nil fun D0 σ H δ M D' W a q k w => k.nx σ H δ M (Ext.refl _ _) a q
theorem dss_cons (h1 : DS X W0 st t) (h2 : DSs X W0 rest u) : DSs X W0 (st :: rest) (dSeq t u) :=
  .mk' (pss_cons h1.ps h2.pss) fun D0 σ H δ M D' W a q k w => lfS.use a q ⟨fun σ' H' δ' M' x a' q' => lfS.use a' q' (k.ext x) (w.ext x), k.rt, k.bk, k.ct⟩ w
theorem dss_one (h1 : DS X W0 st t) : DSs X W0 [st] t := ⟨pss_one h1.ps⟩
def dBreak : DTS := fun D δ M _ => D.bk δ M
def dCont : DTS := fun D δ M _ => D.ct δ M
theorem ds_pass : DS X W0 (.Pass pos) dNext := .mk' ps_pass fun D0 σ H δ M D' W a q k w => k.nx σ H δ M (Ext.refl _ _) a q
theorem ds_break : DS X W0 (.Break pos) dBreak := .mk' ps_break fun D0 σ H δ M D' W a q k w => k.bk σ H δ M (Ext.refl _ _) a q
theorem ds_continue : DS X W0 (.Continue pos) dCont := .mk' ps_continue fun D0 σ H δ M D' W a q k w => k.ct σ H δ M (Ext.refl _ _) a q
def dDrop (te : DTE) : DTS := fun D δ M W => te δ M (fun _ M1 => D.nx δ M1) W
theorem ds_expr (he : DE X W0 e te) (hs : swapsWith e none pos.line X.env = pure false := by rfl) : DS X W0 (.Expr e pos) (dDrop te) :=
  .mk' (ps_expr he.pe hs) fun D0 σ H δ M D' W a q k w => lfE.use a q (fun v H1 d M1 x m1 r1 q1 => k.nx σ H1 δ M1 x (a.ext x m1) q1) w
def dRet (te : DTE) : DTS := fun D δ M W => te δ M D.rt W
theorem ds_ret (he : DE X W0 e te) : DS X W0 (.Return (some e) pos) (dRet te) :=
  .mk' (ps_ret he.pe) fun D0 σ H δ M D' W a q k w => lfE.use a q k.rt w
def dRetN : DTS := fun D _ M _ => D.rt .non M
theorem ds_retN : DS X W0 (.Return none pos) dRetN := .mk' ps_retN fun D0 σ H δ M D' W a q k w => k.rt _ H _ M (Ext.refl _ _) a.m .non q
def dIfS (c : DTT) (t u : DTS) : DTS := fun D δ M W => c δ M (fun b M1 => if b = true then t D δ M1 W else u D δ M1 W) W
theorem ds_if {c : Expr} {a b : List Stmt} {tc : DTT} (hc : DT X W0 c tc) (ha : DSs X W0 a t) (hb : DSs X W0 b u) : DS X W0 (.If c a b pos) (dIfS tc t u) :=
  .mk' (ps_if hc.pt ha.pss hb.pss) fun D0 σ H δ M D' W a q k w => lfT.use a q (fun d H1 M1 x m1 q1 => by
    cases d with
    | true => exact lfS.use (a.ext x m1) q1 (k.ext x) (w.ext x)
    | false => exact lfS.use (a.ext x m1) q1 (k.ext x) (w.ext x)) w
/-- name = value -/
def dSet (i : Nat) (te : DTE) : DTS := fun D δ M W => te δ M (fun d M1 => D.nx (δ.set i (some d)) M1) W
theorem ds_set {i : Nat} {x : Str} {pos' : Pos} (hN : X.N.Nodup) (hi : X.N[i]? = some x) (hx : Loc X.env.scope x) (he : DE X W0 e te) (hs : swapsWith e (some (.Name x pos')) pos.line X.env = pure false := by rfl) (hf : X.fn x = true ∨ X.env.scope.names.lookup x = some .local := by first | exact .inl rfl | exact .inr rfl | assumption) :
    DS X W0 (.Assign [.Name x pos'] e pos) (dSet i te) :=
  .mk' (ps_set hN hi hx he.pe hs hf) fun D0 σ H δ M D' W a q k w => lfE.use a q (fun v H1 d M1 x m1 r1 q1 => k.nx _ H1 _ M1 x ⟨(a.s.ext x).set i r1, m1⟩ q1) w
/-- names = value, a tuple -/
def dUnp (p : Pat) (te : DTE) : DTS := fun D δ M W => te δ M (fun d M1 => match putP p d δ with
  | some δ' => D.nx δ' M1
  | none => False) W
theorem ds_unp {tg : Expr} {p : Pat} (he : DE X W0 e te) (hg : DG X tg p) (hs : swapsWithSole [tg] e pos.line X.env = pure false := by rfl) (hw : swappedStores [tg] e X.env = pure none := by rfl) (h1 : (assignEach [tg] X.env).map (·.2) = [assign tg X.env] := by rfl) :
    DS X W0 (.Assign [tg] e pos) (dUnp p te) :=
  .mk' (ps_asg he.pe hg.pg hs hw h1) fun D0 σ H δ M D' W a q k w => lfE.use a q (fun v H1 d M1 x m1 r1 q1 => by
    split at q1
    · rename_i δ' e'
      exact gOf_ok m1 p e' (a.s.ext x) r1 fun σ' s' _ _ => k.nx σ' H1 δ' M1 x ⟨s', m1⟩ q1
    · exact q1.elim) w
/-- a, b = x, y -/
def dPar (i j : Nat) (ta : DTA) : DTS := fun D δ M W => ta δ M (fun ds M1 => match ds with
  | [d, e] => D.nx ((δ.set i (some d)).set j (some e)) M1
  | _ => False) W
theorem ds_par {i j : Nat} {x y : Str} {a b : Expr} {ta : DTA} {px py pt : Pos} {kt k2 pt2} (hc : X.calm = true) (hN : X.N.Nodup) (hi : X.N[i]? = some x) (hj : X.N[j]? = some y) (hij : i ≠ j)
    (hx : X.env.scope.names.lookup x = some .local) (hy : X.env.scope.names.lookup y = some .local) (ha : DA X W0 [a, b] ta)
    (hw : swappedStores [.Tuple [.Name x px, .Name y py] kt pt] (.Tuple [a, b] k2 pt2) X.env = pure (some [x, y]))
    (hs : swapsWithSole [.Tuple [.Name x px, .Name y py] kt pt] (.Tuple [a, b] k2 pt2) pos.line X.env = pure false := by rfl) :
    DS X W0 (.Assign [.Tuple [.Name x px, .Name y py] kt pt] (.Tuple [a, b] k2 pt2) pos) (dPar i j ta) :=
  .mk' (ps_par hc hN hi hj hij hx hy ha.pa hw hs) fun D0 σ H δ M D' W a q k w => lfA.use a q (fun vs H1 ds M1 x m1 r1 q1 => by
    split at q1
    · cases r1 with
      | cons ra t =>
        cases t with
        | cons rb t =>
          cases t
          exact ⟨_, _, rfl, k.nx _ H1 _ M1 x ⟨((a.s.ext x).set _ ra).set _ rb, m1⟩ q1⟩
    · exact q1.elim) w
/-- a, b, c = x, y, z -/
def dPar3 (i j l : Nat) (ta : DTA) : DTS := fun D δ M W => ta δ M (fun ds M1 => match ds with
  | [d, e, f] => D.nx (((δ.set i (some d)).set j (some e)).set l (some f)) M1
  | _ => False) W
theorem ds_par3 {i j l : Nat} {x y z : Str} {a b c : Expr} {ta : DTA} {px py pz pt : Pos} {kt k2 pt2} (hc : X.calm = true) (hN : X.N.Nodup) (hi : X.N[i]? = some x) (hj : X.N[j]? = some y) (hl : X.N[l]? = some z) (hij : i ≠ j) (hil : i ≠ l) (hjl : j ≠ l)
    (hx : X.env.scope.names.lookup x = some .local) (hy : X.env.scope.names.lookup y = some .local) (hz : X.env.scope.names.lookup z = some .local) (ha : DA X W0 [a, b, c] ta)
    (hw : swappedStores [.Tuple [.Name x px, .Name y py, .Name z pz] kt pt] (.Tuple [a, b, c] k2 pt2) X.env = pure (some [x, y, z]))
    (hs : swapsWithSole [.Tuple [.Name x px, .Name y py, .Name z pz] kt pt] (.Tuple [a, b, c] k2 pt2) pos.line X.env = pure false := by rfl) :
    DS X W0 (.Assign [.Tuple [.Name x px, .Name y py, .Name z pz] kt pt] (.Tuple [a, b, c] k2 pt2) pos) (dPar3 i j l ta) :=
  .mk' (ps_par3 hc hN hi hj hl hij hil hjl hx hy hz ha.pa hw hs) fun D0 σ H δ M D' W a q k w => lfA.use a q (fun vs H1 ds M1 x m1 r1 q1 => by
    split at q1
    · cases r1 with
      | cons ra t =>
        cases t with
        | cons rb t =>
          cases t with
          | cons rc t =>
            cases t
            exact ⟨_, _, _, rfl, k.nx _ H1 _ M1 x ⟨(((a.s.ext x).set _ ra).set _ rb).set _ rc, m1⟩ q1⟩
    · exact q1.elim) w
/-- name op= e -/
def dAug (i : Nat) (te : DTE) (r : DR2) : DTS := fun D δ M W => match δ[i]? with
  | some (some x) => te δ M (fun y M1 => r x y M1 fun z M2 => D.nx (δ.set i (some z)) M2) W
  | _ => False
theorem pip_of {op : Operator} {r : R2} (ho : OpR X (inplaceOp op) r) : PIp X op r := fun pins s σ H x y v u Q I r1 r2 h => ho pins s σ H x y v u Q I r1 r2 h
theorem ds_aug {i : Nat} {x : Str} {op : Operator} {r : DR2} {pos' : Pos} (hN : X.N.Nodup) (hi : X.N[i]? = some x) (hx : Loc X.env.scope x) (he : DE X W0 e te) (ho : DOpR X (inplaceOp op) r) (hf : X.fn x = true ∨ X.env.scope.names.lookup x = some .local := by first | exact .inl rfl | exact .inr rfl | assumption) :
    DS X W0 (.AugAssign (.Name x pos') op e pos) (dAug i te r) := by
  obtain ⟨r0, ho, l⟩ := ho
  refine .mk' (ps_aug hN hi hx he.pe (pip_of ho) hf) fun D0 σ H δ M D' W a q k w => ?_
  unfold dAug at q
  split at q
  · rename_i d ed
    obtain ⟨v, ev, rv⟩ := a.s.at_ i d ed
    exact ⟨v, ev, lfE.use a q (fun v1 H1 d1 M1 x1 m1 r1 q1 => l H1 M1 v v1 d d1 _ _ m1 (rv.ext x1) r1 q1 (fun v2 H2 d2 M2 x2 m2 r2 q2 => k.nx _ H2 _ M2 (x1.trans x2) ⟨(a.s.ext (x1.trans x2)).set i r2, m2⟩ q2)) w⟩
  · exact q.elim
/-- xs[i] = e, xs a list that changes -/
def dStI (to ti te : DTE) : DTS := fun D δ M W => te δ M (fun y M1 => to δ M1 (fun x M2 => ti δ M2 (fun i M3 => match x, i with
  | .ref p, .int k => ∃ ds j, M3 p = some (.lst ds) ∧ ixN ds.length k = some j ∧ D.nx δ (updD M3 p (.lst (ds.set j y)))
  | _, _ => False) W) W) W
theorem ds_stI {o i : Expr} {to ti : DTE} {tpos : Pos} (ho : DE X W0 o to) (hi : DE X W0 i ti) (he : DE X W0 e te)
    (hs : swapsWithSole [.Subscript o i tpos] e pos.line X.env = pure false := by rfl) (hw : swappedStores [.Subscript o i tpos] e X.env = pure none := by rfl) (h1 : (assignEach [.Subscript o i tpos] X.env).map (·.2) = [assign (.Subscript o i tpos) X.env] := by rfl)
    (ha : ∀ v, assign (.Subscript o i tpos) X.env v = (do
      let ov ← holding [v] (eval o X.env)
      let iv ← holding [v, ov] (eval i X.env)
      standAt tpos
      holding [v, ov, iv] (setItem ov iv v)
      release [v, ov, iv] []) := by intro _; rfl) : DS X W0 (.Assign [.Subscript o i tpos] e pos) (dStI to ti te) := by
  refine .mk' (ps_asg he.pe (pg_sub ho.pe hi.pe set_list ha) hs hw h1) fun D0 σ H δ M D' W a q k w => ?_
  refine lfE.use a q (fun v H1 d M1 x1 m1 r1 q1 => ?_) w
  refine lfE.use (a.ext x1 m1) q1 (fun v2 H2 d2 M2 x2 m2 r2 q2 => ?_) (w.ext x1)
  refine lfE.use (a.ext (x1.trans x2) m2) q2 (fun v3 H3 d3 M3 x3 m3 r3 q3 => ?_) (w.ext (x1.trans x2))
  split at q3
  · obtain ⟨ds, j, hp, hj, q3⟩ := q3
    rw [(r2.ext x3).refI, r3.intI]
    obtain ⟨vs, hv, l⟩ := m3.lst hp
    refine ⟨_, vs, _, j, rfl, rfl, hv, by rw [l.length]; exact hj, ?_⟩
    have y := Ext.write (H := H3) (o := .lst (vs.set j v)) hp (mo' := .lst (ds.set j d))
    exact k.nx _ _ _ _ (((x1.trans x2).trans x3).trans y) ⟨a.s.ext (((x1.trans x2).trans x3).trans y), m3.write hp (q := ⟨_, upd_same, (l.set j (r1.ext (x2.trans x3))).ext y⟩)⟩ q3
  · exact q3.elim
/-- xs[i] op= e, xs a list that changes -/
def dAugI (to ti te : DTE) (r : DR2) : DTS := fun D δ M W => to δ M (fun x M1 => ti δ M1 (fun i M2 => match x, i with
  | .ref p, .int k => ∃ ds j d, M2 p = some (.lst ds) ∧ ixN ds.length k = some j ∧ ds[j]? = some d ∧ te δ M2 (fun y M3 => r d y M3 fun z M4 => ∃ ds', M4 p = some (.lst ds') ∧ ds'.length = ds.length ∧ D.nx δ (updD M4 p (.lst (ds'.set j z)))) W
  | _, _ => False) W) W
theorem pget_list : PGet X (rIxL X.K) := by
  intro pins s σ H o i ov iv Q I ro ri h
  obtain ⟨p, xs, k, v, rfl, rfl, hq, he, q⟩ := h
  cases ro
  obtain ⟨t, rfl⟩ := ri
  obtain ⟨its, r, pl, hz⟩ := I.list hq
  obtain ⟨j, h1, h2, h3, h4, h5⟩ := atI_get he
  obtain ⟨w', ew, rw'⟩ := r.get h2
  have hl := r.length
  have hb : (sizeLine : Nat) < 2 ^ 63 := line63
  have fin : EP X pins σ Q w' s := ⟨v, H, I, rw', q⟩
  by_cases h0 : 0 ≤ k
  · have hj : k.toNat = j := by
      rw [seqIndex_of h0 h5] at h1
      exact Option.some.inj h1
    exact wpAny_getItem_list pl.isList h0 (by omega) (by rw [hj]; simpa using ew) fin
  · have hj : (k + (its.toArray.size : Int)).toNat = j := by
      rw [seqIndex_neg (by omega) h4] at h1
      rw [List.size_toArray, ← hl]
      exact Option.some.inj h1
    exact wpAny_getItem_list_neg pl.isList (by omega) (by rw [List.size_toArray] <;> omega) (by omega) (by rw [hj]; simpa using ew) fin
theorem ds_augI {o i : Expr} {to ti : DTE} {op : Operator} {r : DR2} {tpos : Pos} (ho : DE X W0 o to) (hi : DE X W0 i ti) (he : DE X W0 e te) (hp : DOpR X (inplaceOp op) r)
    (ha : ∀ ov iv new, augStore i ov iv new = (do holding [new, ov, iv] (setItem ov iv new); release [new, ov, iv] []; pure .next) := by intros; rfl) : DS X W0 (.AugAssign (.Subscript o i tpos) op e pos) (dAugI to ti te r) := by
  obtain ⟨r0, hp, l⟩ := hp
  refine .mk' (ps_augS ho.pe hi.pe pget_list he.pe (pip_of hp) set_list ha) fun D0 σ H δ M D' W a q k w => ?_
  refine lfE.use a q (fun v1 H1 d1 M1 x1 m1 r1 q1 => ?_) w
  refine lfE.use (a.ext x1 m1) q1 (fun v2 H2 d2 M2 x2 m2 r2 q2 => ?_) (w.ext x1)
  split at q2
  · rename_i p kk
    obtain ⟨ds, j, d, hp, hj, hd, q2⟩ := q2
    have e1 := (r1.ext x2).refI
    have e2 := r2.intI
    subst e1 e2
    obtain ⟨vs, hv, lv⟩ := m2.lst hp
    obtain ⟨z, hz, rz⟩ := lv.get hd
    refine ⟨p, vs, kk, z, rfl, rfl, SqL.of hv, by unfold L2.atI; rw [lv.length, hj]; exact hz, ?_⟩
    refine lfE.use (a.ext (x1.trans x2) m2) q2 (fun v3 H3 d3 M3 x3 m3 r3 q3 => ?_) (w.ext (x1.trans x2))
    refine l H3 M3 z v3 d d3 _ _ m3 (rz.ext x3) r3 q3 (fun v4 H4 d4 M4 x4 m4 r4 q4 => ?_)
    obtain ⟨ds', hp', hl', q4⟩ := q4
    obtain ⟨ws, hw, lw⟩ := m4.lst hp'
    refine ⟨p, ws, kk, j, rfl, rfl, hw, by rw [lw.length, hl']; exact hj, ?_⟩
    have y := Ext.write (H := H4) (o := .lst (ws.set j v4)) hp' (mo' := .lst (ds'.set j d4))
    have xx := ((x1.trans x2).trans (x3.trans x4)).trans y
    exact k.nx _ _ _ _ xx ⟨a.s.ext xx, m4.write hp' (q := ⟨_, upd_same, (lw.set j r4).ext y⟩)⟩ q4
  · exact q2.elim

/-! ### while -/
/-- the invariant by its measure -/
def dWhile (c : DTT) (tb : DTS) : DTS := fun D δ M W => ∃ Iv : Nat → DSt → DHp → Prop, (∃ m, Iv m δ M) ∧ ∀ m δ M, Iv m δ M →
  c δ M (fun b M1 => if b = true then tb { D with nx := fun δ' M' => ∃ m', m' < m ∧ Iv m' δ' M', ct := fun δ' M' => ∃ m', m' < m ∧ Iv m' δ' M', bk := D.nx } δ M1 W else D.nx δ M1) W
theorem ds_while {c : Expr} {body : List Stmt} {tc : DTT} {tb : DTS} (hp : PassesOwn (model X.prog X.w) X.A X.env X.xe) (hc : DT X W0 c tc) (hb : DSs X W0 body tb) : DS X W0 (.While c body [] pos) (dWhile tc tb) := by
  refine .mk' (ps_while hp hc.pt hb.pss) fun D0 σ H δ M D' W a q k w => ?_
  obtain ⟨Iv, ⟨m0, i0⟩, turn⟩ := q
  refine ⟨fun m σ' H' => ∃ δ' M', Ext M H M' H' ∧ At X.K σ' H' δ' M' ∧ Iv m δ' M', ⟨m0, δ, M, Ext.refl _ _, a, i0⟩, ?_⟩
  rintro m σ1 H1 ⟨δ1, M1, x1, a1, i1⟩
  refine lfT.use a1 (turn m δ1 M1 i1) (fun b H2 M2 x2 m2 q2 => ?_) (w.ext x1)
  cases b with
  | false => exact k.nx σ1 H2 δ1 M2 (x1.trans x2) (a1.ext x2 m2) q2
  | true =>
    refine ⟨fun σ' H' => ∃ m', m' < m ∧ ∃ δ' M', Ext M H M' H' ∧ At X.K σ' H' δ' M' ∧ Iv m' δ' M', fun σ' H' ⟨m', h1, h2⟩ => ⟨m', h1, h2⟩, ?_⟩
    refine lfS.use (a1.ext x2 m2) q2 ⟨?_, k.rt.ext (x1.trans x2), k.nx.ext (x1.trans x2), ?_⟩ (w.ext (x1.trans x2))
    · exact fun σ3 H3 δ3 M3 x3 a3 ⟨m', h1, h2⟩ => ⟨m', h1, δ3, M3, (x1.trans x2).trans x3, a3, h2⟩
    · exact fun σ3 H3 δ3 M3 x3 a3 ⟨m', h1, h2⟩ => ⟨m', h1, δ3, M3, (x1.trans x2).trans x3, a3, h2⟩

/-! ### what is walked -/
/-- an iterator yields these data, as long as chk holds -/
def Wlk (K : PySem.W.Frag) (J : It) (H1 : Hp) (M1 : DHp) (ds : List D) (chk : DHp → Prop) : Prop := ∀ H M, Ext M1 H1 M H → RepM K H M → chk M →
  (∀ i d, ds[i]? = some d → J.go i H ∧ ∀ x H', J.yld i H x H' → Ext M H M H' ∧ RepM K H' M ∧ Rep K H' M x d) ∧ J.stop ds.length H
abbrev DTI := DSt → DHp → (List D → (DHp → Prop) → DHp → Prop) → DW → Prop
def lfI (K : PySem.W.Frag) (W0 : WX) (t : DTI) : TI := fun σ H R0 => ∃ δ M R W, At K σ H δ M ∧ t δ M R W ∧ (∀ J H' ds chk M', Ext M H M' H' → RepM K H' M' → Wlk K J H' M' ds chk → R ds chk M' → R0 J H') ∧ OkW K M H W W0
structure DI (X : Cx) (W0 : WX) (tg iter : Expr) (t : DTI) : Prop where
  pi : PI X tg iter (lfI X.K W0 t)
theorem PI.imp {X : Cx} {tg iter : Expr} {t t' : TI} (h : PI X tg iter t) (f : ∀ σ H R, t' σ H R → t σ H R) : PI X tg iter t' := ⟨fun pins s σ H R I q => h.run pins s σ H R I (f σ H R q)⟩
theorem DI.mk' {tg iter : Expr} {t : DTI} {t0 : TI} (h : PI X tg iter t0) (f : ∀ σ H R0 δ M R W, At X.K σ H δ M → t δ M R W → (∀ J H' ds chk M', Ext M H M' H' → RepM X.K H' M' → Wlk X.K J H' M' ds chk → R ds chk M' → R0 J H') → OkW X.K M H W W0 → t0 σ H R0) : DI X W0 tg iter t :=
  ⟨PI.imp h fun σ H R0 ⟨δ, M, R, W, a, q, k, w⟩ => f σ H R0 δ M R W a q k w⟩

/-! ### for -/
def dForL (p : Pat) (tb : DTS) (Z : DEnds) (W : DW) (chk : DHp → Prop) : List D → DSt → DHp → Prop
  | [], δ, M => chk M ∧ Z.nx δ M
  | d :: r, δ, M => chk M ∧ ∃ δ', putP p d δ = some δ' ∧ tb { nx := fun δ2 M2 => dForL p tb Z W chk r δ2 M2, ct := fun δ2 M2 => dForL p tb Z W chk r δ2 M2, bk := Z.nx, rt := Z.rt } δ' M W
def dFor (ti : DTI) (p : Pat) (tb : DTS) : DTS := fun D δ M W => ti δ M (fun ds chk M1 => dForL p tb D W chk ds δ M1) W
theorem drop_at {α : Type} {l r : List α} {d : α} {i : Nat} (h : l.drop i = d :: r) : l[i]? = some d ∧ l.drop (i + 1) = r ∧ i < l.length := by
  have hi : i < l.length := by
    by_cases hi : i < l.length
    · exact hi
    · rw [List.drop_of_length_le (by omega)] at h; cases h
  rw [List.drop_eq_getElem_cons hi] at h
  have h1 := (List.cons.inj h).1
  have h2 := (List.cons.inj h).2
  exact ⟨by rw [List.getElem?_eq_getElem hi, h1], h2, hi⟩
theorem ds_for {tg iter : Expr} {body : List Stmt} {ti : DTI} {p : Pat} {tb : DTS} (hp : PassesOwn (model X.prog X.w) X.A X.env X.xe) (hc : X.calm = true) (hi : DI X W0 tg iter ti) (hg : DG X tg p) (hb : DSs X W0 body tb)
    (hs : ∀ x, foldedSetIterable iter X.env x = pure x := by intro _; rfl) : DS X W0 (.For tg iter body [] pos) (dFor ti p tb) := by
  refine .mk' (ps_for hp hc hi.pi hg.pg hb.pss hs) fun D0 σ H δ M D' W a q k w => ?_
  refine ⟨δ, M, _, W, a, q, fun J H1 ds chk M1 x1 m1 wk q1 => ?_, w⟩
  refine ⟨fun i n σ' H' => ∃ δ' M', n + i = ds.length ∧ Ext M1 H1 M' H' ∧ At X.K σ' H' δ' M' ∧ dForL p tb D' W chk (ds.drop i) δ' M', ⟨ds.length, δ, M1, rfl, Ext.refl _ _, a.ext x1 m1, q1⟩, ?_⟩
  rintro i n σ2 H2 ⟨δ2, M2, hn, x2, a2, q2⟩
  cases e : ds.drop i with
  | nil =>
    have hi : i = ds.length := by
      have := List.drop_eq_nil_iff.mp e
      omega
    rw [e] at q2
    obtain ⟨c2, q2⟩ := q2
    subst hi
    exact .inl ⟨(wk H2 M2 x2 a2.m c2).2, k.nx σ2 H2 δ2 M2 (x1.trans x2) a2 q2⟩
  | cons d r =>
    obtain ⟨ed, er, hlt⟩ := drop_at e
    rw [e] at q2
    obtain ⟨c2, δ', ep, q2⟩ := q2
    obtain ⟨go, yl⟩ := (wk H2 M2 x2 a2.m c2).1 i d ed
    refine .inr ⟨go, fun σ' H' => ∃ δ' M', Ext M1 H1 M' H' ∧ At X.K σ' H' δ' M' ∧ dForL p tb D' W chk r δ' M', fun σ' H' ⟨δ', M', h1, h2, h3⟩ => ⟨n - 1, by omega, δ', M', by omega, h1, h2, by rw [er]; exact h3⟩, fun v H3 hy => ?_⟩
    obtain ⟨x3, m3, r3⟩ := yl v H3 hy
    refine gOf_ok m3 p ep (a2.s.ext x3) r3 fun σ' s' _ _ => ?_
    have xx := x2.trans x3
    exact lfS.use ⟨s', m3⟩ q2 ⟨fun σ4 H4 δ4 M4 x4 a4 q4 => ⟨δ4, M4, xx.trans x4, a4, q4⟩, k.rt.ext (x1.trans xx), k.nx.ext (x1.trans xx), fun σ4 H4 δ4 M4 x4 a4 q4 => ⟨δ4, M4, xx.trans x4, a4, q4⟩⟩ (w.ext (x1.trans xx))

/-! ### [elt for target in iter if test] -/
def wipeD (δ : DSt) : List Nat → DSt
  | [] => δ
  | v :: vs => (wipeD δ vs).set v none
theorem wipeD_length (δ : DSt) : ∀ vs : List Nat, (wipeD δ vs).length = δ.length
  | [] => rfl
  | v :: vs => by unfold wipeD; rw [List.length_set, wipeD_length δ vs]
theorem RepS.wipe {K : PySem.W.Frag} {H : Hp} {M : DHp} {σ : St} {δ : DSt} (r : RepS K H M σ δ) : ∀ vs : List Nat, RepS K H M (L2.wipe σ vs) (wipeD δ vs)
  | [] => r
  | v :: vs => by
    have ih := r.wipe vs
    refine ⟨by rw [wipe_length, wipeD_length]; exact r.len, fun i d e => ?_⟩
    unfold wipeD at e
    by_cases hv : v = i
    · subst hv
      by_cases hlt : v < (wipeD δ vs).length
      · rw [List.getElem?_set_self hlt] at e; cases e
      · rw [List.getElem?_eq_none (by simpa using hlt)] at e; cases e
    · rw [List.getElem?_set_ne hv] at e
      obtain ⟨u, h1, h2⟩ := ih.at_ i d e
      refine ⟨u, ?_, h2⟩
      unfold L2.wipe
      rw [List.getElem?_set_ne hv]
      exact h1
theorem wipe_agree {σ σ' : St} : ∀ {vs : List Nat}, σ'.length = σ.length → (∀ j, j ∉ vs → σ'[j]? = σ[j]?) → wipe σ' vs = wipe σ vs := by
  intro vs hl h
  apply List.ext_getElem?
  intro j
  by_cases hj : j ∈ vs
  · have aux : ∀ (τ : St) (ws : List Nat), j ∈ ws → (wipe τ ws)[j]? = if j < τ.length then some none else none := by
      intro τ ws
      induction ws with
      | nil => intro h; cases h
      | cons v ws ih =>
        intro h
        unfold wipe
        by_cases hv : v = j
        · subst hv
          by_cases hlt : v < τ.length
          · rw [List.getElem?_set_self (by rw [wipe_length]; exact hlt), if_pos hlt]
          · rw [List.getElem?_eq_none (by rw [List.length_set, wipe_length]; omega), if_neg hlt]
        · rw [List.getElem?_set_ne hv]
          exact ih ((List.mem_cons.mp h).resolve_left (Ne.symm hv))
    rw [aux σ' vs hj, aux σ vs hj, hl]
  · rw [wipe_out hj, wipe_out hj]
    exact h j hj
section
variable {K : PySem.W.Frag} {M M' : DHp} {H : Hp} {A : Addr} {o : HO}
theorem FzT.grow (h : M A ≠ none) {a : Addr} {xs : List V} (f : FzT K H M a xs) : FzT K (upd H A o) M a xs := by
  rcases f with ⟨f, n⟩ | f
  · have ne : a ≠ A := fun z => by rw [z] at n; exact h n
    refine .inl ⟨?_, n⟩
    rcases f with f | ⟨u, f⟩
    · exact .inl (by rw [upd_ne ne]; exact f)
    · exact .inr ⟨u, by rw [upd_ne ne]; exact f⟩
  · exact .inr f
theorem FzL.grow (h : M A ≠ none) {a : Addr} {xs : List V} (f : FzL K H M a xs) : FzL K (upd H A o) M a xs := by
  rcases f with ⟨f, n⟩ | f
  · have ne : a ≠ A := fun z => by rw [z] at n; exact h n
    refine .inl ⟨?_, n⟩
    rcases f with f | ⟨u, f⟩
    · exact .inl (by rw [upd_ne ne]; exact f)
    · exact .inr ⟨u, by rw [upd_ne ne]; exact f⟩
  · exact .inr f
mutual
theorem Rep.grow0 (h : M A ≠ none) : ∀ {v : V} {d : D}, Rep K H M v d → Rep K (upd H A o) M v d
  | _, _, .non => .non
  | _, _, .bl b => .bl b
  | _, _, .int i => .int i
  | _, _, .str y => .str y
  | _, _, .ref a => .ref a
  | _, _, .tup f r => .tup (f.grow h) (RepL.grow0 h r)
  | _, _, .lst (a := a) f n r => .lst (by rw [upd_ne (fun z => by rw [z] at n; exact h n)]; exact f) n (RepL.grow0 h r)
  | _, _, .rol f r => .rol (f.grow h) (RepL.grow0 h r)
  | _, _, .xtp f e n r => .xtp (by rw [upd_ne (fun z => by rw [z] at n; exact h n)]; exact f) e n (RepL.grow0 h r)
  | _, _, .lam f n r => .lam (by rw [upd_ne (fun z => by rw [z] at n; exact h n)]; exact f) n (RepL.grow0 h r)
  | _, _, .exc0 a => .exc0 a
  | _, _, .exc1 (d := d) f n r => .exc1 (by rw [upd_ne (fun z => by rw [z] at n; exact h n)]; exact f) n (RepL.grow0 h r)
theorem RepL.grow0 (h : M A ≠ none) : ∀ {vs : List V} {ds : List D}, RepL K H M vs ds → RepL K (upd H A o) M vs ds
  | _, _, .nil => .nil
  | _, _, .cons r t => .cons (Rep.grow0 h r) (RepL.grow0 h t)
end
theorem RepF.grow0 (h : M A ≠ none) : ∀ {fs : List (Str × V)} {gs : List (Str × D)}, RepF K H M fs gs → RepF K (upd H A o) M fs gs
  | _, _, .nil => .nil
  | _, _, .cons r t => .cons ⟨r.1, r.2.grow0 h⟩ (RepF.grow0 h t)
theorem Rep.grow {mo : MO} (h : M A = some mo) {v : V} {d : D} (r : Rep K H M v d) : Rep K (upd H A o) M v d := r.grow0 (by rw [h]; exact fun z => nomatch z)
theorem RepL.grow {mo : MO} (h : M A = some mo) {v : List V} {d : List D} (r : RepL K H M v d) : RepL K (upd H A o) M v d := r.grow0 (by rw [h]; exact fun z => nomatch z)
theorem RepO.grow {mo mo' : MO} (h : M A = some mo) {b : Addr} (r : RepO K H M b mo') (e : (upd H A o) b = H b) : RepO K (upd H A o) M b mo' := by
  cases mo' with
  | lst ds => obtain ⟨xs, h', l⟩ := r; exact ⟨xs, e.trans h', l.grow h⟩
  | ins C gs => obtain ⟨dx, fs, h', l⟩ := r; exact ⟨dx, fs, e.trans h', l.grow0 (by rw [h]; exact fun z => nomatch z)⟩
  | tbl q' =>
    obtain ⟨ps, h', t, l⟩ := r
    refine ⟨ps, e.trans h', t, fun pos cv hc => ?_⟩
    obtain ⟨c, e1, e2, e3⟩ := l pos cv hc
    exact ⟨c, e1, by rw [upd_ne (fun z => by rw [z, h] at e3; cases e3)]; exact e2, e3⟩
  | busy => obtain ⟨o', h'⟩ := r; exact ⟨o', e.trans h'⟩
mutual
theorem Rep.less (z : ∀ b, M b = none → M' b = none) : ∀ {v : V} {d : D}, Rep K H M v d → Rep K H M' v d
  | _, _, .non => .non
  | _, _, .bl b => .bl b
  | _, _, .int i => .int i
  | _, _, .str y => .str y
  | _, _, .ref a => .ref a
  | _, _, .tup f r => .tup (f.imp (fun ⟨f, n⟩ => ⟨f, z _ n⟩) id) (RepL.less z r)
  | _, _, .lst f n r => .lst f (z _ n) (RepL.less z r)
  | _, _, .rol f r => .rol (f.imp (fun ⟨f, n⟩ => ⟨f, z _ n⟩) id) (RepL.less z r)
  | _, _, .xtp f e n r => .xtp f e (z _ n) (RepL.less z r)
  | _, _, .lam f n r => .lam f (z _ n) (RepL.less z r)
  | _, _, .exc0 a => .exc0 a
  | _, _, .exc1 f n r => .exc1 f (z _ n) (RepL.less z r)
theorem RepL.less (z : ∀ b, M b = none → M' b = none) : ∀ {vs : List V} {ds : List D}, RepL K H M vs ds → RepL K H M' vs ds
  | _, _, .nil => .nil
  | _, _, .cons r t => .cons (Rep.less z r) (RepL.less z t)
end
theorem RepF.less (z : ∀ b, M b = none → M' b = none) : ∀ {fs : List (Str × V)} {gs : List (Str × D)}, RepF K H M fs gs → RepF K H M' fs gs
  | _, _, .nil => .nil
  | _, _, .cons r t => .cons ⟨r.1, r.2.less z⟩ (RepF.less z t)
theorem RepO.less {mo : MO} (z : ∀ b, M b = none → M' b = none) {b : Addr} (r : RepO K H M b mo) : RepO K H M' b mo := by
  cases mo with
  | lst ds => obtain ⟨xs, h', l⟩ := r; exact ⟨xs, h', l.less z⟩
  | ins C gs => obtain ⟨dx, fs, h', l⟩ := r; exact ⟨dx, fs, h', l.less z⟩
  | tbl q' =>
    obtain ⟨ps, h', t, l⟩ := r
    refine ⟨ps, h', t, fun pos cv hc => ?_⟩
    obtain ⟨c, e1, e2, e3⟩ := l pos cv hc
    exact ⟨c, e1, e2, z _ e3⟩
  | busy => exact r
end
abbrev WN : DW := fun _ _ _ _ => False
def dLcT (p : Pat) (tt : DTT) (te : DTE) (δ0 : DSt) (k : Option D → DHp → Prop) (d : D) (M : DHp) : Prop := ∃ δ', putP p d δ0 = some δ' ∧ tt δ' M (fun b M1 => if b = true then te δ' M1 (fun y M2 => k (some y) M2) WN else k none M1) WN
def addO (acc : List D) : Option D → List D
  | some y => acc ++ [y]
  | none => acc
def dLcL (p : Pat) (tt : DTT) (te : DTE) (δ0 : DSt) (Q : List D → DHp → Prop) (chk : DHp → Prop) : List D → List D → DHp → Prop
  | [], acc, M => chk M ∧ Q acc M
  | d :: r, acc, M => chk M ∧ acc.length < sizeLine ∧ dLcT p tt te δ0 (fun o M' => dLcL p tt te δ0 Q chk r (addO acc o) M') d M
def dLc (ti : DTI) (p : Pat) (tt : DTT) (te : DTE) (vs : List Nat) : DTE := fun δ M Q W => ti δ M (fun ds chk M1 => ∀ A, M1 A = none → dLcL p tt te (wipeD δ vs) (fun acc M2 => Q (.lst acc) (delD M2 A)) chk ds [] (updD M1 A .busy)) W
/-- .. whose list may change later -/
def dLcM (ti : DTI) (p : Pat) (tt : DTT) (te : DTE) (vs : List Nat) : DTE := fun δ M Q W => ti δ M (fun ds chk M1 => ∀ A, M1 A = none → dLcL p tt te (wipeD δ vs) (fun acc M2 => Q (.ref A) (updD M2 A (.lst acc))) chk ds [] (updD M1 A .busy)) W
def dYes : DTT := fun _ M Q _ => Q true M
structure DTs (X : Cx) (W0 : WX) (ifs : List Expr) (t : DTT) : Prop where
  pts : PTs X ifs (lfT X.K W0 t)
theorem PTs.imp {X : Cx} {e : List Expr} {t t' : TT} (h : PTs X e t) (f : ∀ σ H Q, t' σ H Q → t σ H Q) : PTs X e t' := ⟨fun pins s σ H Q I q => h.run pins s σ H Q I (f σ H Q q)⟩
theorem dts_nil : DTs X W0 [] dYes := ⟨PTs.imp pts_nil fun σ H Q0 ⟨δ, M, Q, W, a, q, k, w⟩ => k true H M (Ext.refl _ _) a.m q⟩
theorem dts_one {c : Expr} {t : DTT} (h : DT X W0 c t) : DTs X W0 [c] t := ⟨pts_one h.pt⟩
theorem lc_run {K : PySem.W.Frag} {ti : DTI} {p : Pat} {tt : DTT} {te : DTE} {vs : List Nat} {W0 : WX} (hsl : ∀ j, j ∈ slotsP p → j ∈ vs) {σ : St} {H : Hp} {Q0 : VK} {δ : DSt} {M : DHp} {W : DW} {Qe : Addr → List D → DHp → Prop} (a : At K σ H δ M)
    (q : ti δ M (fun ds chk M1 => ∀ A, M1 A = none → dLcL p tt te (wipeD δ vs) (Qe A) chk ds [] (updD M1 A .busy)) W)
    (k : ∀ A H' M' acc ws, Ext M H M' H' → (∀ b, M b = some .busy → b ≠ A) → RepM K H' M' → H' A = some (.lst ws) → M' A = some .busy → RepL K H' M' ws acc → Qe A acc M' → Q0 (.ref A) H') (w : OkW K M H W W0) :
    tLc (lfI K W0 ti) (gOf K p) (lfT K WF tt) (lfE K WF te) vs σ H Q0 := by
  refine ⟨δ, M, _, W, a, q, fun J H1 ds chk M1 x1 m1 wk q1 => ?_, w⟩
  intro A hA
  have nA := m1.fresh hA
  have yA : Ext M1 H1 (updD M1 A .busy) (upd H1 A (.lst [])) := Ext.laidM m1 hA
  have mA : RepM K (upd H1 A (.lst [])) (updD M1 A .busy) := m1.laidM hA ⟨_, upd_same⟩
  have wf : ∀ M H, OkW K M H WN WF := fun M H c pd σ' H' gs δ' M' _ _ _ _ z => z
  refine ⟨fun i n H' => ∃ M' acc vs', n + i = ds.length ∧ Ext M1 H1 M' H' ∧ RepM K H' M' ∧ H' A = some (.lst vs') ∧ M' A = some .busy ∧ RepL K H' M' vs' acc ∧ dLcL p tt te (wipeD δ vs) (Qe A) chk (ds.drop i) acc M', ⟨ds.length, updD M1 A .busy, [], [], rfl, yA, mA, upd_same, updD_same, .nil, q1 A nA⟩, ?_⟩
  rintro i n H2 ⟨M2, acc, vs', hn, x2, m2, eA, nA2, l2, q2⟩
  have xx := x1.trans x2
  cases e : ds.drop i with
  | nil =>
    have hi : i = ds.length := by
      have := List.drop_eq_nil_iff.mp e
      omega
    rw [e] at q2
    obtain ⟨c2, q2⟩ := q2
    subst hi
    refine .inl ⟨(wk H2 M2 x2 m2 c2).2, k A H2 M2 acc vs' xx (fun b hb => ?_) m2 eA nA2 l2 q2⟩
    exact fun z => by
      have := (x1.busy b hb).2
      rw [z, nA] at this
      cases this
  | cons d r =>
    obtain ⟨ed, er, hlt⟩ := drop_at e
    rw [e] at q2
    obtain ⟨c2, hacc, δ', ep, q2⟩ := q2
    obtain ⟨go, yl⟩ := (wk H2 M2 x2 m2 c2).1 i d ed
    refine .inr ⟨go, fun H' => ∃ M' acc vs', Ext M1 H1 M' H' ∧ RepM K H' M' ∧ H' A = some (.lst vs') ∧ M' A = some .busy ∧ RepL K H' M' vs' acc ∧ dLcL p tt te (wipeD δ vs) (Qe A) chk r acc M', fun H' ⟨M', acc, vs', h1, h2, h3, h4, h5, h6⟩ => ⟨n - 1, by omega, M', acc, vs', by omega, h1, h2, h3, h4, h5, by rw [er]; exact h6⟩, fun v H3 hy => ?_⟩
    obtain ⟨x3, m3, r3⟩ := yl v H3 hy
    have x23 := x2.trans x3
    refine gOf_ok m3 p ep ((a.s.wipe vs).ext (x1.trans x23)) r3 fun σ' s' hl' hag => ⟨?_, ?_⟩
    · rw [wipe_agree (vs := vs) hl' fun j hj => hag j fun z => hj (hsl j z)]
      exact wipe_agree (wipe_length _ _) fun j hj => by rw [wipe_out hj]
    · refine lfT.use ⟨s', m3⟩ q2 (fun b H4 M4 x4 m4 q4 => ?_) (wf _ _)
      have x34 := x3.trans x4
      obtain ⟨b4, nb4⟩ := x34.busy A nA2
      cases b with
      | false =>
        simp only [Bool.false_eq_true, if_false] at q4 ⊢
        exact ⟨M4, acc, vs', x23.trans x4, m4, b4.trans eA, nb4, l2.ext x34, q4⟩
      | true =>
        simp only [if_true] at q4 ⊢
        refine lfE.use ⟨s'.ext x4, m4⟩ q4 (fun v5 H5 d5 M5 x5 m5 r5 q5 => ?_) (wf _ _)
        have x35 := x34.trans x5
        obtain ⟨b5, nb5⟩ := x35.busy A nA2
        have l5 := l2.ext x35
        have e5 : H5 A = some (.lst vs') := b5.trans eA
        refine ⟨vs', e5, by rw [l5.length]; exact hacc, M5, addO acc (some d5), vs' ++ [v5], ?_, ?_, upd_same, nb5, ?_, q5⟩
        · have x25 := (x2.trans x34).trans x5
          refine ⟨fun b o h n t => ?_, fun b h => ?_⟩
          · have hb : b ≠ A := ne_of_none h hA
            rw [upd_ne hb]
            exact x25.keep b o h n t
          · have hb : b ≠ A := fun z => by rw [z, nA] at h; cases h
            rw [upd_ne hb]
            exact x25.busy b h
        · intro b mo e
          by_cases hb : b = A
          · subst hb
            rw [nb5] at e
            cases e
            exact ⟨_, upd_same⟩
          · exact (m5 b mo e).grow nb5 (upd_ne hb)
        · exact (l5.grow nb5).append (.cons (r5.grow nb5) .nil)
theorem de_lc {elt tg iter : Expr} {ifs : List Expr} {scope : Scope} {own : List (Str × Nat)} {ti : DTI} {p : Pat} {tt : DTT} {te : DTE} (hc : X.calm = true) (hN : X.N.Nodup) (hi : DI X W0 tg iter ti) (ok : BlkOk X.N X.env.scope scope own) (hsl : ∀ j, j ∈ slotsP p → j ∈ own.map (·.2))
    (hg : ∀ (s : Shared) (H : Hp) (C : Addr) (cl : List (Str × Addr)) (fp : List Addr), DG (X.blk s H scope (compEnvC scope cl C X.env) fp) tg p) (ht : ∀ (s : Shared) (H : Hp) (C : Addr) (cl : List (Str × Addr)) (fp : List Addr), DTs (X.blk s H scope (compEnvC scope cl C X.env) fp) WF ifs tt)
    (he : ∀ (s : Shared) (H : Hp) (C : Addr) (cl : List (Str × Addr)) (fp : List Addr), DE (X.blk s H scope (compEnvC scope cl C X.env) fp) WF elt te) (hs : ∀ x, foldedSetIterable iter X.env x = pure x := by intro _; rfl) :
    DE X W0 (.ListComp elt [⟨tg, iter, ifs, 0⟩] scope pos) (dLc ti p tt te (own.map (·.2))) :=
  .mk' (pe_lc hc hN hi.pi ok (fun s H C cl fp => (hg s H C cl fp).pg) (fun s H C cl fp => (ht s H C cl fp).pts) (fun s H C cl fp => (he s H C cl fp).pe) hs) fun σ H Q0 δ M Q W a q k w =>
    lc_run hsl a q (fun A H' M' acc ws x nb m e eb l q' => by
      have sb := Sub.del M' A
      exact k _ H' _ _ (x.sub sb fun b hb => by rw [delD_ne (nb b hb)]; exact (x.busy b hb).2) (m.sub sb) (.lst e delD_same (l.sub sb)) q') w
theorem de_lcM {elt tg iter : Expr} {ifs : List Expr} {scope : Scope} {own : List (Str × Nat)} {ti : DTI} {p : Pat} {tt : DTT} {te : DTE} (hc : X.calm = true) (hN : X.N.Nodup) (hi : DI X W0 tg iter ti) (ok : BlkOk X.N X.env.scope scope own) (hsl : ∀ j, j ∈ slotsP p → j ∈ own.map (·.2))
    (hg : ∀ (s : Shared) (H : Hp) (C : Addr) (cl : List (Str × Addr)) (fp : List Addr), DG (X.blk s H scope (compEnvC scope cl C X.env) fp) tg p) (ht : ∀ (s : Shared) (H : Hp) (C : Addr) (cl : List (Str × Addr)) (fp : List Addr), DTs (X.blk s H scope (compEnvC scope cl C X.env) fp) WF ifs tt)
    (he : ∀ (s : Shared) (H : Hp) (C : Addr) (cl : List (Str × Addr)) (fp : List Addr), DE (X.blk s H scope (compEnvC scope cl C X.env) fp) WF elt te) (hs : ∀ x, foldedSetIterable iter X.env x = pure x := by intro _; rfl) :
    DE X W0 (.ListComp elt [⟨tg, iter, ifs, 0⟩] scope pos) (dLcM ti p tt te (own.map (·.2))) :=
  .mk' (pe_lc hc hN hi.pi ok (fun s H C cl fp => (hg s H C cl fp).pg) (fun s H C cl fp => (ht s H C cl fp).pts) (fun s H C cl fp => (he s H C cl fp).pe) hs) fun σ H Q0 δ M Q W a q k w =>
    lc_run hsl a q (fun A H' M' acc ws x nb m e eb l q' => by
      have y : Ext M H (updD M' A (.lst acc)) H' := ⟨fun b o h n t => by
        have hb : b ≠ A := fun z => by
          have := (x.keep b o h n t).2
          rw [z, eb] at this; cases this
        rw [updD_ne hb]
        exact x.keep b o h n t, fun b hb => by rw [updD_ne (nb b hb)]; exact x.busy b hb⟩
      have z : ∀ b, M' b = none → updD M' A (.lst acc) b = none := fun b hb => by
        rw [updD_ne (fun z => by rw [z, eb] at hb; cases hb)]; exact hb
      refine k _ H' _ _ y (fun b mo hb => ?_) (.ref A) q'
      by_cases h : b = A
      · subst h
        rw [updD_same] at hb
        cases hb
        exact ⟨ws, e, l.less z⟩
      · rw [updD_ne h] at hb
        exact (m b mo hb).less z) w
end
end DL
end

section
set_option Elab.async false
set_option linter.all false
set_option maxRecDepth 100000
/-! DM: what the hand layer lacks: sum, min, max, sorted, enumerate of tuples, repr of data. -/
namespace DM
open PySem PySem.Spec PyProof.Rows L2
open PySem.Sem (wp)
set_option maxHeartbeats 1000000 in
theorem meets_enumerate_new1B {v : Value} {o : Obj} {H : Heap → Prop} (B : Begins v o H) :
    Meets (Builtin.«enumerate.__new__» ⟨[.type "enumerate", v], []⟩) (fun _ R s => H s.heap ∧
      R (.ok (.ret (.ref (s.heap.push o).objs.size))) { s with heap := (s.heap.push o).push { cls := .type "enumerate", data := .fields #[.none, .bool false, .ref s.heap.objs.size, rawInt 0, .none, .none] } }) :=
  .of_wp fun prog w A R s h => by
    obtain ⟨hp, g, d, tk, os⟩ := s; obtain ⟨h1, h⟩ := h
    have hsub := sub_enumerate
    have q1 : ∀ {A' : Around} {E : Value → Shared → Prop} {Q : Value → Shared → Prop}, Q (.ref hp.objs.size) ⟨hp.push o, g, d, tk, os⟩ → wpAny (model prog w) A' (pyIter v) Q E ⟨hp, g, d, tk, os⟩ :=
      fun q => B.iter prog w _ _ ⟨hp, g, d, tk, os⟩ _ h1 q
    wp_walk using q1
    refine wpAny_stack_any fun st => wpAny_pure ?_
    split
    · rename_i c _ _ _ _ _
      cases (c == Value.type "enumerate")
      · wp_walk using q1
        exact ⟨_, rfl, h⟩
      · wp_walk using q1
        exact ⟨_, rfl, h⟩
    · wp_walk using q1
      exact ⟨_, rfl, h⟩
section
variable {prog : Program} {w : World} {A : Around} {E : Value → Shared → Prop} {s : Shared}
theorem enum_begins1 {v : Value} {o : Obj} {H : Heap → Prop} {Q : Value → Shared → Prop} (B : Begins v o H) (h1 : H s.heap)
    (h : ∀ h', IsEnum h' (s.heap.objs.size + 1) s.heap.objs.size 0 .none → h'.get? s.heap.objs.size = some o → h'.objs.size = s.heap.objs.size + 2 →
      (∀ b o, s.heap.get? b = some o → h'.get? b = some o) → Q (.ref (s.heap.objs.size + 1)) { s with heap := h' }) :
    wpAny (model prog w) A (call (.type "enumerate") [v]) Q E s := by
  refine callType_new F.called_enumerate (by decide) (F.typeCall_enumerate_1 _) (F.newCall_enumerate_1 _) (fun obj => F.args_object_init_2 obj _) F.entry_enumerate_new
    (meets_enumerate_new1B B) ⟨h1, ?_⟩
  have hz : (s.heap.push o).objs.size = s.heap.objs.size + 1 := Heap.size_push ..
  show _ ∧ _
  rw [hz]
  have he : IsEnum ((s.heap.push o).push { cls := .type "enumerate", data := .fields #[.none, .bool false, .ref s.heap.objs.size, rawInt 0, .none, .none] }) (s.heap.objs.size + 1) s.heap.objs.size 0 .none := by
    have := Heap.get?_push_size (s.heap.push o) (o := { cls := .type "enumerate", data := .fields #[.none, .bool false, .ref s.heap.objs.size, rawInt 0, .none, .none] }) rfl
    rw [hz] at this; exact this
  refine ⟨⟨_, he, rfl⟩, h _ he (Heap.get?_push_of_some _ (Heap.get?_push_size _ B.free)) (by rw [Heap.size_push, hz]) fun b o x => Heap.get?_push_of_some _ (Heap.get?_push_of_some _ x)⟩
end

/-! ### enumerate(tuple) -/
def IteT (K : PySem.W.Frag) (a : Addr) : It :=
  ⟨fun i H => ∃ (xs : List V) (x : V), SqT K H a xs ∧ xs[i]? = some x, fun i H v H' => ∃ T x, v = .ref T ∧ H T = none ∧ H' = upd H T (.tup [.int (i : Nat), x]) ∧ ∀ xs, SqT K H a xs → xs[i]? = some x, fun i H => ∃ xs : List V, SqT K H a xs ∧ xs.length ≤ i⟩
theorem turn_enumT {P : Program} {w : World} {K : PySem.W.Frag} {elts : List Expr} {kk : Nat} {tpos : Pos} (a e it : Addr) :
    Turn P w K (.Tuple elts kk tpos) (IteT K a) [e, it] e (fun i h => (∃ old, IsEnum h e it ((i : Nat) : Int) old) ∧ h.IsTupleIter it a i ∧ e ≠ it ∧ e ≠ a ∧ a ≠ it) where
  mem := by simp
  obj := fun i h st b hb => by
    obtain ⟨⟨old, he⟩, ⟨o, ho, hc, hd⟩, _⟩ := st
    have e' : b = e ∨ b = it := by simpa using hb
    rcases e' with z | z
    · rw [z]; exact ⟨_, he, fun v q => nomatch q⟩
    · rw [z]; exact ⟨o, ho, fun v q => by rw [hd] at q; cases q⟩
  keep := fun i h h' st k => let ⟨⟨old, he⟩, hi, hne⟩ := st; ⟨⟨old, k e (by simp) _ he⟩, hi.at fun o q => k it (by simp) o q, hne⟩
  item := by
    intro X hP hw hK hc i pins s σ H E I hf st hg
    subst hP hw hK
    obtain ⟨⟨old, he⟩, hit, hne, hea, hai⟩ := st
    obtain ⟨xs, x, hq, hx⟩ := hg
    obtain ⟨its, rv, p, hz⟩ := I.tuple hq
    obtain ⟨u, hu, ru⟩ := rv.get hx
    have hel : e < s.heap.objs.size := Heap.lt_size he
    have hil : it < s.heap.objs.size := by obtain ⟨_, q, _⟩ := hit; exact Heap.lt_size q
    have hlt : i < its.toArray.size := by
      have := (List.getElem?_eq_some_iff.mp hu).1
      simpa using this
    have D : Draws X.prog X.w X.A.in1 it [it, a] its.toArray.size (fun i v => its.toArray[i]? = some v) (fun i h => h.IsTupleIter it a i ∧ h.IsTuple a its.toArray) := Draws.tuple (A := X.A.in1) (I.ok.hd hc) it a hai its.toArray
    refine wpAny_pyNext_enum_itemD D he ⟨hit, p⟩ hlt hne (by simp [hne, hea]) fun y h' tk hy ho hit' hT hsz hk => ?_
    have ey : y = u := by
      have : its.toArray[i]? = some u := by simpa using hu
      rw [this] at hy; exact (Option.some.inj hy).symm
    subst ey
    refine ⟨_, rfl, wpAny_letOwnedTupleGo_enum (s := { s with heap := h', toks := tk + 1 }) ho fun h'' he' sb => ?_⟩
    have hT2 : h''.get? s.heap.objs.size = some { cls := .type "tuple", data := .seq #[.int i tk, y] } := (sb.2 _ (Nat.ne_of_gt hel)).trans hT
    have new : ObjOk X.prog X.w (upd H s.heap.objs.size (.tup [.int (i : Nat), x])) h'' s.heap.objs.size (.tup [.int (i : Nat), x]) :=
      ⟨by show 2 ≤ sizeLine; decide, [.int i tk, y], .cons ⟨_, rfl⟩ (.cons ru .nil), ⟨_, hT2, rfl, _, rfl⟩⟩
    have I1 : Inv X pins σ (upd H s.heap.objs.size (.tup [.int (i : Nat), x])) { s with heap := h'', toks := tk + 1 } :=
      I.turnedNew (ch := [e, it]) (fun b ob hb q => (sb.2 b (fun z => hb (by simp [z]))).trans (hk b ob (fun z => hb (by simp [z])) (fun z => hb (by simp [z])) q)) hf (Nat.le_refl _) new
    refine ⟨.ref s.heap.objs.size, _, I1, rfl, ⟨_, x, rfl, I.hok.fresh (Nat.le_refl _), rfl, fun ys hy => by rw [I.tuple_inj hy hq]; exact hx⟩, ⟨⟨y, ?_⟩, hit'.1.at fun o q => (sb.2 it (Ne.symm hne)).trans q, hne, hea, hai⟩, fun b hb => ?_⟩
    · have e1 : ((i + 1 : Nat) : Int) = (i : Int) + 1 := by omega
      rw [e1]; exact he'
    · have hb' : b < s.heap.objs.size := by
        have e' : b = e ∨ b = it := by simpa using hb
        rcases e' with z | z
        · rw [z]; exact hel
        · rw [z]; exact hil
      rw [upd_ne (Nat.ne_of_lt hb')]
      exact (hf b hb).1
  done := by
    intro X hP hw hK hc i pins s σ H E I hf st hg
    subst hP hw hK
    obtain ⟨⟨old, he⟩, hit, hne, hea, hai⟩ := st
    obtain ⟨xs, hq, hx⟩ := hg
    obtain ⟨its, rv, p, hz⟩ := I.tuple hq
    obtain ⟨f0, f1, f2, f3, f4, f5⟩ := hf it (by simp)
    have hl := rv.length
    unfold pyNext
    have hT : s.TypeIs (.ref e) "enumerate" := ⟨_, he, rfl⟩
    refine wpAny_bind (wpAny_attempt (wpAny_callSpecial?_slot (name := Str.ofString "__next__") hT F.slot_enumerate_next
      (wpAny_call_entry F.slot_enumerate_next hT F.entry_enumerate_next ?_ (F.args_enumerate_next_1 _))))
    show wpAny _ _ (field (.ref e) 2 >>= _) _ _ _
    refine wpAny_bind (wpAny_field he rfl (x := .ref it) rfl ?_)
    refine wpAny_bind (wpAny_nextOf_tuple_end (I.ok.hd hc) hit p (by simp; omega) fun h' x he' hx' => ?_)
    obtain ⟨o, ho, hc'⟩ := hx'
    refine wpAny_bind (wpAny_isInstance (T := "StopIteration") (b := true) ⟨o, ho, hc'⟩ isSubtype_stop ?_)
    exact wpAny_pure ⟨rfl, I.turned (t' := s.toks) (fun b o hb q => he' b o hb q) f0 f1 f3 f4 f5⟩
  self := fun A i s Q E st h => let ⟨⟨_, he⟩, _⟩ := st; wpAny_pyIter_enum he h
def iEnumA (K : PySem.W.Frag) (ta : TA) : TI := fun σ H R => ta σ H fun vs H1 => ∃ a xs, vs = [.ref a] ∧ ((SqL K H1 a xs ∧ R (Ite K a) H1) ∨ (SqT K H1 a xs ∧ R (IteT K a) H1))
theorem pi_enumA {X : Cx} {e : Expr} {ta : TA} {p pos tpos : Pos} {elts : List Expr} {kk : Nat} (hg : Gl X "enumerate") (hm : X.mg "enumerate" = none) (ha : PA X [e] ta) (hs : starEach [e] X.env = [(false, eval e X.env)] := by rfl) :
    PI X (.Tuple elts kk tpos) (.Call (.Name "enumerate" p) [e] [] pos) (iEnumA X.K ta) := by
  refine ⟨fun pins s σ H R I h => ?_⟩
  refine Call_ (ld_blt I hg hm boot_enumerate (PyProof.Rows.callWith_type1 (thn (ha.run pos pins s σ H _ I h) fun us s1 ⟨vs, H1, I1, r1, q1⟩ => ?_) hs rfl))
  obtain ⟨a, xs, ex, q1⟩ := q1
  subst ex
  have fresh2 : ∀ b, b ∈ [s1.heap.objs.size + 1, s1.heap.objs.size] → FpOk X pins H1 b := fun b hb => by
    have e' : b = s1.heap.objs.size + 1 ∨ b = s1.heap.objs.size := by simpa using hb
    have hle : s1.heap.objs.size ≤ b := by
      rcases e' with z | z
      · rw [z]; exact Nat.le_add_right _ _
      · rw [z]; exact Nat.le_refl _
    exact I1.fpOk hle (I1.hok.fresh hle)
  cases r1 with
  | cons r rr =>
    cases rr
    cases r
    rcases q1 with ⟨hq, q⟩ | ⟨hq, q⟩
    · obtain ⟨its, rv, p', hz⟩ := I1.list hq
      refine call_enumerate_list p'.isList fun h' he hit hsz hk => wpAny_pyIter_enum he ?_
      have I2 : Inv X pins σ H1 { s1 with heap := h' } := I1.kept (t' := s1.toks) hk
      exact ⟨s1.heap.objs.size + 1, [s1.heap.objs.size + 1, s1.heap.objs.size], _, _, H1, rfl, I2, turn_enum a (s1.heap.objs.size + 1) s1.heap.objs.size, ⟨⟨.none, he⟩, hit, Nat.succ_ne_self _⟩, fresh2, q⟩
    · obtain ⟨its, rv, p', hz⟩ := I1.tuple hq
      have hlt : a < s1.heap.objs.size := by obtain ⟨_, q, _⟩ := id p'; exact Heap.lt_size q
      refine enum_begins1 (begins_tuple a its.toArray) (show s1.heap.IsTuple a its.toArray from p') fun h' he hit hsz hk => wpAny_pyIter_enum he ?_
      have I2 : Inv X pins σ H1 { s1 with heap := h' } := I1.kept (t' := s1.toks) hk
      exact ⟨s1.heap.objs.size + 1, [s1.heap.objs.size + 1, s1.heap.objs.size], _, _, H1, rfl, I2, turn_enumT a (s1.heap.objs.size + 1) s1.heap.objs.size, ⟨⟨.none, he⟩, ⟨_, hit, rfl, rfl⟩, Nat.succ_ne_self _, Nat.ne_of_gt (Nat.lt_succ_of_lt hlt), Nat.ne_of_lt hlt⟩, fresh2, q⟩

/-! ### a list or a tuple walked -/
def iSeq (K : PySem.W.Frag) (tl : TE) : TI := fun σ H R => tl σ H fun x H1 => ∃ a xs, x = .ref a ∧ ((SqL K H1 a xs ∧ R (Itl K a) H1) ∨ (SqT K H1 a xs ∧ R (Itt K a) H1))
theorem pi_seq {X : Cx} {tg l : Expr} {tl : TE} (hl : PE X l tl) : PI X tg l (iSeq X.K tl) := by
  refine ⟨fun pins s σ H R I h => ?_⟩
  refine thn (hl.run pins s σ H _ I h) fun v s1 ⟨x, H1, I1, r1, q1⟩ => ?_
  obtain ⟨a, xs, e, q1⟩ := q1
  subst e
  cases r1
  rcases q1 with ⟨hq, q⟩ | ⟨hq, q⟩
  · obtain ⟨its, rv, p, hz⟩ := I1.list hq
    refine wpAny_pyIter_list p.isList ?_
    refine ⟨s1.heap.objs.size, [s1.heap.objs.size], _, _, H1, rfl, I1.kept (t' := s1.toks) fun b o e => Heap.get?_push_of_some _ e, turn_list a _, ⟨_, Heap.get?_push_size _ rfl, rfl, rfl⟩, fun b hb => ?_, q⟩
    have e : b = s1.heap.objs.size := by simpa using hb
    subst e
    exact I1.fpOk (Nat.le_refl _) (I1.hok.fresh (Nat.le_refl _))
  · obtain ⟨its, rv, p, hz⟩ := I1.tuple hq
    refine wpAny_pyIter_tuple (show s1.heap.IsTuple a its.toArray from p) ?_
    refine ⟨s1.heap.objs.size, [s1.heap.objs.size], _, _, H1, rfl, I1.kept (t' := s1.toks) fun b o e => Heap.get?_push_of_some _ e, turn_tuple a _, ⟨_, Heap.get?_push_size _ rfl, rfl, rfl⟩, fun b hb => ?_, q⟩
    have e : b = s1.heap.objs.size := by simpa using hb
    subst e
    exact I1.fpOk (Nat.le_refl _) (I1.hok.fresh (Nat.le_refl _))

/-! ### sum, max, min of a tuple of ints -/
section
variable {prog : Program} {w : World} {A : Around} {E : Value → Shared → Prop} {s : Shared} {l : Addr} {xs : Array (Int × Tok)} {its : List Value} {ns : List Int}
theorem iter_intTup {Q : Value → Shared → Prop} (hl : s.heap.IsTuple l (intItems xs))
    (h : ∀ s₂ : Shared, s₂ = { s with heap := s.heap.push { cls := .type "tuple_iterator", data := .fields #[.ref l, .int 0 0] } } →
      (s₂.heap.IsTupleIter s.heap.objs.size l 0 ∧ s₂.heap.IsTuple l (intItems xs)) → (∀ b ∈ [s.heap.objs.size, l], b < s₂.heap.objs.size) → l ≠ s.heap.objs.size → Q (.ref s.heap.objs.size) s₂) :
    wpAny (model prog w) A (pyIter (.ref l)) Q E s := by
  have hlt : l < s.heap.objs.size := by obtain ⟨_, e, _⟩ := hl; exact Heap.lt_size e
  refine wpAny_pyIter_tuple hl (h _ rfl ⟨⟨_, Heap.get?_push_size _ rfl, rfl, rfl⟩, hl.at fun o e => Heap.get?_push_of_some _ e⟩ (fun b hb => ?_) (Nat.ne_of_lt hlt))
  show b < (s.heap.push _).objs.size
  rw [Heap.size_push]
  rcases List.mem_cons.mp hb with rfl | hb
  · exact Nat.lt_succ_self _
  · rcases List.mem_cons.mp hb with rfl | hb
    · exact Nat.lt_succ_of_lt hlt
    · cases hb
theorem old_keptT {h' : Heap} (hk : ∀ b o, b ∉ [s.heap.objs.size] → (s.heap.push { cls := .type "tuple_iterator", data := .fields #[.ref l, .int 0 0] }).get? b = some o → h'.get? b = some o) :
    ∀ b o, s.heap.get? b = some o → h'.get? b = some o := fun b o e => by
  refine hk b o (fun hm => ?_) (Heap.get?_push_of_some _ e)
  rcases List.mem_cons.mp hm with e1 | hm
  · exact absurd (e1 ▸ Heap.lt_size e) (Nat.lt_irrefl _)
  · cases hm
theorem sum_rawT {Q : Value → Shared → Prop} (hh : A.handled = none) (hl : s.heap.IsTuple l its.toArray) (hi : IntsAre its ns)
    (h : ∀ h' tk t', (∀ b o, s.heap.get? b = some o → h'.get? b = some o) → Q (.int ns.sum t') { s with heap := h', toks := tk }) : wpAny (model prog w) A (call (.builtin "sum") [.ref l]) Q E s := by
  obtain ⟨xs, e⟩ := hi.allInts.items
  have hn : numsOf (intItems xs).toList = ns := by rw [← e]; exact hi.numsOf
  rw [nums_intItems] at hn
  rw [e] at hl
  refine call_sum_walkG (iter_intTup hl fun s₂ e st hfp hlI => ?_)
  subst e
  refine ⟨_, _, _, _, _, _, numAt xs, rfl, Walks.tuple (A := A.in1) hh _ l hlI (intItems xs), st, hfp, (fun _ _ => intItems_at), fun h' tk t' hk => ?_⟩
  have := h h' tk t' (old_keptT hk)
  rw [preSum_eq, List.take_of_length_le (by simp [intItems]), hn]
  exact this
theorem max_rawT {Q : Value → Shared → Prop} (hh : A.handled = none) (hl : s.heap.IsTuple l its.toArray) (hi : IntsAre its ns) (hne : 0 < ns.length)
    (h : ∀ h' tk M t', (∀ b o, s.heap.get? b = some o → h'.get? b = some o) → M ∈ ns → (∀ a, a ∈ ns → a ≤ M) → Q (.int M t') { s with heap := h', toks := tk }) : wpAny (model prog w) A (call (.builtin "max") [.ref l]) Q E s := by
  obtain ⟨xs, e⟩ := hi.allInts.items
  have hn : numsOf (intItems xs).toList = ns := by rw [← e]; exact hi.numsOf
  rw [nums_intItems] at hn
  subst hn
  rw [e] at hl
  have hsz : 0 < xs.size := by simpa using hne
  refine call_max_walk (iter_intTup hl fun s₂ e st hfp hlI => ?_)
  subst e
  refine ⟨_, _, _, _, _, _, _, rfl, Walks.tuple (A := A.in1) hh _ l hlI (intItems xs), st, hfp, by simpa [intItems] using hsz, CmpOf.ints_gt (numAt xs) (fun _ _ => intItems_at), fun v h' tk hP hk => ?_⟩
  have hv : (intItems xs)[argBest (fun i j => decide (numAt xs i > numAt xs j)) (xs.size - 1)]? = some v := by simpa [intItems] using hP
  obtain ⟨t, rfl⟩ := intItems_at hv
  obtain ⟨h1, h2⟩ := argBest_gt (numAt xs) (xs.size - 1)
  refine h h' tk _ t (old_keptT hk) ?_ fun a ha => ?_
  · rw [numAt_eq]; exact PySem.getD_mem (by rw [List.length_map, Array.length_toList]; omega)
  · obtain ⟨j, hj, rfl⟩ := mem_getD ha
    rw [List.length_map, Array.length_toList] at hj
    rw [← numAt_eq]; exact h2 j (by omega)
theorem min_rawT {Q : Value → Shared → Prop} (hh : A.handled = none) (hl : s.heap.IsTuple l its.toArray) (hi : IntsAre its ns) (hne : 0 < ns.length)
    (h : ∀ h' tk M t', (∀ b o, s.heap.get? b = some o → h'.get? b = some o) → M ∈ ns → (∀ a, a ∈ ns → M ≤ a) → Q (.int M t') { s with heap := h', toks := tk }) : wpAny (model prog w) A (call (.builtin "min") [.ref l]) Q E s := by
  obtain ⟨xs, e⟩ := hi.allInts.items
  have hn : numsOf (intItems xs).toList = ns := by rw [← e]; exact hi.numsOf
  rw [nums_intItems] at hn
  subst hn
  rw [e] at hl
  have hsz : 0 < xs.size := by simpa using hne
  refine call_min_walk (iter_intTup hl fun s₂ e st hfp hlI => ?_)
  subst e
  refine ⟨_, _, _, _, _, _, _, rfl, Walks.tuple (A := A.in1) hh _ l hlI (intItems xs), st, hfp, by simpa [intItems] using hsz, CmpOf.ints_lt (numAt xs) (fun _ _ => intItems_at), fun v h' tk hP hk => ?_⟩
  have hv : (intItems xs)[argBest (fun i j => decide (numAt xs i < numAt xs j)) (xs.size - 1)]? = some v := by simpa [intItems] using hP
  obtain ⟨t, rfl⟩ := intItems_at hv
  obtain ⟨h1, h2⟩ := argBest_lt (numAt xs) (xs.size - 1)
  refine h h' tk _ t (old_keptT hk) ?_ fun a ha => ?_
  · rw [numAt_eq]; exact PySem.getD_mem (by rw [List.length_map, Array.length_toList]; omega)
  · obtain ⟨j, hj, rfl⟩ := mem_getD ha
    rw [List.length_map, Array.length_toList] at hj
    rw [← numAt_eq]; exact h2 j (by omega)
end
section
variable {X : Cx}
/-- .. of a list or a tuple -/
def rSumA (K : PySem.W.Frag) : List V → Hp → VK → Prop := fun vs H Q => ∃ (a : Addr) (ns : List Int), vs = [V.ref a] ∧ (SqL K H a (ns.map V.int) ∨ SqT K H a (ns.map V.int)) ∧ Q (.int ns.sum) H
def rMaxA (K : PySem.W.Frag) : List V → Hp → VK → Prop := fun vs H Q => ∃ (a : Addr) (ns : List Int), vs = [V.ref a] ∧ (SqL K H a (ns.map V.int) ∨ SqT K H a (ns.map V.int)) ∧ 0 < ns.length ∧ ∀ m, m ∈ ns → (∀ y, y ∈ ns → y ≤ m) → Q (.int m) H
def rMinA (K : PySem.W.Frag) : List V → Hp → VK → Prop := fun vs H Q => ∃ (a : Addr) (ns : List Int), vs = [V.ref a] ∧ (SqL K H a (ns.map V.int) ∨ SqT K H a (ns.map V.int)) ∧ 0 < ns.length ∧ ∀ m, m ∈ ns → (∀ y, y ∈ ns → m ≤ y) → Q (.int m) H
theorem cr_sumA (hc : X.calm = true) : CallR X (.builtin "sum") (rSumA X.K) := by
  intro pins s σ H vs us Q I r h
  obtain ⟨a, ns, rfl, hs, q⟩ := h
  rcases hs with hs | hs
  · exact cr_sum hc pins s σ H _ us Q I r ⟨a, ns, rfl, hs, q⟩
  · obtain ⟨its, rv, hl, _⟩ := I.tuple hs
    rw [Vals.ref1 r]
    exact sum_rawT (I.ok.hd hc) hl rv.ints fun h' tk t' hk => ⟨.int _, H, I.kept hk, ⟨_, rfl⟩, q⟩
theorem cr_maxA (hc : X.calm = true) : CallR X (.builtin "max") (rMaxA X.K) := by
  intro pins s σ H vs us Q I r h
  obtain ⟨a, ns, rfl, hs, hne, q⟩ := h
  rcases hs with hs | hs
  · exact cr_max hc pins s σ H _ us Q I r ⟨a, ns, rfl, hs, hne, q⟩
  · obtain ⟨its, rv, hl, _⟩ := I.tuple hs
    rw [Vals.ref1 r]
    exact max_rawT (I.ok.hd hc) hl rv.ints hne fun h' tk m t' hk h1 h2 => ⟨.int _, H, I.kept hk, ⟨_, rfl⟩, q m h1 h2⟩
theorem cr_minA (hc : X.calm = true) : CallR X (.builtin "min") (rMinA X.K) := by
  intro pins s σ H vs us Q I r h
  obtain ⟨a, ns, rfl, hs, hne, q⟩ := h
  rcases hs with hs | hs
  · exact cr_min hc pins s σ H _ us Q I r ⟨a, ns, rfl, hs, hne, q⟩
  · obtain ⟨its, rv, hl, _⟩ := I.tuple hs
    rw [Vals.ref1 r]
    exact min_rawT (I.ok.hd hc) hl rv.ints hne fun h' tk m t' hk h1 h2 => ⟨.int _, H, I.kept hk, ⟨_, rfl⟩, q m h1 h2⟩
end
end DM
end

section
set_option Elab.async false
set_option linter.all false
set_option maxRecDepth 100000
/-! DM2: sorted of a tuple; repr of data. -/
namespace DM
open PySem PySem.Spec PyProof.Rows L2
open PySem.Sem (wp)
section
variable {prog : Program} {w : World} {A : Around} {E : Value → Shared → Prop} {s : Shared}
/-- as collect_list, of a tuple -/
theorem collect_tuple {l : Addr} {vs : List Value} {Q : List Value → Shared → Prop} (hl : s.heap.IsTuple l vs.toArray)
    (h : Q vs { s with heap := (s.heap.push (seqObj "list" #[] 0)).update s.heap.objs.size (Obj.mapSeq (· ++ vs.toArray)) }) (hsz : vs.length ≤ sizeLine) :
    wpAny (model prog w) A (collect (.ref l)) Q E s := by
  obtain ⟨o, ho, hc, n, hd⟩ := id hl
  unfold collect
  refine wpAny_bind (wpAny_runValue (codeAny_builtin entry_proto_collect' ?_))
  show wpAny _ _ (do again (.builtin "list.__iadd__" ⟨[← newList [], .ref l], []⟩)) _ _ s
  refine wpAny_bind (wpAny_newList (wpAny_pure ⟨Code.quiet_builtin _ (by decide +kernel), codeAny_builtin entry_list_iadd' ?_⟩))
  show wpAny _ _ (Builtin.List.listExtendWith (.ref s.heap.objs.size) (.ref l) (.ref s.heap.objs.size)) _ _ { s with heap := s.heap.push (seqObj "list" #[] 0) }
  unfold Builtin.List.listExtendWith
  have ho' : (s.heap.push (seqObj "list" #[] 0)).get? l = some o := Heap.get?_push_of_some _ ho
  refine wpAny_bind (wpAny_typeOf (T := "tuple") ⟨o, ho', hc⟩ ?_)
  have ht : (Value.type "tuple" == Value.type "tuple") = true := by rfl
  rw [if_pos (by rw [ht]; simp)]
  refine wpAny_bind (listItems_at ho' hd ?_)
  refine wpAny_bind (listItems_at (xs := #[]) (n := 0) (Heap.get?_push_size _ rfl) rfl ?_)
  rw [if_neg (by simp)]
  refine wpAny_bind (listUpdate_at (xs := #[]) (n := 0) (Heap.get?_push_size _ rfl) rfl ?_ (Nat.zero_le _) (by show (#[] ++ vs.toArray).size ≤ sizeLine + 1; simp only [Array.size_append, List.size_toArray, List.length_nil]; omega))
  refine wpAny_pure ?_
  show wpAny (model prog w) A (do
      let o ← load s.heap.objs.size
      match o.data with
      | .seq xs _ => pure xs.toList
      | _ => unsupported "internal:collect") Q E { s with heap := (s.heap.push (seqObj "list" #[] 0)).update s.heap.objs.size (Obj.mapSeq (· ++ vs.toArray)) }
  refine wpAny_bind (wpAny_load (get?_update_seq (Heap.get?_push_size _ rfl) _) ?_)
  show wpAny _ _ (pure ((#[] : Array Value) ++ vs.toArray).toList) Q E _
  rw [show ((#[] : Array Value) ++ vs.toArray).toList = vs by simp]
  exact wpAny_pure h
open SrtO Srt in
theorem sorted_ordT {l : Addr} {vs : List Value} {ltv : Value → Value → Bool} {Q : Value → Shared → Prop} (O : Swo ltv) (hl : s.heap.IsTuple l vs.toArray) (hz : vs.length ≤ sizeLine)
    (hS : 2 ≤ vs.length → ∀ (h₁ : Heap) (a : Addr), h₁.get? a = some (seqObj "list" vs.toArray 0) → (∀ b o, s.heap.get? b = some o → b ≠ a ∧ h₁.get? b = some o) → SortableO prog w A.in1.in1 { s with heap := h₁ } a vs ltv)
    (h : ∀ out : List Value, Srtd ltv out → Stb ltv out vs → Q (.ref (s.heap.objs.size + 1)) { s with heap := sortedAll s.heap vs out.toArray }) :
    wpAny (model prog w) A (call (.builtin "sorted") [.ref l]) Q E s := by
  refine Calls.call_function_entry kind_sorted plain_sorted entry_sorted (args_sorted1 _) ?_
  unfold Builtin.«sorted»
  refine wpAny_bind (m := checkCount "sorted" 1 1 _) (wpAny_pure ?_)
  refine wpAny_bind (collect_tuple hl ?_ hz)
  refine wpAny_bind (wpAny_newList ?_ hz)
  have hsz : ((s.heap.push (seqObj "list" #[] 0)).update s.heap.objs.size (Obj.mapSeq (· ++ vs.toArray))).objs.size = s.heap.objs.size + 1 := by
    rw [Heap.size_update, size_push']
  have hoL : (((s.heap.push (seqObj "list" #[] 0)).update s.heap.objs.size (Obj.mapSeq (· ++ vs.toArray))).push (seqObj "list" vs.toArray 0)).get? (s.heap.objs.size + 1) = some (seqObj "list" vs.toArray 0) := by
    rw [← hsz]; exact Heap.get?_push_size _ rfl
  have keep : ∀ b o, s.heap.get? b = some o → b ≠ s.heap.objs.size + 1 ∧ (((s.heap.push (seqObj "list" #[] 0)).update s.heap.objs.size (Obj.mapSeq (· ++ vs.toArray))).push (seqObj "list" vs.toArray 0)).get? b = some o := fun b o q => by
    have hlt : b < s.heap.objs.size := Heap.lt_size q
    refine ⟨Nat.ne_of_lt (Nat.lt_succ_of_lt hlt), Heap.get?_push_of_some _ ?_⟩
    rw [Heap.get?_update_ne _ _ _ _ (Nat.ne_of_lt hlt)]
    exact Heap.get?_push_of_some _ q
  show wpAny _ _ _ _ _ { s with heap := ((s.heap.push (seqObj "list" #[] 0)).update s.heap.objs.size (Obj.mapSeq (· ++ vs.toArray))).push (seqObj "list" vs.toArray 0) }
  rw [hsz]
  refine wpAny_bind (wpAny_holding (wpAny_call_entry slot_list_sort ⟨_, hoL, rfl⟩ entry_list_sort (list_sort_ord O hoL hz (fun h2 => hS h2 _ _ hoL keep) fun out hs hb => ⟨_, rfl, ?_⟩) (args_list_sort _)))
  exact wpAny_pure ⟨_, rfl, h out hs hb⟩
end
section
variable {X : Cx}
def rSortedIA (K : PySem.W.Frag) : List V → Hp → VK → Prop := fun vs H Q => ∃ (a : Addr) (ns : List Int), vs = [V.ref a] ∧ (SqL K H a (ns.map V.int) ∨ SqT K H a (ns.map V.int)) ∧
  ∀ (ns' : List Int) (p : Addr), ns'.Perm ns → ns'.Pairwise (· ≤ ·) → H p = none → Q (.ref p) (upd H p (.lst (ns'.map V.int)))
theorem cr_sortedIA : CallR X (.builtin "sorted") (rSortedIA X.K) := by
  intro pins s σ H vs us Q I r h
  obtain ⟨a, ns, rfl, hs, q⟩ := h
  rcases hs with hs | hs
  · exact cr_sortedI pins s σ H _ us Q I r ⟨a, ns, rfl, hs, q⟩
  · obtain ⟨its, rv, hl, hz⟩ := I.tuple hs
    rw [Vals.ref1 r]
    have hi := rv.ints
    refine sorted_ordT SrtO.swo_int hl (by rw [← rv.length]; exact hz) (fun h2 h₁ a' _ _ => SrtO.ints_sortable hi h2) fun out h1 h2 => ?_
    obtain ⟨k1, k2, k3⟩ := SrtO.ints_out hi h1 h2
    obtain ⟨ep, he'⟩ := PyProof.Rows.sortedAll_at s.heap its out.toArray
    have hlen : ((out.map SrtO.iv).map V.int).length ≤ sizeLine := by
      rw [List.length_map, k2.length_eq]
      rw [List.length_map] at hz
      exact hz
    exact ⟨.ref _, upd H (s.heap.objs.size + 1) (.lst ((out.map SrtO.iv).map V.int)), I.laid (t' := s.toks) (fun _ _ => PyProof.Rows.sortedAll_old) (Nat.le_succ _) ⟨hlen, out, ep, vals_of_ints k1, he'⟩, rfl, q _ _ k2 k3 (I.hok.fresh (Nat.le_succ _))⟩
/-- repr of data -/
def rReprD (K : PySem.W.Frag) : List V → Hp → VK → Prop := fun vs H Q => ∃ (x : V) (d : PyData), vs = [x] ∧ Dp K H x d ∧ d.showable = true ∧ d.hasDict = false ∧ d.depth ≤ 60 ∧ d.shown.length ≤ sizeLine ∧ Q (.str d.shown) H
theorem cr_repr (hc : X.calm = true) (hg : X.A.guards = some []) (hu : X.A.units + 64 < cLine) : CallR X (.builtin "repr") (rReprD X.K) := by
  intro pins s σ H vs us Q I r h
  obtain ⟨x, d, rfl, hd, hsh, hnd, hdp, hlen, q⟩ := h
  obtain ⟨u, rfl, rx⟩ := vals1 r
  obtain ⟨as, rd⟩ := Dp.reads I d x u hd rx
  cases rx' : x with
  | ref a =>
    subst rx'
    cases rx
    exact PySem.repr_of_reads' (h₀ := s.heap) rd hsh (PyData.noDict_hsm hnd) hg (by omega) (fun _ _ e => e) (fun h' u tk hk => ⟨.str _, H, I.kept (t' := tk) hk, ⟨_, rfl⟩, q⟩) hlen
  | non =>
    subst rx'
    cases rx
    cases hd
    exact PySem.P.repr_of_none ⟨.str _, H, I.tok _, ⟨_, rfl⟩, by simpa [PyData.shown] using q⟩
  | bl b =>
    subst rx'
    cases rx
    cases hd
    exact PySem.P.repr_of_bool ⟨.str _, H, I.tok _, ⟨_, rfl⟩, by simpa [PyData.shown] using q⟩
  | int i =>
    subst rx'
    obtain ⟨t, rfl⟩ := rx
    cases hd
    exact PySem.P.repr_of_int (by simpa [PyData.showable] using hsh) ⟨.str _, H, I.tok _, ⟨_, rfl⟩, by simpa [PyData.shown] using q⟩
  | str y =>
    subst rx'
    obtain ⟨t, rfl⟩ := rx
    cases hd
    simp only [PyData.shown] at q hlen
    exact PySem.P.repr_of_str ⟨.str _, H, I.tok _, ⟨_, rfl⟩, q⟩ hlen
  | byt y => subst rx'; cases hd
  | flt y => subst rx'; cases hd
  | ty y => subst rx'; cases hd
end
end DM
end

section
set_option Elab.async false
set_option linter.all false
set_option maxRecDepth 100000
/-! DG: promises of defs that are called where no repr is under way. -/
namespace DL
open PySem PySem.Spec PyProof.Rows L2
/-- nothing is being shown around -/
def Quiet (A : Around) : Prop := A.guards = some []
structure FnQ (g : Bool) (P : Program) (w : World) (K : PySem.W.Frag) (mg : Str → Option Value) (base : Heap) (CX : CXT) (k : Nat) (f : Addr) (fd : FuncData) (ps : List Str) (sp : Sp) : Prop where
  len : ∀ vs H Q E, sp vs H Q E → vs.length = ps.length
  run : ∀ (A : Around), (g = true → Quiet A) → Room k A → ∀ (outer : List Env) (s : Shared) (H : Hp), Env0 P w K mg base A outer s H → ∀ (args : Args) (us : List Value) (vs : List V), BindsTo s fd args (ps.zip us) → Vals vs us → ∀ (Q : VK) (E : XK), sp vs H Q E →
    codeAny (model P w) A (.call (.ref f) args) (CR CX outer P w H s Q E) s
theorem FnQ.of {g : Bool} {P : Program} {w : World} {K : PySem.W.Frag} {mg : Str → Option Value} {base : Heap} {CX : CXT} {k : Nat} {f : Addr} {fd : FuncData} {ps : List Str} {sp : Sp} (F : FnOk P w K mg base CX k f fd ps sp) : FnQ g P w K mg base CX k f fd ps sp :=
  ⟨F.len, fun A _ hr outer s H e args us vs b r Q E h => F.run A outer s H args us vs Q E hr e b r h⟩
theorem FnQ.ok {P : Program} {w : World} {K : PySem.W.Frag} {mg : Str → Option Value} {base : Heap} {CX : CXT} {k : Nat} {f : Addr} {fd : FuncData} {ps : List Str} {sp : Sp} (F : FnQ false P w K mg base CX k f fd ps sp) : FnOk P w K mg base CX k f fd ps sp :=
  ⟨F.len, fun A outer s H args us vs Q E hr e b r h => F.run A (fun z => nomatch z) hr outer s H e args us vs b r Q E h⟩
section
variable {X : Cx} {CX : CXT} {g : Bool} {k : Nat} {f : Addr} {fd : FuncData} {ps : List Str} {sp : Sp} {E : L2.St → XK} {x : Str} {p pos : Pos} {e : Expr} {es : List Expr} {t : TA}
theorem run_fnQ {pins : List (Addr × Obj)} {σ : L2.St} {H : Hp} {s : Shared} {Q : VK} {us : List Value} {vs : List V} (F : FnQ g X.prog X.w X.K X.mg X.base CX k f fd ps sp) (hq : g = true → Quiet X.A) (hr : Room k X.A) (hb : Binds X.K fd ps []) (hx : PassesAt CX X σ (E σ))
    (I : Inv X pins σ H s) (r : Vals vs us) (h : sp vs H Q (E σ)) : wpAny (model X.prog X.w) X.A (call (.ref f) us) (EP X pins σ Q) X.xe s := by
  have hl : (us ++ []).length = ps.length := by rw [List.append_nil, ← r.length]; exact F.len _ _ _ _ h
  have hz := hb s us I.kIn hl
  rw [List.append_nil] at hz
  refine wpAny_call (codeAny_mono (F.run X.A hq hr X.stack s H I.env0 ⟨us, []⟩ us vs hz r Q (E σ) h) fun res s' hres => ?_)
  rcases res with e | fl
  · exact hx pins H s e s' I hres
  · cases fl with
    | ret u => exact I.after hres
    | next => exact hres.elim
    | brk => exact hres.elim
    | cont => exact hres.elim
theorem pe_callQ (F : FnQ g X.prog X.w X.K X.mg X.base CX k f fd ps sp) (hq : g = true → Quiet X.A) (hr : Room k X.A) (hg : Gl X x) (hm : X.mg x = some (.ref f)) (hk : PySem.W.keepIn X.K (.ref f) = true) (hb : Binds X.K fd ps []) (hx : ∀ σ, PassesAt CX X σ (E σ))
    (ha : PA X (e :: es) t) (hdb : (x == ("__debug__" : Str)) = false := by decide) (he : starEach (e :: es) X.env = (false, eval e X.env) :: starEach es X.env := by rfl) (hpl : (backTo pos (starEach es X.env)).any (·.1) = false := by rfl) :
    PE X (.Call (.Name x p) (e :: es) [] pos) (tCallS sp E t) :=
  ⟨fun pins s σ H Q I h => wpAny_Call_Name_kw (ld_glob I hg hm (PySem.W.callWith_K (h₀ := X.base) I.ok.mod.kin hk (thn (ha.run pos pins s σ H _ I h) fun us s1 hs => by
    obtain ⟨vs, H1, I1, r, q⟩ := hs
    exact ⟨I1.kIn, run_fnQ F hq hr hb (hx σ) I1 r q⟩) he hpl) hdb)⟩
end
/-- the context of a def's body is quiet where the caller is -/
theorem quiet_deeper {A : Around} (h : Quiet A) (env : Env) : Quiet (A.deeper env) := by
  unfold Quiet at h ⊢
  exact h
section
variable {P : Program} {w : World} {K : PySem.W.Frag} {mg : Str → Option Value} {base : Heap}
/-- the def at f has this code object -/
def CodeAt (K : PySem.W.Frag) (f : Addr) (cdv : Value) : Prop := ∃ oc od fd osl, K.lookup f = some (⟨oc, od, .func fd, osl⟩ : Obj) ∧ fd.code = cdv
theorem fnQ_of {CX : CXT} {g : Bool} {N ps : List Str} {k : Nat} {sp : Sp} {x qual : Str} {params : Arguments} {body : List Stmt} {scope : Scope} {dvs : List V} {kws : List (Str × V)} {f : Addr} {fd : FuncData} (F : FunD K x qual params body scope dvs kws f fd) (S : FnScope N ps scope)
    (len : ∀ vs H Q E, sp vs H Q E → vs.length = ps.length)
    (hbody : ∀ (cdv : Value) (A : Around) (outer : List Env) (s : Shared) (H : Hp) (vs : List V) (Q : VK) (E : XK), CodeAt K f cdv → (g = true → Quiet (A.deeper (envOfC qual scope s.heap.objs.size f cdv))) → Room k (A.deeper (envOfC qual scope s.heap.objs.size f cdv)) → sp vs H Q E →
      ∃ t, PSs (cxOf CX P w K mg base N qual scope f cdv A outer s H E) body t ∧ t { nx := fun _ H' => Q .non H', rt := Q } (L2.start N vs) H) :
    FnQ g P w K mg base CX (k + 1) f fd ps sp := by
  obtain ⟨oc, od, dV, kV, doc, pm, an, cdv, ct, osl, rfl, lk, hcd, _, _⟩ := F.ex
  refine ⟨len, fun A hq hr outer s H e0 args us vs hb r Q E hsp => ?_⟩
  have KX : K.In s.heap := e0.mod.kin.keeps fun b o e => (e0.bs b o e).1
  have lim : s.heap.NoLimit := e0.mod.nolimit.keeps fun b o e => (e0.bs b o e).1
  have hkind : ∀ y ∈ ps.zip us, scope.names.lookup y.1 = some .local ∨ (scope.names.lookup y.1 = some .cell ∧ ((cellsFrom (s.heap.objs.size + 1) scope.names []).lookup y.1).isSome = true) := fun y hy => by
    obtain ⟨n, v⟩ := y
    exact (S.par n (List.of_mem_zip hy).1).imp id fun q => ⟨q, PySem.W.cellsFrom_some _ _ _ (.inl q)⟩
  refine codeAny_call_function hr.depth (KX _ _ lk) rfl S.co S.gen rfl (PySem.W.codeRec_of KX hcd) (hb _ _ _ _ (wpAny_newFunctionEnv_cells S.kind hkind fun env he s1 x => ?_))
  subst he
  refine ⟨lim.keeps x.toInCall.keep, codeAny_func ?_⟩
  obtain ⟨t, ht, hq'⟩ := hbody cdv A outer s H vs Q E ⟨_, _, _, _, lk, rfl⟩ (fun z => quiet_deeper (hq z) _) (hr.deeper _) hsp
  have I := inv_start (CX := CX) (E := E) (cd := cdv) (f := f) (qual := qual) S hr.hd e0 (len _ _ _ _ hsp) r x
  refine wpAny_mono (ht.run [] s1 (L2.start N vs) H _ I hq') (fun fl s' hs => ?_) fun e s' hs => hs
  match fl, hs with
  | .ret u, ⟨v, σ', H', J, rv, q⟩ => exact ⟨v, H', J.os, J.bare, J.base, J.hok, rv, q⟩
  | .next, ⟨σ', H', J, q⟩ => exact ⟨V.non, H', J.os, J.bare, J.base, J.hok, rfl, q⟩
  | .brk, ⟨_, _, _, q⟩ => exact q.elim
  | .cont, ⟨_, _, _, q⟩ => exact q.elim
end

/-! ### the law's own call -/
theorem law_callG {P : Program} {w : World} {K : PySem.W.Frag} {mg mb : Str → Option Value} {CX : CXT} {k : Nat} {fa a : Addr} {fd : FuncData} {x : Str} {sp : Sp} {s₁ : Shared} {vs : List Value} {ns : List Int}
    (KX : K.In s₁.heap) (hns : s₁.heap.Ns mainGlobals mg) (hb : s₁.heap.Ns builtinsNs mb) (hbb : ∀ x : Str, x ≠ "__name__" → mb x = bootBuiltins x) (hlim : s₁.heap.NoLimit) (hg : s₁.gens = #[])
    (ha : s₁.heap.get? a = some { cls := .type "list", data := .seq vs.toArray }) (hi : IntsAre vs ns) (hl : ns.length ≤ sizeLine) (hr : Room k callerA)
    (F : ∀ base : Heap, K.In base → base.Ns mainGlobals mg → FnQ true P w K mg base CX k fa fd [x] sp) (hbind : ∀ (s : Shared) (u : Value), BindsTo s fd ⟨[u], []⟩ [(x, u)])
    (hsp : ∀ H : Hp, Only H → SqL K H a (ns.map V.int) → sp [.ref a] H (fun v _ => v = .bl true) fun _ _ _ => False)
    (hCX : ∀ H e s', CX [] H s₁ (fun _ _ _ => False) e s' → False) :
    codeAny (model P w) callerA (.call (.ref fa) ⟨[.ref a], []⟩) (fun r s' => r = .ok (.ret (.bool true)) ∧ OldK s₁.heap s'.heap ∧ s'.os = s₁.os ∧ AllBare s'.gens) s₁ := by
  have rv := vals_ints hi
  have lenV := hi.length
  let so : Obj := { cls := .type "list", data := .seq vs.toArray }
  -- the abstract heap: the script alone, or nothing where the script is of the module
  obtain ⟨H, hO, hS, hok, hA, hK⟩ : ∃ H : Hp, Only H ∧ SqL K H a (ns.map V.int) ∧ HOk P w H s₁.heap ∧ (∀ b, H b ≠ none → b = a) ∧ (H a ≠ none → K.lookup a = none) := by
    cases hk : K.lookup a with
    | some o =>
      have e := KX a o hk
      rw [ha] at e
      cases e
      exact ⟨fun _ => none, fun _ => .inl rfl, .inr ⟨_, vs.toArray, _, hk, rfl, rfl, rfl, by rw [List.size_toArray, lenV]; exact hl, by simpa using rv⟩, fun b u z => (nomatch (show (none : Option HO) = some u from z)), fun b z => absurd rfl z, fun z => absurd rfl z⟩
    | none =>
      refine ⟨fun b => if b = a then some (.frz so (.lst (ns.map V.int))) else none, fun b => ?_, .inl (.inr ⟨so, if_pos rfl⟩), fun b u z => ?_, fun b z => ?_, fun _ => rfl⟩
      · by_cases h : b = a
        · exact .inr ⟨_, _, if_pos h⟩
        · exact .inl (if_neg h)
      · by_cases h : b = a
        · subst h
          have z' := (if_pos rfl).symm.trans z
          cases z'
          exact ⟨ha, by rw [List.length_map]; exact hl, vs, _, rv, ha⟩
        · exact absurd ((if_neg h).symm.trans z) (by simp)
      · by_cases h : b = a
        · exact h
        · exact absurd (if_neg h) z
  have other : ∀ {b : Addr} {o : Obj}, s₁.heap.get? b = some o → (b = a → False) → H b = none := fun {b o} e d => by
    cases q : H b with
    | none => rfl
    | some u => exact (d (hA b (by rw [q]; simp))).elim
  have nsK : ∀ {b : Addr} {m : Str → Option Value}, s₁.heap.Ns b m → (hidT s₁.heap H).Ns b m := fun {b m} hn => by
    obtain ⟨o, es, ep, e, d, r⟩ := hn
    refine ⟨o, es, ep, hidT_get e (other e fun z => ?_), d, r⟩
    subst z
    rw [ha] at e
    cases e
    cases (show Data.seq vs.toArray _ = Data.dict es ep from d)
  have hKb : K.In (hidT s₁.heap H) := fun b o e => by
    refine hidT_get (KX b o e) ?_
    cases q : H b with
    | none => rfl
    | some u =>
      have e' : b = a := hA b (by rw [q]; simp)
      subst e'
      rw [hK (by rw [q]; simp)] at e
      cases e
  have hlim' : (hidT s₁.heap H).NoLimit := by
    obtain ⟨mc, h1, h2⟩ := hlim
    exact ⟨mc, nsK h1, h2⟩
  have e0 : Env0 P w K mg (hidT s₁.heap H) callerA [] s₁ H := ⟨rfl, ⟨hKb, nsK hns, ⟨mb, nsK hb, hbb⟩, hlim'⟩, fun b o e => of_hidT e, Nat.le_of_eq (hidT_size _ _), trivial, fun b hb => absurd (show b ∈ ([] : List Addr) from hb) (by simp), hok, .of_eq hg⟩
  refine codeAny_mono ((F _ hKb (nsK hns)).run callerA (fun _ => rfl) hr [] s₁ H e0 ⟨[.ref a], []⟩ [.ref a] [.ref a] (hbind s₁ (.ref a)) (.cons rfl .nil) _ _ (hsp H hO hS)) fun r s' h => ?_
  match r, h with
  | .error e, h => exact (hCX H e s' h).elim
  | .ok (.ret u), ⟨v, H', os, bare, un, hok', r', q⟩ =>
    have q' : v = .bl true := q
    subst q'
    obtain rfl : u = Value.bool true := r'
    refine ⟨rfl, OldK.of_keep fun b o e => ?_, os, bare⟩
    rcases hO b with z | ⟨ob, xs, z⟩
    · exact un.keep b o e z (by intro z; exact absurd (show b ∈ ([] : List Addr) from z) (by simp)) (by simp)
    · obtain ⟨e1, _⟩ := hok b _ z
      obtain ⟨e2, _⟩ := hok' b _ (un.frzs b ob _ z)
      rw [e] at e1
      cases e1
      exact e2
  | .ok .next, h => exact h.elim
  | .ok .brk, h => exact h.elim
  | .ok .cont, h => exact h.elim
theorem walk_ofG {l : PySem.W.OpenLaw} {n k : Nat} {q : Program} {loose : List Str} {XP : (Str → Option Value) → Heap → Prop} {YP : World → Heap → Prop} {d : DefRec} {CX : CXT} {x : Str}
    (hn : l.most = some n) (hn2 : n ≤ sizeLine) (hdf : d.params.defaults = []) (hr : Room k callerA)
    (F : ∀ (w : World) (mg : Str → Option Value) (fa : Addr) (h : Heap), YP w h → h.Ns mainGlobals mg → mg d.name = some (.ref fa) →
      ∃ (K : PySem.W.Frag) (fd : FuncData) (sp : Sp), K.In h ∧ (∀ (s : Shared) (u : Value), BindsTo s fd ⟨[u], []⟩ [(x, u)]) ∧
        (∀ (H : Hp) (a : Addr) (ns : List Int), ns.length ≤ n → Only H → SqL K H a (ns.map V.int) → sp [.ref a] H (fun v _ => v = .bl true) fun _ _ _ => False) ∧
        ∀ base : Heap, K.In base → base.Ns mainGlobals mg → FnQ true l.prog w K mg base CX k fa fd [x] sp)
    (hCX : ∀ (H : Hp) (s : Shared) (e : Value) (s' : Shared), CX [] H s (fun _ _ _ => False) e s' → False) :
    PySem.W.WalkO q loose XP YP l.row.toRowW d [] (fun f vs => PySem.call f vs) :=
  Att.attach_call hn hdf fun w s₀ s₁ mg mb fa o pm cd doc a vs ns G Y ho hd hcd hmg hobj hints hlen hg => by
    obtain ⟨K, fd, sp, KX, hb, hsp, hF⟩ := F w mg fa _ Y G.T.g hmg
    exact law_callG KX G.T.g G.T.b G.T.builtins G.T.nolimit hg hobj hints (Nat.le_trans hlen hn2) hr hF hb (fun H hO hS => hsp H a ns hlen hO hS) fun H e s' => hCX H s₁ e s'
end DL
end

section
set_option Elab.async false
set_option linter.all false
set_option maxRecDepth 100000
/-! DL6: defs: promises over data, calls. -/
namespace DL
open PySem PySem.Spec PyProof.Rows L2
/-! ### fewer things that change, lists that stay as they are from now on -/
mutual
inductive Frz (M M2 : DHp) : D → D → Prop
  | refl (d : D) : Frz M M2 d d
  | lst {p : Addr} {ds es : List D} : M p = some (.lst ds) → M2 p = none → FrzL M M2 ds es → Frz M M2 (.ref p) (.lst es)
  | tup {ds es : List D} : FrzL M M2 ds es → Frz M M2 (.tup ds) (.tup es)
  | lstl {ds es : List D} : FrzL M M2 ds es → Frz M M2 (.lst ds) (.lst es)
  | xtp {ds es : List D} : FrzL M M2 ds es → Frz M M2 (.xtp ds) (.tup es)
inductive FrzL (M M2 : DHp) : List D → List D → Prop
  | nil : FrzL M M2 [] []
  | cons {d e : D} {ds es : List D} : Frz M M2 d e → FrzL M M2 ds es → FrzL M M2 (d :: ds) (e :: es)
end
theorem FrzL.refl {M M2 : DHp} : ∀ ds : List D, FrzL M M2 ds ds
  | [] => .nil
  | d :: ds => .cons (.refl d) (FrzL.refl ds)
section
variable {K : PySem.W.Frag} {M M2 : DHp} {H : Hp}
mutual
theorem Rep.frzTo (s : Sub M2 M) (m : RepM K H M) : ∀ {v : V} {d e : D}, Frz M M2 d e → Rep K H M v d → Rep K H M2 v e
  | _, _, _, .refl _, r => r.sub s
  | _, _, _, .lst h n l, r => by
    rw [r.refI]
    obtain ⟨xs, e, q⟩ := m.lst h
    exact .lst e n (RepL.frzTo s m l q)
  | _, _, _, .tup l, .tup f r => .tup (f.sub s) (RepL.frzTo s m l r)
  | _, _, _, .lstl l, .lst f n r => .lst f (s.none n) (RepL.frzTo s m l r)
  | _, _, _, .xtp l, .xtp f e n r => .tup (.inl ⟨.inr ⟨_, f⟩, s.none n⟩) (RepL.frzTo s m l r)
theorem RepL.frzTo (s : Sub M2 M) (m : RepM K H M) : ∀ {vs : List V} {ds es : List D}, FrzL M M2 ds es → RepL K H M vs ds → RepL K H M2 vs es
  | _, _, _, .nil, .nil => .nil
  | _, _, _, .cons h t, .cons r q => .cons (Rep.frzTo s m h r) (RepL.frzTo s m t q)
end
end
theorem XRep.sub {K : PySem.W.Frag} {M M' : DHp} {H : Hp} {pd : Option Addr} {gs : List (Str × D)} (s : Sub M' M) (r : XRep K H M pd gs) : XRep K H M' pd gs := by
  rcases r with r | ⟨d, fs, e, h, n, f⟩
  · exact .inl r
  · exact .inr ⟨d, fs, e, h, s.none n, f.sub s⟩
/-- what is busy stays so -/
def KeepB (M0 M2 : DHp) : Prop := ∀ a, M0 a = some .busy → M2 a = some .busy
/-- what a def hands back: some of what changes is left behind -/
def Back (M0 : DHp) (Q : DVK) : DVK := fun d M' => ∃ e M2, Sub M2 M' ∧ KeepB M0 M2 ∧ Frz M' M2 d e ∧ Q e M2
def BackX (M0 : DHp) (E : DXK) : DXK := fun c gs M' => ∃ M2, Sub M2 M' ∧ KeepB M0 M2 ∧ E c gs M2
def OkX (K : PySem.W.Frag) (M : DHp) (H : Hp) (E : DXK) (E0 : XK) : Prop := ∀ c pd H' gs M', Ext M H M' H' → RepM K H' M' → XRep K H' M' pd gs → E c gs M' → E0 c pd H'
theorem OkX.ext {K : PySem.W.Frag} {M M' : DHp} {H H' : Hp} {E : DXK} {E0 : XK} (x : Ext M H M' H') (h : OkX K M H E E0) : OkX K M' H' E E0 := fun c pd H2 gs M2 y => h c pd H2 gs M2 (x.trans y)
theorem OkV.back {K : PySem.W.Frag} {M : DHp} {H : Hp} {Q : DVK} {Q0 : VK} (k : OkV K M H Q Q0) : OkV K M H (Back M Q) Q0 := fun v H' d M' x m r ⟨e, M2, s, b, f, q⟩ =>
  k v H' e M2 (x.sub s b) (m.sub s) (r.frzTo s m f) q
theorem OkX.back {K : PySem.W.Frag} {M : DHp} {H : Hp} {E : DXK} {E0 : XK} (k : OkX K M H E E0) : OkX K M H (BackX M E) E0 := fun c pd H' gs M' x m r ⟨M2, s, b, q⟩ =>
  k c pd H' gs M2 (x.sub s b) (m.sub s) (r.sub s) q
/-- a promise over data as one of the hand layer -/
def lfSp (K : PySem.W.Frag) (p : DSp) : Sp := fun vs H Q0 E0 => ∃ ds M Q E, RepL K H M vs ds ∧ RepM K H M ∧ p ds M Q E ∧ OkV K M H Q Q0 ∧ OkX K M H E E0
/-- a def that may be called by its name; g: from where nothing is being shown alone -/
structure Cal (g : Bool) (P : Program) (w : World) (K : PySem.W.Frag) (mg : Str → Option Value) (base : Heap) (k : Nat) (x : Str) (p : DSp) : Prop where
  ex : ∃ (f : Addr) (fd : FuncData) (ps : List Str), FnQ g P w K mg base (L2.CX P w) k f fd ps (lfSp K p) ∧ mg x = some (.ref f) ∧ PySem.W.keepIn K (.ref f) = true ∧ Binds K fd ps []
def dCall (p : DSp) (ta : DTA) : DTE := fun δ M Q W => ta δ M (fun ds M1 => p ds M1 Q (fun c gs M' => W c gs δ M')) W
section
variable {X : Cx} {W0 : WX} {g : Bool} {k : Nat} {x : Str} {p : DSp} {ta : DTA} {e : Expr} {es : List Expr} {np pos : Pos}
theorem OkW.toX {K : PySem.W.Frag} {M : DHp} {H : Hp} {W : DW} {W0 : WX} {σ : L2.St} {δ : DSt} (w : OkW K M H W W0) (s : RepS K H M σ δ) : OkX K M H (fun c gs M' => W c gs δ M') (WE W0 σ) := fun c pd H' gs M' x m r q => w c pd σ H' gs δ M' x (s.ext x) m r q
theorem de_call (c : Cal g X.prog X.w X.K X.mg X.base k x p) (hr : Room k X.A) (tk : Takes X W0) (ha : DA X W0 (e :: es) ta) (hg : Gl X x := by rfl) (hq : g = true → Quiet X.A := by first | exact (fun z => nomatch z) | assumption)
    (hdb : (x == ("__debug__" : Str)) = false := by decide) (he : starEach (e :: es) X.env = (false, eval e X.env) :: starEach es X.env := by rfl) (hpl : (backTo pos (starEach es X.env)).any (·.1) = false := by rfl) :
    DE X W0 (.Call (.Name x np) (e :: es) [] pos) (dCall p ta) := by
  obtain ⟨f, fd, ps, F, hm, hk, hb⟩ := c.ex
  exact .mk' (pe_callQ F hq hr hg hm hk hb (fun σ => passAt tk σ) ha.pa hdb he hpl) fun σ H Q0 δ M Q W a q k w =>
    lfA.use a q (fun vs H1 ds M1 x m1 r1 q1 => ⟨ds, M1, _, _, r1, m1, q1, k.ext x, (w.ext x).toX (a.s.ext x)⟩) w
end
/-! ### a def keeps its promise -/
def startD (n : Nat) (ds : List D) : DSt := ds.map some ++ List.replicate (n - ds.length) none
theorem repS_start {K : PySem.W.Frag} {M : DHp} {H : Hp} {N : List Str} {vs : List V} {ds : List D} (r : RepL K H M vs ds) : RepS K H M (L2.start N vs) (startD N.length ds) := by
  refine ⟨by unfold L2.start startD; simp [r.length], fun i d e => ?_⟩
  unfold startD at e
  unfold L2.start
  by_cases h : i < ds.length
  · rw [List.getElem?_append_left (by simpa using h), List.getElem?_map] at e
    cases e2 : ds[i]? with
    | none => rw [e2] at e; cases e
    | some d' =>
      rw [e2] at e
      cases e
      obtain ⟨v, h1, h2⟩ := r.get e2
      refine ⟨v, ?_, h2⟩
      rw [List.getElem?_append_left (by rw [List.length_map, r.length]; exact h), List.getElem?_map, h1]
      rfl
  · rw [List.getElem?_append_right (by simpa using h)] at e
    rw [List.getElem?_replicate] at e
    split at e
    · cases e
    · cases e
/-- what a def's body has to answer -/
def Body (n m : Nat) (p : DSp) (t : DTS) : Prop := ∀ ds M Q E, p ds M Q E → ds.length = m ∧ t { nx := fun _ M' => Back M Q .non M', rt := Back M Q } (startD n ds) M (fun c gs _ M' => BackX M E c gs M')
section
variable {P : Program} {w : World} {K : PySem.W.Frag} {mg : Str → Option Value} {base : Heap}
theorem cal_of {g : Bool} {N ps : List Str} {k : Nat} {p : DSp} {t : DTS} {x : Str} {params : Arguments} {body : List Stmt} {scope : Scope} {f : Addr} {fd : FuncData} (F : FunD K x x params body scope [] [] f fd) (S : FnScope N ps scope) (hm : mg x = some (.ref f))
    (hb : ∀ (kV doc pm : Value) (an : Option Addr) (cdv ct : Value) (us : List Value), us.length = ps.length → bindArgs (PySem.W.fnOf x x params body scope .none kV doc pm an cdv ct) ⟨us, []⟩ = pure (ps.zip us))
    (ht : ∀ (cdv : Value) (A : Around) (outer : List Env) (s : Shared) (H : Hp) (E : XK), CodeAt K f cdv → Room k (cxOf (L2.CX P w) P w K mg base N x scope f cdv A outer s H E).A → (g = true → Quiet (cxOf (L2.CX P w) P w K mg base N x scope f cdv A outer s H E).A) →
      Takes (cxOf (L2.CX P w) P w K mg base N x scope f cdv A outer s H E) (fun c d _ H => E c d H) → DSs (cxOf (L2.CX P w) P w K mg base N x scope f cdv A outer s H E) (fun c d _ H => E c d H) body t)
    (hp : Body N.length ps.length p t) : Cal g P w K mg base (k + 1) x p := by
  refine ⟨f, fd, ps, fnQ_of F S (fun vs H Q0 E0 h => ?_) (fun cdv A outer s H vs Q0 E0 hca hq hr h => ?_), hm, F.kp, F.bindsN hb⟩
  · obtain ⟨ds, M, Q, E, r, m, q, _, _⟩ := h
    rw [r.length]
    exact (hp ds M Q E q).1
  · obtain ⟨ds, M, Q, E, r, m, q, k1, k2⟩ := h
    refine ⟨_, (ht cdv A outer s H E0 hca hr hq (takes_of rfl rfl rfl rfl)).pss, ?_⟩
    refine lfS.use ⟨repS_start r, m⟩ (hp ds M Q E q).2 ⟨fun σ' H' δ' M' x a q => k1.back _ H' _ M' x a.m .non q, k1.back, fun _ _ _ _ _ _ z => z.elim, fun _ _ _ _ _ _ z => z.elim⟩ ?_
    intro c pd σ' H' gs δ' M' x s m r q
    exact k2.back c pd H' gs M' x m r q
end
end DL
end

section
set_option Elab.async false
set_option linter.all false
set_option maxRecDepth 100000
/-! DL7: built-in calls, methods, what is walked. -/
namespace DL
open PySem PySem.Spec PyProof.Rows L2
/-! ### a call of a built-in function or type -/
def dCB (dr : DRs) (ta : DTA) : DTE := fun δ M Q W => ta δ M (fun ds M1 => dr ds M1 Q) W
def DCall (X : Cx) (v : Value) (dr : DRs) : Prop := ∃ r, CallR X v r ∧ LRs X.K r dr
section
variable {X : Cx} {W0 : WX} {x : Str} {id T : String} {dr : DRs} {ta : DTA} {e : Expr} {es : List Expr} {np pos : Pos}
theorem de_callB (hc : DCall X (.builtin id) dr) (ha : DA X W0 (e :: es) ta) (hm : X.mg x = none) (hv : bootBuiltins x = some (.builtin id)) (hg : Gl X x := by rfl) (hn : x ≠ "__name__" := by decide) (hdb : (x == ("__debug__" : Str)) = false := by decide)
    (he : starEach (e :: es) X.env = (false, eval e X.env) :: starEach es X.env := by rfl) (hpl : (backTo pos (starEach es X.env)).any (·.1) = false := by rfl) : DE X W0 (.Call (.Name x np) (e :: es) [] pos) (dCB dr ta) := by
  obtain ⟨r, hc, l⟩ := hc
  exact .mk' (pe_callB hc hg hm hv ha.pa hn hdb he hpl) fun σ H Q0 δ M Q W a q k w => lfA.use a q (fun vs H1 ds M1 x m1 r1 q1 => l H1 M1 vs ds _ _ m1 r1 q1 (k.ext x)) w
theorem de_callT (hc : DCall X (.type T) dr) (ha : DA X W0 (e :: es) ta) (hm : X.mg x = none) (hv : bootBuiltins x = some (.type T)) (hg : Gl X x := by rfl) (hn : x ≠ "__name__" := by decide) (hdb : (x == ("__debug__" : Str)) = false := by decide)
    (he : starEach (e :: es) X.env = (false, eval e X.env) :: starEach es X.env := by rfl) (hpl : (backTo pos (starEach es X.env)).any (·.1) = false := by rfl) : DE X W0 (.Call (.Name x np) (e :: es) [] pos) (dCB dr ta) := by
  obtain ⟨r, hc, l⟩ := hc
  exact .mk' (pe_callTy hc hg hm hv ha.pa hn hdb he hpl) fun σ H Q0 δ M Q W a q k w => lfA.use a q (fun vs H1 ds M1 x m1 r1 q1 => l H1 M1 vs ds _ _ m1 r1 q1 (k.ext x)) w
end
theorem RepL.one {K : PySem.W.Frag} {H : Hp} {M : DHp} {vs : List V} {d : D} (r : RepL K H M vs [d]) : ∃ v, vs = [v] ∧ Rep K H M v d := by
  cases r with | cons r t => cases t; exact ⟨_, rfl, r⟩
theorem RepL.two {K : PySem.W.Frag} {H : Hp} {M : DHp} {vs : List V} {d e : D} (r : RepL K H M vs [d, e]) : ∃ v w, vs = [v, w] ∧ Rep K H M v d ∧ Rep K H M w e := by
  cases r with | cons r t => cases t with | cons s t => cases t; exact ⟨_, _, rfl, r, s⟩
theorem RepL.ints {K : PySem.W.Frag} {H : Hp} {M : DHp} : ∀ {vs : List V} {ns : List Int}, RepL K H M vs (ns.map D.int) → vs = ns.map V.int
  | _, [], .nil => rfl
  | _, n :: ns, .cons r t => by rw [r.intI, RepL.ints t]; rfl
theorem RepL.strs {K : PySem.W.Frag} {H : Hp} {M : DHp} : ∀ {vs : List V} {ns : List Str}, RepL K H M vs (ns.map D.str) → vs = ns.map V.str
  | _, [], .nil => rfl
  | _, n :: ns, .cons r t => by rw [r.strI, RepL.strs t]; rfl
theorem RepL.ofInts {K : PySem.W.Frag} {H : Hp} {M : DHp} : ∀ ns : List Int, RepL K H M (ns.map V.int) (ns.map D.int)
  | [] => .nil
  | n :: ns => .cons (.int n) (RepL.ofInts ns)
theorem RepL.ofStrs {K : PySem.W.Frag} {H : Hp} {M : DHp} : ∀ ns : List Str, RepL K H M (ns.map V.str) (ns.map D.str)
  | [] => .nil
  | n :: ns => .cons (.str n) (RepL.ofStrs ns)
/-! ### the functions -/
def rLenD : DRs := fun ds M Q => match ds with
  | [.str z] => z.length ≤ sizeLine ∧ Q (.int z.length) M
  | [x] => ∃ xs, seqOf M x = some xs ∧ Q (.int xs.length) M
  | _ => False
def rAbsD : DRs := fun ds M Q => match ds with
  | [.int i] => Q (.int (if i < 0 then -i else i)) M
  | _ => False
def rIntD : DRs := fun ds M Q => match ds with
  | [.int i] => Q (.int i) M
  | [.bl b] => Q (.int (if b then 1 else 0)) M
  | _ => False
def rSumD : DRs := fun ds M Q => match ds with
  | [x] => ∃ ns : List Int, seqOf M x = some (ns.map D.int) ∧ Q (.int ns.sum) M
  | _ => False
/-- the greatest of ints -/
def maxI (n : Int) (ns : List Int) : Int := ns.foldl (fun a b => if b > a then b else a) n
def minI (n : Int) (ns : List Int) : Int := ns.foldl (fun a b => if b < a then b else a) n
theorem maxI_ge (ns : List Int) : ∀ n, n ≤ maxI n ns := by
  induction ns with
  | nil => intro n; exact Int.le_refl _
  | cons m ns ih =>
    intro n
    show n ≤ maxI (if m > n then m else n) ns
    have := ih (if m > n then m else n)
    split at this <;> split <;> omega
theorem maxI_all (ns : List Int) : ∀ n, ∀ y ∈ ns, y ≤ maxI n ns := by
  induction ns with
  | nil => intro n y h; cases h
  | cons m ns ih =>
    intro n y h
    show y ≤ maxI (if m > n then m else n) ns
    rcases List.mem_cons.mp h with e | h
    · have := maxI_ge ns (if m > n then m else n)
      rw [e]
      split at this <;> split <;> omega
    · exact ih _ y h
theorem maxI_mem (ns : List Int) : ∀ n, maxI n ns ∈ n :: ns := by
  induction ns with
  | nil => intro n; exact List.mem_cons_self
  | cons m ns ih =>
    intro n
    show maxI (if m > n then m else n) ns ∈ _
    rcases List.mem_cons.mp (ih (if m > n then m else n)) with e | h
    · rw [e]
      split
      · exact List.mem_cons_of_mem _ List.mem_cons_self
      · exact List.mem_cons_self
    · exact List.mem_cons_of_mem _ (List.mem_cons_of_mem _ h)
theorem minI_le (ns : List Int) : ∀ n, minI n ns ≤ n := by
  induction ns with
  | nil => intro n; exact Int.le_refl _
  | cons m ns ih =>
    intro n
    show minI (if m < n then m else n) ns ≤ n
    have := ih (if m < n then m else n)
    split at this <;> split <;> omega
theorem minI_all (ns : List Int) : ∀ n, ∀ y ∈ ns, minI n ns ≤ y := by
  induction ns with
  | nil => intro n y h; cases h
  | cons m ns ih =>
    intro n y h
    show minI (if m < n then m else n) ns ≤ y
    rcases List.mem_cons.mp h with e | h
    · have := minI_le ns (if m < n then m else n)
      rw [e]
      split at this <;> split <;> omega
    · exact ih _ y h
theorem minI_mem (ns : List Int) : ∀ n, minI n ns ∈ n :: ns := by
  induction ns with
  | nil => intro n; exact List.mem_cons_self
  | cons m ns ih =>
    intro n
    show minI (if m < n then m else n) ns ∈ _
    rcases List.mem_cons.mp (ih (if m < n then m else n)) with e | h
    · rw [e]
      split
      · exact List.mem_cons_of_mem _ List.mem_cons_self
      · exact List.mem_cons_self
    · exact List.mem_cons_of_mem _ (List.mem_cons_of_mem _ h)
theorem maxI_uniq {n m : Int} {ns : List Int} (h : m ∈ n :: ns) (g : ∀ y ∈ n :: ns, y ≤ m) : m = maxI n ns := by
  have h1 := g _ (maxI_mem ns n)
  rcases List.mem_cons.mp h with e | h
  · have := maxI_ge ns n; omega
  · have := maxI_all ns n m h; omega
theorem minI_uniq {n m : Int} {ns : List Int} (h : m ∈ n :: ns) (g : ∀ y ∈ n :: ns, m ≤ y) : m = minI n ns := by
  have h1 := g _ (minI_mem ns n)
  rcases List.mem_cons.mp h with e | h
  · have := minI_le ns n; omega
  · have := minI_all ns n m h; omega
def rMaxD : DRs := fun ds M Q => match ds with
  | [.int i, .int j] => Q (.int (if j > i then j else i)) M
  | [x] => ∃ (n : Int) (ns : List Int), seqOf M x = some ((n :: ns).map D.int) ∧ Q (.int (maxI n ns)) M
  | _ => False
def rMinD : DRs := fun ds M Q => match ds with
  | [.int i, .int j] => Q (.int (if j < i then j else i)) M
  | [x] => ∃ (n : Int) (ns : List Int), seqOf M x = some ((n :: ns).map D.int) ∧ Q (.int (minI n ns)) M
  | _ => False
def rListD : DRs := fun ds M Q => match ds with
  | [x] => ∃ xs, seqOf M x = some xs ∧ ∀ p, M p = none → Q (.ref p) (updD M p (.lst xs))
  | _ => False
/-- tuple(x): as a tuple, or as one on which no dict hangs -/
def rTupD : DRs := fun ds M Q => match ds with
  | [.tup xs] => Q (.tup xs) M
  | [.xtp xs] => Q (.xtp xs) M
  | [.rol xs] => Q (.tup xs) M ∨ Q (.xtp xs) M
  | [x] => ∃ xs, lstOf M x = some xs ∧ (Q (.tup xs) M ∨ Q (.xtp xs) M)
  | _ => False
/-! ### sorted -/
def insI (n : Int) : List Int → List Int
  | [] => [n]
  | m :: ms => if n ≤ m then n :: m :: ms else m :: insI n ms
def isort : List Int → List Int
  | [] => []
  | n :: ns => insI n (isort ns)
theorem insI_perm (n : Int) : ∀ ms, (insI n ms).Perm (n :: ms)
  | [] => .refl _
  | m :: ms => by
    unfold insI
    split
    · exact .refl _
    · exact ((insI_perm n ms).cons m).trans (.swap n m ms)
theorem isort_perm : ∀ ns, (isort ns).Perm ns
  | [] => .refl _
  | n :: ns => (insI_perm n _).trans ((isort_perm ns).cons n)
theorem insI_sorted (n : Int) : ∀ ms : List Int, ms.Pairwise (· ≤ ·) → (insI n ms).Pairwise (· ≤ ·)
  | [], _ => List.pairwise_singleton ..
  | m :: ms, h => by
    unfold insI
    obtain ⟨h1, h2⟩ := List.pairwise_cons.mp h
    split
    · rename_i hn
      refine List.pairwise_cons.mpr ⟨fun y hy => ?_, h⟩
      rcases List.mem_cons.mp hy with e | hy
      · omega
      · have := h1 y hy; omega
    · rename_i hn
      refine List.pairwise_cons.mpr ⟨fun y hy => ?_, insI_sorted n ms h2⟩
      rcases List.mem_cons.mp ((insI_perm n ms).mem_iff.mp hy) with e | hy
      · omega
      · exact h1 y hy
theorem isort_sorted : ∀ ns, (isort ns).Pairwise (· ≤ ·)
  | [] => .nil
  | n :: ns => insI_sorted n _ (isort_sorted ns)
theorem sorted_uniq : ∀ {xs ys : List Int}, xs.Perm ys → xs.Pairwise (· ≤ ·) → ys.Pairwise (· ≤ ·) → xs = ys
  | [], ys, p, _, _ => (List.nil_perm.mp p).symm
  | x :: xs, [], p, _, _ => by have := p.length_eq; simp at this
  | x :: xs, y :: ys, p, h, g => by
    obtain ⟨h1, h2⟩ := List.pairwise_cons.mp h
    obtain ⟨g1, g2⟩ := List.pairwise_cons.mp g
    have a : x ≤ y := by
      rcases List.mem_cons.mp (p.mem_iff.mpr List.mem_cons_self) with e | e
      · omega
      · exact h1 y e
    have b : y ≤ x := by
      rcases List.mem_cons.mp (p.mem_iff.mp List.mem_cons_self) with e | e
      · omega
      · exact g1 x e
    have e : x = y := by omega
    subst e
    rw [sorted_uniq p.cons_inv h2 g2]
theorem isort_uniq {xs ys : List Int} (p : xs.Perm ys) (h : xs.Pairwise (· ≤ ·)) : xs = isort ys := sorted_uniq (p.trans (isort_perm ys).symm) h (isort_sorted ys)
def pairD (p : Int × Int) : D := .tup [.int p.1, .int p.2]
/-- x before y, or equal -/
def leP (x y : Int × Int) : Prop := x.1 < y.1 ∨ (x.1 = y.1 ∧ x.2 ≤ y.2)
def rSortD : DRs := fun ds M Q => match ds with
  | [x] => (∃ ns : List Int, seqOf M x = some (ns.map D.int) ∧ Q (.lst ((isort ns).map D.int)) M) ∨
      (∃ ps : List (Int × Int), lstOf M x = some (ps.map pairD) ∧ ∀ qs : List (Int × Int), qs.Perm ps → qs.Pairwise leP → Q (.lst (qs.map pairD)) M) ∨
      (∃ zs : List Str, lstOf M x = some (zs.map D.str) ∧ zs.length < 64 ∧ ∀ ys : List Str, ys.Perm zs → sortedS ys = true → Q (.lst (ys.map D.str)) M)
  | _ => False
/-- repr(x), x pure data -/
def rReprDD : DRs := fun ds M Q => match ds with
  | [x] => (frz M x).pure = true ∧ (frz M x).py.showable = true ∧ (frz M x).py.hasDict = false ∧ (frz M x).py.depth ≤ 60 ∧ (frz M x).py.shown.length ≤ sizeLine ∧ Q (.str (frz M x).py.shown) M
  | _ => False
section
variable {X : Cx}
theorem dc_len : DCall X (.builtin "len") rLenD := by
  refine ⟨_, CallR.or call_len_str call_len_seq, fun H M vs ds Q0 Q m r q k => ?_⟩
  unfold rLenD at q
  split at q
  · obtain ⟨v, rfl, r1⟩ := r.one
    rw [r1.strI]
    exact .inl ⟨_, rfl, q.1, k.here m (.int _) q.2⟩
  · obtain ⟨v, rfl, r1⟩ := r.one
    obtain ⟨xs, hs, q⟩ := q
    obtain ⟨a, ws, rfl, hq, l⟩ := seqOf_rep hs m r1
    refine .inr ⟨a, ws, rfl, hq, ?_⟩
    rw [l.length]
    exact k.here m (.int _) q
  · exact q.elim
theorem dc_abs : DCall X (.builtin "abs") rAbsD := by
  refine ⟨_, call_abs, fun H M vs ds Q0 Q m r q k => ?_⟩
  unfold rAbsD at q
  split at q
  · obtain ⟨v, rfl, r1⟩ := r.one
    rw [r1.intI]
    exact ⟨_, rfl, k.here m (.int _) q⟩
  · exact q.elim
theorem dc_int : DCall X (.type "int") rIntD := by
  refine ⟨_, call_int1, fun H M vs ds Q0 Q m r q k => ?_⟩
  unfold rIntD at q
  split at q
  · obtain ⟨v, rfl, r1⟩ := r.one
    rw [r1.intI]
    exact .inl ⟨_, rfl, k.here m (.int _) q⟩
  · obtain ⟨v, rfl, r1⟩ := r.one
    rw [r1.blI]
    exact .inr ⟨_, rfl, k.here m (.int _) q⟩
  · exact q.elim
theorem dc_sum (hc : X.calm = true) : DCall X (.builtin "sum") rSumD := by
  refine ⟨_, DM.cr_sumA hc, fun H M vs ds Q0 Q m r q k => ?_⟩
  unfold rSumD at q
  split at q
  · obtain ⟨v, rfl, r1⟩ := r.one
    obtain ⟨ns, hs, q⟩ := q
    obtain ⟨a, ws, rfl, hq, l⟩ := seqOf_rep hs m r1
    rw [l.ints] at hq
    exact ⟨a, ns, rfl, hq, k.here m (.int _) q⟩
  · exact q.elim
theorem dc_max (hc : X.calm = true) : DCall X (.builtin "max") rMaxD := by
  refine ⟨_, CallR.or (call_max2 hc) (DM.cr_maxA hc), fun H M vs ds Q0 Q m r q k => ?_⟩
  unfold rMaxD at q
  split at q
  · obtain ⟨v, w, rfl, r1, s⟩ := r.two
    rw [r1.intI, s.intI]
    exact .inl ⟨_, _, rfl, k.here m (.int _) q⟩
  · obtain ⟨v, rfl, r1⟩ := r.one
    obtain ⟨n, ns, hs, q⟩ := q
    obtain ⟨a, ws, rfl, hq, l⟩ := seqOf_rep hs m r1
    rw [l.ints] at hq
    refine .inr ⟨a, n :: ns, rfl, hq, by simp, fun x h1 h2 => ?_⟩
    rw [maxI_uniq h1 h2]
    exact k.here m (.int _) q
  · exact q.elim
theorem dc_min (hc : X.calm = true) : DCall X (.builtin "min") rMinD := by
  refine ⟨_, CallR.or (call_min2 hc) (DM.cr_minA hc), fun H M vs ds Q0 Q m r q k => ?_⟩
  unfold rMinD at q
  split at q
  · obtain ⟨v, w, rfl, r1, s⟩ := r.two
    rw [r1.intI, s.intI]
    exact .inl ⟨_, _, rfl, k.here m (.int _) q⟩
  · obtain ⟨v, rfl, r1⟩ := r.one
    obtain ⟨n, ns, hs, q⟩ := q
    obtain ⟨a, ws, rfl, hq, l⟩ := seqOf_rep hs m r1
    rw [l.ints] at hq
    refine .inr ⟨a, n :: ns, rfl, hq, by simp, fun x h1 h2 => ?_⟩
    rw [minI_uniq h1 h2]
    exact k.here m (.int _) q
  · exact q.elim
theorem dc_list : DCall X (.type "list") rListD := by
  refine ⟨_, call_list_of, fun H M vs ds Q0 Q m r q k => ?_⟩
  unfold rListD at q
  split at q
  · obtain ⟨v, rfl, r1⟩ := r.one
    obtain ⟨xs, hs, q⟩ := q
    obtain ⟨a, ws, rfl, hq, l⟩ := seqOf_rep hs m r1
    exact ⟨a, ws, rfl, hq, fun p hp => k.mut m hp l (q p (m.fresh hp))⟩
  · exact q.elim
/-- tuple(list): a tuple on which no dict hangs -/
theorem call_tuple_ofX : CallR X (.type "tuple") (fun xs H Q => ∃ p ys, xs = [.ref p] ∧ SqL X.K H p ys ∧ ∀ l o, H l = none → o.dict = none → Q (.ref l) (upd H l (.frz o (.tup ys)))) := by
  intro pins s σ H xs us Q I r h
  obtain ⟨p, ys, rfl, hq, q⟩ := h
  obtain ⟨u, rfl, rx⟩ := vals1 r
  cases rx
  obtain ⟨its, r', pl, hz⟩ := I.list hq
  have hlen := r'.length
  refine call_tuple_list pl.isList (fun h' kp => ?_) (by simp only [List.size_toArray] <;> omega)
  have I1 : Inv X pins σ H { s with heap := h' } := I.kept (t' := s.toks) kp
  have I2 : Inv X pins σ (upd H h'.objs.size (.frz { cls := .type "tuple", data := .seq its.toArray } (.tup ys))) { s with heap := h'.push { cls := .type "tuple", data := .seq its.toArray } } :=
    I1.laid (t' := s.toks) (fun b o e => Heap.get?_push_of_some _ e) (Nat.le_refl _) (show ObjOk X.prog X.w _ _ _ (.frz _ (.tup ys)) from ⟨Heap.get?_push_size _ rfl, hz, its, r', IsTup.new _ _⟩)
  exact ⟨.ref h'.objs.size, _, I2, rfl, q _ _ (I1.hok.fresh (Nat.le_refl _)) rfl⟩
theorem OkV.xtp {K : PySem.W.Frag} {M : DHp} {H : Hp} {Q : DVK} {Q0 : VK} (k : OkV K M H Q Q0) (m : RepM K H M) {p : Addr} {o : Obj} {vs : List V} {ds : List D} (hp : H p = none) (ho : o.dict = none) (r : RepL K H M vs ds) (q : Q (.xtp ds) M) : Q0 (.ref p) (upd H p (.frz o (.tup vs))) :=
  k _ _ _ M (Ext.laid m hp) (m.laid hp) (.xtp upd_same ho (m.fresh hp) (r.ext (Ext.laid m hp))) q
theorem dc_tuple : DCall X (.type "tuple") rTupD := by
  refine ⟨_, CallR.or call_tuple_ofX call_tuple_of, fun H M vs ds Q0 Q m r q k => ?_⟩
  have main : ∀ {a : Addr} {ws : List V} {xs : List D}, SqL X.K H a ws → RepL X.K H M ws xs → (Q (.tup xs) M ∨ Q (.xtp xs) M) →
      ((∃ p ys, [V.ref a] = [.ref p] ∧ SqL X.K H p ys ∧ ∀ l o, H l = none → o.dict = none → Q0 (.ref l) (upd H l (.frz o (.tup ys)))) ∨
        ∃ p ys, [V.ref a] = [.ref p] ∧ ((SqL X.K H p ys ∧ ∀ l, H l = none → Q0 (.ref l) (upd H l (.tup ys))) ∨ (SqT X.K H p ys ∧ Q0 (.ref p) H))) := fun {a ws xs} hq l q => by
    rcases q with q | q
    · exact .inr ⟨a, ws, rfl, .inl ⟨hq, fun p hp => k.tup m hp l q⟩⟩
    · exact .inl ⟨a, ws, rfl, hq, fun p o hp ho => k.xtp m hp ho l q⟩
  unfold rTupD at q
  split at q
  · obtain ⟨v, rfl, r1⟩ := r.one
    obtain ⟨a, ws, rfl, f, l⟩ := id r1.tupI
    exact .inr ⟨a, ws, rfl, .inr ⟨f.seq, k.here m r1 q⟩⟩
  · obtain ⟨v, rfl, r1⟩ := r.one
    obtain ⟨a, ws, o, rfl, f, e, n, l⟩ := id r1.xtpI
    exact .inr ⟨a, ws, rfl, .inr ⟨.inl (.inr ⟨o, f⟩), k.here m r1 q⟩⟩
  · obtain ⟨v, rfl, r1⟩ := r.one
    obtain ⟨a, ws, rfl, f, l⟩ := r1.rolI
    exact main f.seq l q
  · obtain ⟨v, rfl, r1⟩ := r.one
    obtain ⟨xs, hs, q⟩ := q
    obtain ⟨a, ws, rfl, f, l⟩ := lstOf_rep hs m r1
    exact main (SqL.of f) l q
  · exact q.elim
/-- the key of a pair, as it stands in the heap -/
def keyAt (h : Heap) (v : Value) : Int × Int := match v with
  | .ref t => match h.get? t with
    | some o => match o.data with
      | .seq its _ => (SrtO.iv (its.getD 0 .none), SrtO.iv (its.getD 1 .none))
      | _ => (0, 0)
    | none => (0, 0)
  | _ => (0, 0)
def PairAt (K : PySem.W.Frag) (H : Hp) (x : V) (p : Int × Int) : Prop := ∃ t, x = .ref t ∧ SqT K H t [.int p.1, .int p.2]
/-- sorted(xs), xs a list of pairs of ints -/
def rSortedPA (K : PySem.W.Frag) : List V → Hp → VK → Prop := fun vs H Q => ∃ (a : Addr) (xs : List V) (ps : List (Int × Int)) (R : V → Int × Int → Prop), vs = [V.ref a] ∧ SqL K H a xs ∧ (∀ x p, R x p → PairAt K H x p) ∧ Paired R xs ps ∧
  ∀ (ys : List V) (qs : List (Int × Int)) (p : Addr), Paired R ys qs → qs.Perm ps → qs.Pairwise leP → H p = none → Q (.ref p) (upd H p (.lst ys))
theorem pairs_keys {R : V → Int × Int → Prop} {pins : List (Addr × Obj)} {σ : L2.St} {H : Hp} {s : Shared} (I : Inv X pins σ H s) (hR : ∀ x p, R x p → PairAt X.K H x p) : ∀ {xs : List V} {ps : List (Int × Int)} {us : List Value}, Paired R xs ps → Vals xs us →
    ps = us.map (keyAt s.heap) ∧ ∀ u ∈ us, Srt.IsPair s.heap u (keyAt s.heap u).1 (keyAt s.heap u).2 ∧ ∃ x, RelV x u ∧ R x (keyAt s.heap u)
  | _, _, _, .nil, .nil => ⟨rfl, fun u h => by cases h⟩
  | _, _, _, .cons (a := x) (b := p) h t, .cons (b := u) r rs => by
    obtain ⟨e1, e2⟩ := pairs_keys I hR t rs
    have hrr := h
    obtain ⟨t0, ex, hq⟩ := hR _ _ h
    subst ex
    obtain rfl : u = Value.ref t0 := r
    obtain ⟨its, rv, hl, hz⟩ := I.tuple hq
    obtain ⟨o, ho, hc, n, hd⟩ := hl
    obtain ⟨u1, u2, rfl, ri, rj⟩ := vals2 rv
    obtain ⟨t1, rfl⟩ := ri
    obtain ⟨t2, rfl⟩ := rj
    have ek : keyAt s.heap (.ref t0) = p := by
      unfold keyAt
      simp only [ho, hd]
      rfl
    refine ⟨by rw [List.map_cons, ek, ← e1], fun u hu => ?_⟩
    rcases List.mem_cons.mp hu with e | hu
    · subst e
      rw [ek]
      exact ⟨⟨t0, o, t1, t2, n, rfl, ho, hc, hd⟩, .ref t0, rfl, hrr⟩
    · exact e2 u hu
theorem cr_sortedPA : CallR X (.builtin "sorted") (rSortedPA X.K) := by
  intro pins s σ H vs us Q I r h
  obtain ⟨a, xs, ps, R, rfl, hs, hR, hx, q⟩ := h
  obtain ⟨its, rv, hl, hz⟩ := I.list hs
  obtain ⟨u, rfl, ru⟩ := vals1 r
  obtain rfl : u = Value.ref a := ru
  obtain ⟨e1, e2⟩ := pairs_keys I hR hx rv
  refine SrtO.sorted_pairsO (k := keyAt s.heap) hl.isList (by rw [← rv.length]; exact hz) (fun v hv => (e2 v hv).1) fun h' d out h1 h2 kp hd hn => ?_
  have h3 : ∀ u ∈ out, ∃ a, u = Value.ref a := fun u hu => by
    obtain ⟨t, o, t1, t2, n, e, _⟩ := (e2 u (h2.perm.mem_iff.mp hu)).1
    exact ⟨t, e⟩
  obtain ⟨n, hn⟩ := hn
  have vb := vals_back h3
  have hp : Paired R (out.map backV) (out.map (keyAt s.heap)) := by
    have aux : ∀ l : List Value, (∀ u ∈ l, u ∈ out) → Paired R (l.map backV) (l.map (keyAt s.heap)) := by
      intro l
      induction l with
      | nil => intro _; exact .nil
      | cons u l ih =>
        intro hm
        refine .cons ?_ (ih fun v hv => hm v (List.mem_cons_of_mem _ hv))
        have hu := hm u List.mem_cons_self
        obtain ⟨b, rfl⟩ := h3 u hu
        obtain ⟨_, x, rx, hx⟩ := e2 _ (h2.perm.mem_iff.mp hu)
        have hx' := hx
        obtain ⟨t, ex, hq⟩ := hR _ _ hx
        subst ex
        obtain rfl : b = t := Value.ref.inj rx
        exact hx'
    exact aux out fun _ h => h
  refine ⟨.ref d, upd H d (.lst (out.map backV)), I.laid (t' := s.toks) kp hd ⟨?_, out, n, vb, hn⟩, rfl, q _ _ d hp ?_ ?_ (I.hok.fresh hd)⟩
  · rw [List.length_map, h2.perm.length_eq, ← rv.length]; exact hz
  · rw [e1]; exact h2.perm.map _
  · refine List.pairwise_map.mpr (List.Pairwise.imp (fun {x y} h => ?_) h1)
    have := SrtO.lexB_no.mp h
    unfold leP
    omega
theorem RepL.pairs {K : PySem.W.Frag} {H : Hp} {M : DHp} : ∀ {vs : List V} {ps : List (Int × Int)}, RepL K H M vs (ps.map pairD) → Paired (fun x p => PairAt K H x p ∧ Rep K H M x (pairD p)) vs ps
  | _, [], .nil => .nil
  | _, p :: ps, .cons r t => by
    refine .cons ⟨?_, r⟩ (RepL.pairs t)
    obtain ⟨a, ws, rfl, f, l⟩ := id (Rep.tupI r)
    obtain ⟨v, w, rfl, r1, r2⟩ := l.two
    rw [r1.intI, r2.intI] at f
    exact ⟨a, rfl, f.seq⟩
theorem RepL.ofPairs {K : PySem.W.Frag} {H : Hp} {M : DHp} : ∀ {vs : List V} {ps : List (Int × Int)}, Paired (fun x p => PairAt K H x p ∧ Rep K H M x (pairD p)) vs ps → RepL K H M vs (ps.map pairD)
  | _, _, .nil => .nil
  | _, _, .cons r t => .cons r.2 (RepL.ofPairs t)
theorem dc_sorted : DCall X (.builtin "sorted") rSortD := by
  refine ⟨_, CallR.or DM.cr_sortedIA (CallR.or cr_sortedPA cr_sortedS), fun H M vs ds Q0 Q m r q k => ?_⟩
  unfold rSortD at q
  split at q
  · obtain ⟨v, rfl, r1⟩ := r.one
    rcases q with ⟨ns, hs, q⟩ | ⟨ps, hs, q⟩ | ⟨zs, hs, hl, q⟩
    · obtain ⟨a, ws, rfl, hq, l⟩ := seqOf_rep hs m r1
      rw [l.ints] at hq
      refine .inl ⟨a, ns, rfl, hq, fun ns' p h1 h2 hp => ?_⟩
      rw [isort_uniq h1 h2]
      exact k.lst m hp (RepL.ofInts _) q
    · obtain ⟨a, ws, rfl, f, l⟩ := lstOf_rep hs m r1
      refine .inr (.inl ⟨a, ws, ps, _, rfl, SqL.of f, fun x p h => h.1, l.pairs, fun ys qs p h1 h2 h3 hp => k.lst m hp (RepL.ofPairs h1) (q qs h2 h3)⟩)
    · obtain ⟨a, ws, rfl, f, l⟩ := lstOf_rep hs m r1
      rw [l.strs] at f
      exact .inr (.inr ⟨a, zs, rfl, SqL.of f, hl, fun ys p h1 h2 hp => k.lst m hp (RepL.ofStrs _) (q ys h1 h2)⟩)
  · exact q.elim
theorem dc_repr (hc : X.calm = true) (hg : Quiet X.A) (hu : X.A.units + 64 < cLine) : DCall X (.builtin "repr") rReprDD := by
  refine ⟨_, DM.cr_repr hc hg hu, fun H M vs ds Q0 Q m r q k => ?_⟩
  unfold rReprDD at q
  split at q
  · obtain ⟨v, rfl, r1⟩ := r.one
    obtain ⟨h1, h2, h3, h4, h5, q⟩ := q
    exact ⟨v, _, rfl, r1.frz m h1, h2, h3, h4, h5, k.here m (.str _) q⟩
  · exact q.elim
end
end DL
end

section
set_option Elab.async false
set_option linter.all false
set_option maxRecDepth 100000
/-! DL8: what is walked; methods. -/
namespace DL
open PySem PySem.Spec PyProof.Rows L2
/-! ### a list or a tuple, walked -/
/-- as long as this holds the thing that is walked stands as it stood -/
def asIt (M1 : DHp) : D → DHp → Prop
  | .ref p => fun M => M p = M1 p
  | _ => fun _ => True
/-- it stands there, later too -/
def LaterL (K : PySem.W.Frag) (a : Addr) (H1 : Hp) (M1 : DHp) (chk : DHp → Prop) (ds : List D) : Prop := ∀ H M, Ext M1 H1 M H → RepM K H M → chk M → ∃ vs, SqL K H a vs ∧ RepL K H M vs ds
def LaterT (K : PySem.W.Frag) (a : Addr) (H1 : Hp) (M1 : DHp) (chk : DHp → Prop) (ds : List D) : Prop := ∀ H M, Ext M1 H1 M H → RepM K H M → chk M → ∃ vs, SqT K H a vs ∧ RepL K H M vs ds
theorem later {K : PySem.W.Frag} {H : Hp} {M : DHp} {d : D} {ds : List D} (h : seqOf M d = some ds) (m : RepM K H M) {v : V} (r : Rep K H M v d) : ∃ a, v = .ref a ∧ (LaterL K a H M (asIt M d) ds ∨ LaterT K a H M (asIt M d) ds) := by
  cases r with
  | lst f n l => cases h; exact ⟨_, rfl, .inl fun H' M' x m' _ => ⟨_, SqL.of (x.kp f n).1, l.ext x⟩⟩
  | ref a =>
    simp only [seqOf] at h
    split at h
    · rename_i xs e
      cases h
      refine ⟨a, rfl, .inl fun H' M' x m' c => ?_⟩
      obtain ⟨vs, e2, l⟩ := m'.lst (show M' a = some (.lst ds) from (show M' a = M a from c).trans e)
      exact ⟨vs, SqL.of e2, l⟩
    · cases h
  | non => cases h
  | bl b => cases h
  | int i => cases h
  | str x => cases h
  | tup f r => cases h; exact ⟨_, rfl, .inr fun H' M' x m' _ => ⟨_, (f.ext x).seq, r.ext x⟩⟩
  | rol f r => cases h; exact ⟨_, rfl, .inl fun H' M' x m' _ => ⟨_, (f.ext x).seq, r.ext x⟩⟩
  | xtp f e n r => cases h; exact ⟨_, rfl, .inr fun H' M' x m' _ => ⟨_, .inl (.inr ⟨_, (x.kp f n).1⟩), r.ext x⟩⟩
  | lam f n r => cases h
  | exc0 a => cases h
  | exc1 f n r => cases h
theorem LaterL.ext {K : PySem.W.Frag} {a : Addr} {H1 H2 : Hp} {M1 M2 : DHp} {chk : DHp → Prop} {ds : List D} (h : LaterL K a H1 M1 chk ds) (x : Ext M1 H1 M2 H2) : LaterL K a H2 M2 chk ds := fun H M y => h H M (x.trans y)
theorem LaterT.ext {K : PySem.W.Frag} {a : Addr} {H1 H2 : Hp} {M1 M2 : DHp} {chk : DHp → Prop} {ds : List D} (h : LaterT K a H1 M1 chk ds) (x : Ext M1 H1 M2 H2) : LaterT K a H2 M2 chk ds := fun H M y => h H M (x.trans y)
theorem wlk_list {K : PySem.W.Frag} {a : Addr} {H1 : Hp} {M1 : DHp} {chk : DHp → Prop} {ds : List D} (h : LaterL K a H1 M1 chk ds) : Wlk K (Itl K a) H1 M1 ds chk := fun H M x m c => by
  obtain ⟨vs, sq, l⟩ := h H M x m c
  refine ⟨fun i d e => ?_, vs, sq, by rw [l.length]; exact Nat.le_refl _⟩
  obtain ⟨v, hv, rv⟩ := l.get e
  refine ⟨⟨vs, v, sq, hv⟩, fun y H' hy => ?_⟩
  obtain ⟨rfl, hy⟩ := hy
  have := hy vs sq
  rw [hv] at this
  cases this
  exact ⟨Ext.refl _ _, m, rv⟩
theorem wlk_tuple {K : PySem.W.Frag} {a : Addr} {H1 : Hp} {M1 : DHp} {chk : DHp → Prop} {ds : List D} (h : LaterT K a H1 M1 chk ds) : Wlk K (Itt K a) H1 M1 ds chk := fun H M x m c => by
  obtain ⟨vs, sq, l⟩ := h H M x m c
  refine ⟨fun i d e => ?_, vs, sq, by rw [l.length]; exact Nat.le_refl _⟩
  obtain ⟨v, hv, rv⟩ := l.get e
  refine ⟨⟨vs, v, sq, hv⟩, fun y H' hy => ?_⟩
  obtain ⟨rfl, hy⟩ := hy
  have := hy vs sq
  rw [hv] at this
  cases this
  exact ⟨Ext.refl _ _, m, rv⟩
/-! ### enumerate, zip -/
def enumD (i : Nat) : List D → List D
  | [] => []
  | d :: ds => .tup [.int i, d] :: enumD (i + 1) ds
theorem enumD_get : ∀ (ds : List D) (j i : Nat) (e : D), (enumD j ds)[i]? = some e → ∃ d, ds[i]? = some d ∧ e = .tup [.int ((j + i : Nat) : Int), d]
  | [], j, i, e, h => by simp [enumD] at h
  | d :: ds, j, 0, e, h => by simp [enumD] at h; exact ⟨d, rfl, by rw [← h]; simp⟩
  | d :: ds, j, i + 1, e, h => by
    obtain ⟨d', h1, h2⟩ := enumD_get ds (j + 1) i e (by simpa [enumD] using h)
    exact ⟨d', by simpa using h1, by rw [h2]; congr 3; omega⟩
theorem enumD_length : ∀ (ds : List D) (j : Nat), (enumD j ds).length = ds.length
  | [], _ => rfl
  | d :: ds, j => by simp [enumD, enumD_length ds (j + 1)]
def zipD : List D → List D → List D
  | d :: ds, e :: es => .tup [d, e] :: zipD ds es
  | _, _ => []
theorem zipD_get : ∀ (ds es : List D) (i : Nat) (p : D), (zipD ds es)[i]? = some p → ∃ d e, ds[i]? = some d ∧ es[i]? = some e ∧ p = .tup [d, e]
  | [], es, i, p, h => by simp [zipD] at h
  | d :: ds, [], i, p, h => by simp [zipD] at h
  | d :: ds, e :: es, 0, p, h => by simp [zipD] at h; exact ⟨d, e, rfl, rfl, h.symm⟩
  | d :: ds, e :: es, i + 1, p, h => by
    obtain ⟨d', e', h1, h2, h3⟩ := zipD_get ds es i p (by simpa [zipD] using h)
    exact ⟨d', e', by simpa using h1, by simpa using h2, h3⟩
theorem zipD_length : ∀ (ds es : List D), ds.length ≤ (zipD ds es).length ∨ es.length ≤ (zipD ds es).length
  | [], es => .inl (Nat.zero_le _)
  | d :: ds, [] => .inr (Nat.zero_le _)
  | d :: ds, e :: es => by
    rcases zipD_length ds es with h | h
    · exact .inl (by simp [zipD]; exact h)
    · exact .inr (by simp [zipD]; exact h)
theorem yield_pair {K : PySem.W.Frag} {H : Hp} {M : DHp} {T : Addr} {v w : V} {d e : D} (m : RepM K H M) (hT : H T = none) (r : Rep K H M v d) (s : Rep K H M w e) : Ext M H M (upd H T (.tup [v, w])) ∧ RepM K (upd H T (.tup [v, w])) M ∧ Rep K (upd H T (.tup [v, w])) M (.ref T) (.tup [d, e]) :=
  ⟨Ext.laid m hT, m.laid hT, .tup (.inl ⟨.inl upd_same, m.fresh hT⟩) (.cons (r.ext (Ext.laid m hT)) (.cons (s.ext (Ext.laid m hT)) .nil))⟩
theorem wlk_enum {K : PySem.W.Frag} {a : Addr} {H1 : Hp} {M1 : DHp} {chk : DHp → Prop} {ds : List D} (h : LaterL K a H1 M1 chk ds) : Wlk K (Ite K a) H1 M1 (enumD 0 ds) chk := fun H M x m c => by
  obtain ⟨vs, sq, l⟩ := h H M x m c
  refine ⟨fun i e he => ?_, vs, sq, by rw [enumD_length, l.length]; exact Nat.le_refl _⟩
  obtain ⟨d, hd, rfl⟩ := enumD_get ds 0 i e he
  obtain ⟨v, hv, rv⟩ := l.get hd
  refine ⟨⟨vs, v, sq, hv⟩, fun y H' hy => ?_⟩
  obtain ⟨T, z, rfl, hT, rfl, hy⟩ := hy
  have := hy vs sq
  rw [hv] at this
  cases this
  rw [Nat.zero_add]
  exact yield_pair m hT (.int _) rv
theorem wlk_enumT {K : PySem.W.Frag} {a : Addr} {H1 : Hp} {M1 : DHp} {chk : DHp → Prop} {ds : List D} (h : LaterT K a H1 M1 chk ds) : Wlk K (DM.IteT K a) H1 M1 (enumD 0 ds) chk := fun H M x m c => by
  obtain ⟨vs, sq, l⟩ := h H M x m c
  refine ⟨fun i e he => ?_, vs, sq, by rw [enumD_length, l.length]; exact Nat.le_refl _⟩
  obtain ⟨d, hd, rfl⟩ := enumD_get ds 0 i e he
  obtain ⟨v, hv, rv⟩ := l.get hd
  refine ⟨⟨vs, v, sq, hv⟩, fun y H' hy => ?_⟩
  obtain ⟨T, z, rfl, hT, rfl, hy⟩ := hy
  have := hy vs sq
  rw [hv] at this
  cases this
  rw [Nat.zero_add]
  exact yield_pair m hT (.int _) rv
theorem wlk_zip {K : PySem.W.Frag} {a b : Addr} {H1 : Hp} {M1 : DHp} {c1 c2 : DHp → Prop} {ds es : List D} (h : LaterL K a H1 M1 c1 ds) (g : LaterL K b H1 M1 c2 es) : Wlk K (Itz K a b) H1 M1 (zipD ds es) (fun M => c1 M ∧ c2 M) := fun H M x m c => by
  obtain ⟨vs, sq, l⟩ := h H M x m c.1
  obtain ⟨ws, sq2, l2⟩ := g H M x m c.2
  refine ⟨fun i e he => ?_, vs, ws, sq, sq2, by rw [l.length, l2.length]; exact zipD_length ds es⟩
  obtain ⟨d, e', hd, he', rfl⟩ := zipD_get ds es i e he
  obtain ⟨v, hv, rv⟩ := l.get hd
  obtain ⟨w, hw, rw'⟩ := l2.get he'
  refine ⟨⟨vs, ws, v, w, sq, sq2, hv, hw⟩, fun y H' hy => ?_⟩
  obtain ⟨T, z, z', rfl, hT, rfl, hy, hy2⟩ := hy
  have e1 := hy vs sq
  have e2 := hy2 ws sq2
  rw [hv] at e1
  rw [hw] at e2
  cases e1
  cases e2
  exact yield_pair m hT rv rw'
theorem wlk_zipT {K : PySem.W.Frag} {a b : Addr} {H1 : Hp} {M1 : DHp} {c1 c2 : DHp → Prop} {ds es : List D} (h : LaterT K a H1 M1 c1 ds) (g : LaterT K b H1 M1 c2 es) : Wlk K (RZ.ItzT K a b) H1 M1 (zipD ds es) (fun M => c1 M ∧ c2 M) := fun H M x m c => by
  obtain ⟨vs, sq, l⟩ := h H M x m c.1
  obtain ⟨ws, sq2, l2⟩ := g H M x m c.2
  refine ⟨fun i e he => ?_, vs, ws, sq, sq2, by rw [l.length, l2.length]; exact zipD_length ds es⟩
  obtain ⟨d, e', hd, he', rfl⟩ := zipD_get ds es i e he
  obtain ⟨v, hv, rv⟩ := l.get hd
  obtain ⟨w, hw, rw'⟩ := l2.get he'
  refine ⟨⟨vs, ws, v, w, sq, sq2, hv, hw⟩, fun y H' hy => ?_⟩
  obtain ⟨T, z, z', rfl, hT, rfl, hy, hy2⟩ := hy
  have e1 := hy vs sq
  have e2 := hy2 ws sq2
  rw [hv] at e1
  rw [hw] at e2
  cases e1
  cases e2
  exact yield_pair m hT rv rw'
/-- lo, lo + 1, .. -/
def rngD (lo : Int) (n : Nat) : List D := (List.range n).map fun i => .int (lo + (i : Nat))
theorem wlk_rng {K : PySem.W.Frag} {H1 : Hp} {M1 : DHp} (lo : Int) (n : Nat) : Wlk K (Itr lo n) H1 M1 (rngD lo n) (fun _ => True) := fun H M x m c => by
  refine ⟨fun i d e => ?_, by show n ≤ (rngD lo n).length; unfold rngD; simp⟩
  unfold rngD at e
  rw [List.getElem?_map] at e
  cases h : (List.range n)[i]? with
  | none => rw [h] at e; cases e
  | some j =>
    rw [h] at e
    obtain ⟨h1, h2⟩ := List.getElem?_eq_some_iff.mp h
    have hi : i < n := by simpa using h1
    have hj : j = i := by rw [← h2]; simp
    subst hj
    cases e
    refine ⟨hi, fun y H' hy => ?_⟩
    obtain ⟨rfl, rfl⟩ := hy
    exact ⟨Ext.refl _ _, m, .int _⟩
/-- lo, lo + c, .. -/
def rngcD (lo c : Int) (n : Nat) : List D := (List.range n).map fun i => .int (lo + (i : Nat) * c)
theorem wlk_rngc {K : PySem.W.Frag} {H1 : Hp} {M1 : DHp} (lo c : Int) (n : Nat) : Wlk K (Itc lo c n) H1 M1 (rngcD lo c n) (fun _ => True) := fun H M x m _ => by
  refine ⟨fun i d e => ?_, by show n ≤ (rngcD lo c n).length; unfold rngcD; simp⟩
  unfold rngcD at e
  rw [List.getElem?_map] at e
  cases h : (List.range n)[i]? with
  | none => rw [h] at e; cases e
  | some j =>
    rw [h] at e
    obtain ⟨h1, h2⟩ := List.getElem?_eq_some_iff.mp h
    have hi : i < n := by simpa using h1
    have hj : j = i := by rw [← h2]; simp
    subst hj
    cases e
    refine ⟨hi, fun y H' hy => ?_⟩
    obtain ⟨rfl, rfl⟩ := hy
    exact ⟨Ext.refl _ _, m, .int _⟩
def dSeqI (te : DTE) : DTI := fun δ M R W => te δ M (fun d M1 => ∃ ds, seqOf M1 d = some ds ∧ R ds (asIt M1 d) M1) W
def dEnumI (ta : DTA) : DTI := fun δ M R W => ta δ M (fun xs M1 => match xs with
  | [d] => ∃ ds, seqOf M1 d = some ds ∧ R (enumD 0 ds) (asIt M1 d) M1
  | _ => False) W
/-- both tuples, or both lists -/
def tupOf : D → Option (List D)
  | .tup xs => some xs
  | .xtp xs => some xs
  | _ => none
def dZipI (ta : DTA) : DTI := fun δ M R W => ta δ M (fun xs M1 => match xs with
  | [d, e] => (∃ ds es, tupOf d = some ds ∧ tupOf e = some es ∧ R (zipD ds es) (fun _ => True) M1) ∨ (∃ ds es, lstOf M1 d = some ds ∧ lstOf M1 e = some es ∧ R (zipD ds es) (fun M => asIt M1 d M ∧ asIt M1 e M) M1)
  | _ => False) W
def dRng1 (ta : DTA) : DTI := fun δ M R W => ta δ M (fun xs M1 => match xs with
  | [.int j] => -(2 ^ 62) ≤ j ∧ j < 2 ^ 62 ∧ R (rngD 0 j.toNat) (fun _ => True) M1
  | _ => False) W
def dRng2 (ta : DTA) : DTI := fun δ M R W => ta δ M (fun xs M1 => match xs with
  | [.int i, .int j] => (-(2 ^ 62) ≤ i ∧ i < 2 ^ 62 ∧ -(2 ^ 62) ≤ j ∧ j < 2 ^ 62) ∧ R (rngD i (j - i).toNat) (fun _ => True) M1
  | _ => False) W
def dRng3 (ta : DTA) : DTI := fun δ M R W => ta δ M (fun xs M1 => match xs with
  | [.int i, .int j, .int c] => ∃ n, RgC i j c n ∧ R (rngcD i c n) (fun _ => True) M1
  | _ => False) W
theorem laterT_tup {K : PySem.W.Frag} {H : Hp} {M : DHp} {d : D} {ds : List D} (h : tupOf d = some ds) {v : V} (r : Rep K H M v d) : ∃ a, v = .ref a ∧ LaterT K a H M (fun _ => True) ds := by
  cases r with
  | tup f r => cases h; exact ⟨_, rfl, fun H' M' x m' _ => ⟨_, (f.ext x).seq, r.ext x⟩⟩
  | xtp f e n r => cases h; exact ⟨_, rfl, fun H' M' x m' _ => ⟨_, .inl (.inr ⟨_, (x.kp f n).1⟩), r.ext x⟩⟩
  | lst f n l => cases h
  | ref a => cases h
  | non => cases h
  | bl b => cases h
  | int i => cases h
  | str x => cases h
  | rol f r => cases h
  | lam f n r => cases h
  | exc0 a => cases h
  | exc1 f n r => cases h
theorem laterL_lst {K : PySem.W.Frag} {H : Hp} {M : DHp} {d : D} {ds : List D} (h : lstOf M d = some ds) (m : RepM K H M) {v : V} (r : Rep K H M v d) : ∃ a, v = .ref a ∧ LaterL K a H M (asIt M d) ds := by
  cases r with
  | lst f n l => cases h; exact ⟨_, rfl, fun H' M' x m' _ => ⟨_, SqL.of (x.kp f n).1, l.ext x⟩⟩
  | ref a =>
    simp only [lstOf] at h
    split at h
    · rename_i xs e
      cases h
      refine ⟨a, rfl, fun H' M' x m' c => ?_⟩
      obtain ⟨vs, e2, l⟩ := m'.lst (show M' a = some (.lst ds) from (show M' a = M a from c).trans e)
      exact ⟨vs, SqL.of e2, l⟩
    · cases h
  | non => cases h
  | bl b => cases h
  | int i => cases h
  | str x => cases h
  | tup f r => cases h
  | rol f r => cases h
  | xtp f e n r => cases h
  | lam f n r => cases h
  | exc0 a => cases h
  | exc1 f n r => cases h
theorem Wlk.weak {K : PySem.W.Frag} {J : It} {H1 : Hp} {M1 : DHp} {ds : List D} {c c' : DHp → Prop} (h : Wlk K J H1 M1 ds c) (f : ∀ M, c' M → c M) : Wlk K J H1 M1 ds c' := fun H M x m q => h H M x m (f M q)
theorem LaterL.seq {K : PySem.W.Frag} {a : Addr} {H : Hp} {M : DHp} {d : D} {ds : List D} (h : LaterL K a H M (asIt M d) ds) (m : RepM K H M) : ∃ vs, SqL K H a vs := by
  obtain ⟨vs, h, _⟩ := h H M (Ext.refl _ _) m (by unfold asIt; split <;> trivial)
  exact ⟨vs, h⟩
theorem LaterT.seq {K : PySem.W.Frag} {a : Addr} {H : Hp} {M : DHp} {d : D} {ds : List D} (h : LaterT K a H M (asIt M d) ds) (m : RepM K H M) : ∃ vs, SqT K H a vs := by
  obtain ⟨vs, h, _⟩ := h H M (Ext.refl _ _) m (by unfold asIt; split <;> trivial)
  exact ⟨vs, h⟩
section
variable {X : Cx} {W0 : WX} {tg e a b c : Expr} {te : DTE} {ta : DTA} {p pos tpos : Pos} {elts : List Expr} {kk : Nat}
theorem di_seq (he : DE X W0 e te) : DI X W0 tg e (dSeqI te) :=
  .mk' (DM.pi_seq he.pe) fun σ H R0 δ M R W a q k w => lfE.use a q (fun v H1 d M1 x m1 r1 q1 => by
    obtain ⟨ds, hs, q1⟩ := q1
    obtain ⟨p, rfl, h⟩ := later hs m1 r1
    rcases h with h | h
    · obtain ⟨vs, sq⟩ := h.seq m1
      exact ⟨p, vs, rfl, .inl ⟨sq, k _ H1 ds _ M1 x m1 (wlk_list h) q1⟩⟩
    · obtain ⟨vs, sq⟩ := h.seq m1
      exact ⟨p, vs, rfl, .inr ⟨sq, k _ H1 ds _ M1 x m1 (wlk_tuple h) q1⟩⟩) w
theorem di_enum (ha : DA X W0 [e] ta) (hm : X.mg "enumerate" = none) (hg : Gl X "enumerate" := by rfl) (hs : starEach [e] X.env = [(false, eval e X.env)] := by rfl) : DI X W0 (.Tuple elts kk tpos) (.Call (.Name "enumerate" p) [e] [] pos) (dEnumI ta) :=
  .mk' (DM.pi_enumA hg hm ha.pa hs) fun σ H R0 δ M R W a q k w => lfA.use a q (fun vs H1 ds M1 x m1 r1 q1 => by
    split at q1
    · obtain ⟨v, rfl, r⟩ := r1.one
      obtain ⟨ds, hs, q1⟩ := q1
      obtain ⟨p, rfl, h⟩ := later hs m1 r
      rcases h with h | h
      · obtain ⟨vs, sq⟩ := h.seq m1
        exact ⟨p, vs, rfl, .inl ⟨sq, k _ H1 _ _ M1 x m1 (wlk_enum h) q1⟩⟩
      · obtain ⟨vs, sq⟩ := h.seq m1
        exact ⟨p, vs, rfl, .inr ⟨sq, k _ H1 _ _ M1 x m1 (wlk_enumT h) q1⟩⟩
    · exact q1.elim) w
theorem di_zip (ha : DA X W0 [a, b] ta) (hm : X.mg "zip" = none) (hg : Gl X "zip" := by rfl) (hs : starEach [a, b] X.env = (false, eval a X.env) :: starEach [b] X.env := by rfl) (hpl : (backTo pos (starEach [b] X.env)).any (·.1) = false := by rfl) :
    DI X W0 (.Tuple elts kk tpos) (.Call (.Name "zip" p) [a, b] [] pos) (dZipI ta) :=
  .mk' (RZ.pi_zipA hg hm ha.pa hs hpl) fun σ H R0 δ M R W a q k w => lfA.use a q (fun vs H1 ds M1 x m1 r1 q1 => by
    split at q1
    · obtain ⟨v, u, rfl, r, s⟩ := r1.two
      rcases q1 with ⟨ds, es, hd, he, q1⟩ | ⟨ds, es, hd, he, q1⟩
      · obtain ⟨p1, rfl, h⟩ := laterT_tup hd r
        obtain ⟨p2, rfl, g⟩ := laterT_tup he s
        obtain ⟨vs, sq, _⟩ := h H1 M1 (Ext.refl _ _) m1 trivial
        obtain ⟨ws, sq2, _⟩ := g H1 M1 (Ext.refl _ _) m1 trivial
        exact ⟨p1, p2, vs, ws, rfl, .inr ⟨sq, sq2, k _ H1 _ _ M1 x m1 ((wlk_zipT h g).weak fun _ _ => ⟨trivial, trivial⟩) q1⟩⟩
      · obtain ⟨p1, rfl, h⟩ := laterL_lst hd m1 r
        obtain ⟨p2, rfl, g⟩ := laterL_lst he m1 s
        obtain ⟨vs, sq⟩ := h.seq m1
        obtain ⟨ws, sq2⟩ := g.seq m1
        exact ⟨p1, p2, vs, ws, rfl, .inl ⟨sq, sq2, k _ H1 _ _ M1 x m1 (wlk_zip h g) q1⟩⟩
    · exact q1.elim) w
theorem di_range1 (ha : DA X W0 [a] ta) (hm : X.mg "range" = none) (hg : Gl X "range" := by rfl) (hs : starEach [a] X.env = [(false, eval a X.env)] := by rfl) : DI X W0 tg (.Call (.Name "range" p) [a] [] pos) (dRng1 ta) :=
  .mk' (pi_range1 hg hm ha.pa hs) fun σ H R0 δ M R W a q k w => lfA.use a q (fun vs H1 ds M1 x m1 r1 q1 => by
    split at q1
    · obtain ⟨v, rfl, r⟩ := r1.one
      rw [r.intI]
      exact ⟨_, rfl, q1.1, q1.2.1, k _ H1 _ _ M1 x m1 (wlk_rng _ _) q1.2.2⟩
    · exact q1.elim) w
theorem di_range2 (ha : DA X W0 [a, b] ta) (hm : X.mg "range" = none) (hg : Gl X "range" := by rfl) (hs : starEach [a, b] X.env = [(false, eval a X.env), (false, eval b X.env)] := by rfl) (hs2 : starEach [b] X.env = [(false, eval b X.env)] := by rfl) : DI X W0 tg (.Call (.Name "range" p) [a, b] [] pos) (dRng2 ta) :=
  .mk' (pi_range2 hg hm ha.pa hs hs2) fun σ H R0 δ M R W a q k w => lfA.use a q (fun vs H1 ds M1 x m1 r1 q1 => by
    split at q1
    · obtain ⟨v, u, rfl, r, s⟩ := r1.two
      rw [r.intI, s.intI]
      exact ⟨_, _, rfl, q1.1, k _ H1 _ _ M1 x m1 (wlk_rng _ _) q1.2⟩
    · exact q1.elim) w
theorem di_range3 (ha : DA X W0 [a, b, c] ta) (hm : X.mg "range" = none) (hg : Gl X "range" := by rfl) (hs : starEach [a, b, c] X.env = (false, eval a X.env) :: starEach [b, c] X.env := by rfl) (hpl : (backTo pos (starEach [b, c] X.env)).any (·.1) = false := by rfl) : DI X W0 tg (.Call (.Name "range" p) [a, b, c] [] pos) (dRng3 ta) :=
  .mk' (pi_range3 hg hm ha.pa hs hpl) fun σ H R0 δ M R W a q k w => lfA.use a q (fun vs H1 ds M1 x m1 r1 q1 => by
    split at q1
    · cases r1 with
      | cons r t =>
        obtain ⟨u, z, rfl, s, y⟩ := t.two
        rw [r.intI, s.intI, y.intI]
        obtain ⟨n, h, q1⟩ := q1
        exact ⟨_, _, _, n, rfl, h, k _ H1 _ _ M1 x m1 (wlk_rngc _ _ _) q1⟩
    · exact q1.elim) w
end
/-! ### methods -/
abbrev DMt := D → List D → DHp → DVK → Prop
def LMt (K : PySem.W.Frag) (r : V → List V → Hp → VK → Prop) (dr : DMt) : Prop := ∀ (H : Hp) (M : DHp) (x : V) (d : D) (xs : List V) (ds : List D) (Q0 : VK) (Q : DVK), RepM K H M → Rep K H M x d → RepL K H M xs ds → dr d ds M Q → OkV K M H Q Q0 → r x xs H Q0
/-- a method of the type T, with the fact that the value is of it -/
def DMeth (X : Cx) (T id : String) (dr : DMt) (dty : D → DHp → Prop) : Prop := ∃ r ty, MtR X id r ∧ LMt X.K r dr ∧ TyOk X T ty ∧ ∀ H M v d, RepM X.K H M → Rep X.K H M v d → dty d M → ty v H
def dMt (dr : DMt) (dty : D → DHp → Prop) (to : DTE) (ta : DTA) : DTE := fun δ M Q W => to δ M (fun x M1 => dty x M1 ∧ ta δ M1 (fun ds M2 => dr x ds M2 Q) W) W
section
variable {X : Cx} {W0 : WX} {o e : Expr} {es : List Expr} {to : DTE} {ta : DTA} {name : Str} {apos cpos : Pos} {T id : String} {dr : DMt} {dty : D → DHp → Prop}
theorem de_mt (pa : PlainAttrs T) (slot : Slot T name id) (hty : typeOf (.builtin id) = pure (.type "method_descriptor")) (hm : DMeth X T id dr dty) (ho : DE X W0 o to) (ha : DA X W0 (e :: es) ta)
    (hbase : attributeBase o name X.env (eval o X.env) = eval o X.env := by rfl)
    (hfew : ((backTo cpos (starEach (e :: es) X.env)).all (fun x => !x.1) && (backToKw cpos (keywordEach [] X.env)).all (fun x => x.1.isSome)
      && decide ((e :: es).length + ([] : List Keyword).length + (if ([] : List Keyword).isEmpty then 0 else 1) < 30)) = true := by rfl)
    (hline : (apos.endLine == cpos.line) = true := by rfl) (hs : starEach (e :: es) X.env = (false, eval e X.env) :: starEach es X.env := by rfl) (hplain : (backTo cpos (starEach es X.env)).any (·.1) = false := by rfl) :
    DE X W0 (.Call (.Attribute o name apos) (e :: es) [] cpos) (dMt dr dty to ta) := by
  obtain ⟨r, ty, hm, l, ht, hd⟩ := hm
  exact .mk' (pe_mG ht pa slot hty hm ho.pe ha.pa hbase hfew hline hs hplain) fun σ H Q0 δ M Q W a q k w =>
    lfE.use a q (fun v H1 d M1 x m1 r1 q1 => ⟨hd H1 M1 v d m1 r1 q1.1, lfA.use (a.ext x m1) q1.2 (fun vs H2 ds M2 x2 m2 r2 q2 => l H2 M2 v d vs ds _ _ m2 (r1.ext x2) r2 q2 (k.ext (x.trans x2))) (w.ext x)⟩) w
theorem de_mt0 (pa : PlainAttrs T) (slot : Slot T name id) (hty : typeOf (.builtin id) = pure (.type "method_descriptor")) (hm : DMeth X T id dr dty) (ho : DE X W0 o to)
    (hbase : attributeBase o name X.env (eval o X.env) = eval o X.env := by rfl) (hline : (apos.endLine == cpos.line) = true := by rfl) :
    DE X W0 (.Call (.Attribute o name apos) [] [] cpos) (dMt dr dty to dNil) := by
  obtain ⟨r, ty, hm, l, ht, hd⟩ := hm
  exact .mk' (pe_mG0 ht pa slot hty hm ho.pe hbase hline) fun σ H Q0 δ M Q W a q k w =>
    lfE.use a q (fun v H1 d M1 x m1 r1 q1 => ⟨hd H1 M1 v d m1 r1 q1.1, l H1 M1 v d [] [] _ _ m1 r1 .nil q1.2 (k.ext x)⟩) w
theorem ty_v {T : String} : TyOk X T (tyV X.K T) := fun pins σ H s x v I r ty => tyV_is I r ty
def isLst (d : D) (M : DHp) : Prop := ∃ p ds, d = .ref p ∧ M p = some (.lst ds)
theorem isLst_ok {K : PySem.W.Frag} {H : Hp} {M : DHp} {v : V} {d : D} (m : RepM K H M) (r : Rep K H M v d) (h : isLst d M) : tyV K "list" v H := by
  obtain ⟨p, ds, rfl, h⟩ := h
  obtain ⟨vs, e, _⟩ := m.lst h
  rw [r.refI]
  exact .inl ⟨rfl, vs, SqL.of e⟩
/-- xs.append(x) -/
def rAppendD : DMt := fun x ds M Q => match x, ds with
  | .ref p, [y] => ∃ xs, M p = some (.lst xs) ∧ xs.length < sizeLine ∧ Q .non (updD M p (.lst (xs ++ [y])))
  | _, _ => False
theorem dm_append : DMeth X "list" "list.append" rAppendD isLst := by
  refine ⟨_, _, mt_append, fun H M x d xs ds Q0 Q m rx rs q k => ?_, ty_v, fun H M v d m r h => isLst_ok m r h⟩
  unfold rAppendD at q
  split at q
  · obtain ⟨ws, hp, hz, q⟩ := q
    obtain ⟨v, rfl, rv⟩ := rs.one
    rw [rx.refI]
    obtain ⟨vs, e, l⟩ := m.lst hp
    exact ⟨_, vs, v, rfl, rfl, e, by rw [l.length]; exact hz, k.wr m hp (l.append (.cons rv .nil)) .non q⟩
  · exact q.elim
/-- xs.pop() -/
def rPopD : DMt := fun x ds M Q => match x, ds with
  | .ref p, [] => ∃ xs y, M p = some (.lst (xs ++ [y])) ∧ Q y (updD M p (.lst xs))
  | .ref p, [.int i] => ∃ xs k y, M p = some (.lst xs) ∧ -(2 ^ 63) ≤ i ∧ i < 2 ^ 63 ∧ seqIndex? i xs.length = some k ∧ xs[k]? = some y ∧ Q y (updD M p (.lst (xs.eraseIdx k)))
  | _, _ => False
theorem dm_pop : DMeth X "list" "list.pop" rPopD isLst := by
  refine ⟨_, _, (show MtR X "list.pop" (fun x xs H Q => rPop x xs H Q ∨ rPopAt x xs H Q) from fun pins s σ H x xs v us Q I rx rs h => h.elim (mt_pop pins s σ H x xs v us Q I rx rs) (mt_popAt pins s σ H x xs v us Q I rx rs)), fun H M x d xs ds Q0 Q m rx rs q k => ?_, ty_v, fun H M v d m r h => isLst_ok m r h⟩
  unfold rPopD at q
  split at q
  · obtain ⟨ws, y, hp, q⟩ := q
    cases rs
    rw [rx.refI]
    obtain ⟨vs, e, l⟩ := m.lst hp
    have hl := l.length
    obtain ⟨v, hv, rv⟩ := l.get (i := vs.length - 1) (d := y) (by rw [hl]; simp)
    refine .inl ⟨_, vs, v, rfl, rfl, e, hv, k.wr m hp ?_ rv q⟩
    have := l.dropLast
    simpa using this
  · obtain ⟨ws, j, y, hp, h1, h2, h3, h4, q⟩ := q
    obtain ⟨v, rfl, rv⟩ := rs.one
    rw [rx.refI, rv.intI]
    obtain ⟨vs, e, l⟩ := m.lst hp
    obtain ⟨z, hz, rz⟩ := l.get h4
    exact .inr ⟨_, vs, _, j, z, rfl, rfl, e, h1, h2, by rw [l.length]; exact h3, hz, k.wr m hp (l.eraseIdx j) rz q⟩
  · exact q.elim
/-- t.index(x), t a tuple on which no dict hangs, of texts -/
def isXtp (d : D) (_ : DHp) : Prop := ∃ ds, d = .xtp ds
def tyX (K : PySem.W.Frag) (x : V) (H : Hp) : Prop := ∃ a o ys, x = .ref a ∧ H a = some (.frz o (.tup ys)) ∧ o.dict = none
theorem ty_x : TyOk X "tuple" (tyX X.K) := by
  intro pins σ H s x v I r ty
  obtain ⟨a, o, ys, rfl, h, hd⟩ := ty
  obtain rfl : v = Value.ref a := r
  obtain ⟨e, _, its, _, o', e', hc, _⟩ := I.hok a _ h
  rw [e] at e'
  cases e'
  exact ⟨⟨o, e, hc⟩, fun b eb => by cases eb; exact ⟨o, e, hd⟩⟩
def rTIndexD : DMt := fun x ds M Q => match x, ds with
  | .xtp xs, [.str z] => ∃ (ys : List Str) (j : Nat), xs = ys.map D.str ∧ ys[j]? = some z ∧ (∀ m, m < j → ys[m]? ≠ some z) ∧ Q (.int (j : Nat)) M
  | _, _ => False
theorem dm_tindex : DMeth X "tuple" "tuple.index" rTIndexD isXtp := by
  refine ⟨_, _, mt_tup_index, fun H M x d xs ds Q0 Q m rx rs q k => ?_, ty_x, fun H M v d m r h => ?_⟩
  · unfold rTIndexD at q
    split at q
    · obtain ⟨ys, j, rfl, h1, h2, q⟩ := q
      obtain ⟨v, rfl, rv⟩ := rs.one
      obtain ⟨a, vs, o, rfl, f, e, n, l⟩ := rx.xtpI
      rw [rv.strI]
      rw [l.strs] at f
      exact ⟨a, ys, _, j, rfl, rfl, .inl (.inr ⟨o, f⟩), h1, h2, k.here m (.int _) q⟩
    · exact q.elim
  · obtain ⟨ds, rfl⟩ := h
    obtain ⟨a, vs, o, rfl, f, e, n, l⟩ := r.xtpI
    exact ⟨a, o, vs, rfl, f, e⟩
end
end DL
end

section
set_option Elab.async false
set_option linter.all false
set_option maxRecDepth 100000
set_option maxHeartbeats 2000000
/-! DX1: own exceptions whose __init__ says super().__init__(f), then self.f = f. -/
namespace OEK
open PySem PySem.W PySem.Calls PyProof.Rows PySem.HandSPX
/-! ### the text -/
def iA1 (f : Str) (p1 p2 : Pos) : Arguments := { posonlyargs := [], args := [{ arg := "self", annotation := none, pos := p1 }, { arg := f, annotation := none, pos := p2 }], vararg := none, kwonlyargs := [], kw_defaults := [], kwarg := none, defaults := [] }
def iB1 (f : Str) (p0 p1 p2 p3 p4 p5 q1 q2 q3 q4 : Pos) : List Stmt := [.Expr (.Call (.Attribute (.Call (.Name "super" p0) [] [] p1) "__init__" p2) [.Name f p3] [] p4) p5, .Assign [.Attribute (.Name "self" q1) f q2] (.Name f q3) q4]
def iS1 (f : Str) : Scope := { kind := .function, names := [("self", .local), (f, .local), ("__class__", .free), ("super", .globalImplicit)], isGenerator := false, isCoroutine := false, more := [] }
/-- what is fixed of such a class, at C, its __init__ at fI, the cell of __class__ at cc -/
structure Txt (P : Program) (K : Frag) (mg : Str → Option Value) (x : Str) (C fI cc : Addr) : Prop where
  gC : mg x = some (.ref C)
  cls : ∃ nm q N bs bm sn sub ab col dd k0 k1 k2 k3 k5, K.lookup C = some (excClassObj nm q C N bs bm true sn sub ab col dd k0 k1 k2 k3 k5 "ValueError.__new__") ∧ refsVE bm = true
  sa : findIn K (.ref C) "__setattr__" = some (some (.builtin "object.__setattr__"))
  iC : findIn K (.ref C) "__init__" = some (some (.ref fI))
  tC : typeIn K (.ref fI) = some (.type "function")
  kC : keepIn K (.ref C) = true
  exC : subIn K (.ref C) (.type "BaseException") = some true
  veC : subIn K (.ref C) (.type "ValueError") = some true
  mrC : mroIn K C (.ref C) = some true
  tyC : typeIn K (.ref C) = some (.type "type")
  op : nsIn K cStatics "thirdparty.any" = some none
  su : ks_superIn K C C "__init__" = some (some (.builtin "ValueError.__init__"))
  cell : ∃ cl cld csl, K.lookup cc = some ⟨cl, cld, .cell (some (.ref C)), csl⟩
  nos : nsIn K mainGlobals "super" = some none
  top : (P.main.scope.names.lookup ("super" : Str)).isSome = false
/-- the call super().__init__(f) by its parts -/
def CallEq (f : Str) (r0 r1 r2 r3 r4 : Pos) : Prop := ∀ env : Env, ∃ pl : Sem Bool, eval (.Call (.Attribute (.Call (.Name "super" r0) [] [] r1) "__init__" r2) [.Name f r3] [] r4) env = (do
      let ov ← attributeBase (.Call (.Name "super" r0) [] [] r1) "__init__" env (eval (.Call (.Name "super" r0) [] [] r1) env)
      standAt r2.atName
      let (f', first) ← holding [ov] (getMethod ov "__init__" pl)
      callWith r4 f' first (backTo r4 (starEach [.Name f r3] env)) [])
/-- its __init__, of one field -/
structure Fn1 (P : Program) (K : Frag) (qual f : Str) (fI cc : Addr) : Prop where
  fn : ∃ (oc : Value) (od : Option Addr) (doc pm : Value) (an : Option Addr) (cda : Addr) (ct : Value) (osl : Array (Option Value)) (p1 p2 r0 r1 r2 r3 r4 r5 q1 q2 q3 q4 : Pos) (ccl : Value) (cdd : Option Addr) (vs : Array Value) (ccs : Array (Option Value)) (file : Str) (tf : Tok),
    K.lookup fI = some ⟨oc, od, .func (ksFn "__init__" qual (iA1 f p1 p2) (iB1 f r0 r1 r2 r3 r4 r5 q1 q2 q3 q4) (iS1 f) .none .none doc pm an (.ref cda) ct cc), osl⟩ ∧ codeIn K (.ref cda) qual = true ∧
    K.lookup cda = some ⟨ccl, cdd, .fields vs, ccs⟩ ∧ vs[2]? = some (.str file tf) ∧ ((P.main.file : Str) == file) = true ∧
    (∀ a v : Value, bindArgs (ksFn "__init__" qual (iA1 f p1 p2) (iB1 f r0 r1 r2 r3 r4 r5 q1 q2 q3 q4) (iS1 f) .none .none doc pm an (.ref cda) ct cc) ⟨[a, v], []⟩ = pure ([(PySem.Str.ofString "self", a), (f, v)] : List (Str × Value))) ∧
    CallEq f r0 r1 r2 r3 r4
theorem one_size (v : Value) : [v].length ≤ sizeLine := by
  rw [sizeLine_eq]
  exact (by decide : 1 ≤ 16777216)
section
variable {prog : Program} {w : World} {A : Around} {E : Value → Shared → Prop} {h : Heap} {g : Array GenState} {d : Drawn} {t : Nat} {os : OsState} {K : Frag} {mg mb : Str → Option Value} {x : Str} {C fI cc : Addr}
/-- super() -/
theorem super_base (T : Txt prog K mg x C fI cc) {body : List Stmt} {q : Str} {scope : Scope} {p0 p1 : Pos} {attr : Str} {whole : Sem Value} {fd : FuncData} {ar : Arg} {vs : Array Value} {file : Str} {tf : Tok} {oc ccl : Value} {od cdd : Option Addr} {osl ccs : Array (Option Value)} {L e cda : Addr} {m : Str → Option Value} {ox : Obj} {Q : Value → Shared → Prop}
    (X : K.In h) (G : h.Ns mainGlobals mg) (B : h.Ns builtinsNs mb) (hB : ∀ x : Str, x ≠ "__name__" → mb x = bootBuiltins x) (hns : h.Ns L m)
    (hf : K.lookup fI = some ⟨oc, od, .func fd, osl⟩) (hp : (fd.params.posonlyargs ++ fd.params.args).head? = some ar) (hv : m ar.arg = some (.ref e)) (he : h.get? e = some ox) (hec : ox.cls = .ref C) (hed : ∃ fs, ox.data = .fields fs)
    (hcode : K.lookup cda = some ⟨ccl, cdd, .fields vs, ccs⟩) (hvs : vs[2]? = some (.str file tf)) (hfile : ((prog.main.file : Str) == file) = true)
    (hat : (attr == ("__class__" : Str)) = false) (hks : scope.names.lookup ("super" : Str) = some .globalImplicit) (hkc : scope.names.lookup ("__class__" : Str) = some .free) (hka : scope.names.lookup ar.arg = some .local) (hk : scope.kind = .function)
    (hq : ∀ h', h'.get? h.objs.size = some (ks_superObj C e C) → (∀ y o, h.get? y = some o → h'.get? y = some o) → Q (.ref h.objs.size) ⟨h', g, d, t, os⟩) :
    _root_.PySem.wpAt (model prog w) A (.func body (ksEnv q scope L fI (.ref cda) cc)) (attributeBase (.Call (.Name "super" p0) [] [] p1) attr (ksEnv q scope L fI (.ref cda) cc) whole) Q E ⟨h, g, d, t, os⟩ := by
  obtain ⟨nm, qn, N, bs, bm, sn, sub, ab, col, dd, k0, k1, k2, k3, k5, hC, hbm⟩ := T.cls
  obtain ⟨cl, cld, csl, hcell⟩ := T.cell
  have hCg := X _ _ hC
  refine ks_wpAt_super_base (env := ksEnv q scope L fI (.ref cda) cc) hks hkc hat rfl (X _ _ hf) rfl hp rfl (X _ _ hcode) rfl hvs hfile T.top ?_
  refine ks_loadName_global hk hks (loadGlobal_builtin (env := ksEnv q scope L fI (.ref cda) cc) G (mg_none_of X G T.nos) B ((hB _ (by decide +kernel)).trans PyProof.Rows.Boot.«super») ⟨rfl, ?_⟩)
  refine wpAny_loadName_free hk hkc rfl ⟨_, X _ _ hcell, rfl⟩ ?_
  refine wpAny_loadName_local hk hka hns hv ?_
  refine ks_wpAny_isType_cls hCg rfl ⟨rfl, ?_⟩
  refine ks_wpAny_call_super hCg rfl he hec (fun c z => ?_) (looks_mroIn X T.mrC) hq
  obtain ⟨fs, hed⟩ := hed
  rw [hed] at z
  cases z
/-- the bound ValueError.__init__, called -/
theorem call_mw (T : Txt prog K mg x C fI cc) {e u t0 : Addr} {rest : List Value} {Q : Value → Shared → Prop} (X : K.In h) (he : h.get? e = some (excO C t0)) (hu : h.get? u = some (kxs_mw "ValueError.__init__" e)) (hz : rest.length ≤ sizeLine)
    (hq : ∀ h' t1, (∀ b o, b ≠ e → h.get? b = some o → h'.get? b = some o) → h'.get? e = some (excO C t1) → Q .none ⟨h', g, d, t, os⟩) : wpAny (model prog w) A (call (.ref u) rest) Q E ⟨h, g, d, t, os⟩ := by
  obtain ⟨nm, qn, N, bs, bm, sn, sub, ab, col, dd, k0, k1, k2, k3, k5, hC, hbm⟩ := T.cls
  refine wpAny_call (codeAny_of_tree ?_)
  show wpAny _ A.in1 (callAny (.ref u) ⟨rest, []⟩) _ _ _
  simp only [callAny]
  refine wpAny_bind (wpAny_load hu ?_)
  simp only [kxs_mw, show (Value.type "method-wrapper" == Value.type "method" || Value.type "method-wrapper" == Value.type "builtin_function_or_method" || Value.type "method-wrapper" == Value.type "method-wrapper") = true by decide, if_true]
  refine KFB.if_so (by decide) ?_
  refine wpAny_bind (check_bound_init F.excBase_ValueError.toExcCallFacts (X _ _ hC) he rfl ?_)
  refine wpAny_bind (wpAny_pure (wpAny_pure ?_))
  refine ⟨plainId_quiet F.excBase_ValueError.init.plain _, codeAny_builtin F.excBase_ValueError.initEntry ?_⟩
  exact exc_init_tree (cls := .ref C) (t0 := t0) (dv := none) (c2 := .none) (c3 := .none) (b4 := .bool false) he hz fun h' k e' _ => hq h' _ k e'
/-- what __init__ leaves of a fresh exception at e -/
structure InitEnd (h h' : Heap) (e C dx t1 : Addr) (ma : Str → Option Value) : Prop where
  keep : ∀ b o, b ≠ e → h.get? b = some o → h'.get? b = some o
  obj : h'.get? e = some { cls := .ref C, dict := some dx, data := .fields #[.ref t1, .none, .none, .none, .bool false, .none] }
  dbig : h.objs.size ≤ dx
  dne : dx ≠ e
  ns : h'.Ns1 dx ma
end
section
variable {prog : Program} {w : World} {A : Around} {E : Value → Shared → Prop} {R : Result → Shared → Prop} {s : Shared} {K : Frag} {mg mb : Str → Option Value} {x qual f : Str} {C fI cc : Addr}
theorem ldK {M : Model} {s : Shared} {q : Str} {scope : Scope} {L a cc : Addr} {cd : Value} {m : Str → Option Value} {x : Str} {pos : Pos} {v : Value} {Q : Value → Shared → Prop} {A : Around} {E : Value → Shared → Prop} (hn : s.heap.Ns L m) (hv : m x = some v) (h : Q v s)
    (hk : scope.kind = .function := by rfl) (hl : (ksEnv q scope L a cd cc).kindOf x = some .local) (hd : (x == ("__debug__" : Str)) = false) :
    wpAny M A (eval (.Name x pos) (ksEnv q scope L a cd cc)) Q E s := wpAny_Name (wpAny_loadName_local hk hl hn hv h) hd
/-- a name that may be a field's -/
structure FName (K : Frag) (C : Addr) (f : Str) : Prop where
  ns : (f == ("self" : Str)) = false
  nd : (f == ("__debug__" : Str)) = false
  nc : (f == ("__class__" : Str)) = false
  nu : (f == ("super" : Str)) = false
  no : findIn K (.ref C) f = some none
theorem own_init1 (T : Txt prog K mg x C fI cc) (FN : Fn1 prog K qual f fI cc) (N : FName K C f) {e t0 : Addr} {v : Value} (X : K.In s.heap) (hlim : s.heap.NoLimit) (G : s.heap.Ns mainGlobals mg) (B : s.heap.Ns builtinsNs mb) (hB : ∀ x : Str, x ≠ "__name__" → mb x = bootBuiltins x)
    (he : s.heap.get? e = some (excO C t0)) (hne : K.lookup e = none) (hge : mainGlobals ≠ e) (hroom : A.depth < recursionLimit)
    (hq : ∀ h' tk dx t1, InitEnd s.heap h' e C dx t1 (fun y => if y = f then some v else none) → R (.ok (.ret .none)) { s with heap := h', toks := tk }) :
    codeAny (model prog w) A (.call (.ref fI) ⟨[.ref e, v], []⟩) R s := by
  obtain ⟨oc, od, doc, pm, an, cda, ct, osl, p1, p2, r0, r1, r2, r3, r4, r5, q1, q2, q3, q4, ccl, cdd, vs, ccs, file, tf, ho, hcd, hcode, hvs, hfile, hbind, hcall⟩ := FN.fn
  obtain ⟨nm, q, Nn, bs, bm, sn, sub, ab, col, dd, k0, k1, k2, k3, k5, hC, hbm⟩ := T.cls
  have hcl : clsIn K C = some { name := nm, bases := bs, mro := .ref C :: bm, ns := Nn, qualname := q, hasDict := true, slotNames := sn, subclasses := sub, abstract := ab, collection := col, hasDel := false } := by unfold clsIn; rw [hC] <;> rfl
  have l1 : (iS1 f).names.lookup f = some .local := by simp [iS1, List.lookup, N.ns]
  have l2 : (iS1 f).names.lookup ("self" : Str) = some .local := by simp [iS1, List.lookup]
  have l3 : (iS1 f).names.lookup ("__class__" : Str) = some .free := by
    have := N.nc
    have z : (("__class__" : Str) == f) = false := by rw [beq_eq_false_iff_ne] at this ⊢; exact fun h => this h.symm
    simp [iS1, List.lookup, z, show (("__class__" : Str) == ("self" : Str)) = false from by decide]
  have l4 : (iS1 f).names.lookup ("super" : Str) = some .globalImplicit := by
    have := N.nu
    have z : (("super" : Str) == f) = false := by rw [beq_eq_false_iff_ne] at this ⊢; exact fun h => this h.symm
    simp [iS1, List.lookup, z, show (("super" : Str) == ("self" : Str)) = false from by decide, show (("super" : Str) == ("__class__" : Str)) = false from by decide]
  have m1 : (fun y => ([("self", .ref e), (f, v)] : List (Str × Value)).reverse.lookup y) f = some v := by simp [List.lookup]
  have m2 : (fun y => ([("self", .ref e), (f, v)] : List (Str × Value)).reverse.lookup y) "self" = some (.ref e) := by
    have := N.ns
    have z : (("self" : Str) == f) = false := by rw [beq_eq_false_iff_ne] at this ⊢; exact fun h => this h.symm
    simp [List.lookup, z]
  refine ks_codeAny_call_defAt (fd := ksFn "__init__" qual (iA1 f p1 p2) (iB1 f r0 r1 r2 r3 r4 r5 q1 q2 q3 q4) (iS1 f) .none .none doc pm an (.ref cda) ct cc) (body := iB1 f r0 r1 r2 r3 r4 r5 q1 q2 q3 q4) (binds := [("self", .ref e), (f, v)]) hroom (X _ _ ho) rfl hlim (codeRec_of X hcd) rfl
    (BindsTo.of_eq (hbind _ _)) (fun y hy => by
      simp only [ksFn, fnX, iS1, List.mem_cons, List.not_mem_nil, or_false] at hy
      rcases hy with rfl | rfl | rfl | rfl <;> exact fun z => nomatch z)
    (fun y hy => by
      simp only [List.mem_cons, List.not_mem_nil, or_false] at hy
      rcases hy with rfl | rfl
      · exact l2
      · exact l1)
    (fun h₁ hns k => ?_)
  obtain ⟨hp, g, d, tk, os⟩ := s
  have X₁ : K.In h₁ := X.keeps k
  have hx₁ := k _ _ he
  obtain ⟨pl, hcall⟩ := hcall (ksEnv qual (iS1 f) hp.objs.size fI (.ref cda) cc)
  refine ks_wpAt_execs_cons (ks_wpAt_Expr_any (ks_wpAt_MethodCall (pl := pl) ?_ hcall) (by rfl) (by rfl))
  refine super_base T (h := h₁) X₁ (G.keeps k) (B.keeps k) hB hns ho rfl m2 hx₁ rfl ⟨_, rfl⟩ hcode hvs hfile (by decide) l4 l3 l2 rfl fun h₂ e2 kk => ?_
  have X₂ : K.In h₂ := X₁.keeps kk
  have hI : InstAt h₂ e (excO C t0) C none := ⟨kk _ _ hx₁, rfl, rfl, trivial⟩
  have su := T.su
  unfold ks_superIn at su
  rw [hcl] at su
  refine kxs_getMethod kxs_ValueError e2 (looks_opaque X₂ T.op) (l₀ := .ref C :: bm) ?_ rfl X₂ su (hI.type.andThen (looks_subIn X₂ T.veC)) (ks_ne X₂ hI hcl) (by decide) ?_
  · exact fun A Q E s k q => wpAny_bind ((looks_clsIn X₂ hcl) A _ E s k (wpAny_pure q))
  have k3' : ∀ b o, h₂.get? b = some o → (h₂.push (kxs_mw "ValueError.__init__" e)).get? b = some o := fun b o q => Heap.get?_push_of_some _ q
  have hu : (h₂.push (kxs_mw "ValueError.__init__" e)).get? h₂.objs.size = some (kxs_mw "ValueError.__init__" e) := Heap.get?_push_size _ rfl
  have hns3 : (h₂.push (kxs_mw "ValueError.__init__" e)).Ns hp.objs.size _ := (hns.keeps kk).keeps k3'
  show wpAny _ _ (callWith r4 (.ref h₂.objs.size) [] (backTo r4 (starEach [.Name f r3] _)) []) _ _ _
  refine kxs_callWith (i := "ValueError.__init__") (x := e) (by rfl) (evalArgs_plain (Calls.spliced_cons ?_))
  refine ldK (v := v) hns3 m1 ?_ (hk := by rfl) (hl := l1) (hd := N.nd)
  refine Calls.spliced_nil ⟨hu, ?_⟩
  show wpAny _ _ (call (.ref h₂.objs.size) [v]) _ _ _
  refine call_mw T (X₂.keeps k3') (k3' _ _ hI.at_) hu (one_size v) fun h₄ t1 k4 e4 => ?_
  have hL : hp.objs.size ≠ e := Nat.ne_of_gt (Heap.lt_size he)
  have kAll : ∀ b o, b ≠ e → hp.get? b = some o → h₄.get? b = some o := fun b o hb z => k4 b o hb (k3' _ _ (kk _ _ (k _ _ z)))
  have X₄ : K.In h₄ := fun a o z => kAll a o (fun y => by rw [y, hne] at z; cases z) (X a o z)
  have hns4 : h₄.Ns hp.objs.size (fun y => ([("self", .ref e), (f, v)] : List (Str × Value)).reverse.lookup y) := hns3.at fun o z => k4 _ o hL z
  refine wpAt_of_wpAny ?_
  refine wpAny_execs_cons (plainObj_wpAny_Assign_Attribute ?_)
  refine ldK (v := v) hns4 m1 (ldK (v := .ref e) hns4 m2 ?_ (hk := by rfl) (hl := l2) (hd := by decide)) (hk := by rfl) (hl := l1) (hd := N.nd)
  refine set_plain X₄ (ox := excO C t1) (od := none) ⟨e4, rfl, rfl, trivial⟩ T.sa ?_
  refine exc_osa X₄ e4 hcl (show refsVE (.ref C :: bm) = true from hbm) rfl N.no (fun h₅ tk₅ dx k₅ dn dne hx₅ hn₅ => ?_)
  show wpAny _ _ (execs _ _) _ _ _
  have hz : hp.objs.size < h₄.objs.size := hns4.lt
  exact wpAny_execs_nil (hq h₅ tk₅ dx t1 ⟨fun b o hb z => k₅ b o hb (kAll b o hb z), hx₅, Nat.le_of_lt (Nat.lt_of_lt_of_le hz dn), dne, hn₅⟩)
end
end OEK
end

section
set_option Elab.async false
set_option linter.all false
set_option maxRecDepth 100000
set_option maxHeartbeats 2000000
/-! DX2: such an exception made, raised; over data. -/
namespace OEK
open PySem PySem.W PySem.Calls PyProof.Rows PySem.HandSPX
/-- a made one -/
structure Made (h h' : Heap) (e C d : Addr) (ma : Str → Option Value) : Prop where
  keep : ∀ b o, h.get? b = some o → h'.get? b = some o
  new : h.objs.size ≤ e
  obj : ∃ oe vs, h'.get? e = some oe ∧ oe.cls = .ref C ∧ oe.dict = some d ∧ oe.data = .fields vs ∧ vs[1]? = some .none
  dbig : h.objs.size ≤ d
  dne : d ≠ e
  ns : h'.Ns1 d ma
section
variable {prog : Program} {w : World} {A : Around} {E : Value → Shared → Prop} {R : Result → Shared → Prop} {s : Shared} {K : Frag} {mg mb : Str → Option Value} {x qual f : Str} {C fI cc : Addr}
theorem own_made1 (T : Txt prog K mg x C fI cc) (FN : Fn1 prog K qual f fI cc) (N : FName K C f) {v : Value} (X : K.In s.heap) (hlim : s.heap.NoLimit) (G : s.heap.Ns mainGlobals mg) (B : s.heap.Ns builtinsNs mb) (hB : ∀ x : Str, x ≠ "__name__" → mb x = bootBuiltins x) (hroom : A.depth + 1 < recursionLimit)
    (hq : ∀ h' tk e d, Made s.heap h' e C d (fun y => if y = f then some v else none) → R (.ok (.ret (.ref e))) { s with heap := h', toks := tk }) :
    codeAny (model prog w) A (.call (.ref C) ⟨[v], []⟩) R s := by
  obtain ⟨nm, q, Nn, bs, bm, sn, sub, ab, col, dd, k0, k1, k2, k3, k5, hC, hbm⟩ := T.cls
  obtain ⟨hp, g, dr, tk, os⟩ := s
  have k : ∀ b o, hp.get? b = some o → ((hp.push (kdv_tup [v])).push (excO C hp.objs.size)).get? b = some o := fun b o e => Heap.get?_push_of_some _ (Heap.get?_push_of_some _ e)
  have hget : ((hp.push (kdv_tup [v])).push (excO C hp.objs.size)).get? (hp.objs.size + 1) = some (excO C hp.objs.size) := by heap_get
  have hnx : K.lookup (hp.objs.size + 1) = none := by
    cases e : K.lookup (hp.objs.size + 1) with
    | none => rfl
    | some o =>
      have z : hp.get? (hp.objs.size + 1) = some o := X _ _ e
      exact absurd (Nat.lt_of_succ_lt (Heap.lt_size z)) (Nat.lt_irrefl _)
  have hge : mainGlobals ≠ hp.objs.size + 1 := Nat.ne_of_lt (Nat.lt_succ_of_lt G.lt)
  refine call_own F.excBase_ValueError (fun X => refsVE_contains X bm hbm) (X _ _ hC) (looks_findIn X T.iC) (fun self => bind_fn X self T.tC) (one_size v) ?_
  refine own_init1 (s := ⟨(hp.push (kdv_tup [v])).push (excO C hp.objs.size), g, dr, tk, os⟩) T FN N (X.keeps k) (hlim.keeps k) (G.keeps k) (B.keeps k) hB hget hnx hge ?_ fun h' tk' dx t1 ⟨k', hx, dn, dne, hns⟩ => ?_
  · show A.depth + 1 < recursionLimit
    exact hroom
  · have old : ∀ b o, hp.get? b = some o → h'.get? b = some o := fun b o e => k' b o (Nat.ne_of_lt (Nat.lt_succ_of_lt (Heap.lt_size e))) (k b o e)
    have z : hp.objs.size + 1 + 1 ≤ dx := by
      first
        | (simpa only [Heap.size_push] using dn)
        | exact dn
        | (have q := dn; rw [Heap.size_push, Heap.size_push] at q; exact q)
    exact ⟨rfl, hq h' tk' (hp.objs.size + 1) dx ⟨old, Nat.le_succ _, ⟨_, _, hx, rfl, rfl, rfl, rfl⟩, Nat.le_trans (Nat.le_trans (Nat.le_succ _) (Nat.le_succ _)) z, dne, hns⟩⟩
end
end OEK
namespace L2
open PySem PySem.Spec PyProof.Rows
theorem relO_one {v : V} {v' : Value} {g : Str} (r : RelV v v') (f : Str) : RelO (List.lookup f [(g, v)]) (if f = g then some v' else none) := by
  by_cases hw : f = g
  · subst hw
    rw [if_pos rfl]
    have q : List.lookup f [(f, v)] = some v := by simp [List.lookup]
    rw [q]
    exact r
  · rw [if_neg hw]
    have qw : (f == g) = false := by simpa using hw
    have q2 : List.lookup f [(g, v)] = none := by simp [List.lookup, qw]
    rw [q2]
    trivial
section
variable {X : Cx} {C fI cc : Addr} {x qual f : Str}
/-- x(e) -/
def tMkX (C : Addr) (f : Str) (ta : TA) : St → Hp → XK → Prop := fun σ H Q => ta σ H fun vs H1 => ∃ v, vs = [v] ∧ ∀ d, H1 d = none → Q (.ref C) (some d) (upd H1 d (.xd [(f, v)]))
theorem pmk_own1 {a : Expr} {ta : TA} {p pos : Pos} {k : Nat} (T : OEK.Txt X.prog X.K X.mg x C fI cc) (FN : OEK.Fn1 X.prog X.K qual f fI cc) (N : OEK.FName X.K C f) (hr : Room k X.A) (ha : PA X [a] ta) (hg : Gl X x) (hdb : (x == ("__debug__" : Str)) = false := by decide)
    (he : starEach (a :: []) X.env = (false, eval a X.env) :: starEach [] X.env := by rfl) (hpl : (backTo pos (starEach [] X.env)).any (·.1) = false := by rfl) :
    PMk X (.Call (.Name x p) [a] [] pos) (tMkX C f ta) := by
  intro pins s σ H Q I h
  refine wpAny_Call_Name_kw (ld_glob I hg T.gC ?_ hdb)
  refine PySem.W.callWith_K (h₀ := X.base) I.ok.mod.kin T.kC (thn (ha.run pos pins s σ H _ I h) fun us s1 hh => ?_) he hpl
  obtain ⟨vs, H1, I1, r1, v, ev, q1⟩ := hh
  subst ev
  refine ⟨I1.kIn, ?_⟩
  cases r1 with
  | cons rv rn =>
    rename_i v' us'
    cases rn
    show wpAny _ _ (call (.ref C) [v']) _ _ _
    have hlim := I1.nolimit
    have hkin := I1.kIn
    have hG := I1.mod.glob.keeps I1.bk
    obtain ⟨mb, hb0, hB⟩ := I1.mod.blt
    have hb := hb0.keeps I1.bk
    obtain ⟨hp, g, dr, tk, os⟩ := s1
    refine wpAny_call (OEK.own_made1 T FN N hkin hlim hG hb hB (by have := hr.dp; omega) fun h' tk' e d M => ?_)
    show MkP X pins σ Q (.ref e) ⟨h', g, dr, tk', os⟩
    obtain ⟨oe, fv, hoe, hc, hd, hdat, h1⟩ := M.obj
    have hns := M.ns
    obtain ⟨G', g1, g2⟩ := restrict h' fun b => decide (b ≠ e)
    have gk : ∀ b, b ≠ e → G'.get? b = h'.get? b := fun b hb => g1 b (decide_eq_true hb)
    have ge : G'.get? e = none := g2 e (by simp)
    have old : ∀ b o, hp.get? b = some o → G'.get? b = some o := fun b o q => (gk b (Nat.ne_of_lt (Nat.lt_of_lt_of_le (Heap.lt_size q) M.new))).trans (M.keep b o q)
    have ob : ObjOk X.prog X.w (upd H1 d (.xd [(f, v)])) G' d (.xd [(f, v)]) :=
      ⟨_, hns.at (fun o q => (gk d M.dne).trans q), fun g => relO_one rv g⟩
    have J : Inv X pins σ (upd H1 d (.xd [(f, v)])) ⟨G', g, dr, tk', os⟩ := I1.laid (t' := tk') old M.dbig ob
    refine ⟨e, oe, fv, ⟨G', g, dr, tk', os⟩, _, .ref C, some d, rfl, J, fun b o q => ?_, ge, hoe, ⟨hc, hd⟩, hdat, h1, ?_, rfl, I1.bare, raises_own T.exC T.tyC, q1 d (I1.hok.fresh M.dbig)⟩
    · by_cases hb : b = e
      · have q' : G'.get? b = some o := q
        rw [hb, ge] at q'; cases q'
      · exact (gk b hb).symm.trans q
    · rw [upd_ne (Ne.symm M.dne)]
      exact I1.hok.fresh M.new
end
end L2
namespace DL
open PySem PySem.Spec PyProof.Rows L2
/-- raise x(e), x an own class at C with one field -/
def dRaise1 (C : Addr) (f : Str) (ta : DTA) : DTS := fun _ δ M W => ta δ M (fun ds M1 => match ds with
  | [d] => W (.ref C) [(f, d)] δ M1
  | _ => False) W
section
variable {X : Cx} {W0 : WX} {C fI cc : Addr} {x qual f : Str} {a : Expr} {ta : DTA} {p pos pos2 : Pos} {k : Nat}
theorem ds_raise1 (hc : X.calm = true) (T : OEK.Txt X.prog X.K X.mg x C fI cc) (FN : OEK.Fn1 X.prog X.K qual f fI cc) (N : OEK.FName X.K C f) (hr : Room k X.A) (tk : Takes X W0) (ha : DA X W0 [a] ta) (hg : Gl X x := by rfl) (hdb : (x == ("__debug__" : Str)) = false := by decide)
    (he : starEach (a :: []) X.env = (false, eval a X.env) :: starEach [] X.env := by rfl) (hpl : (backTo pos (starEach [] X.env)).any (·.1) = false := by rfl) :
    DS X W0 (.Raise (some (.Call (.Name x p) [a] [] pos)) none pos2) (dRaise1 C f ta) :=
  .mk' (ps_raise hc tk (pmk_own1 T FN N hr ha.pa hg hdb he hpl)) fun D0 σ H δ M D' W at_ q k w => lfA.use at_ q (fun vs H1 ds M1 x m1 r1 q1 => by
    split at q1
    · obtain ⟨v, rfl, r⟩ := r1.one
      refine ⟨v, rfl, fun d hd => ?_⟩
      have y := Ext.laid (o := .xd [(f, v)]) m1 hd
      refine w (.ref C) (some d) σ _ _ δ M1 (x.trans y) (at_.s.ext (x.trans y)) (m1.laid hd) (.inr ⟨d, _, rfl, upd_same, m1.fresh hd, .cons ⟨rfl, r.ext y⟩ .nil⟩) q1
    · exact q1.elim) w
/-- what is never run -/
def dDead : DTS := fun _ _ _ _ => False
theorem ds_dead {st : Stmt} : DS X W0 st dDead := .mk' (t0 := fun _ _ _ => False) ⟨fun pins s σ H D I h => h.elim⟩ fun D0 σ H δ M D' W a q k w => q
def dDeadE : DTE := fun _ _ _ _ => False
theorem de_dead {e : Expr} : DE X W0 e dDeadE := .mk' (t0 := fun _ _ _ => False) ⟨fun pins s σ H D I h => h.elim⟩ fun σ H Q0 δ M Q W a q k w => q
end
end DL
end

section
set_option Elab.async false
set_option linter.all false
set_option maxRecDepth 100000
set_option maxHeartbeats 4000000
/-! DX3: isinstance of a caught own error that has a dict; try; e.f. -/
namespace PySem.W
open PySem PySem.Spec PySem.Calls PyProof.Rows
section
variable {prog : Program} {w : World} {A : Around} {E : Value → Shared → Prop} {s : Shared} {K : Frag} {x D : Addr} {ox : Obj} {od : Option Obj}
theorem dl_findObj {C : Addr} {name : Str} {a g : Value} (hc : (clsIn K C).isSome = true) (ha : findIn K (.ref C) name = some (some a)) (hg : specialIn K a "__get__" = some (some g)) (ht : takesIn K a = some true) : findObj K C od name = some (.bind g a) := by
  obtain ⟨cd, hc⟩ := Option.isSome_iff_exists.mp hc
  unfold findObj
  rw [hc, Option.bind_some, ha, Option.bind_some]
  simp [hg, ht]
theorem dl_kin_class {Q : Option Value → Shared → Prop} (hga : findIn K (.ref D) "__getattribute__" = some (some (.builtin "BaseException.__getattribute__"))) (hgt : findIn K (.ref D) "__getattr__" = some none) (hsub : subIn K (.ref D) (.type "BaseException") = some true)
    (hdct : hasDictIn K D = true) (ha : findIn K (.ref D) "__class__" = some (some (.builtin "object.__class__")))
    (hn : specialIn K (.builtin "object.__class__") "__get__" = some (some (.builtin "getset_descriptor.__get__"))) (htk : takesIn K (.builtin "object.__class__") = some true) (hm : mroIn K D (.type "object") = some true)
    (X : K.In s.heap) (I : InstAt s.heap x ox D od) (h : Q (some (.ref D)) { s with toks := s.toks + 1 }) : wpAny (model prog w) A (getAttr? (.ref x) "__class__") Q E s := by
  have hf : findObj K D od "__class__" = some (.bind (.builtin "getset_descriptor.__get__") (.builtin "object.__class__")) := dl_findObj (by obtain ⟨cd, hc, _⟩ := any_some hdct; rw [hc]; rfl) ha hn htk
  obtain ⟨hp, g, d, t, os⟩ := s
  have L0 := I.type (M := model prog w)
  have L1 := looks_findIn (M := model prog w) X hga
  have L2 := looks_findIn (M := model prog w) X hgt
  have L3 := looks_find (M := model prog w) X I hf
  have sub : Looks (model prog w) hp (isInstance (.ref x) (.type "BaseException")) true := L0.andThen (looks_subIn X hsub)
  have hx0 : (false && onTheHeap (Value.builtin "BaseException.__getattribute__")) = false := rfl
  have hx2 : (Value.builtin "BaseException.__getattribute__" == Value.builtin "object.__getattribute__") = false := by decide +kernel
  have hx1 : (onTheHeap (Value.ref D) && Value.builtin "BaseException.__getattribute__" == Value.builtin "object.__getattribute__") = false := by rw [hx2]; rfl
  unfold getAttr? getAttrBy? getAttrBy
  refine wpAny_bind (wpAny_mkText (wpAny_bind (wpAny_attempt (wpAny_holding (wpAny_bind (L0.at (wpAny_bind (L1.at ?_))))))))
  show wpAny _ _ (if (onTheHeap (Value.ref D) && Value.builtin "BaseException.__getattribute__" == Value.builtin "object.__getattribute__") = true then _ else _) _ _ _
  rw [hx1, if_neg Bool.false_ne_true]
  unfold getAttrByItsOwn hookBefore
  refine wpAny_bind ?_
  rw [if_pos (show onTheHeap (Value.ref D) = true from rfl)]
  refine L2.at ?_
  refine wpAny_bind (wpAny_attempt (wpAny_holding ?_))
  unfold callGetattribute
  rw [hx0, if_neg Bool.false_ne_true]
  unfold boundAndCalled
  rw [PySem.F.excAttr_ValueError.ga.bind (.ref x)]
  refine wpAny_bind (wpAny_pure ?_)
  show wpAny _ _ (call (.builtin "BaseException.__getattribute__") [.ref x, .str "__class__" t]) _ _ _
  refine wpAny_call (codeAny_call_builtin PySem.F.excAttr_ValueError.ga.plain PySem.F.entry_bexc_ga ?_)
  refine @check_slot (model prog w) _ _ ⟨hp, g, d, t + 1, os⟩ "BaseException.__getattribute__" "BaseException" "__getattribute__" (.ref x) [.str "__class__" t] [] _ (by decide +kernel) (by decide +kernel) sub (PySem.F.args_bexc_ga (.ref x) (.str "__class__" t)) ?_
  unfold Builtin.«object.__getattribute__»
  refine wpAny_bind (wpAny_of_eq (a := ((Value.ref x : Value), [Value.str "__class__" t])) (by first | rfl | (simp only [slotArgs]; rfl)) ?_)
  refine wpAny_bind (wpAny_pure (wpAny_bind (L0.at (wpAny_bind (L3.at ?_)))))
  show wpAny _ _ (holding [Value.builtin "object.__class__"] (call (.builtin "getset_descriptor.__get__") [.builtin "object.__class__", .ref x, .ref D]) >>= ret) _ _ _
  refine wpAny_bind (wpAny_holding (wpAny_call (class_get (s := ⟨hp, g, d, t + 1, os⟩) (ox := ox) (od := od) X I hm ?_)))
  refine wpAny_pure ?_
  show wpAny _ _ (handedOut (.ref D)) _ _ _
  rw [handedOut_of (v := .ref D) rfl]
  first
    | exact wpAny_pure (wpAny_pure h)
    | exact wpAny_pure h
    | exact wpAny_pure (wpAny_bind (wpAny_pure (wpAny_pure h)))
theorem dl_kitx (hga : findIn K (.ref D) "__getattribute__" = some (some (.builtin "BaseException.__getattribute__"))) (hgt : findIn K (.ref D) "__getattr__" = some none) (hsub : subIn K (.ref D) (.type "BaseException") = some true) (hdct : hasDictIn K D = true) (ha : findIn K (.ref D) "__class__" = some (some (.builtin "object.__class__")))
    (hn : specialIn K (.builtin "object.__class__") "__get__" = some (some (.builtin "getset_descriptor.__get__"))) (htk : takesIn K (.builtin "object.__class__") = some true) (hm : mroIn K D (.type "object") = some true) :
    KitX K (.ref x) (.ref D) (fun h => ∃ od, InstAt h x ox D od) where
  ty := fun _ _ _ ⟨_, I⟩ => I.type
  it := fun _ _ X _ => by
    obtain ⟨cdD, hcD, _⟩ := any_some hdct
    unfold clsIn at hcD
    split at hcD
    · rename_i c' d' cd' sl' ho
      intro A' Q' E' s' k q
      unfold isType loadHead
      exact wpAny_bind (wpAny_loadPart (k _ _ (X _ _ ho)) (wpAny_pure q))
    · cases hcD
  ne := fun h tp dd its n sl X htp => by
    obtain ⟨cdD, hcD, _⟩ := any_some hdct
    refine Bool.eq_false_iff.mpr fun q => ?_
    have e : D = tp := Value.ref.inj (beq_iff_eq.mp q)
    subst e
    unfold clsIn at hcD
    split at hcD
    · rename_i c' d' cd' sl' ho
      have z := (X _ _ ho).symm.trans htp
      cases z
    · cases hcD
  ca := fun X ⟨_, I⟩ k => dl_kin_class hga hgt hsub hdct ha hn htk hm X I k
end
end PySem.W
namespace L2
open PySem PySem.Spec PyProof.Rows
/-- isinstance(e, c), e the exception that the suite holds, with its dict at d -/
def rIsEd (K : PySem.W.Frag) (D a d : Addr) : List V → Hp → VK → Prop := fun xs H Q => ∃ (c : V) (cv : Value) (b : Bool) (fs : List (Str × V)), xs = [.ref a, c] ∧ (∀ u, RelV c u → u = cv) ∧ PySem.W.kitOne K (.ref D) cv = some b ∧ H d = some (.xd fs) ∧ Q (.bl b) H
theorem call_isEd {X : Cx} {a D d : Addr} {oe : Obj} {pn : List (Addr × Obj)} (C : ExcC X.K D) (hz : Zc (.ref D) (some d) oe) (hf : ∃ vs, oe.data = .fields vs) : CallR (X.suite a ((a, oe) :: pn)) (.builtin "isinstance") (rIsEd X.K D a d) := by
  intro pins s σ H xs us Q I r h
  obtain ⟨c, cv, b, fs, rfl, hcv, e, hd, q⟩ := h
  cases r with
  | cons rx rr =>
    cases rr with
    | cons rt rr =>
      cases rr
      cases rx
      have ec := hcv _ rt
      subst ec
      obtain ⟨hget, _⟩ := I.pin (a, oe) (List.mem_append.mpr (.inl List.mem_cons_self))
      obtain ⟨mA, hns, hr⟩ := I.hok d _ hd
      obtain ⟨od, ho, hl⟩ := lookIn_ns hns
      obtain ⟨vs, hv⟩ := hf
      have J : ∃ o, PySem.W.InstAt s.heap a oe D o := ⟨some od, hget, hz.1, by unfold PySem.W.notCls; rw [hv] <;> rfl, by rw [hz.2]; exact ho⟩
      exact PySem.W.kia_one (PySem.W.dl_kitx C.hg C.hk C.hs C.hd C.ha C.hn C.ht C.hm) I.kIn J e (fun z => nomatch z) fun tk => ⟨.bl b, H, I.kept (t' := tk) fun _ _ z => z, rfl, q⟩
end L2
end

section
set_option Elab.async false
set_option linter.all false
set_option maxRecDepth 100000
set_option maxHeartbeats 2000000
/-! DX4: try .. except x as e; e.f; isinstance(e, C); x(lambda: ..). -/
namespace DL
open PySem PySem.Spec PyProof.Rows L2
theorem RepS.unset {K : PySem.W.Frag} {M : DHp} {H : Hp} {σ : L2.St} {δ : DSt} (r : RepS K H M σ δ) (i : Nat) : RepS K H M (σ.set i none) (δ.set i none) := by
  refine ⟨by rw [List.length_set, List.length_set]; exact r.len, fun j e h => ?_⟩
  by_cases hj : i = j
  · subst hj
    by_cases hi : i < δ.length
    · rw [List.getElem?_set_self hi] at h
      cases h
    · rw [List.getElem?_eq_none (by rw [List.length_set]; omega)] at h
      cases h
  · rw [List.getElem?_set_ne hj] at h ⊢
    exact r.at_ j e h
/-- an exception as data, in the suite that holds it -/
abbrev excD (a : Addr) (d : Option Addr) (gs : List (Str × D)) : D := .exc a d (gs.map (·.1)) (gs.map (·.2))
theorem RepF.names {K : PySem.W.Frag} {M : DHp} {H : Hp} : ∀ {fs : List (Str × V)} {gs : List (Str × D)}, RepF K H M fs gs → fs.map (·.1) = gs.map (·.1) ∧ RepL K H M (fs.map (·.2)) (gs.map (·.2))
  | _, _, .nil => ⟨rfl, .nil⟩
  | _, _, .cons r t => by
    obtain ⟨h1, h2⟩ := RepF.names t
    exact ⟨by rw [List.map_cons, List.map_cons, r.1, h1], .cons r.2 h2⟩
theorem XRep.rep {K : PySem.W.Frag} {M : DHp} {H : Hp} {pd : Option Addr} {gs : List (Str × D)} (a : Addr) (r : XRep K H M pd gs) : Rep K H M (.ref a) (excD a pd gs) := by
  rcases r with ⟨rfl, rfl⟩ | ⟨d, fs, rfl, h, n, f⟩
  · exact .exc0 a
  · obtain ⟨e, l⟩ := f.names
    show Rep K H M (.ref a) (.exc a (some d) (gs.map (·.1)) (gs.map (·.2)))
    rw [← e]
    exact .exc1 h n l
def dTryAs (K : PySem.W.Frag) (c : Value) (i : Nat) (tb : DTS) (ts : Addr → Value → Option Addr → DTS) : DTS := fun D δ M W =>
  tb D δ M (fun cls gs δ' M' => ∃ b, PySem.W.exmOne K cls c = some b ∧
    (b = true → ∀ a d, (gs ≠ [] → d ≠ none) → ts a cls d { nx := fun δ2 M2 => D.nx (δ2.set i none) M2, rt := D.rt, bk := fun δ2 M2 => D.bk (δ2.set i none) M2, ct := fun δ2 M2 => D.ct (δ2.set i none) M2 } (δ'.set i (some (excD a d gs))) M' WN) ∧
    (b = false → W cls gs δ' M'))
section
variable {X : Cx} {W0 : WX} {x n : Str} {c : Value} {i : Nat} {body suite : List Stmt} {b₀ : Stmt} {np pos pos' : Pos} {tb : DTS} {ts : Addr → Value → Option Addr → DTS}
theorem ds_try_as (hs : X.stack = X.env :: X.outer) (hf : X.env.frame = some X.env.locals) (hN : X.N.Nodup) (hi : X.N[i]? = some n) (hln : X.env.kindOf n = some .local) (hc : Names X x c) (tk : Takes X W0)
    (hb : ∀ (W : WX) (pn : List (Addr × Obj)) (xe : Value → Shared → Prop), Takes (X.tr pn xe) W → PassesOwn (model X.prog X.w) X.A X.env xe → DSs (X.tr pn xe) W body tb)
    (hsu : ∀ (a : Addr) (oe : Obj) (cls : Value) (d : Option Addr) (pn : List (Addr × Obj)), Zc cls d oe → (∃ vs, oe.data = .fields vs) → DSs (X.suite a ((a, oe) :: pn)) WF (b₀ :: suite) (ts a cls d)) :
    DS X W0 (.Try body [.ExceptHandler (some (.Name x np)) (some n) (b₀ :: suite) pos'] [] [] pos) (dTryAs X.K c i tb ts) :=
  .mk' (ps_try_as (tb := fun W => lfS X.K W tb) (ts := fun a cls d => lfS X.K WF (ts a cls d)) hs hf hN hi hln hc tk (fun W pn xe t p => (hb W pn xe t p).pss) (fun a oe cls d pn z f => (hsu a oe cls d pn z f).pss))
    fun D0 σ H δ M D' W a q k w => by
      refine lfS.use a q k fun cls pd σ' H' gs δ' M' x s m r ⟨b, e, y, n⟩ => ⟨b, e, fun hb a na => ?_, fun hb => w cls pd σ' H' gs δ' M' x s m r (n hb)⟩
      refine lfS.use ⟨s.set i (r.rep a), m⟩ (y hb a pd (fun ne => by
        rcases r with ⟨_, e⟩ | ⟨dd, fs, e, _⟩
        · exact absurd e ne
        · rw [e]; exact fun z => nomatch z)) ⟨?_, k.rt.ext x, ?_, ?_⟩ fun c pd σ' H' gs δ' M' _ _ _ _ z => z
      · exact fun σ2 H2 δ2 M2 x2 a2 q2 => k.nx _ H2 _ M2 (x.trans x2) ⟨a2.s.unset i, a2.m⟩ q2
      · exact fun σ2 H2 δ2 M2 x2 a2 q2 => k.bk _ H2 _ M2 (x.trans x2) ⟨a2.s.unset i, a2.m⟩ q2
      · exact fun σ2 H2 δ2 M2 x2 a2 q2 => k.ct _ H2 _ M2 (x.trans x2) ⟨a2.s.unset i, a2.m⟩ q2
/-- e.f -/
def dXf (a : Addr) (cls : Value) (d : Option Addr) (C : Addr) (f : Str) (te : DTE) : DTE := fun δ M Q W => te δ M (fun x M1 => match x with
  | .exc a' d' ns vs => a' = a ∧ d' = d ∧ cls = .ref C ∧ d ≠ none ∧ ∃ v, (ns.zip vs).lookup f = some v ∧ Q v M1
  | _ => False) W
theorem RepL.field {K : PySem.W.Frag} {M : DHp} {H : Hp} {f : Str} {v : D} : ∀ {fs : List (Str × V)} {ds : List D}, RepL K H M (fs.map (·.2)) ds → ((fs.map (·.1)).zip ds).lookup f = some v → ∃ u, fs.lookup f = some u ∧ Rep K H M u v
  | [], ds, r, e => by simp at e
  | (g, w) :: fs, ds, r, e => by
    cases r with
    | cons r t =>
      simp only [List.map_cons, List.zip_cons_cons, List.lookup_cons] at e ⊢
      cases hb : f == g with
      | true =>
        rw [hb] at e
        simp only at e ⊢
        cases e
        exact ⟨w, rfl, r⟩
      | false =>
        rw [hb] at e
        simp only at e ⊢
        exact RepL.field t e
theorem de_xf {a C : Addr} {oe : Obj} {cls : Value} {d : Option Addr} {pn : List (Addr × Obj)} {e : Expr} {te : DTE} {pos : Pos} {n : Str} (T : XfC X.K C) (hno : PySem.W.findIn X.K (.ref C) n = some none)
    (hz : Zc cls d oe) (hf : ∃ vs, oe.data = .fields vs) (he : DE (X.suite a ((a, oe) :: pn)) W0 e te) (hb : attributeBase e n X.env (eval e X.env) = eval e X.env := by rfl) :
    DE (X.suite a ((a, oe) :: pn)) W0 (.Attribute e n pos) (dXf a cls d C n te) :=
  .mk' (pe_xf T hno hz hf he.pe hb) fun σ H Q0 δ M Q W at_ q k w => lfE.use at_ q (fun v H1 x M1 y m1 r1 q1 => by
    split at q1
    · obtain ⟨rfl, rfl, hc, hd, u, hl, q1⟩ := q1
      cases r1 with
      | exc0 => exact absurd rfl hd
      | exc1 f nn l =>
        obtain ⟨z, hz, rz⟩ := l.field hl
        exact ⟨rfl, hc, _, _, z, rfl, f, hz, k z H1 u M1 y m1 rz q1⟩
    · exact q1.elim) w
/-- isinstance(e, C) -/
def rIsXD (K : PySem.W.Frag) (a : Addr) (cls : Value) (d : Option Addr) : DRs := fun ds M Q => match ds with
  | [.exc a' d' _ _, .ref c] => a' = a ∧ d' = d ∧ ∃ (D : Addr) (b : Bool), cls = .ref D ∧ ExcC K D ∧ PySem.W.kitOne K (.ref D) (.ref c) = some b ∧ Q (.bl b) M
  | _ => False
theorem dc_isX {a : Addr} {oe : Obj} {cls : Value} {d : Option Addr} {pn : List (Addr × Obj)} (hz : Zc cls d oe) (hf : ∃ vs, oe.data = .fields vs) : DCall (X.suite a ((a, oe) :: pn)) (.builtin "isinstance") (rIsXD X.K a cls d) := by
  refine ⟨fun xs H Q => (∃ D dd, cls = .ref D ∧ d = some dd ∧ ExcC X.K D ∧ rIsEd X.K D a dd xs H Q) ∨ ∃ D, cls = .ref D ∧ d = none ∧ ExcC X.K D ∧ rIsE X.K D a xs H Q, ?_, fun H M vs ds Q0 Q m r q k => ?_⟩
  · intro pins s σ H xs us Q I r h
    rcases h with ⟨D, dd, rfl, rfl, c, h⟩ | ⟨D, rfl, rfl, c, h⟩
    · exact call_isEd c hz hf pins s σ H xs us Q I r h
    · exact call_isE c hz hf pins s σ H xs us Q I r h
  · unfold rIsXD at q
    split at q
    · obtain ⟨v, w, rfl, r1, r2⟩ := r.two
      obtain ⟨rfl, rfl, D, b, hc, ec, hk, q⟩ := q
      rw [r2.refI]
      cases r1 with
      | exc0 => exact .inr ⟨D, hc, rfl, ec, .ref _, _, b, rfl, fun u hu => hu, hk, k.here m (.bl b) q⟩
      | exc1 f nn l => exact .inl ⟨D, _, hc, rfl, ec, .ref _, _, b, _, rfl, fun u hu => hu, hk, f, k.here m (.bl b) q⟩
    · exact q.elim
end
/-! ### x(lambda: ..) -/
/-- what a def makes of the code that it got -/
abbrev DAct := DHp → DVK → DXK → Prop
abbrev DHrd := DAct → DHp → DVK → Prop
def actOk (K : PySem.W.Frag) (vs : List V) (xs : List D) (act : DAct) (tl : XK → Hp → VK → Prop) : Prop := ∀ M1 H1 Qa Ea Q0 E0, RepM K H1 M1 → RepL K H1 M1 vs xs → act M1 Qa Ea → OkV K M1 H1 Qa Q0 → OkX K M1 H1 Ea E0 → tl E0 H1 Q0
/-- .. as the hand layer has it -/
def lfHrd (K : PySem.W.Frag) (t : DHrd) : (XK → Hp → VK → Prop) → Hp → VK → Prop := fun tl H Q0 => ∃ M Q act vs xs, RepM K H M ∧ RepL K H M vs xs ∧ t act M Q ∧ OkV K M H Q Q0 ∧ actOk K vs xs act tl
/-- a(), in the def that got the code: slot 0; of its own slots nothing is known where it lets an exception out -/
def dAct (f c : Addr) (q : Str) (vs : List V) (xs : List D) (act : DAct) : DTE := fun δ M Q W => match (δ[0]? : Option (Option D)) with
  | some (some (D.lam f' c' q' vs' xs')) => f' = f ∧ c' = c ∧ q' = q ∧ vs' = vs ∧ xs' = xs ∧ act M Q (fun cl gs M' => W cl gs (List.replicate δ.length none) M')
  | _ => False
/-- the table is where it should be, and there is no other one -/
def TblsOk (T : List (Addr × Str)) (M : DHp) : Prop := (∀ a q, M a = some (.tbl q) → (a, q) ∈ T) ∧ ∀ p ∈ T, M p.1 = some (.tbl p.2)
def dLam (T : List (Addr × Str)) (t : DHrd) (tb : DTE) : DTE := fun δ M Q W => TblsOk T M ∧ t (fun M1 Qa Ea => tb δ M1 Qa (fun cl gs _ M' => Ea cl gs M')) M Q
theorem lam_ext {K : PySem.W.Frag} {T : List (Addr × Str)} {H H1 : Hp} {M : DHp} (m : RepM K H M) (t : TblsOk T M) (e : LamX.ExtN H H1) (tb : LamX.Tabs T H1) : Ext M H M H1 ∧ RepM K H1 M := by
  have x : Ext M H M H1 := ⟨fun a o h n nt => ⟨e a o h nt, n⟩, fun a h => by
    obtain ⟨o, ho⟩ := m a _ h
    exact ⟨(e a _ ho (fun _ z => nomatch z)).trans ho.symm, h⟩⟩
  have fr : ∀ c q, H1 c = some (LamX.CodeO c q) → M c = none := fun c q h => by
    cases z : M c with
    | none => rfl
    | some mo =>
      have y := m c mo z
      cases mo with
      | lst ds =>
        obtain ⟨xs, h', _⟩ := y
        have := e _ _ h' (fun _ z => nomatch z)
        rw [h] at this
        unfold LamX.CodeO at this
        cases this
      | ins C gs =>
        obtain ⟨dx, fs, h', _⟩ := y
        have := e _ _ h' (fun _ z => nomatch z)
        rw [h] at this
        unfold LamX.CodeO at this
        cases this
      | tbl q' =>
        obtain ⟨ps, h', _⟩ := tb (c, q') (t.1 c q' z)
        rw [h] at h'
        unfold LamX.CodeO at h'
        cases h'
      | busy =>
        obtain ⟨xs, h'⟩ := y
        have := e _ _ h' (fun _ z => nomatch z)
        rw [h] at this
        unfold LamX.CodeO at this
        cases this
  refine ⟨x, fun a mo h => ?_⟩
  have q := m a mo h
  cases mo with
  | lst ds => obtain ⟨xs, h', l⟩ := q; exact ⟨xs, e _ _ h' (fun _ z => nomatch z), l.ext x⟩
  | ins C gs => obtain ⟨dx, fs, h', l⟩ := q; exact ⟨dx, fs, e _ _ h' (fun _ z => nomatch z), l.ext x⟩
  | tbl q' =>
    obtain ⟨ps, h1, h2, h3⟩ := tb (a, q') (t.1 a q' h)
    refine ⟨ps, h1, h2, fun pos cv hc => ?_⟩
    obtain ⟨c, e1, e2⟩ := h3 pos cv hc
    exact ⟨c, e1, e2, fr c q' e2⟩
  | busy => obtain ⟨o, h'⟩ := q; exact ⟨o, e _ _ h' (fun _ z => nomatch z)⟩
end DL
end

section
set_option Elab.async false
set_option linter.all false
set_option maxRecDepth 100000
set_option maxHeartbeats 2000000
/-! DX5: a lambda handed to a def. -/
namespace DL
open PySem PySem.Spec PyProof.Rows L2
/-! ### what a lambda sees -/
def capV : L2.St → DSt → List V
  | some v :: σ, some _ :: δ => v :: capV σ δ
  | some _ :: σ, none :: δ => capV σ δ
  | none :: σ, _ :: δ => capV σ δ
  | _, _ => []
def capD : L2.St → DSt → List D
  | some _ :: σ, some d :: δ => d :: capD σ δ
  | some _ :: σ, none :: δ => capD σ δ
  | none :: σ, _ :: δ => capD σ δ
  | _, _ => []
theorem RepS.tail {K : PySem.W.Frag} {H : Hp} {M : DHp} {o : Option V} {p : Option D} {σ : L2.St} {δ : DSt} (r : RepS K H M (o :: σ) (p :: δ)) : RepS K H M σ δ :=
  ⟨by have := r.len; simpa using this, fun i d e => by obtain ⟨v, h1, h2⟩ := r.at_ (i + 1) d (by simpa using e); exact ⟨v, by simpa using h1, h2⟩⟩
theorem RepS.cap {K : PySem.W.Frag} {H : Hp} {M : DHp} : ∀ {σ : L2.St} {δ : DSt}, RepS K H M σ δ → RepL K H M (capV σ δ) (capD σ δ) ∧ ∀ H' M', RepL K H' M' (capV σ δ) (capD σ δ) → RepS K H' M' σ δ
  | [], [], r => ⟨.nil, fun H' M' _ => ⟨rfl, fun i d e => by simp at e⟩⟩
  | [], p :: δ, r => by have := r.len; simp at this
  | o :: σ, [], r => by have := r.len; simp at this
  | o :: σ, p :: δ, r => by
    obtain ⟨h1, h2⟩ := RepS.cap r.tail
    cases p with
    | none =>
      have e1 : capV (o :: σ) (none :: δ) = capV σ δ := by cases o <;> rfl
      have e2 : capD (o :: σ) (none :: δ) = capD σ δ := by cases o <;> rfl
      rw [e1, e2]
      refine ⟨h1, fun H' M' q => ⟨r.len, fun i d e => ?_⟩⟩
      cases i with
      | zero => simp at e
      | succ i =>
        obtain ⟨v, a, b⟩ := (h2 H' M' q).at_ i d (by simpa using e)
        exact ⟨v, by simpa using a, b⟩
    | some d0 =>
      obtain ⟨v0, a0, b0⟩ := r.at_ 0 d0 (by simp)
      have eo : o = some v0 := by simpa using a0
      subst eo
      refine ⟨.cons b0 h1, fun H' M' q => ?_⟩
      cases q with
      | cons q0 q =>
        refine ⟨r.len, fun i d e => ?_⟩
        cases i with
        | zero =>
          have : d0 = d := by simpa using e
          subst this
          exact ⟨v0, rfl, q0⟩
        | succ i =>
          obtain ⟨v, a, b⟩ := (h2 H' M' q).at_ i d (by simpa using e)
          exact ⟨v, by simpa using a, b⟩
theorem takes_len {X : Cx} {W : WX} (t : Takes X W) : Takes X (fun c d σ H => σ.length = X.N.length → W c d σ H) := fun u s' ⟨a, B, sI, pins, σ, H, cls, d, e, I, nb, up, sky, na, os, ag, w⟩ =>
  t u s' ⟨a, B, sI, pins, σ, H, cls, d, e, I, nb, up, sky, na, os, ag, w I.len⟩
theorem repS_blank {K : PySem.W.Frag} {H : Hp} {M : DHp} {σ : L2.St} {n : Nat} (h : σ.length = n) : RepS K H M σ (List.replicate n none) :=
  ⟨by simpa using h, fun i d e => by rw [List.getElem?_replicate] at e; split at e <;> cases e⟩
/-- a(), in the def -/
theorem de_act {Z : Cx} {W : WX} {f c : Addr} {q : Str} {vs : List V} {xs : List D} {act : DAct} {tl : XK → Hp → VK → Prop} {call : Expr} (hact : ∀ E : XK, (∀ cls d σ H, E cls d H → σ.length = Z.N.length → W cls d σ H) → PE Z call (fun σ H Q => σ[0]? = some (some (.ref f)) ∧ H c = some (LamX.CodeO c q) ∧ tl E H Q))
    (ok : actOk Z.K vs xs act tl) : DE Z W call (dAct f c q vs xs act) := by
  have P : PE Z call (fun σ H Q => σ.length = Z.N.length → σ[0]? = some (some (.ref f)) ∧ H c = some (LamX.CodeO c q) ∧ tl (fun cls d H' => ∀ σ' : L2.St, σ'.length = Z.N.length → W cls d σ' H') H Q) :=
    ⟨fun pins s σ H Q I h => (hact _ (fun cls d σ H h hl => h σ hl)).run pins s σ H Q I (h I.len)⟩
  refine .mk' P fun σ H Q0 δ M Q W' a qq k w hl => ?_
  unfold dAct at qq
  split at qq
  · rename_i f' c' q' vs' xs' e
    obtain ⟨rfl, rfl, rfl, rfl, rfl, qq⟩ := qq
    obtain ⟨v, e1, r⟩ := a.s.at_ 0 _ e
    cases r with
    | lam hc n l =>
      refine ⟨e1, hc, ok M H _ _ _ _ a.m l qq k fun c pd H' gs M' x m r q σ' hl' => ?_⟩
      exact w c pd σ' H' gs _ M' x (repS_blank (by rw [hl', ← hl, a.s.len])) m r q
  · exact qq.elim
theorem RepM.code_none {K : PySem.W.Frag} {H : Hp} {M : DHp} (m : RepM K H M) {c : Addr} {q : Str} (h : H c = some (LamX.CodeO c q)) : M c = none := by
  cases z : M c with
  | none => rfl
  | some mo =>
    have y := m c mo z
    cases mo with
    | lst ds => obtain ⟨xs, h', _⟩ := y; rw [h] at h'; unfold LamX.CodeO at h'; cases h'
    | ins C gs => obtain ⟨dx, fs, h', _⟩ := y; rw [h] at h'; unfold LamX.CodeO at h'; cases h'
    | tbl q' => obtain ⟨ps, h', _⟩ := y; rw [h] at h'; unfold LamX.CodeO at h'; cases h'
    | busy => obtain ⟨xs, h'⟩ := y; rw [h] at h'; unfold LamX.CodeO at h'; cases h'
/-- the context of the def that got the code -/
abbrev hrdCx (X : Cx) (Ng : List Str) (x : Str) (sg : Scope) (g : Addr) (cdg : Value) (s : Shared) (H : Hp) : Cx := (cxOf C8.CX0 X.prog X.w X.K X.mg X.base Ng x sg g cdg X.A X.stack s H C8.E0).nox
section
variable {X : Cx} {W0 : WX}
theorem gives_of {Ng : List Str} {x a qn : Str} {sg : Scope} {g : Addr} {cdg : Value} {bg : List Stmt} {t : DHrd} {tb : DTE → DTS} (hN0 : 0 < Ng.length)
    (hder : ∀ (s : Shared) (H : Hp) (ta : DTE), (∀ (W : WX) (pn : List (Addr × Obj)) (xe : Value → Shared → Prop) (p1 p2 : Pos), Takes ((hrdCx X Ng x sg g cdg s H).tr pn xe) W → DE ((hrdCx X Ng x sg g cdg s H).tr pn xe) W (.Call (.Name a p1) [] [] p2) ta) → DSs (hrdCx X Ng x sg g cdg s H) WF bg (tb ta))
    (hbody : ∀ act M Q f c vs xs, t act M Q → tb (dAct f c qn vs xs act) { nx := fun _ M' => Back M Q .non M', rt := Back M Q } (startD Ng.length [.lam f c qn vs xs]) M WN) : LamX.GivesTo X Ng x sg g cdg bg a qn (lfHrd X.K t) := by
  intro f c s H Q0 tl hact hc hT
  obtain ⟨M, Q, act, vs, xs, m, l, q, k, ok⟩ := hT
  refine ⟨_, (hder s H (dAct f c qn vs xs act) fun W pn xe p1 p2 tk => de_act (fun E hE => ?_) ok).pss, ?_⟩
  · exact hact (fun cls d σ H => σ.length = Ng.length → W cls d σ H) pn xe E p1 p2 (takes_len tk) hE
  · have hs : RepS X.K H M (L2.start Ng [.ref f]) (startD Ng.length [.lam f c qn vs xs]) := repS_start (.cons (.lam hc (m.code_none hc) l) .nil)
    refine lfS.use ⟨hs, m⟩ (hbody act M Q f c vs xs q) ⟨fun σ' H' δ' M' x a q => k.back _ H' _ M' x a.m .non q, k.back, fun _ _ _ _ _ _ z => z.elim, fun _ _ _ _ _ _ z => z.elim⟩ fun c pd σ' H' gs δ' M' _ _ _ _ z => z
theorem de_lamcall {T : List (Addr × Str)} {t : DHrd} {tb : DTE} {x a : Str} {g c P : Addr} {k : Nat} {pg : Arguments} {bg : List Stmt} {sg : Scope} {fd : FuncData} {Ng : List Str} {params : Arguments} {body : Expr} {scope : Scope} {p lpos pos : Pos} (F : FunD X.K x x pg bg sg [] [] g fd) (hm : X.mg x = some (.ref g))
    (hb : ∀ (kV doc pm : Value) (an : Option Addr) (cdv ct : Value) (us : List Value), us.length = 1 → bindArgs (PySem.W.fnOf x x pg bg sg .none kV doc pm an cdv ct) ⟨us, []⟩ = pure ([a].zip us)) (Sg : FnScope Ng [a] sg) (hNg : Ng[0]? = some a) (hva : Vis sg a)
    (hG : ∀ cdv, LamX.GivesTo X Ng x sg g cdv bg a (X.env.qual ++ "<lambda>") (lfHrd X.K t)) (TB : LamX.TabB X.base X.mg c P) (hcode : X.env.code = .ref c) (hmT : (P, X.env.qual ++ "<lambda>") ∈ T) (hu : ∀ p ∈ T, p.1 = P → p.2 = X.env.qual ++ "<lambda>")
    (hr : Room (k + 2) X.A) (L : LamX.LamS X.env.scope scope) (hdef : defaultsOf params X.env = ([], [])) (hbind : ∀ (q : Str) (cl : List (Str × Addr)) (pm cv ctv : Value), bindArgs (PySem.W.kla_fn "<lambda>" q params body scope cl pm cv ctv) ⟨[], []⟩ = pure [])
    (hbody : ∀ (A : Around) (outer : List Env) (s : Shared) (H : Hp) (E : XK) (f c' : Addr), Room k (A.deeper (LamX.lamEnv X scope s.heap.objs.size f c')) → Takes (LamX.lamCx X A outer s H E scope f c') (fun cls d _ H => E cls d H) → DE (LamX.lamCx X A outer s H E scope f c') (fun cls d _ H => E cls d H) body tb)
    (hg : Gl X x := by rfl) (hdb : (x == ("__debug__" : Str)) = false := by decide) (hd : (a == ("__debug__" : Str)) = false := by decide) (hcd : (a == ("__classdict__" : Str)) = false := by decide) :
    DE X W0 (.Call (.Name x p) [.Lambda params body scope lpos] [] pos) (dLam T t tb) := by
  obtain ⟨oc, od, dV, kV, doc, pm, an, cdv, ct, osl, rfl, lk, hcg, hdV, _⟩ := F.ex
  have edV : dV = .none := by
    rcases hdV with ⟨_, e⟩ | ⟨e, _⟩
    · exact e
    · exact absurd rfl e
  subst edV
  refine .mk' (LamX.pe_lamcall (T := T) (TT := lfHrd X.K t) (t := fun E => lfE X.K (fun cls d _ H => E cls d H) tb) hg hm F.kp lk hcg (.all (hb kV doc pm an cdv ct)) Sg hNg hva (hG cdv) TB hcode hmT hu hr L hdef hbind (fun A outer s H E f c' hr' => (hbody A outer s H E f c' hr' ?_).pe) hdb hd hcd) fun σ H Q0 δ M Q W at_ q k w => ?_
  · exact takes_of rfl rfl rfl rfl
  · obtain ⟨tk, q⟩ := q
    refine ⟨fun p hp => ?_, fun H1 eN T1 => ?_⟩
    · obtain ⟨ps, h1, h2, h3⟩ := at_.m p.1 _ (tk.2 p hp)
      exact ⟨ps, h1, h2, fun pos cv hc => by
        obtain ⟨c', e1, e2, _⟩ := h3 pos cv hc
        exact ⟨c', e1, e2⟩⟩
    · obtain ⟨x1, m1⟩ := lam_ext at_.m tk eN T1
      have s1 := at_.s.ext x1
      obtain ⟨l1, back⟩ := s1.cap
      exact ⟨M, Q, _, capV σ δ, capD σ δ, m1, l1, q, k.ext x1, fun M2 H2 Qa Ea Q0 E0 m2 r2 h2 k2 kx => lfE.use ⟨back H2 M2 r2, m2⟩ h2 k2 fun c pd σ' H' gs δ' M' y _ m r qq => kx c pd H' gs M' y m r qq⟩
end
end DL
end

section
set_option Elab.async false
set_option linter.all false
set_option maxRecDepth 100000
/-! DL9: name = [..] on one line. -/
namespace DL
open PySem PySem.Spec PyProof.Rows L2
section
variable {X : Cx} {W0 : WX} {i : Nat} {y : Str} {py : Pos} {elt tg iter : Expr} {ifs : List Expr} {scope : Scope} {own : List (Str × Nat)} {pos spos : Pos} {ti : DTI} {p : Pat} {tt : DTT} {te : DTE}
theorem ds_setLc (hc : X.calm = true) (hN : X.N.Nodup) (hy : X.N[i]? = some y) (hyl : X.env.scope.names.lookup y = some .local) (hsw : swapsWith (.ListComp elt [⟨tg, iter, ifs, 0⟩] scope pos) (some (.Name y py)) spos.line X.env = pure true)
    (hi : DI X W0 tg iter ti) (ok : BlkOk X.N X.env.scope scope own) (hsl : ∀ j, j ∈ slotsP p → j ∈ own.map (·.2))
    (hg : ∀ (s : Shared) (H : Hp) (C : Addr) (cl : List (Str × Addr)) (fp : List Addr), DG (X.blk s H scope (compEnvC scope cl C X.env) fp) tg p) (ht : ∀ (s : Shared) (H : Hp) (C : Addr) (cl : List (Str × Addr)) (fp : List Addr), DTs (X.blk s H scope (compEnvC scope cl C X.env) fp) WF ifs tt)
    (he : ∀ (s : Shared) (H : Hp) (C : Addr) (cl : List (Str × Addr)) (fp : List Addr), DE (X.blk s H scope (compEnvC scope cl C X.env) fp) WF elt te) (hs : ∀ x, foldedSetIterable iter X.env x = pure x := by intro _; rfl) :
    DS X W0 (.Assign [.Name y py] (.ListComp elt [⟨tg, iter, ifs, 0⟩] scope pos) spos) (dSet i (dLc ti p tt te (own.map (·.2)))) :=
  .mk' (ps_setLc hc hN hy hyl hsw hi.pi ok (fun s H C cl fp => (hg s H C cl fp).pg) (fun s H C cl fp => (ht s H C cl fp).pts) (fun s H C cl fp => (he s H C cl fp).pe) hs) fun D0 σ H δ M D' W a q k w =>
    lc_run hsl a q (fun A H' M' acc ws x nb m e eb l q' => by
      have sb := Sub.del M' A
      have x' := x.sub sb fun b hb => by rw [delD_ne (nb b hb)]; exact (x.busy b hb).2
      exact k.nx _ H' _ _ x' ⟨(a.s.ext x').set i (.lst e delD_same (l.sub sb)), m.sub sb⟩ q') w
theorem ds_setLcM (hc : X.calm = true) (hN : X.N.Nodup) (hy : X.N[i]? = some y) (hyl : X.env.scope.names.lookup y = some .local) (hsw : swapsWith (.ListComp elt [⟨tg, iter, ifs, 0⟩] scope pos) (some (.Name y py)) spos.line X.env = pure true)
    (hi : DI X W0 tg iter ti) (ok : BlkOk X.N X.env.scope scope own) (hsl : ∀ j, j ∈ slotsP p → j ∈ own.map (·.2))
    (hg : ∀ (s : Shared) (H : Hp) (C : Addr) (cl : List (Str × Addr)) (fp : List Addr), DG (X.blk s H scope (compEnvC scope cl C X.env) fp) tg p) (ht : ∀ (s : Shared) (H : Hp) (C : Addr) (cl : List (Str × Addr)) (fp : List Addr), DTs (X.blk s H scope (compEnvC scope cl C X.env) fp) WF ifs tt)
    (he : ∀ (s : Shared) (H : Hp) (C : Addr) (cl : List (Str × Addr)) (fp : List Addr), DE (X.blk s H scope (compEnvC scope cl C X.env) fp) WF elt te) (hs : ∀ x, foldedSetIterable iter X.env x = pure x := by intro _; rfl) :
    DS X W0 (.Assign [.Name y py] (.ListComp elt [⟨tg, iter, ifs, 0⟩] scope pos) spos) (dSet i (dLcM ti p tt te (own.map (·.2)))) :=
  .mk' (ps_setLc hc hN hy hyl hsw hi.pi ok (fun s H C cl fp => (hg s H C cl fp).pg) (fun s H C cl fp => (ht s H C cl fp).pts) (fun s H C cl fp => (he s H C cl fp).pe) hs) fun D0 σ H δ M D' W a q k w =>
    lc_run hsl a q (fun A H' M' acc ws x nb m e eb l q' => by
      have y : Ext M H (updD M' A (.lst acc)) H' := ⟨fun b o h n t => by
        have hb : b ≠ A := fun z => by
          have := (x.keep b o h n t).2
          rw [z, eb] at this; cases this
        rw [updD_ne hb]
        exact x.keep b o h n t, fun b hb => by rw [updD_ne (nb b hb)]; exact x.busy b hb⟩
      have z : ∀ b, M' b = none → updD M' A (.lst acc) b = none := fun b hb => by
        rw [updD_ne (fun z => by rw [z, eb] at hb; cases hb)]; exact hb
      refine k.nx _ H' _ _ y ⟨(a.s.ext y).set i (.ref A), fun b mo hb => ?_⟩ q'
      by_cases h : b = A
      · subst h
        rw [updD_same] at hb
        cases hb
        exact ⟨ws, e, l.less z⟩
      · rw [updD_ne h] at hb
        exact (m b mo hb).less z) w
end
end DL
end

section
set_option Elab.async false
set_option linter.all false
set_option maxRecDepth 100000
/-! DX6: words for the printed derivations. -/
namespace DL
open PySem PySem.Spec PyProof.Rows L2
abbrev FnP (K : PySem.W.Frag) (x : Str) (st : Stmt) (f : Addr) (fd : FuncData) : Prop := FunD K x x (defArgs st) (defBody st) (defScope st) [] [] f fd
/-- an own error with one field, by its name -/
structure Err1 (P : Program) (K : PySem.W.Frag) (mg : Str → Option Value) (x f : Str) : Prop where
  ex : ∃ (fI cc : Addr) (qual : Str), OEK.Txt P K mg x (He.ga K x) fI cc ∧ OEK.Fn1 P K qual f fI cc ∧ OEK.FName K (He.ga K x) f
theorem ds_raiseE {X : Cx} {W0 : WX} {x f : Str} {a : Expr} {ta : DTA} {p pos pos2 : Pos} {k : Nat} (hc : X.calm = true) (e : Err1 X.prog X.K X.mg x f) (hr : Room k X.A) (tk : Takes X W0) (ha : DA X W0 [a] ta) (hg : Gl X x := by rfl) (hdb : (x == ("__debug__" : Str)) = false := by decide)
    (he : starEach (a :: []) X.env = (false, eval a X.env) :: starEach [] X.env := by rfl) (hpl : (backTo pos (starEach [] X.env)).any (·.1) = false := by rfl) :
    DS X W0 (.Raise (some (.Call (.Name x p) [a] [] pos)) none pos2) (dRaise1 (He.ga X.K x) f ta) := by
  obtain ⟨fI, cc, q, T, FN, N⟩ := e.ex
  exact ds_raise1 hc T FN N hr tk ha hg hdb he hpl
end DL
end

section
set_option Elab.async false
set_option linter.all false
set_option maxRecDepth 100000
/-! DL10: tools for the bodies. -/
namespace DL
open PySem PySem.Spec PyProof.Rows L2
abbrev iT (ns : List Int) : D := .tup (ns.map D.int)
abbrev iL (ns : List Int) : D := .lst (ns.map D.int)
/-! ### comprehensions that change nothing -/
section
variable {p : Pat} {tt : DTT} {te : DTE} {δ0 : DSt} {α : Type}
theorem dLcL_map {Q : List D → DHp → Prop} {chk : DHp → Prop} (ι : α → D) (f : α → Option D) {M : DHp} (hc : chk M) : ∀ (xs : List α) (acc : List D), acc.length + xs.length ≤ sizeLine → (∀ x ∈ xs, ∀ k : Option D → DHp → Prop, k (f x) M → dLcT p tt te δ0 k (ι x) M) → Q (acc ++ xs.filterMap f) M → dLcL p tt te δ0 Q chk (xs.map ι) acc M
  | [], acc, _, _, q => ⟨hc, by simpa using q⟩
  | x :: xs, acc, hl, he, q => by
    rw [List.length_cons] at hl
    refine ⟨hc, by omega, he x List.mem_cons_self _ (dLcL_map ι f hc xs _ ?_ (fun y hy => he y (List.mem_cons_of_mem _ hy)) ?_)⟩
    · unfold addO
      split
      · rw [List.length_append, List.length_singleton]; omega
      · omega
    · unfold addO
      cases e : f x with
      | none => simpa [List.filterMap_cons, e] using q
      | some y => simpa [List.filterMap_cons, e] using q
theorem flt_eq (t : α → Bool) (g : α → D) : ∀ xs : List α, xs.filterMap (fun x => if t x = true then some (g x) else none) = (xs.filter t).map g
  | [] => rfl
  | x :: xs => by
    rw [List.filterMap_cons, List.filter_cons, flt_eq t g xs]
    cases h : t x <;> simp
variable {Q : List D → DHp → Prop} {chk : DHp → Prop} {M : DHp} {ds : List D} {xs : List α}
/-- .. each item gives one -/
theorem lcL_all (ι : α → D) (g : α → D) (hds : ds = xs.map ι) (hc : chk M) (hl : xs.length ≤ sizeLine) (he : ∀ x ∈ xs, ∀ k : Option D → DHp → Prop, k (some (g x)) M → dLcT p tt te δ0 k (ι x) M) (q : Q (xs.map g) M) : dLcL p tt te δ0 Q chk ds [] M := by
  subst hds
  exact dLcL_map ι (fun x => some (g x)) hc xs [] (by simpa using hl) he (by rw [show xs.filterMap (fun x => some (g x)) = xs.map g from by rw [← List.filterMap_eq_map]; rfl]; exact q)
/-- .. each item that passes the test is put in -/
theorem lcL_flt (ι : α → D) (t : α → Bool) (g : α → D) (hds : ds = xs.map ι) (hc : chk M) (hl : xs.length ≤ sizeLine)
    (he : ∀ x ∈ xs, ∀ k : Option D → DHp → Prop, (t x = true → k (some (g x)) M) → (t x = false → k none M) → dLcT p tt te δ0 k (ι x) M) (q : Q ((xs.filter t).map g) M) : dLcL p tt te δ0 Q chk ds [] M := by
  subst hds
  refine dLcL_map ι (fun x => if t x = true then some (g x) else none) hc xs [] (by simpa using hl) (fun x hx k hk => he x hx k (fun h => by rw [if_pos h] at hk; exact hk) (fun h => by rw [if_neg (by rw [h]; simp)] at hk; exact hk)) ?_
  rw [flt_eq t g xs]
  exact q
end
theorem zipD_map {α β : Type} (ι : α → D) (κ : β → D) : ∀ (as : List α) (bs : List β), zipD (as.map ι) (bs.map κ) = (as.zip bs).map fun p => .tup [ι p.1, κ p.2]
  | [], _ => by simp [zipD]
  | _ :: _, [] => by simp [zipD]
  | a :: as, b :: bs => by simp [zipD, zipD_map ι κ as bs]
theorem enumD_map {α : Type} (ι : α → D) : ∀ (as : List α) (i : Nat), enumD i (as.map ι) = (as.zipIdx i).map fun p => .tup [.int (p.2 : Nat), ι p.1]
  | [], _ => by simp [enumD]
  | a :: as, i => by simp [enumD, enumD_map ι as (i + 1)]
theorem ixN_lt {n j : Nat} (hj : j < n) : ixN n (j : Int) = some j := by
  unfold ixN
  rw [if_pos (by omega), if_pos (by omega)]
  simp
theorem atI_int {ns : List Int} {j : Nat} (h : j < ns.length) : L2.atI (ns.map D.int) (j : Int) = some (.int (ns.getD j 0)) :=
  L2.atI_nat (by rw [List.getElem?_map, List.getElem?_eq_getElem h]; simp [List.getD_eq_getElem?_getD, h])
theorem atI_map {α : Type} {ι : α → D} {ns : List α} {j : Nat} {x : α} (h : ns[j]? = some x) : L2.atI (ns.map ι) (j : Int) = some (ι x) :=
  L2.atI_nat (by rw [List.getElem?_map, h]; rfl)
theorem cut_lo {α : Type} (xs : List α) (k : Nat) : cutG xs (some (k : Int)) none = xs.drop k := by
  unfold cutG
  rw [HT.sIx_nat, HT.sIx_none]
  by_cases h : k ≤ xs.length
  · rw [Nat.min_eq_left h, List.take_of_length_le (by simp)]
  · rw [Nat.min_eq_right (by omega)]
    simp [List.drop_of_length_le (show xs.length ≤ k by omega)]
theorem cut_hi {α : Type} (xs : List α) (k : Nat) : cutG xs none (some (k : Int)) = xs.take k := by
  unfold cutG
  rw [HT.sIx_nat, HT.sIx_none]
  rw [Nat.sub_zero, List.drop_zero]
  by_cases h : k ≤ xs.length
  · rw [Nat.min_eq_left h]
  · rw [Nat.min_eq_right (by omega), List.take_of_length_le (Nat.le_refl _), List.take_of_length_le (by omega)]
theorem lt_line {n : Nat} (h : n < 1000000) : n < sizeLine := by rw [sizeLine_eq]; omega
theorem small_line {n : Nat} (h : n ≤ 1000000) : n ≤ sizeLine := by rw [sizeLine_eq]; omega
/-! ### == of data -/
mutual
theorem eqv_self : ∀ d : PyData, d.hasDict = false → PyData.eqv d d = true
  | .none, _ => rfl
  | .bool b, _ => by simp [PyData.eqv]
  | .int i, _ => by simp [PyData.eqv]
  | .str x, _ => by simp [PyData.eqv]
  | .list xs, h => by unfold PyData.eqv; exact eqvAll_self xs (by simpa [PyData.hasDict] using h)
  | .tuple xs, h => by unfold PyData.eqv; exact eqvAll_self xs (by simpa [PyData.hasDict] using h)
  | .dict _, h => by simp [PyData.hasDict] at h
theorem eqvAll_self : ∀ ds : List PyData, PyData.hasDictAll ds = false → PyData.eqvAll ds ds = true
  | [], _ => by simp [PyData.eqvAll]
  | d :: ds, h => by
    unfold PyData.eqvAll
    have h' : d.hasDict = false ∧ PyData.hasDictAll ds = false := by simpa [PyData.hasDictAll] using h
    rw [eqv_self d h'.1, eqvAll_self ds h'.2]; rfl
end
theorem ifb {t : Bool} {a b : Prop} (h1 : t = true → a) (h2 : t = false → b) : if t = true then a else b := by
  cases t with
  | true => exact h1 rfl
  | false => exact h2 rfl
theorem seq_ref {M : DHp} {p : Addr} {xs : List D} (h : M p = some (.lst xs)) : seqOf M (.ref p) = some xs := by simp [seqOf, h]
theorem lst_ref {M : DHp} {p : Addr} {xs : List D} (h : M p = some (.lst xs)) : lstOf M (.ref p) = some xs := by simp [lstOf, h]
theorem updD_id {M : DHp} {p : Addr} {o : MO} (h : M p = some o) : updD M p o = M := by
  funext a
  unfold updD
  split
  · rename_i e; rw [e, h]
  · rfl
theorem pures_flat {α : Type} {ι : α → D} (h : ∀ x, (ι x).pure = true) : ∀ xs : List α, pures (xs.map ι) = true
  | [] => by simp [pures]
  | x :: xs => by simp [pures, h x, pures_flat h xs]
theorem pys_map {α : Type} {ι : α → D} : ∀ xs : List α, pys (xs.map ι) = xs.map fun x => (ι x).py
  | [] => by simp [pys]
  | x :: xs => by simp [pys, pys_map xs]
theorem canLay_ints : ∀ ns : List Int, PyData.canLayAll0 (ns.map PyData.int) = true
  | [] => by simp [PyData.canLayAll0]
  | n :: ns => by simp [PyData.canLayAll0, PyData.canLay0, canLay_ints ns]
theorem depth_ints : ∀ ns : List Int, PyData.depthAll (ns.map PyData.int) ≤ 1
  | [] => by simp [PyData.depthAll]
  | n :: ns => by
    have h := depth_ints ns
    have e : PyData.depthAll ((n :: ns).map PyData.int) = max (PyData.depth (.int n)) (PyData.depthAll (ns.map PyData.int)) := by simp [PyData.depthAll]
    have e2 : PyData.depth (.int n) = 0 := by simp [PyData.depth]
    rw [e, e2]
    omega
theorem ints_ok {M : DHp} {d : D} {ns : List Int} (h : frz M d = iL ns) : EqOk M d := by
  unfold EqOk
  rw [h]
  refine ⟨by unfold D.pure; exact pures_flat (fun _ => by simp [D.pure]) ns, ?_⟩
  unfold D.py
  rw [pys_map]
  unfold SeqAt.shaped
  have e : (ns.map fun x => (D.int x).py) = ns.map PyData.int := List.map_congr_left fun x _ => by simp [D.py]
  rw [e]
  have h1 := depth_ints ns
  have h2 : PyData.depth (.list (ns.map PyData.int)) = PyData.depthAll (ns.map PyData.int) + 1 := by simp [PyData.depth]
  have h3 : PyData.canLay0 (.list (ns.map PyData.int)) = true := by simp [PyData.canLay0, canLay_ints]
  rw [h3, Bool.true_and]
  exact decide_eq_true (by rw [h2]; omega)
theorem eqv_nil (xs : List PyData) : PyData.eqv (.list xs) (.list []) = xs.isEmpty := by
  cases xs <;> simp [PyData.eqv, PyData.eqvAll]
theorem eq_nil {M : DHp} {d : D} {ns : List Int} (h : frz M d = iL ns) : eqD M d (.lst []) = ns.isEmpty := by
  unfold eqD
  rw [h]
  show PyData.eqv (D.py (.lst _)) (D.py (.lst [])) = _
  unfold D.py
  rw [pys_map]
  show PyData.eqv _ (.list (pys [])) = _
  unfold pys
  rw [eqv_nil]
  cases ns <;> rfl
theorem eq_nil' {M : DHp} {d : D} {xs : List D} (h : frz M d = .lst xs) : eqD M d (.lst []) = xs.isEmpty := by
  unfold eqD
  rw [h]
  show PyData.eqv (D.py (.lst _)) (D.py (.lst [])) = _
  unfold D.py
  show PyData.eqv _ (.list (pys [])) = _
  unfold pys
  rw [eqv_nil]
  cases xs <;> rfl
theorem canLay_strs : ∀ {ns : List Str}, (∀ x ∈ ns, PyData.canLay0 (.str x) = true) → PyData.canLayAll0 (ns.map PyData.str) = true
  | [], _ => by simp [PyData.canLayAll0]
  | n :: ns, h => by
    have e : PyData.canLayAll0 ((n :: ns).map PyData.str) = (PyData.canLay0 (.str n) && PyData.canLayAll0 (ns.map PyData.str)) := by simp [PyData.canLayAll0]
    rw [e, h n List.mem_cons_self, canLay_strs fun x hx => h x (List.mem_cons_of_mem _ hx)]
    rfl
theorem depth_strs : ∀ ns : List Str, PyData.depthAll (ns.map PyData.str) ≤ 1
  | [] => by simp [PyData.depthAll]
  | n :: ns => by
    have h := depth_strs ns
    have e : PyData.depthAll ((n :: ns).map PyData.str) = max (PyData.depth (.str n)) (PyData.depthAll (ns.map PyData.str)) := by simp [PyData.depthAll]
    have e2 : PyData.depth (.str n) = 0 := by simp [PyData.depth]
    rw [e, e2]
    omega
theorem strs_ok {M : DHp} {d : D} {ns : List Str} (hn : ∀ x ∈ ns, PyData.canLay0 (.str x) = true) (h : frz M d = .lst (ns.map D.str)) : EqOk M d := by
  unfold EqOk
  rw [h]
  refine ⟨by unfold D.pure; exact pures_flat (fun _ => by simp [D.pure]) ns, ?_⟩
  unfold D.py
  rw [pys_map]
  unfold SeqAt.shaped
  have e : (ns.map fun x => (D.str x).py) = ns.map PyData.str := List.map_congr_left fun x _ => by simp [D.py]
  rw [e]
  have h1 := depth_strs ns
  have h2 : PyData.depth (.list (ns.map PyData.str)) = PyData.depthAll (ns.map PyData.str) + 1 := by simp [PyData.depth]
  have h3 : PyData.canLay0 (.list (ns.map PyData.str)) = true := by simp [PyData.canLay0, canLay_strs hn]
  rw [h3, Bool.true_and]
  exact decide_eq_true (by rw [h2]; omega)
theorem frz_ref {M : DHp} {p : Addr} {xs : List D} (h : M p = some (.lst xs)) : frz M (.ref p) = .lst xs := by simp [frz, h]
/-! ### back -/
theorem Back.same {M0 : DHp} {Q : DVK} {d : D} (q : Q d M0) : Back M0 Q d M0 := ⟨d, M0, Sub.refl _, fun _ h => h, .refl d, q⟩
theorem Back.drop {M0 : DHp} {Q : DVK} {d : D} {p : Addr} {o : MO} (hp : M0 p = none) (q : Q d M0) : Back M0 Q d (updD M0 p o) := ⟨d, M0, Sub.upd hp, fun _ h => h, .refl d, q⟩
theorem Back.drop2 {M0 : DHp} {Q : DVK} {d : D} {p p2 : Addr} {o o2 : MO} (hp : M0 p = none) (hp2 : M0 p2 = none) (hne : p2 ≠ p) (q : Q d M0) : Back M0 Q d (updD (updD M0 p o) p2 o2) :=
  ⟨d, M0, (Sub.upd hp).trans (Sub.upd (by rw [updD_ne hne]; exact hp2)), fun _ h => h, .refl d, q⟩
theorem updD_none {M : DHp} {p q : Addr} {o : MO} (h : updD M p o q = none) : q ≠ p ∧ M q = none := by
  by_cases e : q = p
  · rw [e, updD_same] at h; cases h
  · rw [updD_ne e] at h; exact ⟨e, h⟩
theorem updD_swap {M : DHp} {p p2 : Addr} {a b c : MO} (h : p2 ≠ p) : updD (updD (updD M p a) p2 b) p c = updD (updD M p c) p2 b := by
  rw [updD_comm h, updD_updD]
theorem Back.new {M0 : DHp} {Q : DVK} {d : D} {p : Addr} {o : MO} (hp : M0 p = none) (q : Q d (updD M0 p o)) : Back M0 Q d (updD M0 p o) :=
  ⟨d, _, Sub.refl _, fun a ha => by rw [updD_ne (fun e => by rw [e, hp] at ha; cases ha)]; exact ha, .refl d, q⟩
theorem BackX.same {M0 : DHp} {E : DXK} {c : Value} {gs : List (Str × D)} (q : E c gs M0) : BackX M0 E c gs M0 := ⟨M0, Sub.refl _, fun _ h => h, q⟩
end DL
end

section
set_option Elab.async false
set_option linter.all false
set_option maxRecDepth 100000
/-! DL11: data that can be shown and compared. -/
namespace DL
open PySem PySem.Spec PyProof.Rows L2
/-- pure, small leaves, of at most this weight and depth -/
structure Nice (w k : Nat) (d : D) : Prop where
  pure : d.pure = true
  leaves : d.py.leavesShort 8 = true
  lay : d.py.canLay0 = true
  show_ : d.py.showable = true
  depth : d.py.depth ≤ k
  weight : d.py.weight ≤ w
theorem Nice.mono {w k w' k' : Nat} {d : D} (h : Nice w k d) (hw : w ≤ w') (hk : k ≤ k') : Nice w' k' d := ⟨h.pure, h.leaves, h.lay, h.show_, Nat.le_trans h.depth hk, Nat.le_trans h.weight hw⟩
theorem Nice.noDict {w k : Nat} {d : D} (h : Nice w k d) : d.py.hasDict = false := PyData.hasDict_of_canLay _ h.lay
theorem Nice.fits {w k : Nat} {d : D} (h : Nice w k d) (hw : w ≤ 2 ^ 20) : d.py.shown.length ≤ sizeLine := PyData.shown_fits (B := 8) (by omega) (by omega) h.leaves (Nat.le_trans h.weight hw)
theorem Nice.shaped {w k : Nat} {d : D} (h : Nice w k d) (hk : k ≤ 64) : SeqAt.shaped d.py = true := by
  unfold SeqAt.shaped
  rw [h.lay, Bool.true_and]
  exact decide_eq_true (Nat.le_trans h.depth hk)
theorem nice_non : Nice 0 0 .non := ⟨rfl, rfl, rfl, rfl, Nat.le_refl 0, Nat.le_refl 0⟩
theorem nice_bl (b : Bool) : Nice 0 0 (.bl b) := ⟨rfl, rfl, rfl, rfl, Nat.le_refl 0, Nat.le_refl 0⟩
theorem nice_int {i : Int} (h : i.natAbs < 1000000) : Nice 20 0 (.int i) := by
  have hl : i.natAbs.log2 < 20 := by
    by_cases h0 : i.natAbs = 0
    · rw [h0]; decide
    · exact (Nat.log2_lt h0).mpr (by omega)
  refine ⟨rfl, ?_, rfl, ?_, Nat.le_refl 0, ?_⟩
  · show decide ((PyData.shown (.int i)).length ≤ 8) = true
    refine decide_eq_true ?_
    have := int_text_length_le10 (a := i) (k := 7) (by omega) (by omega)
    have e : (PyData.shown (.int i)).length = (toString i).length := PySem.ofString_length _
    omega
  · show decide (i.natAbs.log2 < 1920) = true
    exact decide_eq_true (by omega)
  · show (if i == 0 then 0 else i.natAbs.log2 + 1) ≤ 20
    split <;> omega
theorem nice_str {x : Str} (h : ((x.cps.toList.all fun c => decide (c < 16 ^ 8)) && (PyData.canLay0 (.str x) && decide (x.cps.size ≤ 20))) = true) : Nice 20 0 (.str x) := by
  obtain ⟨h1, h⟩ := Bool.and_eq_true_iff.mp h
  obtain ⟨h2, h3⟩ := Bool.and_eq_true_iff.mp h
  exact ⟨rfl, by simpa [D.py, PyData.leavesShort] using h1, h2, rfl, Nat.le_refl 0, of_decide_eq_true h3⟩
theorem nice_all {w k n : Nat} : ∀ {ds : List D}, (∀ d ∈ ds, Nice w k d) → ds.length ≤ n → pures ds = true ∧ PyData.leavesShortAll 8 (pys ds) = true ∧ PyData.canLayAll0 (pys ds) = true ∧ PyData.showableAll (pys ds) = true ∧ PyData.depthAll (pys ds) ≤ k ∧ PyData.weightAll (pys ds) ≤ n * (w + 1)
  | [], _, _ => by simp [pures, pys, PyData.leavesShortAll, PyData.canLayAll0, PyData.showableAll, PyData.depthAll, PyData.weightAll]
  | d :: ds, h, hl => by
    cases n with
    | zero => simp at hl
    | succ n =>
      obtain ⟨h1, h2, h3, h4, h5, h6⟩ := nice_all (w := w) (k := k) (n := n) (ds := ds) (fun e he => h e (List.mem_cons_of_mem _ he)) (by simpa using hl)
      have hd := h d List.mem_cons_self
      unfold pures pys
      refine ⟨by rw [hd.pure, h1]; rfl, ?_, ?_, ?_, ?_, ?_⟩
      · unfold PyData.leavesShortAll; rw [hd.leaves, h2]; rfl
      · unfold PyData.canLayAll0; rw [hd.lay, h3]; rfl
      · unfold PyData.showableAll; rw [hd.show_, h4]; rfl
      · unfold PyData.depthAll; have := hd.depth; omega
      · unfold PyData.weightAll
        have := hd.weight
        rw [Nat.succ_mul]
        omega
theorem nice_tup {w k n : Nat} {ds : List D} (h : ∀ d ∈ ds, Nice w k d) (hl : ds.length ≤ n) : Nice (n * (w + 1)) (k + 1) (.tup ds) := by
  obtain ⟨h1, h2, h3, h4, h5, h6⟩ := nice_all h hl
  refine ⟨by unfold D.pure; exact h1, by unfold D.py PyData.leavesShort; exact h2, by unfold D.py PyData.canLay0; exact h3, by unfold D.py PyData.showable; exact h4, ?_, ?_⟩
  · unfold D.py PyData.depth; omega
  · unfold D.py PyData.weight; exact h6
theorem nice_lst {w k n : Nat} {ds : List D} (h : ∀ d ∈ ds, Nice w k d) (hl : ds.length ≤ n) : Nice (n * (w + 1)) (k + 1) (.lst ds) := by
  obtain ⟨h1, h2, h3, h4, h5, h6⟩ := nice_all h hl
  refine ⟨by unfold D.pure; exact h1, by unfold D.py PyData.leavesShort; exact h2, by unfold D.py PyData.canLay0; exact h3, by unfold D.py PyData.showable; exact h4, ?_, ?_⟩
  · unfold D.py PyData.depth; omega
  · unfold D.py PyData.weight; exact h6
theorem nice_ints {ns : List Int} {n : Nat} (h : ∀ i ∈ ns, i.natAbs < 1000000) (hl : ns.length ≤ n) : Nice (n * 21) 1 (.tup (ns.map D.int)) :=
  nice_tup (w := 20) (k := 0) (fun d hd => by obtain ⟨i, hi, rfl⟩ := List.mem_map.mp hd; exact nice_int (h i hi)) (by simpa using hl)
/-- repr of such data -/
theorem repr_nice {M : DHp} {d : D} {w k : Nat} (hf : frz M d = d) (h : Nice w k d) (hw : w ≤ 2 ^ 20) (hk : k ≤ 60) {Q : DVK} (q : Q (.str d.py.shown) M) : rReprDD [d] M Q := by
  show (frz M d).pure = true ∧ _
  rw [hf]
  exact ⟨h.pure, h.show_, h.noDict, Nat.le_trans h.depth hk, h.fits hw, q⟩
end DL
end

section
set_option Elab.async false
set_option linter.all false
set_option maxRecDepth 100000
/-! DL12: tables at a law's start. -/
namespace DL
open PySem PySem.Spec PyProof.Rows L2
theorem nice_pair {w k : Nat} {a b : D} (ha : Nice w k a) (hb : Nice w k b) : Nice (2 * (w + 1)) (k + 1) (.tup [a, b]) := nice_tup (n := 2) (fun d hd => by
  simp only [List.mem_cons, List.not_mem_nil, or_false] at hd
  rcases hd with rfl | rfl
  · exact ha
  · exact hb) (by simp)
/-- the things that change at a law's start: the tables -/
def tblsM (T : List (Addr × Str)) : DHp := fun a => (T.lookup a).map .tbl
theorem tblsM_some {T : List (Addr × Str)} {a : Addr} {o : MO} (h : tblsM T a = some o) : ∃ q, (a, q) ∈ T ∧ o = .tbl q := by
  unfold tblsM at h
  cases e : T.lookup a with
  | none => rw [e] at h; cases h
  | some q =>
    rw [e] at h
    refine ⟨q, ?_, (Option.some.inj h).symm⟩
    induction T with
    | nil => cases e
    | cons y T ih =>
      obtain ⟨b, z⟩ := y
      rw [List.lookup_cons] at e
      cases hb : a == b with
      | true =>
        rw [hb] at e
        cases e
        rw [beq_iff_eq.mp hb]
        exact List.mem_cons_self
      | false =>
        rw [hb] at e
        exact List.mem_cons_of_mem _ (ih e)
theorem tblsM_ok {T : List (Addr × Str)} (hn : (T.map (·.1)).Nodup) : TblsOk T (tblsM T) := by
  refine ⟨fun a q h => ?_, fun p hp => ?_⟩
  · obtain ⟨q', h1, h2⟩ := tblsM_some h
    cases h2
    exact h1
  · unfold tblsM
    have : T.lookup p.1 = some p.2 := by
      induction T with
      | nil => cases hp
      | cons y T ih =>
        obtain ⟨b, z⟩ := y
        rw [List.map_cons, List.nodup_cons] at hn
        rw [List.lookup_cons]
        rcases List.mem_cons.mp hp with e | hp
        · rw [e]; simp
        · have hb : (p.1 == b) = false := by
            refine beq_eq_false_iff_ne.mpr fun e => hn.1 ?_
            rw [← e]
            exact List.mem_map.mpr ⟨p, hp, rfl⟩
          rw [hb]
          exact ih hn.2 hp
    rw [this]; rfl
theorem tbls_lst {T : List (Addr × Str)} {N : DHp} {p : Addr} {xs : List D} (ht : TblsOk T N) (hp : N p = none) : TblsOk T (updD N p (.lst xs)) := by
  refine ⟨fun a q h => ?_, fun t htm => ?_⟩
  · by_cases e : a = p
    · subst e; rw [updD_same] at h; cases h
    · rw [updD_ne e] at h; exact ht.1 a q h
  · have h1 := ht.2 t htm
    rw [updD_ne (fun e => by rw [e, hp] at h1; cases h1)]
    exact h1
theorem tblsM_keep {T : List (Addr × Str)} {N : DHp} : KeepB (tblsM T) N := fun a h => by
  obtain ⟨q, _, z⟩ := tblsM_some h
  cases z
theorem tblsM_back {T : List (Addr × Str)} {Q : DVK} {d : D} {N : DHp} (q : ∀ M', Q d M') : Back (tblsM T) Q d N := ⟨_, N, Sub.refl _, tblsM_keep, .refl _, q N⟩
end DL
end

section
set_option Elab.async false
set_option linter.all false
set_option maxRecDepth 100000
namespace K38
open PySem PySem.Spec PyProof.Rows L2 DL
def top (i : Nat) : Stmt := PySem.Challenge.pw_owedapart_k38_made_tails_and_takes.main.body.getD i (.Pass ⟨0, 0, 0, 0⟩)
structure ErrK (K : PySem.W.Frag) : Prop where
  exm : PySem.W.exmOne K (.ref (He.ga K "NoWall")) (.ref (He.ga K "LockerError")) = some true
  exc : ExcC K (He.ga K "NoWall")
  kit : PySem.W.kitOne K (.ref (He.ga K "NoWall")) (.ref (He.ga K "NoWall")) = some true
structure ErrF (P : Program) (K : PySem.W.Frag) (mg : Str → Option Value) : Prop where
  lo : mg "LockerError" = some (.ref (He.ga K "LockerError"))
  nw : mg "NoWall" = some (.ref (He.ga K "NoWall"))
  er : Err1 P K mg "NoWall" "name"
  xf : XfC K (He.ga K "NoWall")
  no : PySem.W.findIn K (.ref (He.ga K "NoWall")) "name" = some none
  ek : ErrK K
theorem errK {P : Program} {K : PySem.W.Frag} {mg : Str → Option Value} (h : ErrF P K mg) : ErrK K := h.ek
/-! ### plain functions -/
/-- sums of the ends -/
def tailsI (cs : List Int) : List Int := (List.range cs.length).map fun i => (cs.drop i).sum
/-- of the sizes, how many are greater than 0, 1, .. -/
def stoodI (m : Nat) (ss : List Int) : List Int := (List.range m).map fun (i : Nat) => ((ss.filter fun s => decide (((i : Nat) : Int) < s)).length : Int)
/-- the least of each beginning -/
def fallI (ts : List Int) : List Int := (List.range ts.length).map fun i => minI (ts.getD 0 0) ((ts.take (i + 1)).drop 1)
/-- boxes (from 1) that fit and are free -/
def boxesI (cs : List Int) (s : Nat) : List Nat := ((List.range (cs.length + 1 - s)).map fun i => s + i).filter fun b => decide (0 < cs.getD (b - 1) 0)
def takeI (cs : List Int) (b : Nat) : List Int := cs.set (b - 1) (cs.getD (b - 1) 0 - 1)
/-- lay the sizes in order, each in its least box -/
def layI : List Int → List Nat → Option (List Int × List (Int × Int))
  | cs, [] => some (cs, [])
  | cs, s :: ss => match boxesI cs s with
    | [] => none
    | b :: _ => (layI (takeI cs b) ss).map fun r => (r.1, ((s : Int), (b : Int)) :: r.2)
/-! ### the data -/
structure Wall where
  name : Str
  counts : List Int
  jams : Int
def Wall.d (w : Wall) : D := .tup [.str w.name, iT w.counts, .int w.jams]
structure Day where
  asks : D
  backs : List (List Int)
def Day.d (x : Day) : D := .tup [x.asks, .tup (x.backs.map iT)]
structure House where
  m : Nat
  walls : List Wall
  kinds : D
  week : List Day
def House.d (h : House) : D := .tup [.int h.m, .tup (h.walls.map Wall.d), h.kinds, .tup (h.week.map Day.d)]
def House.names (h : House) : List Str := h.walls.map (·.name)
/-! ### promises -/
def p_wall_names (K : PySem.W.Frag) : DSp := fun ds M Q _ => ∃ h : House, ds = [h.d] ∧ h.walls.length ≤ 1000 ∧ Q (.xtp (h.names.map D.str)) M
/-- the wall's place, or NoWall -/
def p_wall_index (K : PySem.W.Frag) : DSp := fun ds M Q E => ∃ (h : House) (n : Str), ds = [h.d, .str n] ∧ h.walls.length ≤ 1000 ∧
  (n ∉ h.names → E (.ref (He.ga K "NoWall")) [("name", .str n)] M) ∧ (∀ j : Nat, h.names[j]? = some n → (∀ i, i < j → h.names[i]? ≠ some n) → Q (.int (j : Nat)) M)
def p_wall_of (K : PySem.W.Frag) : DSp := fun ds M Q E => ∃ (h : House) (n : Str), ds = [h.d, .str n] ∧ h.walls.length ≤ 1000 ∧
  (n ∉ h.names → E (.ref (He.ga K "NoWall")) [("name", .str n)] M) ∧ (∀ (j : Nat) (w : Wall), h.walls[j]? = some w → w.name = n → (∀ i, i < j → h.names[i]? ≠ some n) → Q w.d M)
def p_backs_of (K : PySem.W.Frag) : DSp := fun ds M Q E => ∃ (h : House) (d : Nat) (x : Day) (n : Str), ds = [h.d, .int d, .str n] ∧ h.walls.length ≤ 1000 ∧ h.week[d]? = some x ∧ x.backs.length = h.walls.length ∧
  (n ∉ h.names → E (.ref (He.ga K "NoWall")) [("name", .str n)] M) ∧ (∀ (j : Nat) (b : List Int), h.names[j]? = some n → x.backs[j]? = some b → (∀ i, i < j → h.names[i]? ≠ some n) → Q (iT b) M)
def p_tails_of (K : PySem.W.Frag) : DSp := fun ds M Q _ => ∃ cs : List Int, ds = [iT cs] ∧ cs.length ≤ 1000 ∧ Q (iT (tailsI cs)) M
def p_tails_of_sizes (K : PySem.W.Frag) : DSp := fun ds M Q _ => ∃ (m : Nat) (ss : List Int), ds = [.int m, iT ss] ∧ m ≤ 1000 ∧ ss.length ≤ 1000 ∧ Q (iT (stoodI m ss)) M
def p_made_falling (K : PySem.W.Frag) : DSp := fun ds M Q _ => ∃ ts : List Int, ds = [iT ts] ∧ ts.length ≤ 1000 ∧ Q (iT (fallI ts)) M
def p_least_box (K : PySem.W.Frag) : DSp := fun ds M Q _ => ∃ (cs : List Int) (s : Nat), ds = [iT cs, .int s] ∧ 1 ≤ s ∧ s ≤ cs.length ∧ cs.length ≤ 1000 ∧ Q (match boxesI cs s with | [] => .non | b :: _ => .int (b : Nat)) M
def p_changed_by (K : PySem.W.Frag) : DSp := fun ds M Q _ => ∃ (cs : List Int) (b : Nat) (k : Int), ds = [iT cs, .int b, .int k] ∧ 1 ≤ b ∧ b ≤ cs.length ∧ cs.length ≤ 1000 ∧ Q (iT (cs.set (b - 1) (cs.getD (b - 1) 0 + k))) M
def p_taken_from (K : PySem.W.Frag) : DSp := fun ds M Q _ => ∃ (cs : List Int) (b : Nat), ds = [iT cs, .int b] ∧ 1 ≤ b ∧ b ≤ cs.length ∧ cs.length ≤ 1000 ∧ cs.getD (b - 1) 0 ≠ 0 ∧ Q (iT (takeI cs b)) M
/-- how many of the boxes are each -/
def usedI (m : Nat) (l : List (Int × Int)) : List Int := (List.range m).map fun i => ((l.filter fun p => decide (p.2 = ((i : Nat) : Int) + 1)).length : Int)
def p_used_boxes (K : PySem.W.Frag) : DSp := fun ds M Q _ => ∃ (m : Nat) (l : List (Int × Int)), ds = [.int m, .tup (l.map pairD)] ∧ m ≤ 1000 ∧ l.length ≤ 1000 ∧ Q (iT (usedI m l)) M
def p_free_behind (K : PySem.W.Frag) : DSp := fun ds M Q _ => ∃ (cs : List Int) (l : List (Int × Int)), ds = [iT cs, .tup (l.map pairD)] ∧ cs.length ≤ 1000 ∧ l.length ≤ 1000 ∧ Q (iT (List.zipWith (· - ·) cs (usedI cs.length l))) M
/-- the sizes in order -/
def sortN (ss : List Nat) : List Nat := (isort (ss.map Int.ofNat)).map Int.toNat
def SizesOk (cs : List Int) (ss : List Nat) : Prop := (∀ s ∈ ss, 1 ≤ s ∧ s ≤ cs.length) ∧ cs.length ≤ 1000 ∧ ss.length ≤ 1000
def p_best_laying (K : PySem.W.Frag) : DSp := fun ds M Q _ => ∃ (cs : List Int) (ss : List Nat), ds = [iT cs, iT (ss.map Int.ofNat)] ∧ SizesOk cs ss ∧
  match layI cs (sortN ss) with
  | none => Q .non M
  | some r => ∀ l : List (Int × Int), l.Perm r.2 → Q (.tup (l.map pairD)) M
/-- what is free behind the best laying -/
def p_best_free (K : PySem.W.Frag) : DSp := fun ds M Q _ => ∃ (cs : List Int) (ss : List Nat), ds = [iT cs, iT (ss.map Int.ofNat)] ∧ SizesOk cs ss ∧
  Q (match layI cs (sortN ss) with | none => .non | some r => iT (tailsI r.1)) M
def roomI (w : Wall) (ss : List Nat) : Option (List Int) := (layI w.counts (sortN ss)).map fun r => (tailsI r.1).map fun t => if t - w.jams > 0 then t - w.jams else 0
def optI : Option (List Int) → D
  | none => .non
  | some ts => iT ts
/-- the first wall of that name -/
def IsWall (h : House) (n : Str) (j : Nat) (w : Wall) : Prop := h.walls[j]? = some w ∧ w.name = n ∧ ∀ i, i < j → h.names[i]? ≠ some n
def p_room_tails (K : PySem.W.Frag) : DSp := fun ds M Q E => ∃ (h : House) (n : Str) (ss : List Nat), ds = [h.d, .str n, iT (ss.map Int.ofNat)] ∧ h.walls.length ≤ 1000 ∧
  ((n ∉ h.names ∧ E (.ref (He.ga K "NoWall")) [("name", .str n)] M) ∨ ∃ j w, IsWall h n j w ∧ SizesOk w.counts ss ∧ Q (optI (roomI w ss)) M)
def madeI (w : Wall) (bs : List Int) (ss : List Nat) : Option (List Int) := (roomI w ss).map fun ts => fallI (List.zipWith (· - ·) ts bs)
def p_made_tails (K : PySem.W.Frag) : DSp := fun ds M Q E => ∃ (h : House) (d : Nat) (n : Str) (ss : List Nat), ds = [h.d, .int d, .str n, iT (ss.map Int.ofNat)] ∧ h.walls.length ≤ 1000 ∧
  ((n ∉ h.names ∧ E (.ref (He.ga K "NoWall")) [("name", .str n)] M) ∨ ∃ j w x b, IsWall h n j w ∧ SizesOk w.counts ss ∧ h.week[d]? = some x ∧ x.backs.length = h.walls.length ∧ x.backs[j]? = some b ∧ b.length = w.counts.length ∧ Q (optI (madeI w b ss)) M)
/-- does the wall take the sizes -/
def takesI (w : Wall) (bs : List Int) (ss zs : List Nat) : Bool := match roomI w ss with
  | none => false
  | some ts => (List.range w.counts.length).all fun i => decide ((stoodI w.counts.length (zs.map Int.ofNat)).getD i 0 + bs.getD i 0 ≤ ts.getD i 0)
def p_breaking (K : PySem.W.Frag) : DSp := fun ds M Q E => ∃ (h : House) (d : Nat) (n : Str) (ss zs : List Nat), ds = [h.d, .int d, .str n, iT (ss.map Int.ofNat), iT (zs.map Int.ofNat)] ∧ h.walls.length ≤ 1000 ∧
  ((n ∉ h.names ∧ E (.ref (He.ga K "NoWall")) [("name", .str n)] M) ∨ ∃ j w x b, IsWall h n j w ∧ h.m = w.counts.length ∧ SizesOk w.counts ss ∧ (∀ c ∈ w.counts, 0 ≤ c) ∧ zs.length ≤ 1000 ∧ h.week[d]? = some x ∧ x.backs.length = h.walls.length ∧ x.backs[j]? = some b ∧ b.length = w.counts.length ∧
    ∀ r, isNonD r = takesI w b ss zs → Q r M)
def p_takes (K : PySem.W.Frag) : DSp := fun ds M Q E => ∃ (h : House) (d : Nat) (n : Str) (ss zs : List Nat), ds = [h.d, .int d, .str n, iT (ss.map Int.ofNat), iT (zs.map Int.ofNat)] ∧ h.walls.length ≤ 1000 ∧
  ((n ∉ h.names ∧ E (.ref (He.ga K "NoWall")) [("name", .str n)] M) ∨ ∃ j w x b, IsWall h n j w ∧ h.m = w.counts.length ∧ SizesOk w.counts ss ∧ (∀ c ∈ w.counts, 0 ≤ c) ∧ zs.length ≤ 1000 ∧ h.week[d]? = some x ∧ x.backs.length = h.walls.length ∧ x.backs[j]? = some b ∧ b.length = w.counts.length ∧
    Q (.bl (takesI w b ss zs)) M)
/-! ### the law's own -/
structure Bag where
  z : Int
  s : Int
  k : Nat
  cs : List Int
def Bag.ok (b : Bag) : Prop := 0 ≤ b.z ∧ 0 ≤ b.s ∧ b.s < 2147483647 ∧ (∀ c ∈ b.cs, 0 ≤ c) ∧ b.cs.length ≤ 63
def Bag.o (b : Bag) : MO := .lst [.int b.z, .int b.s, .int b.k, iL b.cs]
/-- the bag stands at B -/
def BagAt (B : Addr) (M : DHp) : Prop := ∃ b : Bag, b.ok ∧ M B = some b.o
/-- something drawn: whatever it is, and whatever the bag is then -/
def Drawn (B : Addr) (M : DHp) (R : D → Prop) (Q : DVK) : Prop := ∀ (b : Bag) (d : D), b.ok → R d → Q d (updD M B b.o)
def p__law_take (K : PySem.W.Frag) : DSp := fun ds M Q _ => ∃ (B : Addr) (n : Nat), ds = [.ref B, .int n] ∧ BagAt B M ∧ 0 < n ∧ n < 1000000 ∧ Drawn B M (fun d => ∃ v : Nat, v < n ∧ d = .int v) Q
def p__law_laid (K : PySem.W.Frag) : DSp := fun ds M Q _ => ∃ (cs : List Int) (ss : List Nat), ds = [iT cs, iT (ss.map Int.ofNat)] ∧ SizesOk cs ss ∧
  match layI cs (sortN ss) with
  | none => Q .non M
  | some r => ∀ l : List (Int × Int), Q (.tup [.tup (l.map pairD), iT r.1]) M
def p__law_tails (K : PySem.W.Frag) : DSp := p_tails_of K
def p__law_made (K : PySem.W.Frag) : DSp := fun ds M Q _ => ∃ (w : Wall) (bs : List Int) (ss : List Nat), ds = [iT w.counts, .int w.jams, iT (ss.map Int.ofNat), iT bs] ∧ SizesOk w.counts ss ∧ bs.length = w.counts.length ∧ Q (optI (madeI w bs ss)) M
def p__law_is_at_most (K : PySem.W.Frag) : DSp := fun ds M Q _ => ∃ xs ys : List Int, ds = [iT xs, iT ys] ∧ xs.length ≤ 1000 ∧ Q (.bl ((xs.zip ys).all fun p => decide (p.1 ≤ p.2))) M
def p__law_size_tails (K : PySem.W.Frag) : DSp := fun ds M Q _ => ∃ (m : Nat) (ss : List Int) (d : D), ds = [.int m, d] ∧ (d = iT ss ∨ d = iL ss) ∧ m ≤ 1000 ∧ ss.length ≤ 1000 ∧ Q (iT (stoodI m ss)) M
def p__law_counts (K : PySem.W.Frag) : DSp := fun ds M Q _ => ∃ ts : List Int, ds = [iT ts] ∧ ts.length ≤ 1000 ∧ ts ≠ [] ∧ Q (iT (List.zipWith (· - ·) ts (ts.drop 1 ++ [0]))) M
/-- data that can be shown -/
abbrev Shows (n k : Nat) (d : D) : Prop := Nice n k d
def p__law_alike (K : PySem.W.Frag) : DSp := fun ds M Q _ => ∃ (d : D) (xs : List D), ds = [d, .lst xs] ∧ (d = .lst xs ∨ ∃ p, d = .ref p ∧ M p = some (.lst xs)) ∧ Shows 1000000 50 (.lst xs) ∧ Q (.bl true) M
def p__law_bag (K : PySem.W.Frag) : DSp := fun ds M Q _ => ∃ ns : List Int, ds = [.rol (ns.map D.int)] ∧ ∀ (B : Addr) (b : Bag), M B = none → b.ok → Q (.ref B) (updD M B b.o)
/-- a name that is drawn -/
def someNames : List Str := ["a", "b", "c", "d", "q", "zz", "ab", "abcdefgh", "wal", "ends"]
def p__law_mixed (K : PySem.W.Frag) : DSp := fun ds M Q _ => ∃ (B : Addr) (xs : List Str), ds = [.ref B, .lst (xs.map D.str)] ∧ BagAt B M ∧ xs.length ≤ 1000 ∧ (∀ x ∈ xs, x ∈ someNames) ∧ Drawn B M (fun d => ∃ ys : List Str, ys.Perm xs ∧ d = .lst (ys.map D.str)) Q
def p__law_names (K : PySem.W.Frag) : DSp := fun ds M Q _ => ∃ (B : Addr) (n : Nat), ds = [.ref B, .int n] ∧ BagAt B M ∧ n ≤ 10 ∧ Drawn B M (fun d => ∃ ys : List Str, ys.length = n ∧ ys.Nodup ∧ (∀ y ∈ ys, y ∈ someNames) ∧ d = .lst (ys.map D.str)) Q
def p__law_drawn_counts (K : PySem.W.Frag) : DSp := fun ds M Q _ => ∃ (B : Addr) (m n : Nat), ds = [.ref B, .int m, .int n] ∧ BagAt B M ∧ 1 ≤ m ∧ m ≤ 1000 ∧ 1 ≤ n ∧ n ≤ 1000 ∧ Drawn B M (fun d => ∃ cs : List Int, cs.length = m ∧ (∀ c ∈ cs, 0 ≤ c ∧ c ≤ n) ∧ d = iT cs) Q
def p__law_some (K : PySem.W.Frag) : DSp := fun ds M Q _ => ∃ (B : Addr) (xs : List D), ds = [.ref B, .lst xs] ∧ BagAt B M ∧ xs ≠ [] ∧ xs.length ≤ 1000 ∧ Drawn B M (fun d => d ∈ xs) Q
def p__law_places (K : PySem.W.Frag) : DSp := fun ds M Q _ => ∃ (B : Addr) (xs : List Str), ds = [.ref B, .lst (xs.map D.str)] ∧ BagAt B M ∧ xs ≠ [] ∧ xs.length ≤ 10 ∧ (∀ x ∈ xs, x ∈ someNames) ∧ Drawn B M (fun d => ∃ ys : List Str, ys.length ≤ xs.length ∧ (∀ y ∈ ys, y ∈ xs) ∧ d = .tup (ys.map D.str)) Q
def p__law_drawn_tails (K : PySem.W.Frag) : DSp := fun ds M Q _ => ∃ (B : Addr) (m n : Nat), ds = [.ref B, .int m, .int n] ∧ BagAt B M ∧ 1 ≤ m ∧ m ≤ 1000 ∧ n ≤ 100 ∧ Drawn B M (fun d => ∃ ts : List Int, ts.length = m ∧ (∀ t ∈ ts, 0 ≤ t ∧ t ≤ 100) ∧ d = iT ts) Q
/-- the houses that are drawn -/
structure House.ok (h : House) : Prop where
  m1 : 1 ≤ h.m
  m4 : h.m ≤ 4
  w1 : 1 ≤ h.walls.length
  w3 : h.walls.length ≤ 3
  nd : h.names.Nodup
  wl : ∀ w ∈ h.walls, w.counts.length = h.m ∧ (∀ c ∈ w.counts, 0 ≤ c ∧ c ≤ 2) ∧ 0 ≤ w.jams ∧ w.jams ≤ 2 ∧ w.name ∈ someNames
  kd : Shows 100000 10 h.kinds
  dl : h.week.length ≤ 3
  dy : ∀ x ∈ h.week, x.backs.length = h.walls.length ∧ (∀ b ∈ x.backs, b.length = h.m ∧ ∀ t ∈ b, 0 ≤ t ∧ t ≤ 100) ∧ Shows 1000 10 x.asks
def p__law_house (K : PySem.W.Frag) : DSp := fun ds M Q _ => ∃ (B : Addr) (m walls days : Nat), ds = [.ref B, .int m, .int walls, .int 1, .int days] ∧ BagAt B M ∧ 1 ≤ m ∧ m ≤ 4 ∧ 1 ≤ walls ∧ walls ≤ 3 ∧ days ≤ 3 ∧ Drawn B M (fun d => ∃ h : House, h.ok ∧ d = h.d) Q
def h__law_heard (K : PySem.W.Frag) : DHrd := fun act M Q => ∃ n : Str, (∀ (Qa : DVK) (Ea : DXK), Ea (.ref (He.ga K "NoWall")) [(("name" : Str), D.str n)] M → act M Qa Ea) ∧ Q (.tup [.str "nowall", .str n]) M
def p__law_stays (K : PySem.W.Frag) : DSp := fun ds M Q _ => ∃ (B : Addr) (m n : Nat), ds = [.ref B, .int m, .int n] ∧ BagAt B M ∧ 1 ≤ m ∧ m ≤ 4 ∧ n ≤ 100 ∧ Drawn B M (fun d => ∃ ss : List Nat, ss.length ≤ 200 ∧ (∀ s ∈ ss, 1 ≤ s ∧ s ≤ m) ∧ d = iT (ss.map Int.ofNat)) Q
def p__law_room_tails (K : PySem.W.Frag) : DSp := fun ds M Q _ => ∃ (w : Wall) (ss : List Nat), ds = [w.d, iT (ss.map Int.ofNat)] ∧ SizesOk w.counts ss ∧ Q (optI (roomI w ss)) M
def p__law_takes (K : PySem.W.Frag) : DSp := fun ds M Q _ => ∃ (w : Wall) (bs : List Int) (ss zs : List Nat), ds = [w.d, iT bs, iT (ss.map Int.ofNat), iT (zs.map Int.ofNat)] ∧ SizesOk w.counts ss ∧ zs.length ≤ 1000 ∧ bs.length = w.counts.length ∧ Q (.bl (takesI w bs ss zs)) M
def p__law_edge (K : PySem.W.Frag) : DSp := fun ds M Q _ => ∃ (B : Addr) (m : Nat) (o : Option (List Int)), ds = [.ref B, .int m, optI o] ∧ BagAt B M ∧ 1 ≤ m ∧ m ≤ 4 ∧ (∀ ts, o = some ts → ts.length = m ∧ ∀ t ∈ ts, t ≤ 100) ∧
  Drawn B M (fun d => ∃ ss : List Nat, ss.length ≤ 1000 ∧ (∀ s ∈ ss, 1 ≤ s ∧ s ≤ m) ∧ d = iT (ss.map Int.ofNat)) Q
def p__law_wall_right (K : PySem.W.Frag) : DSp := fun ds M Q _ => ∃ (B : Addr) (h : House) (d j : Nat), ds = [.ref B, h.d, .int d, .int j] ∧ BagAt B M ∧ h.ok ∧ d < h.week.length ∧ j < h.walls.length ∧ Drawn B M (fun d => d = .bl true) Q
def p_law (K : PySem.W.Frag) (P : Addr) : DSp := fun ds M Q _ => ∃ ns : List Int, ds = [.rol (ns.map D.int)] ∧ M = tblsM [(P, "law.<locals>.<lambda>")] ∧ ∀ M', Q (.bl true) M'
end K38
end

section
set_option Elab.async false
set_option linter.all false
set_option maxRecDepth 100000
set_option maxHeartbeats 4000000
namespace K38
open PySem PySem.Spec PyProof.Rows L2 DL

def t_wall_names (K : PySem.W.Frag) : DTS :=
  dRet (dCB rTupD (dCons (dLc (dSeqI (dOp rIxDD (dVar 0) (dC (.int 1)))) (.nm 1) (dYes) (dOp rIxDD (dVar 1) (dC (.int 0))) [1]) (dNil)))
def t_wall_index (K : PySem.W.Frag) : DTS :=
  dSeq (dSet 2 (dCall (p_wall_names K) (dCons (dVar 0) (dNil))))
    (dSeq (dIfS (dB (dOp (rInDD true) (dVar 1) (dVar 2))) (dRaise1 (He.ga K "NoWall") "name" (dCons (dVar 1) (dNil))) (dNext))
    (dRet (dMt rTIndexD isXtp (dVar 2) (dCons (dVar 1) (dNil)))))
def t_wall_of (K : PySem.W.Frag) : DTS :=
  dRet (dOp rIxDD (dOp rIxDD (dVar 0) (dC (.int 1))) (dCall (p_wall_index K) (dCons (dVar 0) (dCons (dVar 1) (dNil)))))
def t_backs_of (K : PySem.W.Frag) : DTS :=
  dRet (dOp rIxDD (dOp rIxDD (dOp rIxDD (dOp rIxDD (dVar 0) (dC (.int 3))) (dVar 1)) (dC (.int 1))) (dCall (p_wall_index K) (dCons (dVar 0) (dCons (dVar 2) (dNil)))))
def t_tails_of (K : PySem.W.Frag) : DTS :=
  dRet (dCB rTupD (dCons (dLc (dRng1 (dCons (dCB rLenD (dCons (dVar 0) (dNil))) (dNil))) (.nm 1) (dYes) (dCB rSumD (dCons (dSl (dVar 0) (dPart (dVar 1)) (dNoPart)) (dNil))) [1]) (dNil)))
def t_tails_of_sizes (K : PySem.W.Frag) : DTS :=
  dRet (dCB rTupD (dCons (dLc (dRng1 (dCons (dVar 0) (dNil))) (.nm 2) (dYes) (dCB rLenD (dCons (dLc (dSeqI (dVar 1)) (.nm 3) (dB (dOp rGtD (dVar 3) (dVar 2))) (dVar 3) [3]) (dNil))) [2]) (dNil)))
def t_made_falling (K : PySem.W.Frag) : DTS :=
  dRet (dCB rTupD (dCons (dLc (dRng1 (dCons (dCB rLenD (dCons (dVar 0) (dNil))) (dNil))) (.nm 1) (dYes) (dCB rMinD (dCons (dSl (dVar 0) (dNoPart) (dPart (dOp rAddD (dVar 1) (dC (.int 1))))) (dNil))) [1]) (dNil)))
def t_least_box (K : PySem.W.Frag) : DTS :=
  dSeq (dSet 2 (dLc (dRng2 (dCons (dVar 1) (dCons (dOp rAddD (dCB rLenD (dCons (dVar 0) (dNil))) (dC (.int 1))) (dNil)))) (.nm 3) (dB (dOp rGtD (dOp rIxDD (dVar 0) (dOp rSubD (dVar 3) (dC (.int 1)))) (dC (.int 0)))) (dVar 3) [3]))
    (dRet (dIfE (dTru (dVar 2)) (dOp rIxDD (dVar 2) (dC (.int 0))) (dC .non)))
def t_changed_by (K : PySem.W.Frag) : DTS :=
  dRet (dTup (dStar (dSl (dVar 0) (dNoPart) (dPart (dOp rSubD (dVar 1) (dC (.int 1))))) (dCons (dOp rAddD (dOp rIxDD (dVar 0) (dOp rSubD (dVar 1) (dC (.int 1)))) (dVar 2)) (dStar (dSl (dVar 0) (dPart (dVar 1)) (dNoPart)) (dNil)))))
def t_taken_from (K : PySem.W.Frag) : DTS :=
  dSeq (dIfS (dB (dOp rEqq (dOp rIxDD (dVar 0) (dOp rSubD (dVar 1) (dC (.int 1)))) (dC (.int 0)))) (dDead) (dNext))
    (dRet (dCall (p_changed_by K) (dCons (dVar 0) (dCons (dVar 1) (dCons (dUn rNegD (dC (.int 1))) (dNil))))))
def t_used_boxes (K : PySem.W.Frag) : DTS :=
  dRet (dCB rTupD (dCons (dLc (dRng2 (dCons (dC (.int 1)) (dCons (dOp rAddD (dVar 0) (dC (.int 1))) (dNil)))) (.nm 2) (dYes) (dCB rLenD (dCons (dLc (dSeqI (dVar 1)) (.tp [.nm 3, .nm 4]) (dB (dOp rEqq (dVar 4) (dVar 2))) (dVar 4) [3, 4]) (dNil))) [2]) (dNil)))
def t_free_behind (K : PySem.W.Frag) : DTS :=
  dRet (dCB rTupD (dCons (dLc (dZipI (dCons (dVar 0) (dCons (dCall (p_used_boxes K) (dCons (dCB rLenD (dCons (dVar 0) (dNil))) (dCons (dVar 1) (dNil)))) (dNil)))) (.tp [.nm 2, .nm 3]) (dYes) (dOp rSubD (dVar 2) (dVar 3)) [2, 3]) (dNil)))
def t_best_laying (K : PySem.W.Frag) : DTS :=
  dSeq (dSet 2 (dLstM (dNil)))
    (dSeq (dFor (dSeqI (dCB rSortD (dCons (dVar 1) (dNil)))) (.nm 3) (dSeq (dSet 4 (dCall (p_least_box K) (dCons (dVar 0) (dCons (dVar 3) (dNil)))))
    (dSeq (dIfS (dB (dOp (rIsD false) (dVar 4) (dC .non))) (dRet (dC .non)) (dNext))
    (dSeq (dSet 0 (dCall (p_taken_from K) (dCons (dVar 0) (dCons (dVar 4) (dNil)))))
    (dDrop (dMt rAppendD isLst (dVar 2) (dCons (dTup (dCons (dVar 3) (dCons (dVar 4) (dNil)))) (dNil))))))))
    (dRet (dCB rTupD (dCons (dCB rSortD (dCons (dVar 2) (dNil))) (dNil)))))
def t_best_free (K : PySem.W.Frag) : DTS :=
  dSeq (dSet 2 (dCall (p_best_laying K) (dCons (dVar 0) (dCons (dVar 1) (dNil)))))
    (dRet (dIfE (dB (dOp (rIsD false) (dVar 2) (dC .non))) (dC .non) (dCall (p_tails_of K) (dCons (dCall (p_free_behind K) (dCons (dVar 0) (dCons (dVar 2) (dNil)))) (dNil)))))
def t_room_tails (K : PySem.W.Frag) : DTS :=
  dSeq (dSet 3 (dCall (p_wall_of K) (dCons (dVar 0) (dCons (dVar 1) (dNil)))))
    (dSeq (dSet 4 (dCall (p_best_free K) (dCons (dOp rIxDD (dVar 3) (dC (.int 1))) (dCons (dVar 2) (dNil)))))
    (dRet (dIfE (dB (dOp (rIsD false) (dVar 4) (dC .non))) (dC .non) (dCB rTupD (dCons (dLc (dSeqI (dVar 4)) (.nm 5) (dYes) (dCB rMaxD (dCons (dC (.int 0)) (dCons (dOp rSubD (dVar 5) (dOp rIxDD (dVar 3) (dC (.int 2)))) (dNil)))) [5]) (dNil))))))
def t_made_tails (K : PySem.W.Frag) : DTS :=
  dSeq (dSet 4 (dCall (p_room_tails K) (dCons (dVar 0) (dCons (dVar 2) (dCons (dVar 3) (dNil))))))
    (dSeq (dIfS (dB (dOp (rIsD false) (dVar 4) (dC .non))) (dRet (dC .non)) (dNext))
    (dRet (dCall (p_made_falling K) (dCons (dCB rTupD (dCons (dLc (dZipI (dCons (dVar 4) (dCons (dCall (p_backs_of K) (dCons (dVar 0) (dCons (dVar 1) (dCons (dVar 2) (dNil))))) (dNil)))) (.tp [.nm 5, .nm 6]) (dYes) (dOp rSubD (dVar 5) (dVar 6)) [5, 6]) (dNil))) (dNil)))))
def t_breaking (K : PySem.W.Frag) : DTS :=
  dSeq (dUnp (.tp [.nm 5, .nm 6]) (dTup (dCons (dCall (p_tails_of K) (dCons (dOp rIxDD (dCall (p_wall_of K) (dCons (dVar 0) (dCons (dVar 2) (dNil)))) (dC (.int 1))) (dNil))) (dCons (dCall (p_room_tails K) (dCons (dVar 0) (dCons (dVar 2) (dCons (dVar 3) (dNil))))) (dNil)))))
    (dSeq (dIfS (dB (dOp (rIsD false) (dVar 6) (dC .non))) (dSeq (dSet 7 (dCall (p_tails_of_sizes K) (dCons (dOp rIxDD (dVar 0) (dC (.int 0))) (dCons (dVar 3) (dNil)))))
    (dRet (dTup (dCons (dC (.str "full")) (dCons (dCB rMinD (dCons (dLc (dRng1 (dCons (dOp rIxDD (dVar 0) (dC (.int 0))) (dNil))) (.nm 10) (dB (dOp rGtD (dOp rIxDD (dVar 7) (dVar 10)) (dOp rIxDD (dVar 5) (dVar 10)))) (dOp rAddD (dVar 10) (dC (.int 1))) [10]) (dNil))) (dNil)))))) (dNext))
    (dSeq (dPar 8 9 (dCons (dCall (p_backs_of K) (dCons (dVar 0) (dCons (dVar 1) (dCons (dVar 2) (dNil))))) (dCons (dCall (p_tails_of_sizes K) (dCons (dOp rIxDD (dVar 0) (dC (.int 0))) (dCons (dVar 4) (dNil)))) (dNil))))
    (dSeq (dFor (dRng1 (dCons (dOp rIxDD (dVar 0) (dC (.int 0))) (dNil))) (.nm 10) (dIfS (dB (dOp rGtD (dOp rAddD (dOp rIxDD (dVar 9) (dVar 10)) (dOp rIxDD (dVar 8) (dVar 10))) (dOp rIxDD (dVar 6) (dVar 10)))) (dRet (dTup (dCons (dC (.str "room")) (dCons (dOp rAddD (dVar 10) (dC (.int 1))) (dNil))))) (dNext)))
    (dRet (dC .non)))))
def t_takes (K : PySem.W.Frag) : DTS :=
  dRet (dOp (rIsD false) (dCall (p_breaking K) (dCons (dVar 0) (dCons (dVar 1) (dCons (dVar 2) (dCons (dVar 3) (dCons (dVar 4) (dNil))))))) (dC .non))
def t__law_take (K : PySem.W.Frag) : DTS :=
  dSeq (dIfS (dB (dOp rEqq (dOp rIxDD (dVar 0) (dC (.int 0))) (dC (.int 0)))) (dSeq (dSet 2 (dOp rIxDD (dOp rAddD (dSl (dOp rIxDD (dVar 0) (dC (.int 3))) (dPart (dOp rIxDD (dVar 0) (dC (.int 2)))) (dNoPart)) (dLst (dCons (dC (.int 0)) (dNil)))) (dC (.int 0))))
    (dSeq (dAugI (dVar 0) (dC (.int 2)) (dC (.int 1)) rAddI)
    (dSeq (dIfS (dB (dOp rGeD (dVar 2) (dOp rPowD (dC (.int 10)) (dC (.int 18))))) (dStI (dVar 0) (dC (.int 0)) (dVar 2)) (dNext))
    (dSeq (dSet 3 (dOp rAddD (dOp rAddD (dOp rMulD (dOp rIxDD (dVar 0) (dC (.int 1))) (dC (.int 48271))) (dOp rModD (dCB rIntD (dCons (dVar 2) (dNil))) (dC (.int 2147483647)))) (dOp rMulD (dC (.int 7919)) (dOp rIxDD (dVar 0) (dC (.int 2))))))
    (dStI (dVar 0) (dC (.int 1)) (dOp rModD (dCB rIntD (dCons (dVar 3) (dNil))) (dC (.int 2147483647)))))))) (dNext))
    (dSeq (dIfS (dB (dOp rGtD (dOp rIxDD (dVar 0) (dC (.int 0))) (dC (.int 0)))) (dSeq (dSet 4 (dOp rModD (dCB rIntD (dCons (dOp rIxDD (dVar 0) (dC (.int 0))) (dNil))) (dVar 1)))
    (dSeq (dStI (dVar 0) (dC (.int 0)) (dOp rDivD (dCB rIntD (dCons (dOp rIxDD (dVar 0) (dC (.int 0))) (dNil))) (dVar 1)))
    (dRet (dVar 4)))) (dNext))
    (dSeq (dSet 5 (dOp rModD (dCB rIntD (dCons (dOp rMulD (dOp rAddD (dOp rIxDD (dVar 0) (dC (.int 1))) (dC (.int 1))) (dC (.int 39373))) (dNil))) (dC (.int 1000000007))))
    (dSeq (dSet 6 (dOp rModD (dCB rIntD (dCons (dOp rMulD (dOp rModD (dCB rIntD (dCons (dOp rMulD (dVar 5) (dVar 5)) (dNil))) (dC (.int 998244353))) (dC (.int 30011))) (dNil))) (dC (.int 998244353))))
    (dRet (dOp rModD (dCB rIntD (dCons (dOp rDivD (dVar 6) (dC (.int 7))) (dNil))) (dVar 1))))))
def t__law_laid (K : PySem.W.Frag) : DTS :=
  dSeq (dUnp (.tp [.nm 2, .nm 3]) (dTup (dCons (dCB rListD (dCons (dVar 0) (dNil))) (dCons (dLstM (dNil)) (dNil)))))
    (dSeq (dFor (dSeqI (dCB rSortD (dCons (dVar 1) (dNil)))) (.nm 4) (dSeq (dSet 5 (dLc (dRng2 (dCons (dVar 4) (dCons (dOp rAddD (dCB rLenD (dCons (dVar 0) (dNil))) (dC (.int 1))) (dNil)))) (.nm 6) (dB (dOp rGtD (dOp rIxDD (dVar 2) (dOp rSubD (dVar 6) (dC (.int 1)))) (dC (.int 0)))) (dVar 6) [6]))
    (dSeq (dIfS (dB (dOp rEqq (dVar 5) (dLst (dNil)))) (dRet (dC .non)) (dNext))
    (dSeq (dAugI (dVar 2) (dOp rSubD (dOp rIxDD (dVar 5) (dC (.int 0))) (dC (.int 1))) (dC (.int 1)) rSubD)
    (dDrop (dMt rAppendD isLst (dVar 3) (dCons (dTup (dCons (dVar 4) (dCons (dOp rIxDD (dVar 5) (dC (.int 0))) (dNil)))) (dNil))))))))
    (dRet (dTup (dCons (dCB rTupD (dCons (dCB rSortD (dCons (dVar 3) (dNil))) (dNil))) (dCons (dCB rTupD (dCons (dVar 2) (dNil))) (dNil))))))
def t__law_tails (K : PySem.W.Frag) : DTS :=
  dRet (dCB rTupD (dCons (dLc (dRng1 (dCons (dCB rLenD (dCons (dVar 0) (dNil))) (dNil))) (.nm 1) (dYes) (dCB rSumD (dCons (dSl (dVar 0) (dPart (dVar 1)) (dNoPart)) (dNil))) [1]) (dNil)))
def t__law_made (K : PySem.W.Frag) : DTS :=
  dSeq (dPar 4 5 (dCons (dCall (p__law_laid K) (dCons (dVar 0) (dCons (dVar 2) (dNil)))) (dCons (dLstM (dNil)) (dNil))))
    (dSeq (dIfS (dB (dOp (rIsD false) (dVar 4) (dC .non))) (dRet (dC .non)) (dNext))
    (dSeq (dFor (dZipI (dCons (dCall (p__law_tails K) (dCons (dOp rIxDD (dVar 4) (dC (.int 1))) (dNil))) (dCons (dVar 3) (dNil)))) (.tp [.nm 6, .nm 7]) (dSeq (dSet 8 (dOp rSubD (dCB rMaxD (dCons (dC (.int 0)) (dCons (dOp rSubD (dVar 6) (dVar 1)) (dNil)))) (dVar 7)))
    (dDrop (dMt rAppendD isLst (dVar 5) (dCons (dIfE (dB (dOp rNee (dVar 5) (dLst (dNil)))) (dCB rMinD (dCons (dVar 8) (dCons (dOp rIxDD (dVar 5) (dUn rNegD (dC (.int 1)))) (dNil)))) (dVar 8)) (dNil))))))
    (dRet (dCB rTupD (dCons (dVar 5) (dNil))))))
def t__law_is_at_most (K : PySem.W.Frag) : DTS :=
  dRet (dOp rEqq (dLc (dZipI (dCons (dVar 0) (dCons (dVar 1) (dNil)))) (.tp [.nm 2, .nm 3]) (dB (dOp rGtD (dVar 2) (dVar 3))) (dC (.int 1)) [2, 3]) (dLst (dNil)))
def t__law_size_tails (K : PySem.W.Frag) : DTS :=
  dRet (dCB rTupD (dCons (dLc (dRng1 (dCons (dVar 0) (dNil))) (.nm 2) (dYes) (dCB rLenD (dCons (dLc (dSeqI (dVar 1)) (.nm 3) (dB (dOp rGtD (dVar 3) (dVar 2))) (dVar 3) [3]) (dNil))) [2]) (dNil)))
def t__law_counts (K : PySem.W.Frag) : DTS :=
  dRet (dCB rTupD (dCons (dLc (dZipI (dCons (dVar 0) (dCons (dOp rAddD (dCB rTupD (dCons (dSl (dVar 0) (dPart (dC (.int 1))) (dNoPart)) (dNil))) (dTup (dCons (dC (.int 0)) (dNil)))) (dNil)))) (.tp [.nm 1, .nm 2]) (dYes) (dOp rSubD (dVar 1) (dVar 2)) [1, 2]) (dNil)))
def t__law_alike (K : PySem.W.Frag) : DTS :=
  dRet (dAndV (dOp rEqq (dCB rReprDD (dCons (dVar 0) (dNil))) (dCB rReprDD (dCons (dVar 1) (dNil)))) (dOp rEqq (dVar 0) (dVar 1)))
def t__law_bag (K : PySem.W.Frag) : DTS :=
  dRet (dLstM (dCons (dC (.int 0)) (dCons (dC (.int 1234567891)) (dCons (dC (.int 0)) (dCons (dLc (dSeqI (dSl (dVar 0) (dNoPart) (dPart (dC (.int 63))))) (.nm 1) (dYes) (dCB rAbsD (dCons (dVar 1) (dNil))) [1]) (dNil))))))
def t__law_mixed (K : PySem.W.Frag) : DTS :=
  dSeq (dPar 2 3 (dCons (dCB rListD (dCons (dVar 1) (dNil))) (dCons (dLstM (dNil)) (dNil))))
    (dSeq (dWhile (dB (dOp rNee (dVar 2) (dLst (dNil)))) (dDrop (dMt rAppendD isLst (dVar 3) (dCons (dMt rPopD isLst (dVar 2) (dCons (dCall (p__law_take K) (dCons (dVar 0) (dCons (dCB rLenD (dCons (dVar 2) (dNil))) (dNil)))) (dNil))) (dNil)))))
    (dRet (dVar 3)))
def t__law_names (K : PySem.W.Frag) : DTS :=
  dRet (dCB rSortD (dCons (dSl (dCall (p__law_mixed K) (dCons (dVar 0) (dCons (dLst (dCons (dC (.str "a")) (dCons (dC (.str "b")) (dCons (dC (.str "c")) (dCons (dC (.str "d")) (dCons (dC (.str "q")) (dCons (dC (.str "zz")) (dCons (dC (.str "ab")) (dCons (dC (.str "abcdefgh")) (dCons (dC (.str "wal")) (dCons (dC (.str "ends")) (dNil)))))))))))) (dNil)))) (dNoPart) (dPart (dVar 1))) (dNil)))
def t__law_drawn_counts (K : PySem.W.Frag) : DTS :=
  dSeq (dSet 3 (dLcM (dRng1 (dCons (dVar 1) (dNil))) (.nm 4) (dYes) (dCall (p__law_take K) (dCons (dVar 0) (dCons (dOp rAddD (dVar 2) (dC (.int 1))) (dNil)))) [4]))
    (dSeq (dIfS (dB (dOp rEqq (dCB rSumD (dCons (dVar 3) (dNil))) (dC (.int 0)))) (dStI (dVar 3) (dCall (p__law_take K) (dCons (dVar 0) (dCons (dVar 1) (dNil)))) (dC (.int 1))) (dNext))
    (dRet (dCB rTupD (dCons (dVar 3) (dNil)))))
def t__law_some (K : PySem.W.Frag) : DTS :=
  dRet (dOp rIxDD (dVar 1) (dCall (p__law_take K) (dCons (dVar 0) (dCons (dCB rLenD (dCons (dVar 1) (dNil))) (dNil)))))
def t__law_places (K : PySem.W.Frag) : DTS :=
  dRet (dCB rTupD (dCons (dCB rSortD (dCons (dSl (dCall (p__law_mixed K) (dCons (dVar 0) (dCons (dVar 1) (dNil)))) (dNoPart) (dPart (dOp rAddD (dC (.int 1)) (dCall (p__law_take K) (dCons (dVar 0) (dCons (dCB rLenD (dCons (dVar 1) (dNil))) (dNil))))))) (dNil))) (dNil)))
def t__law_drawn_tails (K : PySem.W.Frag) : DTS :=
  dRet (dCall (p__law_size_tails K) (dCons (dVar 1) (dCons (dLc (dRng1 (dCons (dCall (p__law_take K) (dCons (dVar 0) (dCons (dOp rAddD (dVar 2) (dC (.int 1))) (dNil)))) (dNil))) (.nm 3) (dYes) (dOp rAddD (dC (.int 1)) (dCall (p__law_take K) (dCons (dVar 0) (dCons (dVar 1) (dNil))))) [3]) (dNil))))
def t__law_house (K : PySem.W.Frag) : DTS :=
  dSeq (dPar 5 6 (dCons (dCall (p__law_names K) (dCons (dVar 0) (dCons (dVar 2) (dNil)))) (dCons (dLstM (dNil)) (dNil))))
    (dSeq (dFor (dSeqI (dVar 5)) (.nm 7) (dDrop (dMt rAppendD isLst (dVar 6) (dCons (dTup (dCons (dVar 7) (dCons (dCall (p__law_drawn_counts K) (dCons (dVar 0) (dCons (dVar 1) (dCons (dC (.int 2)) (dNil))))) (dCons (dCall (p__law_some K) (dCons (dVar 0) (dCons (dLst (dCons (dC (.int 0)) (dCons (dC (.int 0)) (dCons (dC (.int 1)) (dCons (dC (.int 0)) (dCons (dC (.int 2)) (dNil))))))) (dNil)))) (dNil))))) (dNil)))))
    (dSeq (dSet 8 (dLstM (dNil)))
    (dSeq (dFor (dSeqI (dCall (p__law_names K) (dCons (dVar 0) (dCons (dVar 3) (dNil))))) (.nm 7) (dSeq (dPar 9 10 (dCons (dCall (p__law_some K) (dCons (dVar 0) (dCons (dLst (dCons (dC (.int 0)) (dCons (dC (.int 1)) (dCons (dC (.int 0)) (dCons (dC (.int 2)) (dNil)))))) (dNil)))) (dCons (dCall (p__law_some K) (dCons (dVar 0) (dCons (dLst (dCons (dC (.int 1)) (dCons (dC (.int 2)) (dCons (dC (.int 1)) (dCons (dC (.int 3)) (dNil)))))) (dNil)))) (dNil))))
    (dDrop (dMt rAppendD isLst (dVar 8) (dCons (dTup (dCons (dVar 7) (dCons (dOp rAddD (dC (.int 1)) (dCall (p__law_take K) (dCons (dVar 0) (dCons (dVar 1) (dNil))))) (dCons (dCall (p__law_places K) (dCons (dVar 0) (dCons (dVar 5) (dNil)))) (dCons (dVar 9) (dCons (dVar 10) (dNil))))))) (dNil))))))
    (dSeq (dSet 11 (dLstM (dNil)))
    (dSeq (dFor (dRng1 (dCons (dVar 4) (dNil))) (.nm 12) (dSeq (dSet 13 (dCB rTupD (dCons (dLc (dSeqI (dVar 8)) (.nm 14) (dYes) (dCall (p__law_some K) (dCons (dVar 0) (dCons (dLst (dCons (dC (.int 1)) (dCons (dC (.int 0)) (dCons (dC (.int 1)) (dCons (dC (.int 0)) (dCons (dC (.int 2)) (dNil))))))) (dNil)))) [14]) (dNil))))
    (dDrop (dMt rAppendD isLst (dVar 11) (dCons (dTup (dCons (dVar 13) (dCons (dCB rTupD (dCons (dLc (dSeqI (dVar 6)) (.nm 15) (dYes) (dCall (p__law_drawn_tails K) (dCons (dVar 0) (dCons (dVar 1) (dCons (dCall (p__law_some K) (dCons (dVar 0) (dCons (dLst (dCons (dC (.int 0)) (dCons (dC (.int 1)) (dCons (dC (.int 0)) (dCons (dC (.int 2)) (dNil)))))) (dNil)))) (dNil))))) [15]) (dNil))) (dNil)))) (dNil))))))
    (dRet (dTup (dCons (dVar 1) (dCons (dCB rTupD (dCons (dVar 6) (dNil))) (dCons (dCB rTupD (dCons (dVar 8) (dNil))) (dCons (dCB rTupD (dCons (dVar 11) (dNil))) (dNil))))))))))))
def t__law_heard (K : PySem.W.Frag) (act : DTE) : DTS :=
  dTryAs K (.ref (He.ga K "LockerError")) 1 (dRet (dTup (dCons (dC (.str "told")) (dCons (act) (dNil))))) (fun a cls d => dRet (dIfE (dTru (dCB (rIsXD K a cls d) (dCons (dVar 1) (dCons (dC (.ref (He.ga K "NoWall"))) (dNil))))) (dTup (dCons (dC (.str "nowall")) (dCons (dXf a cls d (He.ga K "NoWall") "name" (dVar 1)) (dNil)))) (dTup (dCons (dC (.str "other")) (dNil)))))
def HOk__law_heard (K : PySem.W.Frag) : Prop := ∀ act M Q f c q vs xs, h__law_heard K act M Q → t__law_heard K (dAct f c q vs xs act) { nx := fun _ M' => Back M Q .non M', rt := Back M Q } (startD 2 [.lam f c q vs xs]) M WN
def t__law_stays (K : PySem.W.Frag) : DTS :=
  dSeq (dSet 3 (dCall (p__law_take K) (dCons (dVar 0) (dCons (dCall (p__law_some K) (dCons (dVar 0) (dCons (dLst (dCons (dC (.int 2)) (dCons (dC (.int 4)) (dCons (dOp rAddD (dVar 2) (dC (.int 2))) (dNil))))) (dNil)))) (dNil)))))
    (dRet (dCB rTupD (dCons (dCB rSortD (dCons (dLc (dRng1 (dCons (dVar 3) (dNil))) (.nm 4) (dYes) (dOp rAddD (dC (.int 1)) (dCall (p__law_take K) (dCons (dVar 0) (dCons (dVar 1) (dNil))))) [4]) (dNil))) (dNil))))
def t__law_room_tails (K : PySem.W.Frag) : DTS :=
  dSeq (dSet 2 (dCall (p__law_laid K) (dCons (dOp rIxDD (dVar 0) (dC (.int 1))) (dCons (dVar 1) (dNil)))))
    (dRet (dIfE (dB (dOp (rIsD false) (dVar 2) (dC .non))) (dC .non) (dCB rTupD (dCons (dLc (dSeqI (dCall (p__law_tails K) (dCons (dOp rIxDD (dVar 2) (dC (.int 1))) (dNil)))) (.nm 3) (dYes) (dCB rMaxD (dCons (dC (.int 0)) (dCons (dOp rSubD (dVar 3) (dOp rIxDD (dVar 0) (dC (.int 2)))) (dNil)))) [3]) (dNil)))))
def t__law_takes (K : PySem.W.Frag) : DTS :=
  dSeq (dSet 4 (dCall (p__law_made K) (dCons (dOp rIxDD (dVar 0) (dC (.int 1))) (dCons (dOp rIxDD (dVar 0) (dC (.int 2))) (dCons (dVar 2) (dCons (dVar 1) (dNil)))))))
    (dRet (dAndV (dOp (rIsD true) (dVar 4) (dC .non)) (dCall (p__law_is_at_most K) (dCons (dCall (p__law_size_tails K) (dCons (dCB rLenD (dCons (dOp rIxDD (dVar 0) (dC (.int 1))) (dNil))) (dCons (dVar 3) (dNil)))) (dCons (dVar 4) (dNil))))))
def t__law_edge (K : PySem.W.Frag) : DTS :=
  dSeq (dIfS (dOr (dB (dOp (rIsD false) (dVar 2) (dC .non))) (dOr (dB (dOp rLtD (dCB rMinD (dCons (dVar 2) (dNil))) (dC (.int 0)))) (dB (dOp rEqq (dCall (p__law_take K) (dCons (dVar 0) (dCons (dC (.int 3)) (dNil)))) (dC (.int 0)))))) (dRet (dCB rTupD (dCons (dCB rSortD (dCons (dLc (dRng1 (dCons (dCall (p__law_take K) (dCons (dVar 0) (dCons (dC (.int 5)) (dNil)))) (dNil))) (.nm 6) (dYes) (dOp rAddD (dC (.int 1)) (dCall (p__law_take K) (dCons (dVar 0) (dCons (dVar 1) (dNil))))) [6]) (dNil))) (dNil)))) (dNext))
    (dSeq (dSet 3 (dLst (dNil)))
    (dSeq (dFor (dEnumI (dCons (dCall (p__law_counts K) (dCons (dVar 2) (dNil))) (dNil))) (.tp [.nm 4, .nm 5]) (dSet 3 (dOp rAddD (dVar 3) (dOp rMulD (dLst (dCons (dOp rAddD (dVar 4) (dC (.int 1))) (dNil))) (dVar 5)))))
    (dRet (dCB rTupD (dCons (dCB rSortD (dCons (dOp rAddD (dVar 3) (dOp rMulD (dLst (dCons (dOp rAddD (dC (.int 1)) (dCall (p__law_take K) (dCons (dVar 0) (dCons (dVar 1) (dNil))))) (dNil))) (dCall (p__law_take K) (dCons (dVar 0) (dCons (dC (.int 2)) (dNil)))))) (dNil))) (dNil))))))
def t__law_wall_right (K : PySem.W.Frag) : DTS :=
  dSeq (dUnp (.tp [.nm 4, .nm 5, .nm 6]) (dOp rIxDD (dOp rIxDD (dVar 1) (dC (.int 1))) (dVar 3)))
    (dSeq (dPar 7 8 (dCons (dOp rIxDD (dOp rIxDD (dOp rIxDD (dOp rIxDD (dVar 1) (dC (.int 3))) (dVar 2)) (dC (.int 1))) (dVar 3)) (dCons (dCall (p__law_stays K) (dCons (dVar 0) (dCons (dOp rIxDD (dVar 1) (dC (.int 0))) (dCons (dCB rSumD (dCons (dVar 5) (dNil))) (dNil))))) (dNil))))
    (dSeq (dSet 9 (dCall (p__law_made K) (dCons (dVar 5) (dCons (dVar 6) (dCons (dVar 8) (dCons (dVar 7) (dNil)))))))
    (dSeq (dSet 10 (dCall (p__law_edge K) (dCons (dVar 0) (dCons (dOp rIxDD (dVar 1) (dC (.int 0))) (dCons (dVar 9) (dNil))))))
    (dSeq (dSet 11 (dLst (dCons (dCall (p__law_room_tails K) (dCons (dOp rIxDD (dOp rIxDD (dVar 1) (dC (.int 1))) (dVar 3)) (dCons (dVar 8) (dNil)))) (dCons (dVar 9) (dCons (dCall (p__law_takes K) (dCons (dOp rIxDD (dOp rIxDD (dVar 1) (dC (.int 1))) (dVar 3)) (dCons (dVar 7) (dCons (dVar 8) (dCons (dVar 10) (dNil)))))) (dNil))))))
    (dSeq (dSet 12 (dCB rReprDD (dCons (dTup (dCons (dVar 1) (dCons (dVar 8) (dCons (dVar 10) (dNil))))) (dNil))))
    (dSeq (dFor (dRng1 (dCons (dC (.int 2)) (dNil))) (.nm 13) (dSeq (dSet 14 (dLst (dCons (dCall (p_room_tails K) (dCons (dVar 1) (dCons (dVar 4) (dCons (dVar 8) (dNil))))) (dCons (dCall (p_made_tails K) (dCons (dVar 1) (dCons (dVar 2) (dCons (dVar 4) (dCons (dVar 8) (dNil)))))) (dNil)))))
    (dIfS (dOr (dNot (dTru (dCall (p__law_alike K) (dCons (dOp rAddD (dVar 14) (dLst (dCons (dCall (p_takes K) (dCons (dVar 1) (dCons (dVar 2) (dCons (dVar 4) (dCons (dVar 8) (dCons (dVar 10) (dNil))))))) (dNil)))) (dCons (dVar 11) (dNil)))))) (dB (dOp rNee (dCB rReprDD (dCons (dTup (dCons (dVar 1) (dCons (dVar 8) (dCons (dVar 10) (dNil))))) (dNil))) (dVar 12)))) (dRet (dC (.bl false))) (dNext))))
    (dRet (dC (.bl true)))))))))
def t_law (K : PySem.W.Frag) (P : Addr) : DTS :=
  dSeq (dSet 1 (dCall (p__law_bag K) (dCons (dVar 0) (dNil))))
    (dSeq (dFor (dRng1 (dCons (dC (.int 4)) (dNil))) (.nm 2) (dSeq (dSet 3 (dCall (p__law_house K) (dCons (dVar 1) (dCons (dOp rAddD (dC (.int 1)) (dCall (p__law_take K) (dCons (dVar 1) (dCons (dC (.int 4)) (dNil))))) (dCons (dOp rAddD (dC (.int 1)) (dCall (p__law_take K) (dCons (dVar 1) (dCons (dC (.int 3)) (dNil))))) (dCons (dC (.int 1)) (dCons (dOp rAddD (dC (.int 1)) (dCall (p__law_take K) (dCons (dVar 1) (dCons (dC (.int 3)) (dNil))))) (dNil))))))))
    (dSeq (dFor (dRng1 (dCons (dCB rLenD (dCons (dOp rIxDD (dVar 3) (dC (.int 3))) (dNil))) (dNil))) (.nm 4) (dFor (dRng1 (dCons (dCB rLenD (dCons (dOp rIxDD (dVar 3) (dC (.int 1))) (dNil))) (dNil))) (.nm 5) (dIfS (dNot (dTru (dCall (p__law_wall_right K) (dCons (dVar 1) (dCons (dVar 3) (dCons (dVar 4) (dCons (dVar 5) (dNil)))))))) (dRet (dC (.bl false))) (dNext))))
    (dSeq (dSet 6 (dLstM (dCons (dLam [(P, "law.<locals>.<lambda>")] (h__law_heard K) (dCall (p_room_tails K) (dCons (dVar 3) (dCons (dC (.str "nobody")) (dCons (dTup (dNil)) (dNil)))))) (dNil))))
    (dSeq (dDrop (dMt rAppendD isLst (dVar 6) (dCons (dLam [(P, "law.<locals>.<lambda>")] (h__law_heard K) (dCall (p_takes K) (dCons (dVar 3) (dCons (dC (.int 0)) (dCons (dC (.str "")) (dCons (dTup (dNil)) (dCons (dTup (dNil)) (dNil)))))))) (dNil))))
    (dSeq (dDrop (dMt rAppendD isLst (dVar 6) (dCons (dLam [(P, "law.<locals>.<lambda>")] (h__law_heard K) (dCall (p_made_tails K) (dCons (dVar 3) (dCons (dC (.int 0)) (dCons (dC (.str "nobody")) (dCons (dOp rMulD (dTup (dCons (dC (.int 1)) (dNil))) (dC (.int 99))) (dNil))))))) (dNil))))
    (dIfS (dNot (dTru (dCall (p__law_alike K) (dCons (dVar 6) (dCons (dLst (dCons (dTup (dCons (dC (.str "nowall")) (dCons (dC (.str "nobody")) (dNil)))) (dCons (dTup (dCons (dC (.str "nowall")) (dCons (dC (.str "")) (dNil)))) (dCons (dTup (dCons (dC (.str "nowall")) (dCons (dC (.str "nobody")) (dNil)))) (dNil))))) (dNil)))))) (dRet (dC (.bl false))) (dNext))))))))
    (dRet (dC (.bl true))))
end K38
end

section
set_option Elab.async false
set_option linter.all false
set_option maxRecDepth 100000
set_option maxHeartbeats 4000000
namespace K38
open PySem PySem.Spec PyProof.Rows L2 DL
theorem b_wall_names (K : PySem.W.Frag) (_ : ErrK K) : Body 2 1 (p_wall_names K) (t_wall_names K) := by
  rintro ds M Q E ⟨h, rfl, hl, q⟩
  refine ⟨rfl, _, _, rfl, rfl, _, rfl, ?_⟩
  intro A hA
  refine lcL_all (α := Wall) Wall.d (fun w => .str w.name) rfl trivial (small_line (by omega)) (fun w _ k hk => ⟨_, rfl, _, _, rfl, rfl, hk⟩) ?_
  rw [delD_upd hA]
  refine ⟨_, rfl, .inr (Back.same ?_)⟩
  unfold House.names at q
  rw [List.map_map] at q
  exact q
theorem contains_str (n : Str) : ∀ xs : List Str, ((xs.map D.str).any fun z => eqF z (.str n)) = decide (n ∈ xs)
  | [] => rfl
  | y :: ys => by
    rw [List.map_cons, List.any_cons, contains_str n ys]
    show (y == n || decide (n ∈ ys)) = _
    by_cases h : y = n
    · simp [h]
    · have h' : ¬ n = y := fun e => h e.symm
      simp [h, h']
theorem first_at {n : Str} : ∀ {xs : List Str}, n ∈ xs → ∃ j : Nat, xs[j]? = some n ∧ ∀ i : Nat, i < j → xs[i]? ≠ some n
  | y :: ys, h => by
    by_cases e : y = n
    · exact ⟨0, by rw [e]; rfl, fun i hi => absurd hi (Nat.not_lt_zero i)⟩
    · obtain ⟨j, h1, h2⟩ := first_at (xs := ys) ((List.mem_cons.mp h).resolve_left fun z => e z.symm)
      refine ⟨j + 1, h1, fun i hi => ?_⟩
      cases i with
      | zero => exact fun z => e (Option.some.inj z)
      | succ i => exact h2 i (by omega)
theorem b_wall_index (K : PySem.W.Frag) (_ : ErrK K) : Body 3 2 (p_wall_index K) (t_wall_index K) := by
  rintro ds M Q E ⟨h, n, rfl, hl, e, q⟩
  refine ⟨rfl, h, rfl, hl, ?_⟩
  refine ⟨_, rfl, rfl, by simp [flatD], ?_⟩
  rw [contains_str]
  by_cases hn : n ∈ h.names
  · simp only [hn, decide_true, Bool.not_true]
    obtain ⟨j, h1, h2⟩ := first_at hn
    exact ⟨⟨_, rfl⟩, _, j, rfl, h1, h2, Back.same (q j h1 h2)⟩
  · simp only [hn, decide_false, Bool.not_false]
    exact ⟨M, Sub.refl _, fun _ h => h, e hn⟩
theorem b_tails_of (K : PySem.W.Frag) (_ : ErrK K) : Body 2 1 (p_tails_of K) (t_tails_of K) := by
  rintro ds M Q E ⟨cs, rfl, hl, q⟩
  refine ⟨rfl, _, rfl, by simp only [List.length_map]; omega, by simp only [List.length_map]; omega, ?_⟩
  intro A hA
  refine lcL_all (α := Nat) (fun i => .int (0 + (i : Nat))) (fun i => .int (cs.drop i).sum) rfl trivial (small_line (by simp; omega)) (fun i _ k hk => ⟨_, rfl, cs.drop i, ?_, hk⟩) ?_
  · show some (cutG _ _ _) = _
    rw [Int.zero_add, cut_lo, List.map_drop]
  · rw [delD_upd hA]
    refine ⟨_, rfl, .inl (Back.same ?_)⟩
    simp only [tailsI, iT, List.map_map] at q
    simpa [Function.comp_def] using q
end K38
end

section
set_option Elab.async false
set_option linter.all false
set_option maxRecDepth 100000
set_option maxHeartbeats 4000000
namespace K38
open PySem PySem.Spec PyProof.Rows L2 DL
theorem name_at {h : House} {n : Str} {j : Nat} (e : h.names[j]? = some n) : ∃ w, h.walls[j]? = some w ∧ w.name = n := by
  unfold House.names at e
  rw [List.getElem?_map] at e
  cases z : h.walls[j]? with
  | none => rw [z] at e; cases e
  | some w => rw [z] at e; exact ⟨w, rfl, Option.some.inj e⟩
theorem b_wall_of (K : PySem.W.Frag) (_ : ErrK K) : Body 2 2 (p_wall_of K) (t_wall_of K) := by
  rintro ds M Q E ⟨h, n, rfl, hl, e, q⟩
  refine ⟨rfl, _, _, rfl, rfl, h, n, rfl, hl, fun hn => BackX.same (e hn), fun j h1 h2 => ?_⟩
  obtain ⟨w, hw, hn⟩ := name_at h1
  exact ⟨_, _, rfl, atI_map hw, Back.same (q j w hw hn h2)⟩
theorem b_backs_of (K : PySem.W.Frag) (_ : ErrK K) : Body 3 3 (p_backs_of K) (t_backs_of K) := by
  rintro ds M Q E ⟨h, d, x, n, rfl, hl, hx, hb, e, q⟩
  refine ⟨rfl, _, _, rfl, rfl, _, _, rfl, atI_map hx, _, _, rfl, rfl, h, n, rfl, hl, fun hn => BackX.same (e hn), fun j h1 h2 => ?_⟩
  obtain ⟨w, hw, hn⟩ := name_at h1
  have hj : j < x.backs.length := by rw [hb]; exact (List.getElem?_eq_some_iff.mp hw).1
  have hbj := List.getElem?_eq_getElem hj
  exact ⟨_, _, rfl, atI_map hbj, Back.same (q j _ h1 hbj h2)⟩
theorem b_tails_of_sizes (K : PySem.W.Frag) (_ : ErrK K) : Body 4 2 (p_tails_of_sizes K) (t_tails_of_sizes K) := by
  rintro ds M Q E ⟨m, ss, rfl, hm, hl, q⟩
  refine ⟨rfl, by omega, by omega, ?_⟩
  intro A hA
  refine lcL_all (α := Nat) (fun i => .int (0 + (i : Nat))) (fun i => .int ((ss.filter fun s => decide (((i : Nat) : Int) < s)).length : Int)) rfl trivial (small_line (by simp; omega)) (fun i _ k hk => ⟨_, rfl, _, rfl, ?_⟩) ?_
  · intro A' hA'
    refine lcL_flt (α := Int) D.int (fun s => decide ((0 : Int) + (i : Nat) < s)) D.int rfl trivial (small_line (by omega)) (fun s _ k h1 h2 => ⟨_, rfl, ifb h1 h2⟩) ?_
    rw [delD_upd hA']
    refine ⟨_, rfl, ?_⟩
    rw [Int.zero_add, List.length_map]
    exact hk
  · rw [delD_upd hA]
    refine ⟨_, rfl, .inl (Back.same ?_)⟩
    simp only [stoodI, iT, List.map_map] at q
    simpa [Function.comp_def] using q
theorem b_made_falling (K : PySem.W.Frag) (_ : ErrK K) : Body 2 1 (p_made_falling K) (t_made_falling K) := by
  rintro ds M Q E ⟨ts, rfl, hl, q⟩
  refine ⟨rfl, _, rfl, by simp only [List.length_map]; omega, by simp only [List.length_map]; omega, ?_⟩
  intro A hA
  refine lcL_all (α := Nat) (fun i => .int (0 + (i : Nat))) (fun i => .int (minI (ts.getD 0 0) ((ts.take (i + 1)).drop 1))) rfl trivial (small_line (by simp; omega)) (fun i hi k hk => ⟨_, rfl, ts.getD 0 0, (ts.take (i + 1)).drop 1, ?_, hk⟩) ?_
  · show some (cutG _ _ _) = _
    rw [Int.zero_add, show ((i : Nat) : Int) + 1 = ((i + 1 : Nat) : Int) from rfl, cut_hi, ← List.map_take]
    have hi' : i < ts.length := by simpa using hi
    cases ts with
    | nil => simp at hi'
    | cons t ts => simp
  · rw [delD_upd hA]
    refine ⟨_, rfl, .inl (Back.same ?_)⟩
    simp only [fallI, iT, List.map_map] at q
    simpa [Function.comp_def] using q
theorem b_least_box (K : PySem.W.Frag) (_ : ErrK K) : Body 4 2 (p_least_box K) (t_least_box K) := by
  rintro ds M Q E ⟨cs, s, rfl, h1, h2, hl, q⟩
  refine ⟨rfl, _, rfl, ⟨by omega, by omega, by simp only [List.length_map]; omega, by simp only [List.length_map]; omega⟩, ?_⟩
  intro A hA
  have hn : (((cs.map D.int).length : Int) + 1 - (s : Int)).toNat = cs.length + 1 - s := by rw [List.length_map]; omega
  refine lcL_flt (α := Nat) (fun i => .int ((s : Int) + (i : Nat))) (fun i => decide (0 < cs.getD (s + i - 1) 0)) (fun i => .int ((s : Int) + (i : Nat))) (xs := List.range (cs.length + 1 - s)) (by show (List.range _).map _ = _; rw [hn]) trivial (small_line (by simp; omega)) (fun i hi k k1 k2 => ⟨_, rfl, _, .int (cs.getD (s + i - 1) 0), rfl, ?_, ifb k1 k2⟩) ?_
  · have hi' : i < cs.length + 1 - s := by simpa using hi
    rw [show (s : Int) + (i : Nat) - 1 = ((s + i - 1 : Nat) : Int) by omega]
    exact atI_int (by omega)
  · rw [delD_upd hA]
    have e : ((List.range (cs.length + 1 - s)).filter fun i => decide (0 < cs.getD (s + i - 1) 0)).map (fun i : Nat => D.int ((s : Int) + (i : Nat))) = (boxesI cs s).map fun b : Nat => D.int (b : Nat) := by
      unfold boxesI
      rw [List.filter_map, List.map_map]
      rfl
    rw [e]
    refine ⟨_, rfl, ?_⟩
    cases z : boxesI cs s with
    | nil => rw [z] at q; exact Back.same q
    | cons b bs =>
      rw [z] at q
      refine ⟨_, .int (b : Nat), rfl, ?_, Back.same q⟩
      exact L2.atI_nat (j := 0) rfl
theorem b_changed_by (K : PySem.W.Frag) (_ : ErrK K) : Body 3 3 (p_changed_by K) (t_changed_by K) := by
  rintro ds M Q E ⟨cs, b, k, rfl, h1, h2, hl, q⟩
  have e1 : ((b : Nat) : Int) - 1 = ((b - 1 : Nat) : Int) := by omega
  refine ⟨rfl, _, rfl, _, .int (cs.getD (b - 1) 0), rfl, ?_, _, rfl, ?_, Back.same ?_⟩
  · rw [e1]; exact atI_int (by omega)
  · rw [e1, cut_hi, cut_lo]
    exact small_line (by simp; omega)
  · rw [e1, cut_hi, cut_lo]
    have e : List.take (b - 1) (cs.map D.int) ++ D.int (cs.getD (b - 1) 0 + k) :: (List.drop b (cs.map D.int) ++ []) = (cs.set (b - 1) (cs.getD (b - 1) 0 + k)).map D.int := by
      rw [List.append_nil, List.map_set, List.set_eq_take_append_cons_drop, if_pos (by simp; omega), show b - 1 + 1 = b by omega]
    rw [e]
    exact q
theorem b_taken_from (K : PySem.W.Frag) (_ : ErrK K) : Body 2 2 (p_taken_from K) (t_taken_from K) := by
  rintro ds M Q E ⟨cs, b, rfl, h1, h2, hl, hz, q⟩
  have e1 : ((b : Nat) : Int) - 1 = ((b - 1 : Nat) : Int) := by omega
  refine ⟨rfl, _, .int (cs.getD (b - 1) 0), rfl, by rw [e1]; exact atI_int (by omega), ifb (fun z => absurd (of_decide_eq_true z) hz) fun _ => ?_⟩
  exact ⟨cs, b, -1, rfl, h1, h2, hl, Back.same q⟩
theorem b_used_boxes (K : PySem.W.Frag) (_ : ErrK K) : Body 5 2 (p_used_boxes K) (t_used_boxes K) := by
  rintro ds M Q E ⟨m, l, rfl, hm, hl, q⟩
  refine ⟨rfl, ⟨by omega, by omega, by omega, by omega⟩, ?_⟩
  intro A hA
  have hn : ((m : Int) + 1 - 1).toNat = m := by omega
  refine lcL_all (α := Nat) (fun i => .int (1 + (i : Nat))) (fun i => .int ((l.filter fun p => decide (p.2 = ((i : Nat) : Int) + 1)).length : Int)) (xs := List.range m) (by show (List.range _).map _ = _; rw [hn]) trivial (small_line (by simp; omega)) (fun i _ k hk => ⟨_, rfl, _, rfl, ?_⟩) ?_
  · intro A' hA'
    refine lcL_flt (α := Int × Int) pairD (fun p => decide (p.2 = (1 : Int) + (i : Nat))) (fun p => .int p.2) rfl trivial (small_line (by omega)) (fun s _ k h1 h2 => ⟨_, rfl, ifb h1 h2⟩) ?_
    rw [delD_upd hA']
    refine ⟨_, rfl, ?_⟩
    rw [Int.add_comm 1, List.length_map]
    exact hk
  · rw [delD_upd hA]
    refine ⟨_, rfl, .inl (Back.same ?_)⟩
    simp only [usedI, iT, List.map_map] at q
    simpa [Function.comp_def] using q
theorem zip_sub : ∀ xs ys : List Int, (xs.zip ys).map (fun p => D.int (p.1 - p.2)) = (List.zipWith (· - ·) xs ys).map D.int
  | [], _ => rfl
  | _ :: _, [] => rfl
  | x :: xs, y :: ys => by simp [zip_sub xs ys]
theorem b_free_behind (K : PySem.W.Frag) (_ : ErrK K) : Body 4 2 (p_free_behind K) (t_free_behind K) := by
  rintro ds M Q E ⟨cs, l, rfl, hc, hl, q⟩
  refine ⟨rfl, _, rfl, cs.length, l, by rw [List.length_map], hc, hl, .inl ⟨_, _, rfl, rfl, ?_⟩⟩
  intro A hA
  refine lcL_all (α := Int × Int) (fun p => .tup [.int p.1, .int p.2]) (fun p => .int (p.1 - p.2)) (zipD_map D.int D.int cs _) trivial (small_line (by simp; omega)) (fun p _ k hk => ⟨_, rfl, hk⟩) ?_
  rw [delD_upd hA, zip_sub]
  exact ⟨_, rfl, .inl (Back.same q)⟩
end K38
end

section
set_option Elab.async false
set_option linter.all false
set_option maxRecDepth 100000
set_option maxHeartbeats 4000000
namespace K38
open PySem PySem.Spec PyProof.Rows L2 DL
/-! ### laying -/
theorem boxes_ok {cs : List Int} {s b : Nat} {bs : List Nat} (h : boxesI cs s = b :: bs) (hs : 1 ≤ s) : 1 ≤ b ∧ b ≤ cs.length ∧ 0 < cs.getD (b - 1) 0 := by
  have hb : b ∈ boxesI cs s := by rw [h]; exact List.mem_cons_self
  unfold boxesI at hb
  rw [List.mem_filter, List.mem_map] at hb
  obtain ⟨⟨i, hi, e⟩, hp⟩ := hb
  have := List.mem_range.mp hi
  exact ⟨by omega, by omega, of_decide_eq_true hp⟩
theorem takeI_len (cs : List Int) (b : Nat) : (takeI cs b).length = cs.length := by unfold takeI; simp
theorem laying_loop (K : PySem.W.Frag) {M : DHp} {Q : DVK} {p : Addr} (hp : M p = none) {Z : DEnds} {W : DW} {sz : D} (hrt : Z.rt = Back M Q) : ∀ (ss : List Nat) (cs : List Int) (l : List (Int × Int)) (o3 o4 : Option D), (∀ s ∈ ss, 1 ≤ s ∧ s ≤ cs.length) → cs.length ≤ 1000 → l.length + ss.length ≤ 100000 →
    (match layI cs ss with
      | none => Q .non M
      | some r => ∀ o3 o4, Z.nx [some (iT r.1), some sz, some (.ref p), o3, o4] (updD M p (.lst ((l ++ r.2).map pairD)))) →
    dForL (.nm 3) (dSeq (dSet 4 (dCall (p_least_box K) (dCons (dVar 0) (dCons (dVar 3) (dNil)))))
    (dSeq (dIfS (dB (dOp (rIsD false) (dVar 4) (dC .non))) (dRet (dC .non)) (dNext))
    (dSeq (dSet 0 (dCall (p_taken_from K) (dCons (dVar 0) (dCons (dVar 4) (dNil)))))
    (dDrop (dMt rAppendD isLst (dVar 2) (dCons (dTup (dCons (dVar 3) (dCons (dVar 4) (dNil)))) (dNil))))))) Z W (fun _ => True) (ss.map fun s : Nat => D.int (s : Nat)) [some (iT cs), some sz, some (.ref p), o3, o4] (updD M p (.lst (l.map pairD)))
  | [], cs, l, o3, o4, _, _, _, q => by
    refine ⟨trivial, ?_⟩
    have := q o3 o4
    rw [List.append_nil] at this
    exact this
  | s :: ss, cs, l, o3, o4, hs, hc, hl, q => by
    have hs0 := hs s List.mem_cons_self
    refine ⟨trivial, _, rfl, cs, s, rfl, hs0.1, hs0.2, hc, ?_⟩
    cases hb : boxesI cs s with
    | nil =>
      have e : layI cs (s :: ss) = none := by unfold layI; rw [hb]
      rw [e] at q
      refine ⟨rfl, ?_⟩
      show Z.rt .non _
      rw [hrt]
      exact Back.drop hp q
    | cons b bs =>
      obtain ⟨h1, h2, h3⟩ := boxes_ok hb hs0.1
      refine ⟨rfl, ?_⟩
      refine ⟨cs, b, rfl, h1, h2, hc, by omega, ⟨_, _, rfl, updD_same⟩, ?_⟩
      refine ⟨small_line (by simp), l.map pairD, updD_same, lt_line ?_, ?_⟩
      · simp only [List.length_map, List.length_cons] at hl ⊢; omega
      rw [updD_updD]
      have e2 : l.map DL.pairD ++ [DL.pairD ((s : Int), (b : Int))] = (l ++ [((s : Int), (b : Int))]).map DL.pairD := by simp
      show dForL _ _ _ _ _ _ _ (updD M p (.lst (l.map DL.pairD ++ [DL.pairD ((s : Int), (b : Int))])))
      rw [e2]
      refine laying_loop K hp hrt ss (takeI cs b) (l ++ [((s : Int), (b : Int))]) _ _ (fun t ht => by rw [takeI_len]; exact hs t (List.mem_cons_of_mem _ ht)) (by rw [takeI_len]; exact hc) (by simp only [List.length_append, List.length_cons, List.length_nil] at hl ⊢; omega) ?_
      have e : layI cs (s :: ss) = (layI (takeI cs b) ss).map fun r => (r.1, ((s : Int), (b : Int)) :: r.2) := by
        show (match boxesI cs s with | [] => none | b :: _ => _) = _
        rw [hb]
      rw [e] at q
      cases z : layI (takeI cs b) ss with
      | none => rw [z] at q; exact q
      | some r =>
        rw [z] at q
        intro o3 o4
        have := q o3 o4
        simpa using this
theorem optN {α β : Type} {o : Option α} {f : α → β} (h : o = none) : o.map f = none := by rw [h]; rfl
theorem sortN_ok {cs : List Int} {ss : List Nat} (h : SizesOk cs ss) : ∀ s ∈ sortN ss, 1 ≤ s ∧ s ≤ cs.length := fun s hs => by
  unfold sortN at hs
  obtain ⟨i, hi, e⟩ := List.mem_map.mp hs
  have := (isort_perm (ss.map Int.ofNat)).mem_iff.mp hi
  obtain ⟨n, hn, e2⟩ := List.mem_map.mp this
  have : s = n := by rw [← e, ← e2]; rfl
  rw [this]
  exact h.1 n hn
theorem sortN_len (ss : List Nat) : (sortN ss).length = ss.length := by
  unfold sortN
  rw [List.length_map, (isort_perm _).length_eq, List.length_map]
theorem sortN_map (ss : List Nat) : isort (ss.map Int.ofNat) = (sortN ss).map Int.ofNat := by
  unfold sortN
  rw [List.map_map]
  have : ∀ x ∈ isort (ss.map Int.ofNat), (Int.ofNat ∘ Int.toNat) x = x := fun x hx => by
    have := (isort_perm (ss.map Int.ofNat)).mem_iff.mp hx
    obtain ⟨n, _, e⟩ := List.mem_map.mp this
    rw [← e]
    rfl
  rw [List.map_congr_left this]
  simp
theorem b_best_laying (K : PySem.W.Frag) (_ : ErrK K) : Body 5 2 (p_best_laying K) (t_best_laying K) := by
  rintro ds M Q E ⟨cs, ss, rfl, hok, q⟩
  refine ⟨rfl, Nat.zero_le _, fun p hp => ?_⟩
  refine .inl ⟨ss.map Int.ofNat, rfl, ?_⟩
  refine ⟨_, rfl, ?_⟩
  rw [sortN_map, List.map_map]
  refine laying_loop K hp rfl (sortN ss) cs [] none none (sortN_ok hok) hok.2.1 (by have := hok.2.2; rw [sortN_len]; simp; omega) ?_
  cases z : layI cs (sortN ss) with
  | none => rw [z] at q; exact q
  | some r =>
    rw [z] at q
    intro o3 o4
    refine .inr (.inl ⟨r.2, ?_, fun qs h1 _ => ⟨_, rfl, .inl (Back.drop hp (q qs h1))⟩⟩)
    show (match updD M p (.lst (([] ++ r.2).map pairD)) p with | some (.lst xs) => some xs | _ => none) = _
    rw [updD_same]
    rfl
end K38
end

section
set_option Elab.async false
set_option linter.all false
set_option maxRecDepth 100000
set_option maxHeartbeats 4000000
namespace K38
open PySem PySem.Spec PyProof.Rows L2 DL
def cntI (l : List (Int × Int)) (i : Nat) : Int := ((l.filter fun p => decide (p.2 = ((i : Nat) : Int) + 1)).length : Int)
theorem layI_cons (cs : List Int) (s : Nat) (ss : List Nat) : layI cs (s :: ss) = match boxesI cs s with
    | [] => none
    | b :: _ => (layI (takeI cs b) ss).map fun r => (r.1, ((s : Int), (b : Int)) :: r.2) := by
  cases hb : boxesI cs s <;> simp [layI, hb]
theorem layI_counts : ∀ (ss : List Nat) (cs : List Int) (r : List Int × List (Int × Int)), (∀ s ∈ ss, 1 ≤ s) → layI cs ss = some r → r.1.length = cs.length ∧ r.2.length = ss.length ∧ ∀ i, i < cs.length → r.1.getD i 0 = cs.getD i 0 - cntI r.2 i
  | [], cs, r, _, h => by
    have e : r = (cs, []) := (Option.some.inj h).symm
    subst e
    exact ⟨rfl, rfl, fun i hi => by simp [cntI]⟩
  | s :: ss, cs, r, hs, h => by
    rw [layI_cons] at h
    cases hb : boxesI cs s with
    | nil => rw [hb] at h; cases h
    | cons b bs =>
      rw [hb] at h
      obtain ⟨h1, h2, h3⟩ := boxes_ok hb (hs s List.mem_cons_self)
      cases z : layI (takeI cs b) ss with
      | none => simp only [z] at h; cases h
      | some r0 =>
        simp only [z] at h
        have e : r = (r0.1, ((s : Int), (b : Int)) :: r0.2) := (Option.some.inj h).symm
        obtain ⟨a1, a2, a3⟩ := layI_counts ss (takeI cs b) r0 (fun t ht => hs t (List.mem_cons_of_mem _ ht)) z
        rw [takeI_len] at a1 a3
        subst e
        refine ⟨a1, by simp [a2], fun i hi => ?_⟩
        rw [a3 i hi]
        unfold takeI cntI
        rw [List.filter_cons]
        by_cases hi2 : b - 1 = i
        · subst hi2
          have : (decide (((s : Int), (b : Int)).2 = ((b - 1 : Nat) : Int) + 1)) = true := decide_eq_true (by show (b : Int) = _; omega)
          rw [if_pos this, List.length_cons]
          simp [List.getD_eq_getElem?_getD, hi]
          omega
        · have : ¬ (decide (((s : Int), (b : Int)).2 = ((i : Nat) : Int) + 1)) = true := by
            rw [decide_eq_true_eq]
            show ¬ (b : Int) = _
            omega
          rw [if_neg this]
          simp [List.getD_eq_getElem?_getD, List.getElem?_set_ne hi2]
theorem free_eq {cs : List Int} {ss : List Nat} {r : List Int × List (Int × Int)} {l : List (Int × Int)} (hs : ∀ s ∈ ss, 1 ≤ s) (h : layI cs ss = some r) (hp : l.Perm r.2) : List.zipWith (· - ·) cs (usedI cs.length l) = r.1 := by
  obtain ⟨a1, _, a3⟩ := layI_counts ss cs r hs h
  apply List.ext_getElem
  · simp [usedI, a1]
  · intro i h1 h2
    have hi : i < cs.length := by rw [← a1]; exact h2
    have e := a3 i hi
    have e2 : cntI l i = cntI r.2 i := by unfold cntI; rw [(hp.filter _).length_eq]
    simp only [List.getElem_zipWith, usedI, List.getElem_map, List.getElem_range]
    rw [← e2] at e
    simp only [List.getD_eq_getElem?_getD, List.getElem?_eq_getElem hi, List.getElem?_eq_getElem h2, Option.getD_some, cntI] at e
    exact e.symm
theorem b_best_free (K : PySem.W.Frag) (_ : ErrK K) : Body 3 2 (p_best_free K) (t_best_free K) := by
  rintro ds M Q E ⟨cs, ss, rfl, hok, q⟩
  refine ⟨rfl, cs, ss, rfl, hok, ?_⟩
  cases z : layI cs (sortN ss) with
  | none => rw [z] at q; exact ⟨rfl, Back.same q⟩
  | some r =>
    rw [z] at q
    intro l hl
    have hs : ∀ s ∈ sortN ss, 1 ≤ s := fun s h => (sortN_ok hok s h).1
    have hlen := (layI_counts _ _ _ hs z).2.1
    refine ⟨rfl, cs, l, rfl, hok.2.1, ?_, _, rfl, ?_, Back.same ?_⟩
    · rw [hl.length_eq, hlen, sortN_len]; exact hok.2.2
    · rw [free_eq hs z hl, (layI_counts _ _ _ hs z).1]; exact hok.2.1
    · rw [free_eq hs z hl]; exact q
theorem b_room_tails (K : PySem.W.Frag) (_ : ErrK K) : Body 6 3 (p_room_tails K) (t_room_tails K) := by
  rintro ds M Q E ⟨h, n, ss, rfl, hl, hh⟩
  refine ⟨rfl, h, n, rfl, hl, fun hn => ?_, fun j w h1 h2 h3 => ?_⟩
  · rcases hh with ⟨_, e⟩ | ⟨j, w, hw, _⟩
    · exact BackX.same e
    · exact absurd (List.mem_of_getElem? (show h.names[j]? = some n by unfold House.names; rw [List.getElem?_map, hw.1]; exact congrArg some hw.2.1)) hn
  · rcases hh with ⟨hn, _⟩ | ⟨j', w', hw, hok, q⟩
    · exact absurd (List.mem_of_getElem? (show h.names[j]? = some n by unfold House.names; rw [List.getElem?_map, h1]; exact congrArg some h2)) hn
    · have ej : j' = j := by
        have e1 : h.names[j]? = some n := by unfold House.names; rw [List.getElem?_map, h1]; exact congrArg some h2
        have e2 : h.names[j']? = some n := by unfold House.names; rw [List.getElem?_map, hw.1]; exact congrArg some hw.2.1
        rcases Nat.lt_trichotomy j' j with c | c | c
        · exact absurd e2 (h3 j' c)
        · exact c
        · exact absurd e1 (hw.2.2 j c)
      subst ej
      have ew : w' = w := Option.some.inj (hw.1.symm.trans h1)
      subst ew
      refine ⟨_, _, rfl, rfl, w'.counts, ss, rfl, hok, ?_⟩
      unfold roomI at q
      cases z : layI w'.counts (sortN ss) with
      | none => rw [z] at q; exact ⟨rfl, Back.same q⟩
      | some r =>
        rw [z] at q
        refine ⟨rfl, _, rfl, ?_⟩
        have hlen : r.1.length ≤ 1000 := by rw [(layI_counts _ _ _ (fun s h => (sortN_ok hok s h).1) z).1]; exact hok.2.1
        intro A hA
        refine lcL_all (α := Int) D.int (fun t => .int (if t - w'.jams > 0 then t - w'.jams else 0)) rfl trivial (small_line (by simp [tailsI]; omega)) (fun t _ k hk => ⟨_, rfl, _, _, rfl, rfl, hk⟩) ?_
        rw [delD_upd hA]
        refine ⟨_, rfl, .inl (Back.same ?_)⟩
        simp only [optI, Option.map_some, iT, List.map_map] at q
        exact q
/-- the wall of the name is the one -/
theorem IsWall.uniq {h : House} {n : Str} {j j' : Nat} {w w' : Wall} (a : IsWall h n j w) (h1 : h.walls[j']? = some w') (h2 : w'.name = n) (h3 : ∀ i, i < j' → h.names[i]? ≠ some n) : j = j' ∧ w = w' := by
  have e1 : h.names[j']? = some n := by unfold House.names; rw [List.getElem?_map, h1]; exact congrArg some h2
  have e2 : h.names[j]? = some n := by unfold House.names; rw [List.getElem?_map, a.1]; exact congrArg some a.2.1
  have ej : j = j' := by
    rcases Nat.lt_trichotomy j j' with c | c | c
    · exact absurd e2 (h3 j c)
    · exact c
    · exact absurd e1 (a.2.2 j' c)
  subst ej
  exact ⟨rfl, Option.some.inj (a.1.symm.trans h1)⟩
theorem IsWall.mem {h : House} {n : Str} {j : Nat} {w : Wall} (a : IsWall h n j w) : n ∈ h.names :=
  List.mem_of_getElem? (show h.names[j]? = some n by unfold House.names; rw [List.getElem?_map, a.1]; exact congrArg some a.2.1)
theorem IsWall.name {h : House} {n : Str} {j : Nat} {w : Wall} (a : IsWall h n j w) : h.names[j]? = some n := by unfold House.names; rw [List.getElem?_map, a.1]; exact congrArg some a.2.1
theorem first_uniq {xs : List Str} {n : Str} {i j : Nat} (a : xs[i]? = some n) (a' : ∀ k, k < i → xs[k]? ≠ some n) (b : xs[j]? = some n) (b' : ∀ k, k < j → xs[k]? ≠ some n) : i = j := by
  rcases Nat.lt_trichotomy i j with c | c | c
  · exact absurd a (b' i c)
  · exact c
  · exact absurd b (a' j c)
theorem roomI_len {w : Wall} {ss : List Nat} {ts : List Int} (hok : SizesOk w.counts ss) (h : roomI w ss = some ts) : ts.length = w.counts.length := by
  unfold roomI at h
  cases z : layI w.counts (sortN ss) with
  | none => rw [z] at h; cases h
  | some r =>
    rw [z] at h
    have e := (Option.some.inj h).symm
    subst e
    simp [tailsI, (layI_counts _ _ _ (fun s h => (sortN_ok hok s h).1) z).1]
theorem b_made_tails (K : PySem.W.Frag) (_ : ErrK K) : Body 7 4 (p_made_tails K) (t_made_tails K) := by
  rintro ds M Q E ⟨h, d, n, ss, rfl, hl, hh⟩
  refine ⟨rfl, h, n, ss, rfl, hl, ?_⟩
  rcases hh with ⟨hn, e⟩ | ⟨j, w, x, b, hw, hok, hx, hb, hxb, hbl, q⟩
  · exact .inl ⟨hn, BackX.same e⟩
  · refine .inr ⟨j, w, hw, hok, ?_⟩
    unfold madeI at q
    cases z : roomI w ss with
    | none => rw [z] at q; exact ⟨rfl, Back.same q⟩
    | some ts =>
      rw [z] at q
      have hts := roomI_len hok z
      refine ⟨rfl, h, d, x, n, rfl, hl, hx, hb, fun hn => absurd hw.mem hn, fun j' b' e1 e2 e3 => ?_⟩
      have ej := first_uniq hw.name hw.2.2 e1 e3
      subst ej
      have eb : b = b' := Option.some.inj (hxb.symm.trans e2)
      subst eb
      refine .inl ⟨_, _, rfl, rfl, ?_⟩
      intro A hA
      refine lcL_all (α := Int × Int) (fun p => .tup [.int p.1, .int p.2]) (fun p => .int (p.1 - p.2)) (zipD_map D.int D.int ts b) trivial (small_line (by simp; have := hok.2.1; omega)) (fun p _ k hk => ⟨_, rfl, hk⟩) ?_
      rw [delD_upd hA, zip_sub]
      refine ⟨_, rfl, .inl ⟨_, rfl, ?_, Back.same q⟩⟩
      simp
      have := hok.2.1
      omega
end K38
end

section
set_option Elab.async false
set_option linter.all false
set_option maxRecDepth 100000
set_option maxHeartbeats 4000000
namespace K38
open PySem PySem.Spec PyProof.Rows L2 DL
/-! ### where too many stand for the boxes -/
theorem drop_sum {cs : List Int} {i : Nat} (h : i < cs.length) : (cs.drop i).sum = cs.getD i 0 + (cs.drop (i + 1)).sum := by
  rw [List.drop_eq_getElem_cons h, List.sum_cons]
  simp [List.getD_eq_getElem?_getD, h]
theorem drop_none {cs : List Int} {a : Nat} : ∀ {k : Nat}, a + k ≤ cs.length → (∀ c, a ≤ c → c < a + k → cs.getD c 0 = 0) → (cs.drop a).sum = (cs.drop (a + k)).sum
  | 0, _, _ => rfl
  | k + 1, h, z => by
    rw [drop_none (k := k) (by omega) (fun c h1 h2 => z c h1 (by omega)), drop_sum (i := a + k) (by omega), z (a + k) (by omega) (by omega), Int.zero_add]
    rfl
theorem take_sum {cs : List Int} {b : Nat} (h1 : 1 ≤ b) (h2 : b ≤ cs.length) : ∀ (k i : Nat), i + k = cs.length → ((takeI cs b).drop i).sum = (cs.drop i).sum - (if i < b then 1 else 0)
  | 0, i, h => by
    rw [List.drop_of_length_le (by rw [takeI_len]; omega), List.drop_of_length_le (by omega), if_neg (by omega)]
    rfl
  | k + 1, i, h => by
    rw [drop_sum (by rw [takeI_len]; omega), drop_sum (cs := cs) (by omega), take_sum h1 h2 k (i + 1) (by omega)]
    have e : (takeI cs b).getD i 0 = cs.getD i 0 - (if i = b - 1 then 1 else 0) := by
      unfold takeI
      by_cases hi : b - 1 = i
      · subst hi
        rw [if_pos rfl]
        simp [List.getD_eq_getElem?_getD, show b - 1 < cs.length by omega]
      · rw [if_neg (fun e => hi e.symm)]
        simp [List.getD_eq_getElem?_getD, List.getElem?_set_ne hi]
    rw [e]
    by_cases c1 : i = b - 1
    · rw [if_pos c1, if_neg (by omega), if_pos (by omega)]; omega
    · rw [if_neg c1]
      by_cases c2 : i + 1 < b
      · rw [if_pos c2, if_pos (by omega)]; omega
      · rw [if_neg c2, if_neg (by omega)]; omega
theorem mem_boxes {cs : List Int} {s c : Nat} (h1 : s ≤ c) (h2 : c ≤ cs.length) (h3 : 0 < cs.getD (c - 1) 0) : c ∈ boxesI cs s := by
  unfold boxesI
  rw [List.mem_filter, List.mem_map]
  exact ⟨⟨c - s, List.mem_range.mpr (by omega), by omega⟩, decide_eq_true h3⟩
theorem boxes_least {cs : List Int} {s b : Nat} {bs : List Nat} (h : boxesI cs s = b :: bs) {c : Nat} (h1 : s ≤ c) (h2 : c < b) (h4 : b ≤ cs.length) : ¬ 0 < cs.getD (c - 1) 0 := fun h3 => by
  have hm := mem_boxes h1 (by omega) h3
  have hp : (boxesI cs s).Pairwise (· < ·) := by
    unfold boxesI
    refine List.Pairwise.filter _ (List.pairwise_map.mpr (List.Pairwise.imp (fun {a b} h => ?_) List.pairwise_lt_range))
    omega
  rw [h] at hm hp
  rcases List.mem_cons.mp hm with e | e
  · omega
  · have := (List.pairwise_cons.mp hp).1 c e
    omega
def aboveN (ss : List Nat) (i : Nat) : Int := ((ss.filter fun s => decide (i < s)).length : Int)
theorem above_cons (s : Nat) (ss : List Nat) (i : Nat) : aboveN (s :: ss) i = aboveN ss i + if i < s then 1 else 0 := by
  unfold aboveN
  rw [List.filter_cons]
  by_cases h : i < s
  · simp [h]
  · simp [h]
theorem above_mono (ss : List Nat) {i j : Nat} (h : i ≤ j) : aboveN ss j ≤ aboveN ss i := by
  induction ss with
  | nil => exact Int.le_refl _
  | cons s ss ih =>
    rw [above_cons, above_cons]
    split <;> split <;> omega
theorem hall : ∀ (ss : List Nat) (cs : List Int), (∀ s ∈ ss, 1 ≤ s ∧ s ≤ cs.length) → (∀ c ∈ cs, 0 ≤ c) → (∀ i, i < cs.length → aboveN ss i ≤ (cs.drop i).sum) → ∃ r, layI cs ss = some r
  | [], cs, _, _, _ => ⟨_, rfl⟩
  | s :: ss, cs, hs, hc, hh => by
    obtain ⟨hs1, hs2⟩ := hs s List.mem_cons_self
    have nn : ∀ c, 0 ≤ cs.getD c 0 := fun c => by
      by_cases h : c < cs.length
      · have := hc _ (List.getElem_mem h)
        simpa [List.getD_eq_getElem?_getD, h] using this
      · simp [List.getD_eq_getElem?_getD, List.getElem?_eq_none (show cs.length ≤ c by omega)]
    have ab0 : ∀ i, 0 ≤ aboveN ss i := fun i => by unfold aboveN; omega
    cases hb : boxesI cs s with
    | nil =>
      exfalso
      have h0 := hh (s - 1) (by omega)
      rw [above_cons, if_pos (by omega)] at h0
      have z : (cs.drop (s - 1)).sum = (cs.drop (s - 1 + (cs.length - (s - 1)))).sum := drop_none (by omega) fun c c1 c2 => by
        have := nn c
        by_cases p : 0 < cs.getD c 0
        · have := mem_boxes (s := s) (c := c + 1) (cs := cs) (by omega) (by omega) (by simpa using p)
          rw [hb] at this
          cases this
        · omega
      rw [z, List.drop_of_length_le (by omega)] at h0
      have := ab0 (s - 1)
      simp at h0
      omega
    | cons b bs =>
      obtain ⟨h1, h2, h3⟩ := boxes_ok hb hs1
      have hbs : s ≤ b := by
        have : b ∈ boxesI cs s := by rw [hb]; exact List.mem_cons_self
        unfold boxesI at this
        rw [List.mem_filter, List.mem_map] at this
        obtain ⟨⟨i, _, e⟩, _⟩ := this
        omega
      have ih := hall ss (takeI cs b) (fun t ht => by rw [takeI_len]; exact hs t (List.mem_cons_of_mem _ ht)) (fun c hm => by
        unfold takeI at hm
        rcases List.mem_or_eq_of_mem_set hm with hm | e
        · exact hc c hm
        · omega) (fun i hi => by
        rw [takeI_len] at hi
        rw [take_sum h1 h2 (cs.length - i) i (by omega)]
        have h0 := hh i hi
        rw [above_cons] at h0
        by_cases c1 : i < b
        · rw [if_pos c1]
          by_cases c2 : i < s
          · rw [if_pos c2] at h0; omega
          · have h5 := hh (s - 1) (by omega)
            rw [above_cons, if_pos (by omega)] at h5
            have h6 := above_mono ss (show s - 1 ≤ i by omega)
            have z : (cs.drop (s - 1)).sum = (cs.drop (s - 1 + (i - (s - 1)))).sum := drop_none (by omega) fun c d1 d2 => by
              have := nn c
              have := boxes_least hb (c := c + 1) (by omega) (by omega) h2
              simp only [Nat.add_sub_cancel] at this
              omega
            rw [z, show s - 1 + (i - (s - 1)) = i by omega] at h5
            omega
        · rw [if_neg c1]
          split at h0 <;> omega)
      obtain ⟨r, hr⟩ := ih
      rw [layI_cons, hb]
      exact ⟨(r.1, ((s : Int), (b : Int)) :: r.2), congrArg (Option.map fun r => (r.1, ((s : Int), (b : Int)) :: r.2)) hr⟩
theorem above_perm {ss ss' : List Nat} (h : ss.Perm ss') (i : Nat) : aboveN ss i = aboveN ss' i := by unfold aboveN; rw [(h.filter _).length_eq]
theorem sortN_perm (ss : List Nat) : (sortN ss).Perm ss := by
  have h := ((isort_perm (ss.map Int.ofNat)).map Int.toNat)
  rw [List.map_map] at h
  have e : ss.map (Int.toNat ∘ Int.ofNat) = ss := by
    have : (Int.toNat ∘ Int.ofNat) = id := rfl
    rw [this, List.map_id]
  rw [e] at h
  exact h
theorem stood_at {m : Nat} {ss : List Nat} {i : Nat} (h : i < m) : (stoodI m (ss.map Int.ofNat)).getD i 0 = aboveN ss i := by
  unfold stoodI aboveN
  rw [List.getD_eq_getElem?_getD, List.getElem?_map, List.getElem?_range h]
  simp only [Option.map_some, Option.getD_some]
  rw [List.filter_map, List.length_map]
  congr 2
  apply List.filter_congr
  intro s _
  show decide ((i : Int) < (s : Int)) = decide (i < s)
  simp
theorem tails_at {cs : List Int} {i : Nat} (h : i < cs.length) : (tailsI cs).getD i 0 = (cs.drop i).sum := by
  unfold tailsI
  rw [List.getD_eq_getElem?_getD, List.getElem?_map, List.getElem?_range h]
  rfl
/-- where it can't be laid some tail is too small -/
theorem no_room {w : Wall} {ss : List Nat} (hok : SizesOk w.counts ss) (hc : ∀ c ∈ w.counts, 0 ≤ c) (h : roomI w ss = none) : ∃ i, i < w.counts.length ∧ (tailsI w.counts).getD i 0 < (stoodI w.counts.length (ss.map Int.ofNat)).getD i 0 := by
  apply Classical.byContradiction
  intro hn
  have : ∃ r, layI w.counts (sortN ss) = some r := hall _ _ (sortN_ok hok) hc fun i hi => by
    rw [above_perm (sortN_perm ss), ← stood_at hi, ← tails_at hi]
    exact Int.not_lt.mp fun hlt => hn ⟨i, hi, hlt⟩
  obtain ⟨r, hr⟩ := this
  unfold roomI at h
  rw [hr] at h
  cases h
theorem brk_loop {ts ow cm : List Int} {M : DHp} {Z : DEnds} {W : DW} {a0 a1 a2 a3 a4 a5 a7 : Option D} : ∀ (is : List Nat) (o : Option D), (∀ i ∈ is, i < ts.length ∧ i < ow.length ∧ i < cm.length) →
    ((∀ i ∈ is, cm.getD i 0 + ow.getD i 0 ≤ ts.getD i 0) → ∀ o, Z.nx [a0, a1, a2, a3, a4, a5, some (iT ts), a7, some (iT ow), some (iT cm), o] M) → ((∃ i ∈ is, ¬ cm.getD i 0 + ow.getD i 0 ≤ ts.getD i 0) → ∀ r, isNonD r = false → Z.rt r M) →
    dForL (.nm 10) (dIfS (dB (dOp rGtD (dOp rAddD (dOp rIxDD (dVar 9) (dVar 10)) (dOp rIxDD (dVar 8) (dVar 10))) (dOp rIxDD (dVar 6) (dVar 10)))) (dRet (dTup (dCons (dC (.str "room")) (dCons (dOp rAddD (dVar 10) (dC (.int 1))) (dNil))))) (dNext)) Z W (fun _ => True) (is.map fun i : Nat => D.int ((0 : Int) + (i : Nat))) [a0, a1, a2, a3, a4, a5, some (iT ts), a7, some (iT ow), some (iT cm), o] M
  | [], o, _, h1, _ => ⟨trivial, h1 (fun _ h => by cases h) o⟩
  | i :: is, o, hb, h1, h2 => by
    obtain ⟨b1, b2, b3⟩ := hb i List.mem_cons_self
    have e1 : L2.atI (cm.map D.int) ((0 : Int) + (i : Nat)) = some (.int (cm.getD i 0)) := by rw [Int.zero_add]; exact atI_int b3
    have e2 : L2.atI (ow.map D.int) ((0 : Int) + (i : Nat)) = some (.int (ow.getD i 0)) := by rw [Int.zero_add]; exact atI_int b2
    have e3 : L2.atI (ts.map D.int) ((0 : Int) + (i : Nat)) = some (.int (ts.getD i 0)) := by rw [Int.zero_add]; exact atI_int b1
    refine ⟨trivial, _, rfl, _, _, rfl, e1, _, _, rfl, e2, _, _, rfl, e3, ifb (fun t => ?_) (fun t => ?_)⟩
    · exact ⟨small_line (by simp), h2 ⟨i, List.mem_cons_self, Int.not_le.mpr (of_decide_eq_true t)⟩ _ rfl⟩
    · have le := Int.not_lt.mp (of_decide_eq_false t)
      refine brk_loop is _ (fun k hk => hb k (List.mem_cons_of_mem _ hk)) (fun hall => h1 fun k hk => ?_) (fun ⟨k, hk, n⟩ => h2 ⟨k, List.mem_cons_of_mem _ hk, n⟩)
      rcases List.mem_cons.mp hk with rfl | hk
      · exact le
      · exact hall k hk
theorem b_breaking (K : PySem.W.Frag) (_ : ErrK K) : Body 11 5 (p_breaking K) (t_breaking K) := by
  rintro ds M Q E ⟨h, d, n, ss, zs, rfl, hl, hh⟩
  refine ⟨rfl, h, n, rfl, hl, fun hn => ?_, fun j' w' h1 h2 h3 => ?_⟩
  · rcases hh with ⟨_, e⟩ | ⟨j, w, x, b, hw, _⟩
    · exact BackX.same e
    · exact absurd hw.mem hn
  · rcases hh with ⟨hn, _⟩ | ⟨j, w, x, b, hw, hm, hok, hc, hzl, hx, hb, hxb, hbl, q⟩
    · exact absurd (List.mem_of_getElem? (show h.names[j']? = some n by unfold House.names; rw [List.getElem?_map, h1]; exact congrArg some h2)) hn
    · obtain ⟨ej, ew⟩ := hw.uniq h1 h2 h3
      subst ej ew
      have hcl := hok.2.1
      refine ⟨_, _, rfl, rfl, w.counts, rfl, hcl, h, n, ss, rfl, hl, .inr ⟨j, w, hw, hok, ?_⟩⟩
      refine ⟨small_line (by simp), ?_⟩
      unfold takesI at q
      cases z : roomI w ss with
      | none =>
        rw [z] at q
        refine ⟨rfl, ?_⟩
        refine ⟨_, _, rfl, rfl, h.m, ss.map Int.ofNat, rfl, by omega, by rw [List.length_map]; exact hok.2.2, ?_⟩
        refine ⟨_, _, rfl, rfl, by omega, by omega, ?_⟩
        intro A hA
        have st : ∀ i, i < w.counts.length → i < (stoodI w.counts.length (ss.map Int.ofNat)).length := fun i hi => by simpa [stoodI] using hi
        have tt : ∀ i, i < w.counts.length → i < (tailsI w.counts).length := fun i hi => by simpa [tailsI] using hi
        rw [hm]
        refine lcL_flt (α := Nat) (fun i => .int ((0 : Int) + (i : Nat))) (fun i => decide ((tailsI w.counts).getD i 0 < (stoodI w.counts.length (ss.map Int.ofNat)).getD i 0)) (fun i => .int ((0 : Int) + (i : Nat) + 1)) rfl trivial (small_line (by simp; omega)) (fun i hi k k1 k2 => ?_) ?_
        · have hi' : i < w.counts.length := by simpa using hi
          refine ⟨_, rfl, _, .int ((stoodI w.counts.length (ss.map Int.ofNat)).getD i 0), rfl, ?_, _, .int ((tailsI w.counts).getD i 0), rfl, ?_, ifb k1 k2⟩
          · rw [Int.zero_add]; exact atI_int (st i hi')
          · rw [Int.zero_add]; exact atI_int (tt i hi')
        · rw [delD_upd hA]
          obtain ⟨i, hi, hlt⟩ := no_room hok hc z
          have hmem : i ∈ (List.range w.counts.length).filter fun i => decide ((tailsI w.counts).getD i 0 < (stoodI w.counts.length (ss.map Int.ofNat)).getD i 0) := List.mem_filter.mpr ⟨List.mem_range.mpr hi, decide_eq_true hlt⟩
          cases zz : (List.range w.counts.length).filter fun i => decide ((tailsI w.counts).getD i 0 < (stoodI w.counts.length (ss.map Int.ofNat)).getD i 0) with
          | nil => rw [zz] at hmem; cases hmem
          | cons a as =>
            refine ⟨(0 : Int) + (a : Nat) + 1, as.map fun i : Nat => (0 : Int) + (i : Nat) + 1, ?_, small_line (by simp), Back.same (q _ rfl)⟩
            show some (List.map _ (List.filter _ _)) = _
            rw [Int.toNat_natCast, zz]
            simp [Function.comp_def]
      | some ts =>
        rw [z] at q
        have hts := roomI_len hok z
        refine ⟨rfl, h, d, x, n, rfl, hl, hx, hb, fun hn => absurd hw.mem hn, fun j' b' e1 e2 e3 => ?_⟩
        have ej := first_uniq hw.name hw.2.2 e1 e3
        subst ej
        have eb : b = b' := Option.some.inj (hxb.symm.trans e2)
        subst eb
        refine ⟨_, _, rfl, rfl, h.m, zs.map Int.ofNat, rfl, by omega, by rw [List.length_map]; exact hzl, ?_⟩
        refine ⟨_, _, rfl, rfl, by omega, by omega, ?_⟩
        rw [hm]
        have hst : (stoodI w.counts.length (zs.map Int.ofNat)).length = w.counts.length := by simp [stoodI]
        refine brk_loop (List.range w.counts.length) _ (fun i hi => ?_) (fun hall o => ?_) (fun ⟨i, hi, hno⟩ r hr => ?_)
        · have := List.mem_range.mp hi
          exact ⟨by omega, by omega, by omega⟩
        · refine Back.same (q _ ?_)
          show true = _
          symm
          rw [List.all_eq_true]
          exact fun i hi => decide_eq_true (hall i hi)
        · refine Back.same (q _ ?_)
          rw [hr]
          symm
          rw [Bool.eq_false_iff]
          exact fun ht => hno (of_decide_eq_true (List.all_eq_true.mp ht i hi))
theorem b_takes (K : PySem.W.Frag) (_ : ErrK K) : Body 5 5 (p_takes K) (t_takes K) := by
  rintro ds M Q E ⟨h, d, n, ss, zs, rfl, hl, hh⟩
  refine ⟨rfl, h, d, n, ss, zs, rfl, hl, ?_⟩
  rcases hh with ⟨hn, e⟩ | ⟨j, w, x, b, hw, hm, hok, hc, hzl, hx, hb, hxb, hbl, q⟩
  · exact .inl ⟨hn, BackX.same e⟩
  · refine .inr ⟨j, w, x, b, hw, hm, hok, hc, hzl, hx, hb, hxb, hbl, fun r hr => ⟨rfl, ?_⟩⟩
    show DL.Back M Q (.bl (if false = true then !isNonD r else isNonD r)) M
    rw [if_neg (by decide), hr]
    exact Back.same q
end K38
end

section
set_option Elab.async false
set_option linter.all false
set_option maxRecDepth 100000
set_option maxHeartbeats 200000
namespace K38
open PySem PySem.Spec PyProof.Rows L2 DL
/-! ### drawing -/
def cellI (cs : List Int) (k : Nat) : Int := (cs.drop k).headD 0
theorem cell_at (cs : List Int) (k : Nat) : L2.atI ((cs.map D.int).drop k ++ [.int 0]) 0 = some (.int (cellI cs k)) := by
  rw [← List.map_drop]
  unfold cellI
  cases cs.drop k <;> exact L2.atI_nat (j := 0) rfl
theorem cell_ge {cs : List Int} (h : ∀ c ∈ cs, 0 ≤ c) (k : Nat) : 0 ≤ cellI cs k := by
  unfold cellI
  cases e : cs.drop k with
  | nil => exact Int.le_refl 0
  | cons c r => exact h c (List.mem_of_mem_drop (by rw [e]; exact List.mem_cons_self))
theorem Drawn.back {B : Addr} {M : DHp} {R : D → Prop} {Q : DVK} (hB : ∃ o, M B = some o ∧ o ≠ .busy) (q : Drawn B M R Q) {b : Bag} {d : D} (h : b.ok) (r : R d) : Back M Q d (updD M B b.o) := by
  refine ⟨d, updD M B b.o, Sub.refl _, fun a ha => ?_, .refl d, q b d h r⟩
  obtain ⟨o, ho, hb⟩ := hB
  rw [updD_ne (fun e => by rw [e, ho] at ha; exact hb (Option.some.inj ha))]
  exact ha
theorem take_end {K : PySem.W.Frag} {B : Addr} {M : DHp} {Q : DVK} {n : Nat} {Z : DEnds} {W : DW} (hrt : Z.rt = Back M Q) (hB : ∃ o, M B = some o ∧ o ≠ .busy) (h0 : 0 < n) (hn : n < 1000000) (q : Drawn B M (fun d => ∃ v : Nat, v < n ∧ d = .int v) Q) (b : Bag) (hb : b.ok) (o2 o3 : Option D) :
    (dSeq (dIfS (dB (dOp rGtD (dOp rIxDD (dVar 0) (dC (.int 0))) (dC (.int 0)))) (dSeq (dSet 4 (dOp rModD (dCB rIntD (dCons (dOp rIxDD (dVar 0) (dC (.int 0))) (dNil))) (dVar 1)))
    (dSeq (dStI (dVar 0) (dC (.int 0)) (dOp rDivD (dCB rIntD (dCons (dOp rIxDD (dVar 0) (dC (.int 0))) (dNil))) (dVar 1)))
    (dRet (dVar 4)))) (dNext))
    (dSeq (dSet 5 (dOp rModD (dCB rIntD (dCons (dOp rMulD (dOp rAddD (dOp rIxDD (dVar 0) (dC (.int 1))) (dC (.int 1))) (dC (.int 39373))) (dNil))) (dC (.int 1000000007))))
    (dSeq (dSet 6 (dOp rModD (dCB rIntD (dCons (dOp rMulD (dOp rModD (dCB rIntD (dCons (dOp rMulD (dVar 5) (dVar 5)) (dNil))) (dC (.int 998244353))) (dC (.int 30011))) (dNil))) (dC (.int 998244353))))
    (dRet (dOp rModD (dCB rIntD (dCons (dOp rDivD (dVar 6) (dC (.int 7))) (dNil))) (dVar 1)))))) Z [some (.ref B), some (.int n), o2, o3, none, none, none] (updD M B b.o) W := by
  have sq : seqOf (updD M B b.o) (.ref B) = some [.int b.z, .int b.s, .int b.k, iL b.cs] := seq_ref updD_same
  obtain ⟨b1, b2, b3, b4, b5⟩ := hb
  refine ⟨_, _, sq, rfl, ifb (fun t => ?_) (fun t => ?_)⟩
  · have hz : 0 < b.z := of_decide_eq_true t
    refine ⟨_, _, sq, rfl, by omega, ?_⟩
    refine ⟨_, _, sq, rfl, ⟨by omega, by omega⟩, ?_⟩
    refine ⟨_, 0, updD_same, rfl, ?_⟩
    rw [updD_updD]
    show Z.rt (.int (b.z % n)) (updD M B (Bag.o { b with z := b.z / n }))
    rw [hrt]
    have m1 := Int.emod_nonneg b.z (show (n : Int) ≠ 0 by omega)
    have m2 := Int.emod_lt_of_pos b.z (show (0 : Int) < n by omega)
    exact q.back hB ⟨Int.ediv_nonneg b1 (by omega), b2, b3, b4, b5⟩ ⟨(b.z % n).toNat, by omega, by rw [Int.toNat_of_nonneg m1]⟩
  · refine ⟨_, _, sq, rfl, .inr ⟨by decide, by decide⟩, by decide, ?_⟩
    have c1 := Int.emod_nonneg ((b.s + 1) * 39373) (show (1000000007 : Int) ≠ 0 by decide)
    have c2 := Int.emod_lt_of_pos ((b.s + 1) * 39373) (show (0 : Int) < 1000000007 by decide)
    refine ⟨.inl ⟨by omega, by omega⟩, by decide, .inr ⟨by decide, by decide⟩, by decide, ?_⟩
    refine ⟨⟨by decide, by decide⟩, by omega, ?_⟩
    rw [hrt]
    generalize (b.s + 1) * 39373 % 1000000007 = u
    have m0 : ∀ i : Int, 0 ≤ i % n ∧ i % n < n := fun i => ⟨Int.emod_nonneg i (by omega), Int.emod_lt_of_pos i (by omega)⟩
    obtain ⟨m1, m2⟩ := m0 (u * u % 998244353 * 30011 % 998244353 / 7)
    exact q.back hB ⟨b1, b2, b3, b4, b5⟩ ⟨(u * u % 998244353 * 30011 % 998244353 / 7 % n).toNat, by omega, by rw [Int.toNat_of_nonneg m1]⟩
theorem stir {B : Addr} {M : DHp} {n : Nat} {Z : DEnds} {W : DW} {b : Bag} {z : Int} (hz : 0 ≤ z) {c : Int} (b4 : ∀ c ∈ b.cs, 0 ≤ c) (b5 : b.cs.length ≤ 63) (nx : ∀ (b' : Bag) (o2 o3 : Option D), b'.ok → Z.nx [some (.ref B), some (.int n), o2, o3, none, none, none] (updD M B b'.o)) :
    (dSeq (dSet 3 (dOp rAddD (dOp rAddD (dOp rMulD (dOp rIxDD (dVar 0) (dC (.int 1))) (dC (.int 48271))) (dOp rModD (dCB rIntD (dCons (dVar 2) (dNil))) (dC (.int 2147483647)))) (dOp rMulD (dC (.int 7919)) (dOp rIxDD (dVar 0) (dC (.int 2))))))
        (dStI (dVar 0) (dC (.int 1)) (dOp rModD (dCB rIntD (dCons (dVar 3) (dNil))) (dC (.int 2147483647))))) Z [some (.ref B), some (.int n), some (.int c), none, none, none, none] (updD M B (.lst [.int z, .int b.s, .int (b.k + 1 : Nat), iL b.cs])) W := by
  have sq2 : seqOf (updD M B (.lst [.int z, .int b.s, .int (b.k + 1 : Nat), iL b.cs])) (.ref B) = some [.int z, .int b.s, .int (b.k + 1 : Nat), iL b.cs] := seq_ref updD_same
  refine ⟨_, _, sq2, rfl, .inr ⟨by decide, by decide⟩, by decide, _, _, sq2, rfl, .inl ⟨by decide, by decide⟩, ?_⟩
  refine ⟨by decide, _, 1, updD_same, rfl, ?_⟩
  rw [updD_updD]
  exact nx { z := z, s := _, k := b.k + 1, cs := b.cs } _ _ ⟨hz, Int.emod_nonneg _ (by decide), Int.emod_lt_of_pos _ (by decide), b4, b5⟩
theorem b__law_take (K : PySem.W.Frag) (_ : ErrK K) : Body 7 2 (p__law_take K) (t__law_take K) := by
  rintro ds M Q E ⟨B, n, rfl, ⟨b, hb, hB⟩, h0, hn, q⟩
  have hB' : ∃ o, M B = some o ∧ o ≠ .busy := ⟨_, hB, fun z => by unfold Bag.o at z; cases z⟩
  refine ⟨rfl, ?_⟩
  have fin := fun (b : Bag) (hb : b.ok) (o2 o3 : Option D) (W : DW) => take_end (K := K) (Z := { nx := fun _ M' => Back M Q .non M', rt := Back M Q }) (W := W) rfl hB' h0 hn q b hb o2 o3
  have sq : seqOf M (.ref B) = some [.int b.z, .int b.s, .int b.k, iL b.cs] := seq_ref hB
  refine ⟨_, _, sq, rfl, ifb (fun t => ?_) (fun t => ?_)⟩
  · obtain ⟨b1, b2, b3, b4, b5⟩ := hb
    have hz : b.z = 0 := of_decide_eq_true t
    have hc := cell_ge b4 b.k
    refine ⟨_, iL b.cs, sq, rfl, ?_⟩
    refine ⟨_, .int b.k, sq, rfl, ?_⟩
    refine ⟨_, rfl, small_line (by simp), _, _, rfl, rfl, small_line ?_, ?_⟩
    · rw [cut_lo]; simp; omega
    rw [cut_lo]
    refine ⟨_, _, rfl, cell_at b.cs b.k, ?_⟩
    refine ⟨_, 2, .int b.k, hB, rfl, rfl, _, hB, rfl, ?_⟩
    have nxt : ∀ (b' : Bag) (o2 o3 : Option D), b'.ok → _ := fun b' o2 o3 h' => fin b' h' o2 o3 (fun c gs _ M' => BackX M E c gs M')
    refine ⟨⟨by decide, by decide, by decide⟩, ifb (fun t2 => ?_) (fun t2 => ?_)⟩
    · refine ⟨_, 0, updD_same, rfl, ?_⟩
      rw [updD_updD]
      exact stir (b := { b with k := b.k }) (z := cellI b.cs b.k) hc b4 b5 fun b' o2 o3 h' => nxt b' o2 o3 h'
    · exact stir (b := b) (z := b.z) b1 b4 b5 fun b' o2 o3 h' => nxt b' o2 o3 h'
  · have := fin b hb none none (fun c gs _ M' => BackX M E c gs M')
    rw [updD_id hB] at this
    exact this
end K38
end

section
set_option Elab.async false
set_option linter.all false
set_option maxRecDepth 100000
set_option maxHeartbeats 400000
namespace K38
open PySem PySem.Spec PyProof.Rows L2 DL
/-- free[i] of the changing list -/
abbrev t_laidBody (K : PySem.W.Frag) : DTS := (dSeq (dSet 5 (dLc (dRng2 (dCons (dVar 4) (dCons (dOp rAddD (dCB rLenD (dCons (dVar 0) (dNil))) (dC (.int 1))) (dNil)))) (.nm 6) (dB (dOp rGtD (dOp rIxDD (dVar 2) (dOp rSubD (dVar 6) (dC (.int 1)))) (dC (.int 0)))) (dVar 6) [6]))
    (dSeq (dIfS (dB (dOp rEqq (dVar 5) (dLst (dNil)))) (dRet (dC .non)) (dNext))
    (dSeq (dAugI (dVar 2) (dOp rSubD (dOp rIxDD (dVar 5) (dC (.int 0))) (dC (.int 1))) (dC (.int 1)) rSubD)
    (dDrop (dMt rAppendD isLst (dVar 3) (dCons (dTup (dCons (dVar 4) (dCons (dOp rIxDD (dVar 5) (dC (.int 0))) (dNil)))) (dNil)))))))
theorem laid_loop (K : PySem.W.Frag) {M : DHp} {Q : DVK} {p p2 : Addr} (hp : M p = none) (hp2 : M p2 = none) (hne : p2 ≠ p) {Z : DEnds} {W : DW} {sz : D} {c0 : List Int} (hrt : Z.rt = Back M Q) : ∀ (ss : List Nat) (cs : List Int) (l : List (Int × Int)) (o4 o5 : Option D), cs.length = c0.length → (∀ s ∈ ss, 1 ≤ s ∧ s ≤ cs.length) → cs.length ≤ 1000 → l.length + ss.length ≤ 100000 →
    (match layI cs ss with
      | none => Q .non M
      | some r => ∀ (o4 o5 : Option D) (l : List (Int × Int)), Z.nx [some (iT c0), some sz, some (.ref p), some (.ref p2), o4, o5, none] (updD (updD M p (.lst (r.1.map D.int))) p2 (.lst (l.map DL.pairD)))) →
    dForL (.nm 4) (t_laidBody K) Z W (fun _ => True) (ss.map fun s : Nat => D.int (s : Nat)) [some (iT c0), some sz, some (.ref p), some (.ref p2), o4, o5, none] (updD (updD M p (.lst (cs.map D.int))) p2 (.lst (l.map DL.pairD)))
  | [], cs, l, o4, o5, _, _, _, _, q => ⟨trivial, q o4 o5 l⟩
  | s :: ss, cs, l, o4, o5, h0, hs, hc, hl, q => by
    have hs0 := hs s List.mem_cons_self
    have hMp : updD (updD M p (.lst (cs.map D.int))) p2 (.lst (l.map DL.pairD)) p = some (.lst (cs.map D.int)) := by rw [updD_ne (Ne.symm hne), updD_same]
    refine ⟨trivial, _, rfl, _, rfl, ⟨by omega, by omega, by simp only [List.length_map]; omega, by simp only [List.length_map]; omega⟩, ?_⟩
    intro A hA
    have hAp : p ≠ A := fun e => by rw [← e, hMp] at hA; cases hA
    have hn : (((c0.map D.int).length : Int) + 1 - (s : Int)).toNat = cs.length + 1 - s := by rw [List.length_map]; omega
    refine lcL_flt (α := Nat) (fun i => .int ((s : Int) + (i : Nat))) (fun i => decide (0 < cs.getD (s + i - 1) 0)) (fun i => .int ((s : Int) + (i : Nat))) (xs := List.range (cs.length + 1 - s)) (by show (List.range _).map _ = _; rw [hn]) trivial (small_line (by simp; omega)) (fun i hi k k1 k2 => ⟨_, rfl, _, .int (cs.getD (s + i - 1) 0), seq_ref (xs := cs.map D.int) (by rw [updD_ne hAp]; exact hMp), ?_, ifb k1 k2⟩) ?_
    · have hi' : i < cs.length + 1 - s := by simpa using hi
      rw [show (s : Int) + (i : Nat) - 1 = ((s + i - 1 : Nat) : Int) by omega]
      exact atI_int (by omega)
    rw [delD_upd hA]
    have e : ((List.range (cs.length + 1 - s)).filter fun i => decide (0 < cs.getD (s + i - 1) 0)).map (fun i : Nat => D.int ((s : Int) + (i : Nat))) = ((boxesI cs s).map fun b : Nat => (b : Int)).map D.int := by
      unfold boxesI
      rw [List.filter_map, List.map_map, List.map_map]
      rfl
    rw [e]
    refine ⟨small_line (by simp), ints_ok rfl, ints_ok (ns := []) rfl, ?_⟩
    rw [eq_nil rfl]
    cases hb : boxesI cs s with
    | nil =>
      have e : layI cs (s :: ss) = none := by rw [layI_cons, hb]
      rw [e] at q
      show Z.rt .non _
      rw [hrt]
      exact Back.drop2 hp hp2 hne q
    | cons b bs =>
      obtain ⟨h1, h2, h3⟩ := boxes_ok hb hs0.1
      have eb : ((b : Nat) : Int) - 1 = ((b - 1 : Nat) : Int) := by omega
      refine ⟨_, .int (b : Nat), rfl, L2.atI_nat (j := 0) rfl, ?_⟩
      refine ⟨_, b - 1, .int (cs.getD (b - 1) 0), hMp, by rw [eb]; exact ixN_lt (by simp; omega), by rw [List.getElem?_map, List.getElem?_eq_getElem (by omega)]; simp [List.getD_eq_getElem?_getD, show b - 1 < cs.length by omega], ?_⟩
      refine ⟨_, hMp, rfl, ?_⟩
      rw [updD_swap hne]
      have e3 : (cs.map D.int).set (b - 1) (.int (cs.getD (b - 1) 0 - 1)) = (takeI cs b).map D.int := by unfold takeI; rw [List.map_set]
      rw [e3]
      refine ⟨⟨_, _, rfl, updD_same⟩, _, .int (b : Nat), rfl, L2.atI_nat (j := 0) rfl, small_line (by simp), _, updD_same, lt_line ?_, ?_⟩
      · simp only [List.length_map, List.length_cons] at hl ⊢; omega
      rw [updD_updD]
      have e2 : l.map DL.pairD ++ [DL.pairD ((s : Int), (b : Int))] = (l ++ [((s : Int), (b : Int))]).map DL.pairD := by simp
      show dForL _ _ _ _ _ _ _ (updD _ p2 (.lst (l.map DL.pairD ++ [DL.pairD ((s : Int), (b : Int))])))
      rw [e2]
      refine laid_loop K hp hp2 hne hrt ss (takeI cs b) (l ++ [((s : Int), (b : Int))]) _ _ (by rw [takeI_len]; exact h0) (fun t ht => by rw [takeI_len]; exact hs t (List.mem_cons_of_mem _ ht)) (by rw [takeI_len]; exact hc) (by simp only [List.length_append, List.length_cons, List.length_nil] at hl ⊢; omega) ?_
      rw [layI_cons, hb] at q
      cases z : layI (takeI cs b) ss with
      | none => simp only [z] at q; exact q
      | some r => simp only [z] at q; exact q
theorem b__law_laid (K : PySem.W.Frag) (_ : ErrK K) : Body 7 2 (p__law_laid K) (t__law_laid K) := by
  rintro ds M Q E ⟨cs, ss, rfl, hok, q⟩
  refine ⟨rfl, _, rfl, fun p hp => ⟨by simp, fun p2 hp2' => ?_⟩⟩
  obtain ⟨hne, hp2⟩ := updD_none hp2'
  refine ⟨small_line (by simp), ?_⟩
  refine .inl ⟨ss.map Int.ofNat, rfl, ?_⟩
  refine ⟨_, rfl, ?_⟩
  rw [sortN_map, List.map_map]
  refine laid_loop K hp hp2 hne rfl (sortN ss) cs [] none none rfl (sortN_ok hok) hok.2.1 (by have := hok.2.2; rw [sortN_len]; simp; omega) ?_
  cases z : layI cs (sortN ss) with
  | none => rw [z] at q; exact q
  | some r =>
    rw [z] at q
    intro o4 o5 l
    refine .inr (.inl ⟨l, lst_ref updD_same, fun qs _ _ => ⟨_, rfl, .inl ⟨_, lst_ref (xs := r.1.map D.int) (by rw [updD_ne (Ne.symm hne), updD_same]), .inl ⟨small_line (by simp), Back.drop2 hp hp2 hne (q qs)⟩⟩⟩⟩)
theorem b__law_tails (K : PySem.W.Frag) (h : ErrK K) : Body 2 1 (p__law_tails K) (t__law_tails K) := b_tails_of K h
end K38
end

section
set_option Elab.async false
set_option linter.all false
set_option maxRecDepth 100000
set_option maxHeartbeats 400000
namespace K38
open PySem PySem.Spec PyProof.Rows L2 DL
theorem fall_cons (x : Int) (xs : List Int) : fallI (x :: xs) = (List.range (xs.length + 1)).map fun i => minI x (xs.take i) := by
  unfold fallI
  simp
theorem fall_last (x : Int) (xs : List Int) : fallI (x :: xs) = (List.range xs.length).map (fun i => minI x (xs.take i)) ++ [minI x xs] := by
  rw [fall_cons, List.range_succ, List.map_append]
  simp
theorem minI_snoc (x y : Int) (xs : List Int) : minI x (xs ++ [y]) = if minI x xs < y then minI x xs else y := by
  unfold minI
  rw [List.foldl_append]
  show (if y < _ then y else _) = _
  generalize List.foldl _ x xs = m
  split <;> split <;> omega
theorem fall_snoc (x y : Int) (xs : List Int) : fallI (x :: xs ++ [y]) = fallI (x :: xs) ++ [if minI x xs < y then minI x xs else y] := by
  show fallI (x :: (xs ++ [y])) = _
  rw [fall_last, fall_cons, minI_snoc]
  congr 1
  simp only [List.length_append, List.length_cons, List.length_nil]
  apply List.map_congr_left
  intro i hi
  have : i < xs.length + 1 := List.mem_range.mp hi
  rw [List.take_append_of_le_length (by omega)]
theorem made_loop {M : DHp} {p : Addr} {a0 a2 a3 a4 : Option D} {jams : Int} {Z : DEnds} {W : DW} : ∀ (ps : List (Int × Int)) (xs : List Int) (o6 o7 o8 : Option D), xs.length + ps.length ≤ 1000 →
    (∀ o6 o7 o8, Z.nx [a0, some (.int jams), a2, a3, a4, some (.ref p), o6, o7, o8] (updD M p (.lst ((fallI (xs ++ ps.map fun q => (if q.1 - jams > 0 then q.1 - jams else 0) - q.2)).map D.int)))) →
    dForL (.tp [.nm 6, .nm 7]) (dSeq (dSet 8 (dOp rSubD (dCB rMaxD (dCons (dC (.int 0)) (dCons (dOp rSubD (dVar 6) (dVar 1)) (dNil)))) (dVar 7)))
    (dDrop (dMt rAppendD isLst (dVar 5) (dCons (dIfE (dB (dOp rNee (dVar 5) (dLst (dNil)))) (dCB rMinD (dCons (dVar 8) (dCons (dOp rIxDD (dVar 5) (dUn rNegD (dC (.int 1)))) (dNil)))) (dVar 8)) (dNil))))) Z W (fun _ => True) (ps.map fun q => .tup [.int q.1, .int q.2]) [a0, some (.int jams), a2, a3, a4, some (.ref p), o6, o7, o8] (updD M p (.lst ((fallI xs).map D.int)))
  | [], xs, o6, o7, o8, _, q => ⟨trivial, by simpa using q o6 o7 o8⟩
  | (t, o) :: ps, xs, o6, o7, o8, hl, q => by
    refine ⟨trivial, _, rfl, ⟨_, _, rfl, updD_same⟩, small_line (by simp), ints_ok (ns := fallI xs) (frz_ref updD_same), ints_ok (ns := []) rfl, ?_⟩
    rw [eq_nil (ns := fallI xs) (frz_ref updD_same)]
    simp only [List.length_cons] at hl
    have fl : ∀ xs : List Int, (fallI xs).length = xs.length := fun xs => by simp [fallI]
    cases xs with
    | nil =>
      refine ⟨_, updD_same, lt_line (by simp [fl]), ?_⟩
      rw [updD_updD]
      exact made_loop ps [(if t - jams > 0 then t - jams else 0) - o] _ _ _ (by simp; omega) (by simpa using q)
    | cons x xs =>
      have e1 : (fallI (x :: xs)).isEmpty = false := by rw [fall_last]; simp
      rw [e1]
      refine ⟨_, .int (minI x xs), seq_ref updD_same, by rw [fall_last, List.map_append]; exact L2.atI_last _ _, ?_⟩
      refine ⟨_, updD_same, lt_line (by rw [List.length_map, fl]; omega), ?_⟩
      rw [updD_updD]
      have e2 : (fallI (x :: xs)).map D.int ++ [.int (if minI x xs < (if t - jams > 0 then t - jams else 0) - o then minI x xs else (if t - jams > 0 then t - jams else 0) - o)] = (fallI (x :: xs ++ [(if t - jams > 0 then t - jams else 0) - o])).map D.int := by rw [fall_snoc, List.map_append]; rfl
      show dForL _ _ _ _ _ _ _ (updD M p (.lst ((fallI (x :: xs)).map D.int ++ [.int _])))
      rw [e2]
      exact made_loop ps (x :: xs ++ [(if t - jams > 0 then t - jams else 0) - o]) _ _ _ (by simp at hl ⊢; omega) (by simpa using q)
theorem zw_map {f : Int → Int} : ∀ (xs ys : List Int), (xs.zip ys).map (fun q => f q.1 - q.2) = List.zipWith (· - ·) (xs.map f) ys
  | [], _ => rfl
  | _ :: _, [] => rfl
  | x :: xs, y :: ys => by simp [zw_map xs ys]
theorem b__law_made (K : PySem.W.Frag) (_ : ErrK K) : Body 9 4 (p__law_made K) (t__law_made K) := by
  rintro ds M Q E ⟨w, bs, ss, rfl, hok, hbl, q⟩
  refine ⟨rfl, w.counts, ss, rfl, hok, ?_⟩
  unfold madeI roomI at q
  cases z : layI w.counts (sortN ss) with
  | none =>
    rw [z] at q
    refine ⟨small_line (by simp), fun p hp => ⟨rfl, Back.drop hp q⟩⟩
  | some r =>
    rw [z] at q
    intro l
    have hlen := (layI_counts _ _ _ (fun s h => (sortN_ok hok s h).1) z).1
    have hcl := hok.2.1
    refine ⟨small_line (by simp), fun p hp => ⟨rfl, ?_⟩⟩
    refine ⟨_, _, rfl, rfl, r.1, rfl, by omega, .inl ⟨_, _, rfl, rfl, ?_⟩⟩
    rw [zipD_map D.int D.int]
    refine made_loop ((tailsI r.1).zip bs) [] none none none (by simp [tailsI]; omega) fun o6 o7 o8 => ?_
    refine ⟨_, lst_ref updD_same, .inl (Back.drop hp ?_)⟩
    rw [List.nil_append, show ((tailsI r.1).zip bs).map (fun q : Int × Int => (if q.1 - w.jams > 0 then q.1 - w.jams else 0) - q.2) = _ from zw_map (f := fun t => if t - w.jams > 0 then t - w.jams else 0) _ _]
    exact q
theorem filter_nil {α : Type} {f : α → Bool} : ∀ xs : List α, (xs.filter f).isEmpty = xs.all fun x => !f x
  | [] => rfl
  | x :: xs => by
    rw [List.filter_cons, List.all_cons, ← filter_nil xs]
    cases f x <;> simp
theorem b__law_is_at_most (K : PySem.W.Frag) (_ : ErrK K) : Body 4 2 (p__law_is_at_most K) (t__law_is_at_most K) := by
  rintro ds M Q E ⟨xs, ys, rfl, hl, q⟩
  refine ⟨rfl, .inl ⟨_, _, rfl, rfl, ?_⟩⟩
  intro A hA
  refine lcL_flt (α := Int × Int) (fun p => .tup [.int p.1, .int p.2]) (fun p => decide (p.2 < p.1)) (fun _ => .int 1) (zipD_map D.int D.int xs ys) trivial (small_line (by simp; omega)) (fun p _ k h1 h2 => ⟨_, rfl, ifb h1 h2⟩) ?_
  rw [delD_upd hA]
  have e : ((xs.zip ys).filter fun p => decide (p.2 < p.1)).map (fun _ => D.int 1) = (((xs.zip ys).filter fun p => decide (p.2 < p.1)).map fun _ => (1 : Int)).map D.int := by rw [List.map_map]; rfl
  rw [e]
  refine ⟨small_line (by simp), ints_ok rfl, ints_ok (ns := []) rfl, ?_⟩
  rw [eq_nil rfl]
  refine Back.same ?_
  have e2 : (((xs.zip ys).filter fun p => decide (p.2 < p.1)).map fun _ => (1 : Int)).isEmpty = (xs.zip ys).all fun p => decide (p.1 ≤ p.2) := by
    rw [show ∀ l : List (Int × Int), (l.map fun _ => (1 : Int)).isEmpty = l.isEmpty from fun l => by cases l <;> rfl, filter_nil]
    congr 1
    funext p
    by_cases h : p.2 < p.1
    · simp [h]
    · simp [h, Int.not_lt.mp h]
  rw [e2]
  exact q
theorem b__law_size_tails (K : PySem.W.Frag) (_ : ErrK K) : Body 4 2 (p__law_size_tails K) (t__law_size_tails K) := by
  rintro ds M Q E ⟨m, ss, d, rfl, hd, hm, hl, q⟩
  refine ⟨rfl, by omega, by omega, ?_⟩
  intro A hA
  have sq : seqOf (updD M A .busy) d = some (ss.map D.int) ∧ ∀ M', asIt (updD M A .busy) d M' := by
    rcases hd with rfl | rfl
    · exact ⟨rfl, fun _ => trivial⟩
    · exact ⟨rfl, fun _ => trivial⟩
  refine lcL_all (α := Nat) (fun i => .int (0 + (i : Nat))) (fun i => .int ((ss.filter fun s => decide (((i : Nat) : Int) < s)).length : Int)) rfl trivial (small_line (by simp; omega)) (fun i _ k hk => ⟨_, rfl, _, sq.1, ?_⟩) ?_
  · intro A' hA'
    refine lcL_flt (α := Int) D.int (fun s => decide ((0 : Int) + (i : Nat) < s)) D.int rfl (sq.2 _) (small_line (by omega)) (fun s _ k h1 h2 => ⟨_, rfl, ifb h1 h2⟩) ?_
    rw [delD_upd hA']
    refine ⟨_, rfl, ?_⟩
    rw [Int.zero_add, List.length_map]
    exact hk
  · rw [delD_upd hA]
    refine ⟨_, rfl, .inl (Back.same ?_)⟩
    simp only [stoodI, iT, List.map_map] at q
    simpa [Function.comp_def] using q
theorem b__law_counts (K : PySem.W.Frag) (_ : ErrK K) : Body 3 1 (p__law_counts K) (t__law_counts K) := by
  rintro ds M Q E ⟨ts, rfl, hl, hne, q⟩
  have e : cutG (ts.map D.int) (some ((1 : Nat) : Int)) none ++ [D.int 0] = (ts.drop 1 ++ [0]).map D.int := by rw [cut_lo, List.map_append, List.map_drop]; rfl
  refine ⟨rfl, small_line (by simp), small_line ?_, .inl ⟨_, _, rfl, rfl, ?_⟩⟩
  · show (cutG (ts.map D.int) (some ((1 : Nat) : Int)) none).length + _ ≤ _
    rw [cut_lo]; simp; omega
  · rw [show (1 : Int) = ((1 : Nat) : Int) from rfl, e]
    intro A hA
    refine lcL_all (α := Int × Int) (fun p => .tup [.int p.1, .int p.2]) (fun p => .int (p.1 - p.2)) (zipD_map D.int D.int ts _) trivial (small_line (by simp; omega)) (fun p _ k hk => ⟨_, rfl, hk⟩) ?_
    rw [delD_upd hA, zip_sub]
    exact ⟨_, rfl, .inl (Back.same q)⟩
theorem b__law_room_tails (K : PySem.W.Frag) (_ : ErrK K) : Body 4 2 (p__law_room_tails K) (t__law_room_tails K) := by
  rintro ds M Q E ⟨w, ss, rfl, hok, q⟩
  refine ⟨rfl, _, _, rfl, rfl, w.counts, ss, rfl, hok, ?_⟩
  unfold roomI at q
  cases z : layI w.counts (sortN ss) with
  | none => rw [z] at q; exact ⟨rfl, Back.same q⟩
  | some r =>
    rw [z] at q
    intro l
    have hlen := (layI_counts _ _ _ (fun s h => (sortN_ok hok s h).1) z).1
    have hcl := hok.2.1
    refine ⟨rfl, _, _, rfl, rfl, r.1, rfl, by omega, _, rfl, ?_⟩
    intro A hA
    refine lcL_all (α := Int) D.int (fun t => .int (if t - w.jams > 0 then t - w.jams else 0)) rfl trivial (small_line (by simp [tailsI]; omega)) (fun t _ k hk => ⟨_, rfl, _, _, rfl, rfl, hk⟩) ?_
    rw [delD_upd hA]
    refine ⟨_, rfl, .inl (Back.same ?_)⟩
    simp only [optI, Option.map_some, iT, List.map_map] at q
    exact q
end K38
end

section
set_option Elab.async false
set_option linter.all false
set_option maxRecDepth 100000
set_option maxHeartbeats 400000
namespace K38
open PySem PySem.Spec PyProof.Rows L2 DL
theorem zip_range {n : Nat} {xs ys : List Int} (h1 : xs.length = n) (h2 : ys.length = n) : xs.zip ys = (List.range n).map fun i => (xs.getD i 0, ys.getD i 0) := by
  apply List.ext_getElem
  · simp [h1, h2]
  · intro i a b
    have hi : i < n := by simpa using b
    simp [List.getD_eq_getElem?_getD, h1, h2, hi]
theorem fall_at {ts : List Int} {i : Nat} (h : i < ts.length) : (∃ j, j ≤ i ∧ (fallI ts).getD i 0 = ts.getD j 0) ∧ ∀ j, j ≤ i → (fallI ts).getD i 0 ≤ ts.getD j 0 := by
  cases ts with
  | nil => simp at h
  | cons x xs =>
    have e : (fallI (x :: xs)).getD i 0 = minI x (xs.take i) := by
      rw [fall_cons, List.getD_eq_getElem?_getD, List.getElem?_map, List.getElem?_range (by simpa using h)]
      rfl
    rw [e]
    refine ⟨?_, fun j hj => ?_⟩
    · rcases List.mem_cons.mp (minI_mem (xs.take i) x) with e | e
      · exact ⟨0, Nat.zero_le _, by rw [e]; rfl⟩
      · obtain ⟨j, hj, ej⟩ := List.mem_iff_getElem.mp e
        have : j < i := by have := hj; simp at this; omega
        refine ⟨j + 1, by omega, ?_⟩
        rw [← ej]
        have hj2 : j < xs.length := by simp at hj; omega
        simp [List.getD_eq_getElem?_getD, hj2]
    · cases j with
      | zero => exact minI_le _ _
      | succ j =>
        have hj2 : j < xs.length := by simp at h; omega
        refine minI_all _ _ _ ?_
        have e2 : (x :: xs).getD (j + 1) 0 = xs[j] := by simp [List.getD_eq_getElem?_getD, hj2]
        rw [e2]
        refine List.mem_iff_getElem.mpr ⟨j, by simp; omega, by simp⟩
theorem zw_at {ts bs : List Int} {i : Nat} (h1 : i < ts.length) (h2 : i < bs.length) : (List.zipWith (· - ·) ts bs).getD i 0 = ts.getD i 0 - bs.getD i 0 := by
  simp [List.getD_eq_getElem?_getD, List.getElem?_zipWith, h1, h2]
theorem takes_eq {n : Nat} {ts bs : List Int} {zs : List Nat} (h1 : ts.length = n) (h2 : bs.length = n) : ((stoodI n (zs.map Int.ofNat)).zip (fallI (List.zipWith (· - ·) ts bs))).all (fun p => decide (p.1 ≤ p.2)) = (List.range n).all fun i => decide ((stoodI n (zs.map Int.ofNat)).getD i 0 + bs.getD i 0 ≤ ts.getD i 0) := by
  have hz : (List.zipWith (· - ·) ts bs).length = n := by simp [h1, h2]
  rw [zip_range (n := n) (by simp [stoodI]) (by simp [fallI, h1, h2]), List.all_map]
  rw [Bool.eq_iff_iff, List.all_eq_true, List.all_eq_true]
  constructor
  · intro h i hi
    have hi' := List.mem_range.mp hi
    have := of_decide_eq_true (h i hi)
    have f := (fall_at (ts := List.zipWith (· - ·) ts bs) (i := i) (by omega)).2 i (Nat.le_refl _)
    rw [zw_at (by omega) (by omega)] at f
    exact decide_eq_true (by simp only at this; omega)
  · intro h i hi
    have hi' := List.mem_range.mp hi
    obtain ⟨j, hj, e⟩ := (fall_at (ts := List.zipWith (· - ·) ts bs) (i := i) (by omega)).1
    have := of_decide_eq_true (h j (List.mem_range.mpr (by omega)))
    refine decide_eq_true ?_
    show (stoodI n (zs.map Int.ofNat)).getD i 0 ≤ (fallI (List.zipWith (· - ·) ts bs)).getD i 0
    rw [e, zw_at (by omega) (by omega)]
    rw [stood_at (by omega)] at this ⊢
    have := above_mono zs hj
    omega
theorem b__law_takes (K : PySem.W.Frag) (_ : ErrK K) : Body 5 4 (p__law_takes K) (t__law_takes K) := by
  rintro ds M Q E ⟨w, bs, ss, zs, rfl, hok, hzl, hbl, q⟩
  refine ⟨rfl, _, _, rfl, rfl, _, _, rfl, rfl, w, bs, ss, rfl, hok, hbl, ?_⟩
  unfold madeI
  unfold takesI at q
  cases z : roomI w ss with
  | none => rw [z] at q; exact ⟨rfl, Back.same q⟩
  | some ts =>
    rw [z] at q
    have hts := roomI_len hok z
    have hcl := hok.2.1
    refine ⟨rfl, ?_⟩
    refine ⟨_, _, rfl, rfl, _, rfl, w.counts.length, zs.map Int.ofNat, _, by rw [List.length_map], .inl rfl, hcl, by rw [List.length_map]; exact hzl, ?_⟩
    refine ⟨_, _, rfl, by simp [stoodI]; omega, ?_⟩
    rw [takes_eq hts hbl]
    exact Back.same q
theorem b__law_alike (K : PySem.W.Frag) (_ : ErrK K) : Body 2 2 (p__law_alike K) (t__law_alike K) := by
  rintro ds M Q E ⟨d, xs, rfl, hd, hn, q⟩
  have hf : frz M d = .lst xs := by
    rcases hd with rfl | ⟨p, rfl, hp⟩
    · rfl
    · exact frz_ref hp
  have rd : (frz M d).pure = true ∧ (frz M d).py.showable = true ∧ (frz M d).py.hasDict = false ∧ (frz M d).py.depth ≤ 60 ∧ (frz M d).py.shown.length ≤ sizeLine := by
    rw [hf]
    exact ⟨hn.pure, hn.show_, hn.noDict, Nat.le_trans hn.depth (by omega), hn.fits (by omega)⟩
  refine ⟨rfl, rd.1, rd.2.1, rd.2.2.1, rd.2.2.2.1, rd.2.2.2.2, hn.pure, hn.show_, hn.noDict, Nat.le_trans hn.depth (by omega), hn.fits (by omega), ?_⟩
  rw [hf]
  refine (show ∀ (b : Bool) (P R : Prop), b = true → P → (if (if false = true then !b else b) = true then P else R) from fun b P R hb hp => by subst hb; exact hp) _ _ _ (decide_eq_true rfl) ?_
  have e : eqD M d (.lst xs) = true := by
    unfold eqD
    rw [hf]
    exact eqv_self _ hn.noDict
  have o1 : EqOk M d := by unfold EqOk; rw [hf]; exact ⟨hn.pure, hn.shaped (by omega)⟩
  have o2 : EqOk M (.lst xs) := ⟨hn.pure, hn.shaped (by omega)⟩
  rcases hd with rfl | ⟨p, rfl, hp⟩
  · refine ⟨o1, o2, ?_⟩
    show Back M Q (.bl (eqD M (.lst xs) (.lst xs))) M
    rw [e]
    exact Back.same q
  · refine ⟨o1, o2, ?_⟩
    show Back M Q (.bl (eqD M (.ref p) (.lst xs))) M
    rw [e]
    exact Back.same q
theorem b__law_bag (K : PySem.W.Frag) (_ : ErrK K) : Body 2 1 (p__law_bag K) (t__law_bag K) := by
  rintro ds M Q E ⟨ns, rfl, q⟩
  refine ⟨rfl, _, rfl, ?_⟩
  rw [show (63 : Int) = ((63 : Nat) : Int) from rfl, cut_hi]
  intro A hA
  refine lcL_all (α := Int) D.int (fun i => .int (if i < 0 then -i else i)) (xs := ns.take 63) (by rw [List.map_take]) trivial (small_line (by simp; omega)) (fun i _ k hk => ⟨_, rfl, hk⟩) ?_
  rw [delD_upd hA]
  refine ⟨small_line (by simp), fun B hB => Back.new hB ?_⟩
  have := q B { z := 0, s := 1234567891, k := 0, cs := (ns.take 63).map fun i => if i < 0 then -i else i } hB ⟨Int.le_refl 0, (by decide : (0 : Int) ≤ 1234567891), (by decide : (1234567891 : Int) < 2147483647), fun c hc => ?_, by simp; omega⟩
  · unfold Bag.o iL at this
    rw [List.map_map] at this
    exact this
  · obtain ⟨i, _, rfl⟩ := List.mem_map.mp hc
    split <;> omega
end K38
end

section
set_option Elab.async false
set_option linter.all false
set_option maxRecDepth 100000
set_option maxHeartbeats 400000
namespace K38
open PySem PySem.Spec PyProof.Rows L2 DL
theorem erase_perm {α : Type} : ∀ {l : List α} {v : Nat} (h : v < l.length), (l[v] :: l.eraseIdx v).Perm l
  | [], v, h => absurd h (Nat.not_lt_zero v)
  | x :: l, 0, _ => .refl _
  | x :: l, v + 1, h => by
    have hv : v < l.length := by simpa using h
    have ih := erase_perm (l := l) (v := v) hv
    show (l[v] :: x :: l.eraseIdx v).Perm (x :: l)
    exact (List.Perm.swap x l[v] _).trans (ih.cons x)
theorem map_erase {α β : Type} (f : α → β) : ∀ (l : List α) (v : Nat), (l.map f).eraseIdx v = (l.eraseIdx v).map f
  | [], _ => rfl
  | x :: l, 0 => rfl
  | x :: l, v + 1 => by
    show f x :: (l.map f).eraseIdx v = f x :: (l.eraseIdx v).map f
    rw [map_erase f l v]
theorem bag_nb (b : Bag) : b.o ≠ MO.busy := fun z => by unfold Bag.o at z; cases z
/-- a comprehension whose items draw -/
theorem lcL_drawn {p : Pat} {tt : DTT} {te : DTE} {δ0 : DSt} {Q : List D → DHp → Prop} {chk : DHp → Prop} {B A : Addr} {M : DHp} (hBA : A ≠ B) (R : D → Prop) (hchk : ∀ b : Bag, chk (updD (updD M B b.o) A .busy)) : ∀ (ds acc : List D) (b : Bag), b.ok → acc.length + ds.length ≤ sizeLine →
    (∀ d ∈ ds, ∀ (b : Bag) (k : Option D → DHp → Prop), b.ok → (∀ (b' : Bag) (y : D), b'.ok → R y → k (some y) (updD (updD M B b'.o) A .busy)) → dLcT p tt te δ0 k d (updD (updD M B b.o) A .busy)) →
    (∀ (b' : Bag) (ys : List D), b'.ok → ys.length = ds.length → (∀ y ∈ ys, R y) → Q (acc ++ ys) (updD (updD M B b'.o) A .busy)) → dLcL p tt te δ0 Q chk ds acc (updD (updD M B b.o) A .busy)
  | [], acc, b, hb, _, _, q => ⟨hchk b, by have := q b [] hb rfl (fun y h => by cases h); simpa using this⟩
  | d :: ds, acc, b, hb, hl, he, q => by
    rw [List.length_cons] at hl
    refine ⟨hchk b, by omega, he d List.mem_cons_self b _ hb fun b' y hb' hy => ?_⟩
    refine lcL_drawn hBA R hchk ds (acc ++ [y]) b' hb' (by rw [List.length_append, List.length_singleton]; omega) (fun d hd => he d (List.mem_cons_of_mem _ hd)) fun b2 ys h2 hl2 hr => ?_
    have := q b2 (y :: ys) h2 (by simp [hl2]) (fun z hz => by
      rcases List.mem_cons.mp hz with rfl | hz
      · exact hy
      · exact hr z hz)
    simpa using this
/-- a draw within a comprehension -/
theorem draw_in {K : PySem.W.Frag} {B A : Addr} {M : DHp} (hBA : A ≠ B) {b : Bag} (hb : b.ok) {n : Nat} (h0 : 0 < n) (hn : n < 1000000) {Q : DVK} {E : DXK} (q : ∀ (b' : Bag) (v : Nat), b'.ok → v < n → Q (.int v) (updD (updD M B b'.o) A .busy)) : p__law_take K [.ref B, .int n] (updD (updD M B b.o) A .busy) Q E :=
  ⟨B, n, rfl, ⟨b, hb, by rw [updD_ne (Ne.symm hBA), updD_same]⟩, h0, hn, fun b' d hb' ⟨v, hv, e⟩ => by
    rw [e, updD_swap hBA]
    exact q b' v hb' hv⟩
/-- a draw -/
theorem draw {K : PySem.W.Frag} {B : Addr} {M : DHp} {b : Bag} (hb : b.ok) {n : Nat} (h0 : 0 < n) (hn : n < 1000000) {Q : DVK} {E : DXK} (q : ∀ (b' : Bag) (v : Nat), b'.ok → v < n → Q (.int v) (updD M B b'.o)) : p__law_take K [.ref B, .int n] (updD M B b.o) Q E :=
  ⟨B, n, rfl, ⟨b, hb, updD_same⟩, h0, hn, fun b' d hb' ⟨v, hv, e⟩ => by
    rw [e, updD_updD]
    exact q b' v hb' hv⟩
theorem b__law_some (K : PySem.W.Frag) (_ : ErrK K) : Body 2 2 (p__law_some K) (t__law_some K) := by
  rintro ds M Q E ⟨B, xs, rfl, ⟨b, hb, hB⟩, hne, hl, q⟩
  have hn : 0 < xs.length := List.length_pos_iff.mpr hne
  refine ⟨rfl, _, rfl, B, xs.length, rfl, ⟨b, hb, hB⟩, hn, by omega, fun b' d hb' hd => ?_⟩
  obtain ⟨v, hv, rfl⟩ := hd
  exact ⟨_, xs[v], rfl, L2.atI_nat (List.getElem?_eq_getElem hv), Drawn.back ⟨_, hB, bag_nb b⟩ q hb' (List.getElem_mem hv)⟩
theorem names_lay : ∀ x ∈ someNames, PyData.canLay0 (.str x) = true := by decide +kernel
theorem mixed_loop (K : PySem.W.Frag) {M : DHp} {B p p2 : Addr} {xs : List Str} (hlen : xs.length ≤ 1000) (hx : ∀ x ∈ xs, x ∈ someNames) (hp : p ≠ B) (hp2 : p2 ≠ B) (hne : p2 ≠ p) {Z : DEnds} {W : DW} {th : D} {b : Bag} (hb : b.ok)
    (q : ∀ (b : Bag) (F : List Str), b.ok → F.Perm xs → Z.nx [some (.ref B), some th, some (.ref p), some (.ref p2)] (updD (updD (updD M B b.o) p (.lst [])) p2 (.lst (F.map D.str)))) :
    (dWhile (dB (dOp rNee (dVar 2) (dLst (dNil)))) (dDrop (dMt rAppendD isLst (dVar 3) (dCons (dMt rPopD isLst (dVar 2) (dCons (dCall (p__law_take K) (dCons (dVar 0) (dCons (dCB rLenD (dCons (dVar 2) (dNil))) (dNil)))) (dNil))) (dNil))))) Z [some (.ref B), some th, some (.ref p), some (.ref p2)] (updD (updD (updD M B b.o) p (.lst (xs.map D.str))) p2 (.lst [])) W := by
  refine ⟨fun m δ M' => ∃ (b : Bag) (L F : List Str), b.ok ∧ L.length = m ∧ (L ++ F).Perm xs ∧ δ = [some (.ref B), some th, some (.ref p), some (.ref p2)] ∧ M' = updD (updD (updD M B b.o) p (.lst (L.map D.str))) p2 (.lst (F.map D.str)), ⟨_, b, xs, [], hb, rfl, by simp, rfl, rfl⟩, ?_⟩
  rintro m δ M' ⟨b, L, F, hb, hm, hperm, rfl, rfl⟩
  have hMp : updD (updD (updD M B b.o) p (.lst (L.map D.str))) p2 (.lst (F.map D.str)) p = some (.lst (L.map D.str)) := by rw [updD_ne (Ne.symm hne), updD_same]
  have hMB : ∀ (b : Bag) (a c : MO), updD (updD (updD M B b.o) p a) p2 c B = some b.o := fun b a c => by rw [updD_ne (Ne.symm hp2), updD_ne (Ne.symm hp), updD_same]
  have hsub : ∀ x ∈ L, x ∈ someNames := fun x h => hx x (hperm.mem_iff.mp (List.mem_append_left _ h))
  have hLl : L.length + F.length = xs.length := by rw [← hperm.length_eq, List.length_append]
  refine ⟨small_line (by simp), strs_ok (fun x h => names_lay x (hsub x h)) (frz_ref hMp), ints_ok (ns := []) rfl, ?_⟩
  rw [eq_nil' (frz_ref hMp)]
  cases L with
  | nil => exact q b F hb (by simpa using hperm)
  | cons y ys =>
    refine ⟨⟨_, _, rfl, updD_same⟩, ⟨_, _, rfl, hMp⟩, ?_⟩
    refine ⟨_, seq_ref hMp, B, (y :: ys).length, by rw [List.length_map], ⟨b, hb, hMB b _ _⟩, by simp, by simp at hLl ⊢; omega, fun b' d hb' hd => ?_⟩
    obtain ⟨v, hv, rfl⟩ := hd
    have e : updD (updD (updD (updD M B b.o) p (.lst ((y :: ys).map D.str))) p2 (.lst (F.map D.str))) B b'.o = updD (updD (updD M B b'.o) p (.lst ((y :: ys).map D.str))) p2 (.lst (F.map D.str)) := by
      rw [updD_comm hp2, updD_comm hp, updD_updD]
    rw [e]
    have hMp' : updD (updD (updD M B b'.o) p (.lst ((y :: ys).map D.str))) p2 (.lst (F.map D.str)) p = some (.lst ((y :: ys).map D.str)) := by rw [updD_ne (Ne.symm hne), updD_same]
    refine ⟨_, v, .str (y :: ys)[v], hMp', by omega, ?_, ?_, ?_, ?_⟩
    · simp at hLl hv ⊢; omega
    · rw [List.length_map, seqIndex_of (by omega) (by omega)]; simp
    · rw [List.getElem?_map, List.getElem?_eq_getElem hv]; rfl
    rw [updD_swap hne]
    refine ⟨_, updD_same, lt_line (by rw [List.length_map]; omega), ?_⟩
    rw [updD_updD]
    refine ⟨ys.length, by rw [← hm]; simp, b', (y :: ys).eraseIdx v, F ++ [(y :: ys)[v]], hb', ?_, ?_, rfl, ?_⟩
    · rw [List.length_eraseIdx_of_lt hv]; simp
    · refine List.Perm.trans ?_ hperm
      have h1 := erase_perm hv
      have h2 : ((y :: ys).eraseIdx v ++ (F ++ [(y :: ys)[v]])).Perm ((y :: ys)[v] :: ((y :: ys).eraseIdx v ++ F)) := by
        rw [← List.append_assoc]
        exact List.perm_append_comm (l₁ := (y :: ys).eraseIdx v ++ F) (l₂ := [(y :: ys)[v]])
      exact h2.trans (h1.append_right F)
    · rw [List.map_append, ← map_erase]; rfl
theorem b__law_mixed (K : PySem.W.Frag) (_ : ErrK K) : Body 4 2 (p__law_mixed K) (t__law_mixed K) := by
  rintro ds M Q E ⟨B, xs, rfl, ⟨b, hb, hB⟩, hl, hx, q⟩
  refine ⟨rfl, _, rfl, fun p hp => ⟨small_line (by simp), fun p2 hp2' => ?_⟩⟩
  obtain ⟨hne, hp2⟩ := updD_none hp2'
  have e1 : p ≠ B := fun e => by rw [e, hB] at hp; cases hp
  have e2 : p2 ≠ B := fun e => by rw [e, hB] at hp2; cases hp2
  have := mixed_loop K (M := M) (xs := xs) hl hx e1 e2 hne (Z := { nx := fun δ' M' => (dRet (dVar 3)) { nx := fun _ M' => Back M Q .non M', rt := Back M Q } δ' M' (fun c gs _ M' => BackX M E c gs M'), rt := Back M Q }) (W := fun c gs _ M' => BackX M E c gs M') (th := .lst (xs.map D.str)) hb (fun b F hb' hF => by
    refine ⟨.lst (F.map D.str), updD M B b.o, (Sub.upd (by rw [updD_ne e1]; exact hp)).trans (Sub.upd (by rw [updD_ne hne, updD_ne e2]; exact hp2)), fun a ha => by rw [updD_ne (fun e => by rw [e, hB] at ha; exact bag_nb _ (Option.some.inj ha))]; exact ha, .lst updD_same (by rw [updD_ne e2]; exact hp2) (FrzL.refl _), q b _ hb' ⟨F, hF, rfl⟩⟩)
  rw [updD_id hB] at this
  exact this
theorem b__law_names (K : PySem.W.Frag) (_ : ErrK K) : Body 2 2 (p__law_names K) (t__law_names K) := by
  rintro ds M Q E ⟨B, n, rfl, ⟨b, hb, hB⟩, hn, q⟩
  refine ⟨rfl, small_line (by simp), B, someNames, rfl, ⟨b, hb, hB⟩, by decide, fun x h => h, fun b' d hb' hd => ?_⟩
  obtain ⟨ys, hp, rfl⟩ := hd
  refine ⟨_, rfl, ?_⟩
  rw [cut_hi]
  have hl := hp.length_eq
  have h10 : someNames.length = 10 := rfl
  refine .inr (.inr ⟨ys.take n, by rw [List.map_take]; rfl, by simp; omega, fun zs hz _ => ?_⟩)
  refine Drawn.back ⟨_, hB, bag_nb b⟩ q hb' ⟨zs, by rw [hz.length_eq]; simp; omega, ?_, fun y hy => hp.mem_iff.mp (List.mem_of_mem_take (hz.mem_iff.mp hy)), rfl⟩
  have nd : ys.Nodup := hp.nodup_iff.mpr (by decide +kernel)
  exact hz.nodup_iff.mpr (nd.sublist (List.take_sublist _ _))
theorem b__law_places (K : PySem.W.Frag) (_ : ErrK K) : Body 2 2 (p__law_places K) (t__law_places K) := by
  rintro ds M Q E ⟨B, xs, rfl, ⟨b, hb, hB⟩, hne, hl, hx, q⟩
  have hpos : 0 < xs.length := List.length_pos_iff.mpr hne
  refine ⟨rfl, B, xs, rfl, ⟨b, hb, hB⟩, by omega, hx, fun b' d hb' hd => ?_⟩
  obtain ⟨ys, hp, rfl⟩ := hd
  refine ⟨_, rfl, ?_⟩
  rw [List.length_map]
  refine draw (K := K) (E := fun _ _ _ => False) hb' hpos (by omega) fun b2 v hb2 hv => ?_
  refine ⟨_, rfl, ?_⟩
  rw [show (1 : Int) + (v : Nat) = ((1 + v : Nat) : Int) by omega, cut_hi]
  have hl2 := hp.length_eq
  refine .inr (.inr ⟨ys.take (1 + v), by rw [List.map_take]; rfl, by simp; omega, fun zs hz _ => ⟨_, rfl, .inl ?_⟩⟩)
  exact Drawn.back ⟨_, hB, bag_nb b⟩ q hb2 ⟨zs, by rw [hz.length_eq]; simp; omega, fun y hy => hp.mem_iff.mp (List.mem_of_mem_take (hz.mem_iff.mp hy)), rfl⟩
end K38
end

section
set_option Elab.async false
set_option linter.all false
set_option maxRecDepth 100000
set_option maxHeartbeats 400000
namespace K38
open PySem PySem.Spec PyProof.Rows L2 DL
/-- a draw under something else that changes -/
theorem draw_un {K : PySem.W.Frag} {B A : Addr} {M : DHp} {c : MO} (hBA : A ≠ B) {b : Bag} (hb : b.ok) {n : Nat} (h0 : 0 < n) (hn : n < 1000000) {Q : DVK} {E : DXK} (q : ∀ (b' : Bag) (v : Nat), b'.ok → v < n → Q (.int v) (updD (updD M B b'.o) A c)) : p__law_take K [.ref B, .int n] (updD (updD M B b.o) A c) Q E :=
  ⟨B, n, rfl, ⟨b, hb, by rw [updD_ne (Ne.symm hBA), updD_same]⟩, h0, hn, fun b' d hb' ⟨v, hv, e⟩ => by
    rw [e, updD_swap hBA]
    exact q b' v hb' hv⟩
theorem nats_of {n : Nat} {R : Nat → Prop} : ∀ {ys : List D}, (∀ y ∈ ys, ∃ v : Nat, R v ∧ y = .int v) → ∃ vs : List Nat, ys = (vs.map Int.ofNat).map D.int ∧ vs.length = ys.length ∧ ∀ v ∈ vs, R v
  | [], _ => ⟨[], rfl, rfl, fun v h => by cases h⟩
  | y :: ys, h => by
    obtain ⟨v, hv, e⟩ := h y List.mem_cons_self
    obtain ⟨vs, e1, e2, e3⟩ := nats_of (n := n) (R := R) (ys := ys) fun z hz => h z (List.mem_cons_of_mem _ hz)
    refine ⟨v :: vs, by rw [e, e1]; rfl, by simp [e2], fun w hw => ?_⟩
    rcases List.mem_cons.mp hw with rfl | hw
    · exact hv
    · exact e3 w hw
theorem Drawn.backA {B A : Addr} {M : DHp} {R : D → Prop} {Q : DVK} {c : MO} (hB : ∃ o, M B = some o ∧ o ≠ .busy) (hA : M A = none) (q : Drawn B M R Q) {b : Bag} {d : D} (h : b.ok) (r : R d) : Back M Q d (updD (updD M B b.o) A c) := by
  obtain ⟨o, ho, hb⟩ := hB
  have hAB : A ≠ B := fun e => by rw [e, ho] at hA; cases hA
  refine ⟨d, updD M B b.o, Sub.upd (by rw [updD_ne hAB]; exact hA), fun a ha => ?_, .refl d, q b d h r⟩
  rw [updD_ne (fun e => by rw [e, ho] at ha; exact hb (Option.some.inj ha))]
  exact ha
theorem b__law_drawn_counts (K : PySem.W.Frag) (_ : ErrK K) : Body 5 3 (p__law_drawn_counts K) (t__law_drawn_counts K) := by
  rintro ds M Q E ⟨B, m, n, rfl, ⟨b, hb, hB⟩, hm1, hm, hn1, hn, q⟩
  have hB' : ∃ o, M B = some o ∧ o ≠ .busy := ⟨_, hB, bag_nb b⟩
  refine ⟨rfl, by omega, by omega, ?_⟩
  intro A hA
  have hAB : A ≠ B := fun e => by rw [e, hB] at hA; cases hA
  rw [show updD M A MO.busy = updD (updD M B b.o) A .busy by rw [updD_id hB]]
  refine lcL_drawn hAB (fun d => ∃ v : Nat, v ≤ n ∧ d = .int v) (fun _ => trivial) _ [] b hb (small_line (by simp [rngD]; omega)) (fun d hd b k hb hk => ?_) (fun b ys hb hl hr => ?_)
  · exact ⟨_, rfl, draw_un (K := K) (E := fun _ _ _ => False) (n := n + 1) hAB hb (by omega) (by omega) fun b' v hb' hv => hk b' _ hb' ⟨v, by omega, rfl⟩⟩
  · obtain ⟨vs, rfl, hvl, hv⟩ := nats_of (n := n) (R := fun v => v ≤ n) hr
    rw [updD_updD, List.nil_append]
    have hlen : vs.length = m := by rw [hvl, hl]; simp [rngD]
    have fin : ∀ (b : Bag) (cs : List Int), b.ok → cs.length = m → (∀ c ∈ cs, 0 ≤ c ∧ c ≤ n) → Back M Q (iT cs) (updD (updD M B b.o) A (.lst (cs.map D.int))) := fun b cs hb h1 h2 => Drawn.backA hB' hA q hb ⟨cs, h1, h2, rfl⟩
    have bnd : ∀ c ∈ vs.map Int.ofNat, (0 : Int) ≤ c ∧ c ≤ n := fun c hc => by
      obtain ⟨v, hv', rfl⟩ := List.mem_map.mp hc
      have := hv v hv'
      exact ⟨Int.natCast_nonneg v, by show (v : Int) ≤ n; omega⟩
    refine ⟨_, seq_ref updD_same, ifb (fun t => ?_) (fun t => ?_)⟩
    · refine draw_un (K := K) (E := fun _ _ _ => False) (n := m) hAB hb (by omega) (by omega) fun b' v hb' hv' => ?_
      refine ⟨_, v, updD_same, ixN_lt (by simp; omega), ?_⟩
      rw [updD_updD]
      have e : ((vs.map Int.ofNat).map D.int).set v (.int 1) = ((vs.map Int.ofNat).set v 1).map D.int := by rw [List.map_set]
      rw [e]
      refine ⟨_, lst_ref updD_same, .inl (fin b' _ hb' (by simp [hlen]) fun c hc => ?_)⟩
      rcases List.mem_or_eq_of_mem_set hc with hc | rfl
      · exact bnd c hc
      · omega
    · exact ⟨_, lst_ref updD_same, .inl (fin b _ hb (by simp [hlen]) bnd)⟩
theorem b__law_drawn_tails (K : PySem.W.Frag) (_ : ErrK K) : Body 4 3 (p__law_drawn_tails K) (t__law_drawn_tails K) := by
  rintro ds M Q E ⟨B, m, n, rfl, ⟨b, hb, hB⟩, hm1, hm, hn, q⟩
  have hB' : ∃ o, M B = some o ∧ o ≠ .busy := ⟨_, hB, bag_nb b⟩
  refine ⟨rfl, ?_⟩
  refine ⟨B, n + 1, rfl, ⟨b, hb, hB⟩, by omega, by omega, fun b d hb hd => ?_⟩
  obtain ⟨k, hk, rfl⟩ := hd
  refine ⟨by omega, by omega, ?_⟩
  intro A hA
  have hAB : A ≠ B := fun e => by rw [e, updD_same] at hA; cases hA
  refine lcL_drawn hAB (fun d => ∃ v : Nat, (1 ≤ v ∧ v ≤ m) ∧ d = .int v) (fun _ => trivial) _ [] b hb (small_line (by simp [rngD]; omega)) (fun d hd b k hb hk => ?_) (fun b ys hb hl hr => ?_)
  · exact ⟨_, rfl, draw_un (K := K) (E := fun _ _ _ => False) (n := m) hAB hb (by omega) (by omega) fun b' v hb' hv => hk b' _ hb' ⟨1 + v, by omega, by congr 1⟩⟩
  · obtain ⟨vs, rfl, hvl, hv⟩ := nats_of (n := n) (R := fun v => 1 ≤ v ∧ v ≤ m) hr
    have hvn : vs.length ≤ n := by rw [hvl, hl]; simp [rngD]; omega
    rw [delD_upd (by rw [updD_ne hAB]; rw [updD_ne hAB] at hA; exact hA)]
    refine ⟨m, vs.map Int.ofNat, _, rfl, .inr rfl, hm, by simp; omega, ?_⟩
    refine Drawn.back hB' q hb ⟨_, by simp [stoodI], fun t ht => ?_, rfl⟩
    unfold stoodI at ht
    obtain ⟨i, _, rfl⟩ := List.mem_map.mp ht
    have := List.length_filter_le (fun s => decide (((i : Nat) : Int) < s)) (vs.map Int.ofNat)
    rw [List.length_map] at this
    omega
theorem b__law_stays (K : PySem.W.Frag) (_ : ErrK K) : Body 5 3 (p__law_stays K) (t__law_stays K) := by
  rintro ds M Q E ⟨B, m, n, rfl, ⟨b, hb, hB⟩, hm1, hm, hn, q⟩
  have hB' : ∃ o, M B = some o ∧ o ≠ .busy := ⟨_, hB, bag_nb b⟩
  refine ⟨rfl, small_line (by simp), B, _, rfl, ⟨b, hb, hB⟩, by simp, by simp, fun b d hb hd => ?_⟩
  have hk : ∃ k : Nat, 1 ≤ k ∧ k ≤ 102 ∧ d = .int k := by
    simp only [List.mem_cons, List.not_mem_nil, or_false] at hd
    rcases hd with rfl | rfl | rfl
    · exact ⟨2, by omega, by omega, rfl⟩
    · exact ⟨4, by omega, by omega, rfl⟩
    · exact ⟨n + 2, by omega, by omega, rfl⟩
  obtain ⟨k, hk1, hk2, rfl⟩ := hk
  refine draw (K := K) (E := fun _ _ _ => False) hb hk1 (by omega) fun b many hb hmany => ?_
  refine ⟨by omega, by omega, ?_⟩
  intro A hA
  have hAB : A ≠ B := fun e => by rw [e, updD_same] at hA; cases hA
  refine lcL_drawn hAB (fun d => ∃ v : Nat, (1 ≤ v ∧ v ≤ m) ∧ d = .int v) (fun _ => trivial) _ [] b hb (small_line (by simp [rngD]; omega)) (fun d hd b k hb hk => ?_) (fun b ys hb hl hr => ?_)
  · exact ⟨_, rfl, draw_un (K := K) (E := fun _ _ _ => False) (n := m) hAB hb (by omega) (by omega) fun b' v hb' hv => hk b' _ hb' ⟨1 + v, by omega, by congr 1⟩⟩
  · obtain ⟨vs, rfl, hvl, hv⟩ := nats_of (n := n) (R := fun v => 1 ≤ v ∧ v ≤ m) hr
    have hvn : vs.length ≤ 102 := by rw [hvl, hl]; simp [rngD]; omega
    rw [delD_upd (by rw [updD_ne hAB]; rw [updD_ne hAB] at hA; exact hA)]
    refine .inl ⟨vs.map Int.ofNat, rfl, ?_⟩
    rw [sortN_map]
    refine ⟨_, rfl, .inl (Drawn.back hB' q hb ⟨sortN vs, by rw [sortN_len]; omega, fun s hs => hv s ((sortN_perm vs).mem_iff.mp hs), rfl⟩)⟩
theorem edge_draws (K : PySem.W.Frag) {B : Addr} {m : Nat} {M : DHp} {Q : DVK} (hB' : ∃ o, M B = some o ∧ o ≠ .busy) (hm1 : 1 ≤ m) (hm : m ≤ 4) (q : Drawn B M (fun d => ∃ ss : List Nat, ss.length ≤ 1000 ∧ (∀ s ∈ ss, 1 ≤ s ∧ s ≤ m) ∧ d = iT (ss.map Int.ofNat)) Q) {b : Bag} (hb : b.ok) {o2 o3 o4 o5 o6 : Option D} {Z : DEnds} (hrt : Z.rt = Back M Q) {W : DW} :
    (dRet (dCB rTupD (dCons (dCB rSortD (dCons (dLc (dRng1 (dCons (dCall (p__law_take K) (dCons (dVar 0) (dCons (dC (.int 5)) (dNil)))) (dNil))) (.nm 6) (dYes) (dOp rAddD (dC (.int 1)) (dCall (p__law_take K) (dCons (dVar 0) (dCons (dVar 1) (dNil))))) [6]) (dNil))) (dNil)))) Z [some (.ref B), some (.int m), o2, o3, o4, o5, o6] (updD M B b.o) W := by
  refine draw (K := K) (E := fun _ _ _ => False) (n := 5) hb (by omega) (by omega) fun b many hb hmany => ?_
  refine ⟨by omega, by omega, ?_⟩
  intro A hA
  have hAB : A ≠ B := fun e => by rw [e, updD_same] at hA; cases hA
  refine lcL_drawn hAB (fun d => ∃ v : Nat, (1 ≤ v ∧ v ≤ m) ∧ d = .int v) (fun _ => trivial) _ [] b hb (small_line (by simp [rngD]; omega)) (fun d hd b k hb hk => ?_) (fun b ys hb hl hr => ?_)
  · exact ⟨_, rfl, draw_un (K := K) (E := fun _ _ _ => False) (n := m) hAB hb (by omega) (by omega) fun b' v hb' hv => hk b' _ hb' ⟨1 + v, by omega, by congr 1⟩⟩
  · obtain ⟨vs, rfl, hvl, hv⟩ := nats_of (n := 0) (R := fun v => 1 ≤ v ∧ v ≤ m) hr
    have hvn : vs.length ≤ 102 := by rw [hvl, hl]; simp [rngD]; omega
    rw [delD_upd (by rw [updD_ne hAB]; rw [updD_ne hAB] at hA; exact hA)]
    refine .inl ⟨vs.map Int.ofNat, rfl, ?_⟩
    rw [sortN_map]
    refine ⟨_, rfl, .inl ?_⟩
    show Z.rt _ _
    rw [hrt]
    exact Drawn.back hB' q hb ⟨sortN vs, by rw [sortN_len]; omega, fun s hs => hv s ((sortN_perm vs).mem_iff.mp hs), rfl⟩
end K38
end

section
set_option Elab.async false
set_option linter.all false
set_option maxRecDepth 100000
set_option maxHeartbeats 400000
namespace K38
open PySem PySem.Spec PyProof.Rows L2 DL
theorem b__law_heard (K : PySem.W.Frag) (hx : ErrK K) : HOk__law_heard K := by
  rintro act M Q f c q vs xs ⟨n, hact, hq⟩
  refine ⟨rfl, rfl, rfl, rfl, rfl, hact _ _ ⟨true, hx.exm, fun _ a d hd => ?_, fun h => nomatch h⟩⟩
  refine ⟨rfl, rfl, _, true, rfl, hx.exc, hx.kit, ?_⟩
  exact ⟨rfl, rfl, rfl, hd (by simp), .str n, rfl, small_line (by simp), Back.same hq⟩
theorem edge_loop {M : DHp} {a0 a1 a2 o6 : Option D} {m : Nat} {Z : DEnds} {W : DW} : ∀ (ps : List (Int × Nat)) (ss : List Nat) (o4 o5 : Option D), (∀ p ∈ ps, -1000 ≤ p.1 ∧ p.1 ≤ 100 ∧ p.2 < m) → ss.length + 100 * ps.length ≤ 900 → (∀ s ∈ ss, 1 ≤ s ∧ s ≤ m) →
    (∀ (ss : List Nat) (o4 o5 : Option D), ss.length ≤ 900 → (∀ s ∈ ss, 1 ≤ s ∧ s ≤ m) → Z.nx [a0, a1, a2, some (iL (ss.map Int.ofNat)), o4, o5, o6] M) →
    dForL (.tp [.nm 4, .nm 5]) (dSet 3 (dOp rAddD (dVar 3) (dOp rMulD (dLst (dCons (dOp rAddD (dVar 4) (dC (.int 1))) (dNil))) (dVar 5)))) Z W (fun _ => True) (ps.map fun p => .tup [.int (p.2 : Nat), .int p.1]) [a0, a1, a2, some (iL (ss.map Int.ofNat)), o4, o5, o6] M
  | [], ss, o4, o5, _, hl, hs, q => ⟨trivial, q ss o4 o5 (by simpa using hl) hs⟩
  | (k, i) :: ps, ss, o4, o5, hp, hl, hs, q => by
    obtain ⟨h1, h2, h3⟩ := hp (k, i) List.mem_cons_self
    have h1 : (-1000 : Int) ≤ k := h1
    have h2 : k ≤ 100 := h2
    have h3 : i < m := h3
    simp only [List.length_cons] at hl
    have e : (List.replicate k.toNat [D.int ((i : Int) + 1)]).flatten = ((List.replicate k.toNat (i + 1)).map Int.ofNat).map D.int := by
      rw [List.map_replicate, List.map_replicate, List.flatten_replicate_singleton]; rfl
    refine ⟨trivial, _, rfl, small_line (by simp), _, rfl, by omega, by omega, small_line (by simp; omega), _, _, rfl, rfl, small_line (by simp; omega), ?_⟩
    rw [e, ← List.map_append, ← List.map_append]
    refine edge_loop ps (ss ++ List.replicate k.toNat (i + 1)) _ _ (fun p h => hp p (List.mem_cons_of_mem _ h)) (by simp; omega) (fun s h => ?_) q
    rcases List.mem_append.mp h with h | h
    · exact hs s h
    · obtain ⟨_, rfl⟩ := List.mem_replicate.mp h
      omega
theorem b__law_edge (K : PySem.W.Frag) (_ : ErrK K) : Body 7 3 (p__law_edge K) (t__law_edge K) := by
  rintro ds M Q E ⟨B, m, o, rfl, ⟨b, hb, hB⟩, hm1, hm, ho, q⟩
  have hB' : ∃ o, M B = some o ∧ o ≠ .busy := ⟨_, hB, bag_nb b⟩
  cases o with
  | none =>
    refine ⟨rfl, rfl, ?_⟩
    have := edge_draws K hB' hm1 hm q hb (o2 := some .non) (o3 := none) (o4 := none) (o5 := none) (o6 := none) (Z := { nx := fun _ M' => Back M Q .non M', rt := Back M Q }) rfl (W := fun c gs _ M' => BackX M E c gs M')
    rw [updD_id hB] at this
    exact this
  | some ts =>
    obtain ⟨hl, hub⟩ := ho ts rfl
    cases ts with
    | nil => simp at hl; omega
    | cons t ts =>
      refine ⟨rfl, rfl, ?_⟩
      refine ⟨t, ts, rfl, ?_⟩
      by_cases hlt : minI t ts < 0
      · refine (show ∀ (b : Bool) (P R : Prop), b = true → P → (if b = true then P else R) from fun b P R hb hp => by subst hb; exact hp) _ _ _ (decide_eq_true hlt) ?_
        have := edge_draws K hB' hm1 hm q hb (o2 := some (iT (t :: ts))) (o3 := none) (o4 := none) (o5 := none) (o6 := none) (Z := { nx := fun _ M' => Back M Q .non M', rt := Back M Q }) rfl (W := fun c gs _ M' => BackX M E c gs M')
        rw [updD_id hB] at this
        exact this
      · refine (show ∀ (b : Bool) (P R : Prop), b = false → R → (if b = true then P else R) from fun b P R hb hp => by subst hb; exact hp) _ _ _ (decide_eq_false hlt) ?_
        refine ⟨B, 3, rfl, ⟨b, hb, hB⟩, by omega, by omega, fun b d hb hd => ?_⟩
        obtain ⟨v, hv, rfl⟩ := hd
        refine (show ∀ (b : Bool) (P R : Prop), (b = true → P) → (b = false → R) → (if b = true then P else R) from fun b P R h1 h2 => by cases b; exact h2 rfl; exact h1 rfl) _ _ _ (fun _ => ?_) (fun _ => ?_)
        · exact edge_draws K hB' hm1 hm q hb rfl
        · have hge : ∀ x ∈ t :: ts, 0 ≤ x := fun x hx => by
            rcases List.mem_cons.mp hx with rfl | hx
            · have := minI_le ts x; omega
            · have := minI_all ts t x hx; omega
          refine ⟨by simp, t :: ts, rfl, by omega, by simp, _, rfl, ?_⟩
          rw [enumD_map]
          refine edge_loop (m := m) _ [] none none (fun p hp => ?_) ?_ (fun s h => by cases h) (fun ss o4 o5 hsl hs => ?_)
          · have hp' := List.mem_zipIdx hp
            obtain ⟨_, h2, h3⟩ := hp'
            have hlen : (List.zipWith (· - ·) (t :: ts) ((t :: ts).drop 1 ++ [0])).length = m := by simp at hl ⊢; omega
            rw [hlen] at h2
            refine ⟨?_, ?_, by omega⟩
            all_goals
              rw [h3, List.getElem_zipWith]
              have g1 := hge _ (List.getElem_mem (l := t :: ts) (n := p.2 - 0) (by omega))
              have g2 := hub _ (List.getElem_mem (l := t :: ts) (n := p.2 - 0) (by omega))
              have g3 : ∀ (j : Nat) (hj : j < ((t :: ts).drop 1 ++ [0]).length), 0 ≤ ((t :: ts).drop 1 ++ [0])[j] ∧ ((t :: ts).drop 1 ++ [0])[j] ≤ 100 := fun j hj => by
                have hmem := List.getElem_mem hj
                rcases List.mem_append.mp hmem with h | h
                · exact ⟨hge _ (List.mem_of_mem_drop h), hub _ (List.mem_of_mem_drop h)⟩
                · have := List.mem_singleton.mp h; omega
              have g4 := g3 (p.2 - 0) (by simp at hl ⊢; omega)
              omega
          · have hlen : (List.zipWith (· - ·) (t :: ts) ((t :: ts).drop 1 ++ [0])).length = m := by simp at hl ⊢; omega
            rw [List.length_zipIdx, hlen]
            simp; omega
          · refine draw (K := K) (E := fun _ _ _ => False) hb (by omega) (by omega) fun b v hb hv => ⟨small_line (by simp), ?_⟩
            refine draw (K := K) (E := fun _ _ _ => False) (n := 2) hb (by omega) (by omega) fun b v2 hb hv2 => ⟨_, rfl, by omega, by omega, small_line (by simp; omega), _, _, rfl, rfl, small_line (by simp; omega), ?_⟩
            have e : (List.replicate ((v2 : Int)).toNat [D.int ((1 : Int) + (v : Nat))]).flatten = ((List.replicate v2 (1 + v)).map Int.ofNat).map D.int := by
              rw [List.map_replicate, List.map_replicate, List.flatten_replicate_singleton, Int.toNat_natCast]
              congr 2
            rw [e, ← List.map_append, ← List.map_append]
            refine .inl ⟨(ss ++ List.replicate v2 (1 + v)).map Int.ofNat, rfl, ?_⟩
            rw [sortN_map]
            refine ⟨_, rfl, .inl (Drawn.back hB' q hb ⟨sortN _, by rw [sortN_len]; simp; omega, fun s h0 => ?_, rfl⟩)⟩
            have := (sortN_perm _).mem_iff.mp h0
            rcases List.mem_append.mp this with h | h
            · exact hs s h
            · obtain ⟨_, rfl⟩ := List.mem_replicate.mp h
              omega
end K38
end

section
set_option Elab.async false
set_option linter.all false
set_option maxRecDepth 100000
set_option maxHeartbeats 400000
namespace K38
open PySem PySem.Spec PyProof.Rows L2 DL
/-- N is M but for the bag and these new lists -/
structure StH (M N : DHp) (B : Addr) (b : Bag) (S : List (Addr × List D)) : Prop where
  bag : N B = some b.o
  at_ : ∀ q ∈ S, N q.1 = some (.lst q.2)
  fr : ∀ q ∈ S, M q.1 = none ∧ q.1 ≠ B
  nd : (S.map (·.1)).Nodup
  out : ∀ a, a ≠ B → (∀ q ∈ S, a ≠ q.1) → N a = M a
section
variable {M N : DHp} {B : Addr} {b b' : Bag} {S : List (Addr × List D)} {p : Addr} {xs ys : List D}
theorem StH.start (h : M B = some b.o) : StH M M B b [] := ⟨h, (fun q h => by cases h), (fun q h => by cases h), List.Pairwise.nil, fun _ _ _ => rfl⟩
theorem StH.draw (h : StH M N B b S) : StH M (updD N B b'.o) B b' S :=
  ⟨updD_same, fun q hq => by rw [updD_ne (h.fr q hq).2]; exact h.at_ q hq, h.fr, h.nd, fun a h1 h2 => by rw [updD_ne h1]; exact h.out a h1 h2⟩
theorem StH.new (h : StH M N B b S) (hp : N p = none) : StH M (updD N p (.lst xs)) B b ((p, xs) :: S) := by
  have h1 : p ≠ B := fun e => by rw [e, h.bag] at hp; cases hp
  have h2 : ∀ q ∈ S, p ≠ q.1 := fun q hq e => by rw [e, h.at_ q hq] at hp; cases hp
  refine ⟨by rw [updD_ne (Ne.symm h1)]; exact h.bag, fun q hq => ?_, fun q hq => ?_, ?_, fun a e1 e2 => ?_⟩
  · rcases List.mem_cons.mp hq with rfl | hq
    · exact updD_same
    · rw [updD_ne (Ne.symm (h2 q hq))]; exact h.at_ q hq
  · rcases List.mem_cons.mp hq with rfl | hq
    · exact ⟨by rw [← h.out p h1 h2]; exact hp, h1⟩
    · exact h.fr q hq
  · refine List.nodup_cons.mpr ⟨fun hm => ?_, h.nd⟩
    obtain ⟨q, hq, e⟩ := List.mem_map.mp hm
    exact h2 q hq e.symm
  · rw [updD_ne (e2 _ List.mem_cons_self)]
    exact h.out a e1 fun q hq => e2 q (List.mem_cons_of_mem _ hq)
theorem StH.put (h : StH M N B b ((p, xs) :: S)) : StH M (updD N p (.lst ys)) B b ((p, ys) :: S) := by
  have hn := List.nodup_cons.mp h.nd
  refine ⟨by rw [updD_ne (Ne.symm (h.fr _ List.mem_cons_self).2)]; exact h.bag, fun q hq => ?_, fun q hq => ?_, h.nd, fun a e1 e2 => ?_⟩
  · rcases List.mem_cons.mp hq with rfl | hq
    · exact updD_same
    · rw [updD_ne (fun e => hn.1 (List.mem_map.mpr ⟨q, hq, e⟩))]; exact h.at_ q (List.mem_cons_of_mem _ hq)
  · rcases List.mem_cons.mp hq with rfl | hq
    · exact h.fr (p, xs) List.mem_cons_self
    · exact h.fr q (List.mem_cons_of_mem _ hq)
  · rw [updD_ne (e2 _ List.mem_cons_self)]
    exact h.out a e1 fun q hq => by
      rcases List.mem_cons.mp hq with rfl | hq
      · exact e2 (p, ys) List.mem_cons_self
      · exact e2 q (List.mem_cons_of_mem _ hq)
theorem StH.back (h : StH M N B b S) {R : D → Prop} {Q : DVK} {d : D} (hB : ∃ o, M B = some o ∧ o ≠ .busy) (q : Drawn B M R Q) (hb : b.ok) (hd : R d) : Back M Q d N := by
  refine ⟨d, updD M B b.o, fun a o ha => ?_, fun a ha => ?_, .refl d, q b d hb hd⟩
  · by_cases e : a = B
    · subst e; rw [updD_same] at ha; rw [h.bag]; exact ha
    · rw [updD_ne e] at ha
      rw [h.out a e fun q hq z => by rw [z, (h.fr q hq).1] at ha; cases ha]
      exact ha
  · obtain ⟨o, ho, hb⟩ := hB
    rw [updD_ne (fun e => by rw [e, ho] at ha; exact hb (Option.some.inj ha))]
    exact ha
end
def WOk (m : Nat) (w : Wall) : Prop := w.counts.length = m ∧ (∀ c ∈ w.counts, 0 ≤ c ∧ c ≤ 2) ∧ 0 ≤ w.jams ∧ w.jams ≤ 2 ∧ w.name ∈ someNames
theorem house_l1 (K : PySem.W.Frag) {M : DHp} {B p : Addr} {m : Nat} (hm1 : 1 ≤ m) (hm : m ≤ 4) {a2 a3 a4 a5 a8 a9 a10 a11 a12 a13 a14 a15 : Option D} {Z : DEnds} {W : DW} {chk : DHp → Prop} (hc : ∀ N, chk N) : ∀ (ys : List Str) (N : DHp) (b : Bag) (ws : List Wall) (o7 : Option D), b.ok → StH M N B b [(p, ws.map Wall.d)] → (∀ y ∈ ys, y ∈ someNames) → ws.length + ys.length ≤ 100 → (∀ w ∈ ws, WOk m w) →
    (∀ (N : DHp) (b : Bag) (ws' : List Wall) (o7 : Option D), b.ok → StH M N B b [(p, ws'.map Wall.d)] → ws'.map (·.name) = ws.map (·.name) ++ ys → (∀ w ∈ ws', WOk m w) → Z.nx [some (.ref B), some (.int m), a2, a3, a4, a5, some (.ref p), o7, a8, a9, a10, a11, a12, a13, a14, a15] N) →
    dForL (.nm 7) (dDrop (dMt rAppendD isLst (dVar 6) (dCons (dTup (dCons (dVar 7) (dCons (dCall (p__law_drawn_counts K) (dCons (dVar 0) (dCons (dVar 1) (dCons (dC (.int 2)) (dNil))))) (dCons (dCall (p__law_some K) (dCons (dVar 0) (dCons (dLst (dCons (dC (.int 0)) (dCons (dC (.int 0)) (dCons (dC (.int 1)) (dCons (dC (.int 0)) (dCons (dC (.int 2)) (dNil))))))) (dNil)))) (dNil))))) (dNil)))) Z W chk (ys.map D.str) [some (.ref B), some (.int m), a2, a3, a4, a5, some (.ref p), o7, a8, a9, a10, a11, a12, a13, a14, a15] N
  | [], N, b, ws, o7, hb, st, _, _, hw, q => ⟨hc N, q N b ws o7 hb st (by simp) hw⟩
  | y :: ys, N, b, ws, o7, hb, st, hy, hl, hw, q => by
    refine ⟨hc N, _, rfl, ⟨_, _, rfl, st.at_ _ List.mem_cons_self⟩, B, m, 2, rfl, ⟨b, hb, st.bag⟩, hm1, by omega, by omega, by omega, fun b d hb hd => ?_⟩
    obtain ⟨cs, hcl, hcb, rfl⟩ := hd
    have st := st.draw (b' := b)
    refine ⟨small_line (by simp), B, _, rfl, ⟨b, hb, st.bag⟩, by simp, by simp, fun b d hb hd => ?_⟩
    have st := st.draw (b' := b)
    have hj : ∃ j : Int, 0 ≤ j ∧ j ≤ 2 ∧ d = .int j := by
      simp only [List.mem_cons, List.not_mem_nil, or_false] at hd
      rcases hd with rfl | rfl | rfl | rfl | rfl
      · exact ⟨0, by omega, by omega, rfl⟩
      · exact ⟨0, by omega, by omega, rfl⟩
      · exact ⟨1, by omega, by omega, rfl⟩
      · exact ⟨0, by omega, by omega, rfl⟩
      · exact ⟨2, by omega, by omega, rfl⟩
    obtain ⟨j, hj1, hj2, rfl⟩ := hj
    simp only [List.length_cons] at hl
    refine ⟨small_line (by simp), _, st.at_ _ List.mem_cons_self, lt_line (by simp; omega), ?_⟩
    have st := st.put (ys := ws.map Wall.d ++ [.tup [.str y, iT cs, .int j]])
    have e : ws.map Wall.d ++ [.tup [.str y, iT cs, .int j]] = (ws ++ [(⟨y, cs, j⟩ : Wall)]).map Wall.d := by rw [List.map_append]; rfl
    rw [e] at st
    show dForL _ _ _ _ _ _ _ (updD _ p (.lst (ws.map Wall.d ++ [.tup [.str y, iT cs, .int j]])))
    rw [e]
    refine house_l1 K hm1 hm hc ys _ b (ws ++ [(⟨y, cs, j⟩ : Wall)]) _ hb st (fun z hz => hy z (List.mem_cons_of_mem _ hz)) (by simp; omega) (fun w hw' => ?_) (fun N b ws' o7 h1 h2 h3 h4 => q N b ws' o7 h1 h2 (by rw [h3]; simp) h4)
    rcases List.mem_append.mp hw' with h | h
    · exact hw w h
    · obtain rfl := List.mem_singleton.mp h
      exact ⟨hcl, hcb, hj1, hj2, hy y List.mem_cons_self⟩
theorem nice_name {x : Str} (h : x ∈ someNames) : Nice 20 0 (.str x) := nice_str ((show ∀ x ∈ someNames, ((x.cps.toList.all fun c => decide (c < 16 ^ 8)) && (PyData.canLay0 (.str x) && decide (x.cps.size ≤ 20))) = true by decide +kernel) x h)
theorem house_l2 (K : PySem.W.Frag) {M : DHp} {B p p2 : Addr} {m : Nat} {ns : List Str} {wd : List D} (hm1 : 1 ≤ m) (hm : m ≤ 4) (hns : ns ≠ []) (hnl : ns.length ≤ 10) (hnm : ∀ x ∈ ns, x ∈ someNames) {a2 a3 a4 a11 a12 a13 a14 a15 : Option D} {Z : DEnds} {W : DW} {chk : DHp → Prop} (hc : ∀ N, chk N) : ∀ (ys : List Str) (N : DHp) (b : Bag) (ks : List D) (o7 o9 o10 : Option D), b.ok → StH M N B b [(p2, ks), (p, wd)] → (∀ y ∈ ys, y ∈ someNames) → ks.length + ys.length ≤ 100 → (∀ k ∈ ks, Nice 2000 3 k) →
    (∀ (N : DHp) (b : Bag) (ks' : List D) (o7 o9 o10 : Option D), b.ok → StH M N B b [(p2, ks'), (p, wd)] → ks'.length = ks.length + ys.length → (∀ k ∈ ks', Nice 2000 3 k) → Z.nx [some (.ref B), some (.int m), a2, a3, a4, some (.lst (ns.map D.str)), some (.ref p), o7, some (.ref p2), o9, o10, a11, a12, a13, a14, a15] N) →
    dForL (.nm 7) (dSeq (dPar 9 10 (dCons (dCall (p__law_some K) (dCons (dVar 0) (dCons (dLst (dCons (dC (.int 0)) (dCons (dC (.int 1)) (dCons (dC (.int 0)) (dCons (dC (.int 2)) (dNil)))))) (dNil)))) (dCons (dCall (p__law_some K) (dCons (dVar 0) (dCons (dLst (dCons (dC (.int 1)) (dCons (dC (.int 2)) (dCons (dC (.int 1)) (dCons (dC (.int 3)) (dNil)))))) (dNil)))) (dNil))))
    (dDrop (dMt rAppendD isLst (dVar 8) (dCons (dTup (dCons (dVar 7) (dCons (dOp rAddD (dC (.int 1)) (dCall (p__law_take K) (dCons (dVar 0) (dCons (dVar 1) (dNil))))) (dCons (dCall (p__law_places K) (dCons (dVar 0) (dCons (dVar 5) (dNil)))) (dCons (dVar 9) (dCons (dVar 10) (dNil))))))) (dNil))))) Z W chk (ys.map D.str) [some (.ref B), some (.int m), a2, a3, a4, some (.lst (ns.map D.str)), some (.ref p), o7, some (.ref p2), o9, o10, a11, a12, a13, a14, a15] N
  | [], N, b, ks, o7, o9, o10, hb, st, _, _, hk, q => ⟨hc N, q N b ks o7 o9 o10 hb st rfl hk⟩
  | y :: ys, N, b, ks, o7, o9, o10, hb, st, hy, hl, hk, q => by
    have small : ∀ {d : D} {l : List Int}, d ∈ l.map D.int → (∀ i ∈ l, i.natAbs < 1000000) → Nice 20 0 d := fun {d l} hd hl => by
      obtain ⟨i, hi, rfl⟩ := List.mem_map.mp hd
      exact nice_int (hl i hi)
    refine ⟨hc N, _, rfl, small_line (by simp), B, _, rfl, ⟨b, hb, st.bag⟩, by simp, by simp, fun b d9 hb hd9 => ?_⟩
    have n9 : Nice 20 0 d9 := small (l := [0, 1, 0, 2]) hd9 (by decide)
    have st := st.draw (b' := b)
    refine ⟨small_line (by simp), B, _, rfl, ⟨b, hb, st.bag⟩, by simp, by simp, fun b d10 hb hd10 => ?_⟩
    have n10 : Nice 20 0 d10 := small (l := [1, 2, 1, 3]) hd10 (by decide)
    have st := st.draw (b' := b)
    refine ⟨⟨_, _, rfl, st.at_ _ List.mem_cons_self⟩, ?_⟩
    refine ⟨B, m, rfl, ⟨b, hb, st.bag⟩, hm1, by omega, fun b d hb hd => ?_⟩
    obtain ⟨v, hv, rfl⟩ := hd
    have st := st.draw (b' := b)
    refine ⟨B, ns, rfl, ⟨b, hb, st.bag⟩, hns, hnl, hnm, fun b d hb hd => ?_⟩
    obtain ⟨zs, hzl, hzm, rfl⟩ := hd
    have st := st.draw (b' := b)
    simp only [List.length_cons] at hl
    refine ⟨small_line (by simp), _, st.at_ _ List.mem_cons_self, lt_line (by simp; omega), ?_⟩
    have st := st.put (ys := ks ++ [.tup [.str y, .int (1 + v), .tup (zs.map D.str), d9, d10]])
    refine house_l2 K hm1 hm hns hnl hnm hc ys _ b _ _ _ _ hb st (fun z hz => hy z (List.mem_cons_of_mem _ hz)) (by simp; omega) (fun k hk' => ?_) (fun N b ks' o7 o9 o10 h1 h2 h3 h4 => q N b ks' o7 o9 o10 h1 h2 (by rw [h3]; simp; omega) h4)
    rcases List.mem_append.mp hk' with h | h
    · exact hk k h
    · obtain rfl := List.mem_singleton.mp h
      have nz : Nice (10 * 21) 1 (.tup (zs.map D.str)) := nice_tup (w := 20) (k := 0) (fun d hd => by
        obtain ⟨z, hz, rfl⟩ := List.mem_map.mp hd
        exact nice_name (hnm z (hzm z hz))) (by simp; omega)
      have := nice_tup (w := 210) (k := 1) (n := 5) (ds := [.str y, .int (1 + v), .tup (zs.map D.str), d9, d10]) (fun d hd => by
        simp only [List.mem_cons, List.not_mem_nil, or_false] at hd
        rcases hd with rfl | rfl | rfl | rfl | rfl
        · exact (nice_name (hy y List.mem_cons_self)).mono (by omega) (by omega)
        · exact (nice_int (by omega)).mono (by omega) (by omega)
        · exact nz
        · exact n9.mono (by omega) (by omega)
        · exact n10.mono (by omega) (by omega)) (by simp)
      exact this.mono (by omega) (by omega)
end K38
end

section
set_option Elab.async false
set_option linter.all false
set_option maxRecDepth 100000
set_option maxHeartbeats 400000
namespace K38
open PySem PySem.Spec PyProof.Rows L2 DL
theorem tails_of_ds {m : Nat} : ∀ {ys : List D}, (∀ y ∈ ys, ∃ ts : List Int, ts.length = m ∧ (∀ t ∈ ts, 0 ≤ t ∧ t ≤ 100) ∧ y = iT ts) → ∃ bs : List (List Int), ys = bs.map iT ∧ bs.length = ys.length ∧ ∀ b ∈ bs, b.length = m ∧ ∀ t ∈ b, 0 ≤ t ∧ t ≤ 100
  | [], _ => ⟨[], rfl, rfl, fun b h => by cases h⟩
  | y :: ys, h => by
    obtain ⟨ts, h1, h2, e⟩ := h y List.mem_cons_self
    obtain ⟨bs, e1, e2, e3⟩ := tails_of_ds (m := m) (ys := ys) fun z hz => h z (List.mem_cons_of_mem _ hz)
    refine ⟨ts :: bs, by rw [e, e1]; rfl, by simp [e2], fun b hb => ?_⟩
    rcases List.mem_cons.mp hb with rfl | hb
    · exact ⟨h1, h2⟩
    · exact e3 b hb
def DOk (m k : Nat) (x : Day) : Prop := x.backs.length = k ∧ (∀ b ∈ x.backs, b.length = m ∧ ∀ t ∈ b, 0 ≤ t ∧ t ≤ 100) ∧ Nice 1000 10 x.asks
theorem house_l3 (K : PySem.W.Frag) {M : DHp} {B p p2 p3 : Addr} {m : Nat} {ks wd : List D} (hm1 : 1 ≤ m) (hm : m ≤ 4) (hkl : ks.length ≤ 10) (hwl : wd.length ≤ 10) {a2 a3 a4 a5 a7 a9 a10 a14 a15 : Option D} {Z : DEnds} {W : DW} : ∀ (ds : List D) (N : DHp) (b : Bag) (xs : List Day) (o12 o13 : Option D), b.ok → StH M N B b [(p3, xs.map Day.d), (p2, ks), (p, wd)] → xs.length + ds.length ≤ 100 → (∀ x ∈ xs, DOk m wd.length x) →
    (∀ (N : DHp) (b : Bag) (xs' : List Day) (o12 o13 : Option D), b.ok → StH M N B b [(p3, xs'.map Day.d), (p2, ks), (p, wd)] → xs'.length = xs.length + ds.length → (∀ x ∈ xs', DOk m wd.length x) → Z.nx [some (.ref B), some (.int m), a2, a3, a4, a5, some (.ref p), a7, some (.ref p2), a9, a10, some (.ref p3), o12, o13, a14, a15] N) →
    dForL (.nm 12) (dSeq (dSet 13 (dCB rTupD (dCons (dLc (dSeqI (dVar 8)) (.nm 14) (dYes) (dCall (p__law_some K) (dCons (dVar 0) (dCons (dLst (dCons (dC (.int 1)) (dCons (dC (.int 0)) (dCons (dC (.int 1)) (dCons (dC (.int 0)) (dCons (dC (.int 2)) (dNil))))))) (dNil)))) [14]) (dNil))))
    (dDrop (dMt rAppendD isLst (dVar 11) (dCons (dTup (dCons (dVar 13) (dCons (dCB rTupD (dCons (dLc (dSeqI (dVar 6)) (.nm 15) (dYes) (dCall (p__law_drawn_tails K) (dCons (dVar 0) (dCons (dVar 1) (dCons (dCall (p__law_some K) (dCons (dVar 0) (dCons (dLst (dCons (dC (.int 0)) (dCons (dC (.int 1)) (dCons (dC (.int 0)) (dCons (dC (.int 2)) (dNil)))))) (dNil)))) (dNil))))) [15]) (dNil))) (dNil)))) (dNil))))) Z W (fun _ => True) ds [some (.ref B), some (.int m), a2, a3, a4, a5, some (.ref p), a7, some (.ref p2), a9, a10, some (.ref p3), o12, o13, a14, a15] N
  | [], N, b, xs, o12, o13, hb, st, _, hx, q => ⟨trivial, q N b xs o12 o13 hb st rfl hx⟩
  | d :: ds, N, b, xs, o12, o13, hb, st, hl, hx, q => by
    have h2 := st.at_ (p2, ks) (List.mem_cons_of_mem _ List.mem_cons_self)
    have f2 := st.fr (p2, ks) (List.mem_cons_of_mem _ List.mem_cons_self)
    simp only at h2 f2
    refine ⟨trivial, _, rfl, _, seq_ref h2, ?_⟩
    intro A hA
    have hAB : A ≠ B := fun e => by rw [e, st.bag] at hA; cases hA
    have hAp : p2 ≠ A := fun e => by rw [← e, h2] at hA; cases hA
    rw [show updD N A MO.busy = updD (updD N B b.o) A .busy by rw [updD_id st.bag]]
    refine lcL_drawn hAB (fun d => Nice 20 0 d) (fun b => by show (updD (updD N B b.o) A .busy) p2 = N p2; rw [updD_ne hAp, updD_ne f2.2]) _ [] b hb (small_line (by simp; omega)) (fun d hd b k hb hk => ?_) (fun b ys hb hyl hyr => ?_)
    · refine ⟨_, rfl, small_line (by simp), B, _, rfl, ⟨b, hb, by rw [updD_ne (Ne.symm hAB), updD_same]⟩, by simp, by simp, fun b' d hb' hd => ?_⟩
      rw [updD_swap hAB]
      refine hk b' d hb' ?_
      have hd' : d ∈ ([1, 0, 1, 0, 2] : List Int).map D.int := hd
      obtain ⟨i, hi, rfl⟩ := List.mem_map.mp hd'
      exact nice_int ((show ∀ i ∈ ([1, 0, 1, 0, 2] : List Int), i.natAbs < 1000000 by decide) i hi)
    rw [delD_upd (by rw [updD_ne hAB]; exact hA), List.nil_append]
    have st := st.draw (b' := b)
    refine ⟨_, rfl, .inl ?_⟩
    have h6 := st.at_ (p, wd) (List.mem_cons_of_mem _ (List.mem_cons_of_mem _ List.mem_cons_self))
    have f6 := st.fr (p, wd) (List.mem_cons_of_mem _ (List.mem_cons_of_mem _ List.mem_cons_self))
    simp only at h6 f6
    refine ⟨⟨_, _, rfl, st.at_ _ List.mem_cons_self⟩, _, seq_ref h6, ?_⟩
    intro A2 hA2
    have hAB2 : A2 ≠ B := fun e => by rw [e, st.bag] at hA2; cases hA2
    have hAp2 : p ≠ A2 := fun e => by rw [← e, h6] at hA2; cases hA2
    have hbag := st.bag
    rw [show updD (updD N B b.o) A2 MO.busy = updD (updD (updD N B b.o) B b.o) A2 .busy by rw [updD_updD]]
    refine lcL_drawn hAB2 (fun d => ∃ ts : List Int, ts.length = m ∧ (∀ t ∈ ts, 0 ≤ t ∧ t ≤ 100) ∧ d = iT ts) (fun b' => by show (updD (updD (updD N B b.o) B b'.o) A2 .busy) p = (updD N B b.o) p; rw [updD_ne hAp2, updD_ne f6.2]) _ [] b hb (small_line (by simp; omega)) (fun d hd b2 k hb2 hk => ?_) (fun b2 zs hb2 hzl hzr => ?_)
    · refine ⟨_, rfl, small_line (by simp), B, _, rfl, ⟨b2, hb2, by rw [updD_ne (Ne.symm hAB2), updD_same]⟩, by simp, by simp, fun b' d hb' hd => ?_⟩
      rw [updD_swap hAB2]
      have hk' : ∃ k : Nat, k ≤ 2 ∧ d = .int k := by
        simp only [List.mem_cons, List.not_mem_nil, or_false] at hd
        rcases hd with rfl | rfl | rfl | rfl
        · exact ⟨0, by omega, rfl⟩
        · exact ⟨1, by omega, rfl⟩
        · exact ⟨0, by omega, rfl⟩
        · exact ⟨2, by omega, rfl⟩
      obtain ⟨kk, hkk, rfl⟩ := hk'
      refine ⟨B, m, kk, rfl, ⟨b', hb', by rw [updD_ne (Ne.symm hAB2), updD_same]⟩, hm1, by omega, by omega, fun b'' d hb'' hd => ?_⟩
      rw [updD_swap hAB2]
      exact hk b'' d hb'' hd
    rw [delD_upd (by rw [updD_ne hAB2]; exact hA2), List.nil_append, updD_updD]
    obtain ⟨bs, rfl, hbl, hbs⟩ := tails_of_ds hzr
    have st : StH M (updD N B b2.o) B b2 [(p3, xs.map Day.d), (p2, ks), (p, wd)] := by
      have := st.draw (b' := b2)
      rw [updD_updD] at this
      exact this
    simp only [List.length_cons] at hl
    refine ⟨_, rfl, .inl ⟨small_line (by simp), _, st.at_ _ List.mem_cons_self, lt_line (by simp; omega), ?_⟩⟩
    have st := st.put (ys := xs.map Day.d ++ [.tup [.tup ys, .tup (bs.map iT)]])
    have e : xs.map Day.d ++ [.tup [.tup ys, .tup (bs.map iT)]] = (xs ++ [(⟨.tup ys, bs⟩ : Day)]).map Day.d := by rw [List.map_append]; rfl
    rw [e] at st
    show dForL _ _ _ _ _ _ _ (updD _ p3 (.lst (xs.map Day.d ++ [.tup [.tup ys, .tup (bs.map iT)]])))
    rw [e]
    refine house_l3 K hm1 hm hkl hwl ds _ b2 (xs ++ [(⟨.tup ys, bs⟩ : Day)]) _ _ hb2 st (by simp; omega) (fun x hx' => ?_) (fun N b xs' o12 o13 h1 h2 h3 h4 => q N b xs' o12 o13 h1 h2 (by rw [h3]; simp; omega) h4)
    rcases List.mem_append.mp hx' with h | h
    · exact hx x h
    · obtain rfl := List.mem_singleton.mp h
      refine ⟨by rw [hbl, hzl], hbs, ?_⟩
      exact (nice_tup (w := 20) (k := 0) (n := 10) hyr (by omega)).mono (by omega) (by omega)
theorem b__law_house (K : PySem.W.Frag) (_ : ErrK K) : Body 16 5 (p__law_house K) (t__law_house K) := by
  rintro ds M Q E ⟨B, m, walls, days, rfl, ⟨b, hb, hB⟩, hm1, hm, hw1, hw, hd, q⟩
  have hB' : ∃ o, M B = some o ∧ o ≠ .busy := ⟨_, hB, bag_nb b⟩
  have st : StH M M B b [] := .start hB
  refine ⟨rfl, B, walls, rfl, ⟨b, hb, hB⟩, by omega, fun b d hb hd => ?_⟩
  obtain ⟨ns, hnl, hnd, hnm, rfl⟩ := hd
  have st := st.draw (b' := b)
  refine ⟨by simp, fun p hp => ?_⟩
  have st := st.new (xs := []) hp
  refine ⟨_, rfl, ?_⟩
  refine house_l1 K hm1 hm (fun _ => trivial) ns _ b [] none hb st hnm (by simp; omega) (fun w h => by cases h) fun N b ws o7 hb st hwn hwo => ?_
  have hwlen : ws.length = walls := by have := congrArg List.length hwn; simpa [hnl] using this
  refine ⟨by simp, fun p2 hp2 => ?_⟩
  have st := st.new (xs := []) hp2
  refine ⟨B, 1, rfl, ⟨b, hb, st.bag⟩, by omega, fun b d hb hd => ?_⟩
  obtain ⟨ks, hkl, hknd, hkm, rfl⟩ := hd
  have st := st.draw (b' := b)
  refine ⟨_, rfl, ?_⟩
  refine house_l2 K hm1 hm (ns := ns) (by intro e; rw [e] at hnl; simp at hnl; omega) (by omega) hnm (fun _ => trivial) ks _ b [] _ none none hb st hkm (by simp; omega) (fun k h => by cases h) fun N b kds o7 o9 o10 hb st hkdl hkdn => ?_
  refine ⟨by simp, fun p3 hp3 => ?_⟩
  have st := st.new (xs := []) hp3
  refine ⟨by omega, by omega, ?_⟩
  refine house_l3 K hm1 hm (by rw [hkdl, hkl]; simp) (by rw [List.length_map]; omega) _ _ b [] none none hb st (by simp [rngD]; omega) (fun x h => by cases h) fun N b xs o12 o13 hb st hxl hxo => ?_
  refine ⟨_, lst_ref (st.at_ _ (List.mem_cons_of_mem _ (List.mem_cons_of_mem _ List.mem_cons_self))), .inl ⟨_, lst_ref (st.at_ _ (List.mem_cons_of_mem _ List.mem_cons_self)), .inl ⟨_, lst_ref (st.at_ _ List.mem_cons_self), .inl ⟨small_line (by simp), ?_⟩⟩⟩⟩
  refine st.back hB' q hb ⟨⟨m, ws, .tup kds, xs⟩, ⟨hm1, hm, (show 1 ≤ ws.length by omega), (show ws.length ≤ 3 by omega), ?_, hwo, ?_, ?_, ?_⟩, rfl⟩
  · show (ws.map (·.name)).Nodup
    rw [hwn]
    exact hnd
  · exact (nice_tup (w := 2000) (k := 3) (n := 10) hkdn (by rw [hkdl, hkl]; simp)).mono (by omega) (by omega)
  · show xs.length ≤ 3
    rw [hxl]; simp [rngD]; omega
  · intro x hx
    obtain ⟨h1, h2, h3⟩ := hxo x hx
    exact ⟨by rw [h1, List.length_map], h2, h3⟩
end K38
end

section
set_option Elab.async false
set_option linter.all false
set_option maxRecDepth 100000
set_option maxHeartbeats 400000
namespace K38
open PySem PySem.Spec PyProof.Rows L2 DL
theorem sum_le : ∀ {cs : List Int}, (∀ c ∈ cs, c ≤ 2) → cs.sum ≤ 2 * cs.length
  | [], _ => by simp
  | c :: cs, h => by
    have h1 := sum_le (cs := cs) fun d hd => h d (List.mem_cons_of_mem _ hd)
    have h2 := h c List.mem_cons_self
    rw [List.sum_cons, List.length_cons]
    omega
theorem sum_ge : ∀ {cs : List Int}, (∀ c ∈ cs, 0 ≤ c) → 0 ≤ cs.sum
  | [], _ => by simp
  | c :: cs, h => by
    have h1 := sum_ge (cs := cs) fun d hd => h d (List.mem_cons_of_mem _ hd)
    have h2 := h c List.mem_cons_self
    rw [List.sum_cons]
    omega
theorem room_bnd {w : Wall} {m : Nat} {ss : List Nat} {ts : List Int} (hw : WOk m w) (hm : m ≤ 4) (hok : SizesOk w.counts ss) (h : roomI w ss = some ts) : ∀ t ∈ ts, 0 ≤ t ∧ t ≤ 8 := by
  unfold roomI at h
  cases z : layI w.counts (sortN ss) with
  | none => rw [z] at h; cases h
  | some r =>
    rw [z] at h
    have e := (Option.some.inj h).symm
    subst e
    obtain ⟨h1, _, h3⟩ := layI_counts _ _ _ (fun s h => (sortN_ok hok s h).1) z
    have hr : ∀ c ∈ r.1, c ≤ 2 := fun c hc => by
      obtain ⟨i, hi, rfl⟩ := List.mem_iff_getElem.mp hc
      have hi' : i < w.counts.length := by omega
      have := h3 i hi'
      have h5 := (hw.2.1 _ (List.getElem_mem hi')).2
      simp only [List.getD_eq_getElem?_getD, List.getElem?_eq_getElem hi, List.getElem?_eq_getElem hi', Option.getD_some] at this
      have : 0 ≤ cntI r.2 i := by unfold cntI; omega
      omega
    intro t ht
    obtain ⟨u, hu, rfl⟩ := List.mem_map.mp ht
    unfold tailsI at hu
    obtain ⟨i, hi, rfl⟩ := List.mem_map.mp hu
    have h6 := sum_le (cs := r.1.drop i) fun c hc => hr c (List.mem_of_mem_drop hc)
    have h7 : (r.1.drop i).length ≤ 4 := by have := hw.1; simp; omega
    have hj := hw.2.2.1
    split <;> omega
theorem made_bnd {w : Wall} {m : Nat} {ss : List Nat} {bs ts : List Int} (hw : WOk m w) (hm : m ≤ 4) (hok : SizesOk w.counts ss) (hbl : bs.length = w.counts.length) (hb : ∀ t ∈ bs, 0 ≤ t ∧ t ≤ 100) (h : madeI w bs ss = some ts) : ts.length = m ∧ ∀ t ∈ ts, -100 ≤ t ∧ t ≤ 100 := by
  unfold madeI at h
  cases z : roomI w ss with
  | none => rw [z] at h; cases h
  | some us =>
    rw [z] at h
    have e := (Option.some.inj h).symm
    subst e
    have hul := roomI_len hok z
    have hub := room_bnd hw hm hok z
    have hzl : (List.zipWith (· - ·) us bs).length = m := by have := hw.1; simp; omega
    refine ⟨by simp [fallI] at hzl ⊢; omega, fun t ht => ?_⟩
    obtain ⟨i, hi, rfl⟩ := List.mem_iff_getElem.mp ht
    have hi' : i < (List.zipWith (· - ·) us bs).length := by simpa [fallI] using hi
    obtain ⟨j, hj, ej⟩ := (fall_at hi').1
    have : (fallI (List.zipWith (· - ·) us bs))[i] = (fallI (List.zipWith (· - ·) us bs)).getD i 0 := by simp [List.getD_eq_getElem?_getD, hi]
    have hju : j < us.length := by have := hw.1; omega
    have hjb : j < bs.length := by have := hw.1; omega
    rw [this, ej, zw_at hju hjb]
    have g1 := hub _ (List.getElem_mem hju)
    have g2 := hb _ (List.getElem_mem hjb)
    simp only [List.getD_eq_getElem?_getD, List.getElem?_eq_getElem hju, List.getElem?_eq_getElem hjb, Option.getD_some]
    omega
theorem nice_opt {o : Option (List Int)} (h : ∀ ts, o = some ts → ts.length ≤ 10 ∧ ∀ t ∈ ts, t.natAbs < 1000000) : Nice 210 1 (optI o) := by
  cases o with
  | none => exact nice_non.mono (by omega) (by omega)
  | some ts => exact nice_ints (n := 10) (h ts rfl).2 (h ts rfl).1
theorem nice_wall {m : Nat} {w : Wall} (hm : m ≤ 4) (h : WOk m w) : Nice 1000 2 w.d := by
  obtain ⟨h1, h2, h3, h4, h5⟩ := h
  refine (nice_tup (w := 210) (k := 1) (n := 3) (ds := [.str w.name, iT w.counts, .int w.jams]) (fun d hd => ?_) (by simp)).mono (by omega) (by omega)
  simp only [List.mem_cons, List.not_mem_nil, or_false] at hd
  rcases hd with rfl | rfl | rfl
  · exact (nice_name h5).mono (by omega) (by omega)
  · exact (nice_ints (n := 10) (fun i hi => by have := h2 i hi; omega) (by omega)).mono (by omega) (by omega)
  · exact (nice_int (by omega)).mono (by omega) (by omega)
theorem nice_day {m k : Nat} {x : Day} (hm : m ≤ 4) (hk : k ≤ 3) (h : DOk m k x) : Nice 10000 11 x.d := by
  obtain ⟨h1, h2, h3⟩ := h
  refine (nice_tup (w := 1000) (k := 10) (n := 2) (ds := [x.asks, .tup (x.backs.map iT)]) (fun d hd => ?_) (by simp)).mono (by omega) (by omega)
  simp only [List.mem_cons, List.not_mem_nil, or_false] at hd
  rcases hd with rfl | rfl
  · exact h3
  · refine (nice_tup (w := 210) (k := 1) (n := 4) (fun d hd => ?_) (by simp; omega)).mono (by omega) (by omega)
    obtain ⟨b, hb, rfl⟩ := List.mem_map.mp hd
    exact nice_ints (n := 10) (fun i hi => by have := (h2 b hb).2 i hi; omega) (by have := (h2 b hb).1; omega)
theorem nice_house {h : House} (ho : h.ok) : Nice 500000 13 h.d := by
  refine (nice_tup (w := 100000) (k := 12) (n := 4) (ds := [.int h.m, .tup (h.walls.map Wall.d), h.kinds, .tup (h.week.map Day.d)]) (fun d hd => ?_) (by simp)).mono (by omega) (by omega)
  simp only [List.mem_cons, List.not_mem_nil, or_false] at hd
  have hm := ho.m4
  rcases hd with rfl | rfl | rfl | rfl
  · exact (nice_int (by omega)).mono (by omega) (by omega)
  · refine (nice_tup (w := 1000) (k := 2) (n := 3) (fun d hd => ?_) (by simp; exact ho.w3)).mono (by omega) (by omega)
    obtain ⟨w, hw, rfl⟩ := List.mem_map.mp hd
    exact nice_wall hm (ho.wl w hw)
  · exact ho.kd.mono (by omega) (by omega)
  · have : Nice (3 * 10001) 12 (.tup (h.week.map Day.d)) := nice_tup (w := 10000) (k := 11) (n := 3) (fun d hd => by
      obtain ⟨x, hx, rfl⟩ := List.mem_map.mp hd
      exact nice_day hm ho.w3 (ho.dy x hx)) (by simp; exact ho.dl)
    exact this.mono (by omega) (by omega)
end K38
end

section
set_option Elab.async false
set_option linter.all false
set_option maxRecDepth 100000
set_option maxHeartbeats 400000
namespace K38
open PySem PySem.Spec PyProof.Rows L2 DL
theorem isWall_of {h : House} (ho : h.ok) {j : Nat} {w : Wall} (hw : h.walls[j]? = some w) : IsWall h w.name j w := by
  refine ⟨hw, rfl, fun i hi e => ?_⟩
  have hj := (List.getElem?_eq_some_iff.mp hw).1
  have e2 : h.names[j]? = some w.name := by show (h.walls.map (·.name))[j]? = _; rw [List.getElem?_map, hw]; rfl
  have := (List.getElem?_inj (by unfold House.names; rw [List.length_map]; omega) ho.nd).mp (e.trans e2.symm)
  omega
theorem nice_tup3 {wa wb wc k : Nat} {a b c : D} (ha : Nice wa k a) (hb : Nice wb k b) (hc : Nice wc k c) : Nice (wa + wb + wc + 4) (k + 1) (.tup [a, b, c]) := by
  have h1 := ha.weight
  have h2 := hb.weight
  have h3 := hc.weight
  have g1 := ha.depth
  have g2 := hb.depth
  have g3 := hc.depth
  refine ⟨by unfold D.pure; simp [pures, ha.pure, hb.pure, hc.pure], by unfold D.py PyData.leavesShort; simp [pys, PyData.leavesShortAll, ha.leaves, hb.leaves, hc.leaves], by unfold D.py PyData.canLay0; simp [pys, PyData.canLayAll0, ha.lay, hb.lay, hc.lay], by unfold D.py PyData.showable; simp [pys, PyData.showableAll, ha.show_, hb.show_, hc.show_], ?_, ?_⟩
  · unfold D.py PyData.depth; simp only [pys, PyData.depthAll]; omega
  · unfold D.py PyData.weight; simp only [pys, PyData.weightAll]; omega
theorem wr_body (K : PySem.W.Frag) {N : DHp} {h : House} {d j : Nat} {w : Wall} {x : Day} {bk : List Int} {ss zs : List Nat} (ho : h.ok) (hiw : IsWall h w.name j w) (hok : SizesOk w.counts ss) (hzl : zs.length ≤ 1000) (hx : h.week[d]? = some x) (hxl : x.backs.length = h.walls.length) (hbk : x.backs[j]? = some bk) (hbl : bk.length = w.counts.length) (hwm : WOk h.m w) {a0 a3 a5 a6 a7 a9 o13 o14 : Option D}
    (hal : Nice 1000000 50 (.lst [optI (roomI w ss), optI (madeI w bk ss), .bl (takesI w bk ss zs)]))
    (rd : (frz N (.tup [h.d, iT (ss.map Int.ofNat), iT (zs.map Int.ofNat)])).pure = true ∧ (frz N (.tup [h.d, iT (ss.map Int.ofNat), iT (zs.map Int.ofNat)])).py.showable = true ∧ (frz N (.tup [h.d, iT (ss.map Int.ofNat), iT (zs.map Int.ofNat)])).py.hasDict = false ∧ (frz N (.tup [h.d, iT (ss.map Int.ofNat), iT (zs.map Int.ofNat)])).py.depth ≤ 60 ∧ (frz N (.tup [h.d, iT (ss.map Int.ofNat), iT (zs.map Int.ofNat)])).py.shown.length ≤ sizeLine) {kept : Str} (hk : (frz N (.tup [h.d, iT (ss.map Int.ofNat), iT (zs.map Int.ofNat)])).py.shown = kept) {Z : DEnds} {W : DW}
    (q : Z.nx [a0, some h.d, some (.int d), a3, some (.str w.name), a5, a6, a7, some (iT (ss.map Int.ofNat)), a9, some (iT (zs.map Int.ofNat)), some (.lst [optI (roomI w ss), optI (madeI w bk ss), .bl (takesI w bk ss zs)]), some (.str kept), o13, some (.lst [optI (roomI w ss), optI (madeI w bk ss)])] N) :
    (dSeq (dSet 14 (dLst (dCons (dCall (p_room_tails K) (dCons (dVar 1) (dCons (dVar 4) (dCons (dVar 8) (dNil))))) (dCons (dCall (p_made_tails K) (dCons (dVar 1) (dCons (dVar 2) (dCons (dVar 4) (dCons (dVar 8) (dNil)))))) (dNil)))))
    (dIfS (dOr (dNot (dTru (dCall (p__law_alike K) (dCons (dOp rAddD (dVar 14) (dLst (dCons (dCall (p_takes K) (dCons (dVar 1) (dCons (dVar 2) (dCons (dVar 4) (dCons (dVar 8) (dCons (dVar 10) (dNil))))))) (dNil)))) (dCons (dVar 11) (dNil)))))) (dB (dOp rNee (dCB rReprDD (dCons (dTup (dCons (dVar 1) (dCons (dVar 8) (dCons (dVar 10) (dNil))))) (dNil))) (dVar 12)))) (dRet (dC (.bl false))) (dNext))) Z
    [a0, some h.d, some (.int d), a3, some (.str w.name), a5, a6, a7, some (iT (ss.map Int.ofNat)), a9, some (iT (zs.map Int.ofNat)), some (.lst [optI (roomI w ss), optI (madeI w bk ss), .bl (takesI w bk ss zs)]), some (.str kept), o13, o14] N W := by
  subst hk
  have hw3 : h.walls.length ≤ 1000 := by have := ho.w3; omega
  refine ⟨h, w.name, ss, rfl, hw3, .inr ⟨j, w, hiw, hok, ?_⟩⟩
  refine ⟨h, d, w.name, ss, rfl, hw3, .inr ⟨j, w, x, bk, hiw, hok, hx, hxl, hbk, hbl, ?_⟩⟩
  refine ⟨small_line (by simp), ?_⟩
  refine ⟨h, d, w.name, ss, zs, rfl, hw3, .inr ⟨j, w, x, bk, hiw, hwm.1.symm, hok, fun c hc => (hwm.2.1 c hc).1, hzl, hx, hxl, hbk, hbl, ?_⟩⟩
  refine ⟨small_line (by simp), ?_⟩
  refine ⟨_, _, rfl, rfl, small_line (by simp), ?_⟩
  obtain ⟨rd1, rd2, rd3, rd4, rd5⟩ := rd
  refine ⟨_, [optI (roomI w ss), optI (madeI w bk ss), .bl (takesI w bk ss zs)], rfl, .inl rfl, hal, ?_⟩
  refine (show ∀ (P R : Prop), R → (if (!true) = true then P else R) from fun P R h => h) _ _ ?_
  refine ⟨small_line (by simp), rd1, rd2, rd3, rd4, rd5, ?_⟩
  generalize (frz N (D.tup [h.d, iT (ss.map Int.ofNat), iT (zs.map Int.ofNat)])).py.shown = k at q ⊢
  refine (show ∀ (b : Bool) (P R : Prop), b = true → R → (if (if true = true then !b else b) = true then P else R) from fun b P R hb hp => by subst hb; exact hp) _ _ _ (decide_eq_true rfl) ?_
  exact q
theorem wr_shown (N : DHp) {h : House} {ss zs : List Nat} (ho : h.ok) (hsl : ss.length ≤ 200) (hss : ∀ s ∈ ss, 1 ≤ s ∧ s ≤ h.m) (hzl : zs.length ≤ 1000) (hzs : ∀ s ∈ zs, 1 ≤ s ∧ s ≤ h.m) : (frz N (.tup [h.d, iT (ss.map Int.ofNat), iT (zs.map Int.ofNat)])).pure = true ∧ (frz N (.tup [h.d, iT (ss.map Int.ofNat), iT (zs.map Int.ofNat)])).py.showable = true ∧ (frz N (.tup [h.d, iT (ss.map Int.ofNat), iT (zs.map Int.ofNat)])).py.hasDict = false ∧ (frz N (.tup [h.d, iT (ss.map Int.ofNat), iT (zs.map Int.ofNat)])).py.depth ≤ 60 ∧ (frz N (.tup [h.d, iT (ss.map Int.ofNat), iT (zs.map Int.ofNat)])).py.shown.length ≤ sizeLine := by
  have hm4 := ho.m4
  have nk : Nice 600000 14 (.tup [h.d, iT (ss.map Int.ofNat), iT (zs.map Int.ofNat)]) := by
    have n1 : Nice 4200 1 (iT (ss.map Int.ofNat)) := (nice_ints (n := 200) (fun i hi => by obtain ⟨s, hs, rfl⟩ := List.mem_map.mp hi; have := hss s hs; simp only [Int.ofNat_eq_natCast]; omega) (by simpa using hsl))
    have n2 : Nice 21000 1 (iT (zs.map Int.ofNat)) := (nice_ints (n := 1000) (fun i hi => by obtain ⟨s, hs, rfl⟩ := List.mem_map.mp hi; have := hzs s hs; simp only [Int.ofNat_eq_natCast]; omega) (by simpa using hzl))
    exact (nice_tup3 (nice_house ho) (n1.mono (Nat.le_refl _) (by omega)) (n2.mono (Nat.le_refl _) (by omega))).mono (by omega) (by omega)
  have hf : frz N (.tup [h.d, iT (ss.map Int.ofNat), iT (zs.map Int.ofNat)]) = (.tup [h.d, iT (ss.map Int.ofNat), iT (zs.map Int.ofNat)]) := by
    rfl
  rw [hf]
  exact ⟨nk.pure, nk.show_, nk.noDict, Nat.le_trans nk.depth (by omega), nk.fits (by omega)⟩
theorem wr_rest (K : PySem.W.Frag) {N : DHp} {h : House} {d j : Nat} {w : Wall} {x : Day} {bk : List Int} {ss zs : List Nat} (ho : h.ok) (hw : h.walls[j]? = some w) (hiw : IsWall h w.name j w) (hok : SizesOk w.counts ss) (hsl : ss.length ≤ 200) (hss : ∀ s ∈ ss, 1 ≤ s ∧ s ≤ h.m) (hzl : zs.length ≤ 1000) (hzs : ∀ s ∈ zs, 1 ≤ s ∧ s ≤ h.m) (hx : h.week[d]? = some x) (hxm : DOk h.m h.walls.length x) (hbk : x.backs[j]? = some bk) (hbm : bk.length = h.m ∧ ∀ t ∈ bk, 0 ≤ t ∧ t ≤ 100) (hwm : WOk h.m w) {a0 a5 a6 : Option D} {Z : DEnds} {W : DW} (q : Z.rt (.bl true) N) :
    (dSeq (dSet 11 (dLst (dCons (dCall (p__law_room_tails K) (dCons (dOp rIxDD (dOp rIxDD (dVar 1) (dC (.int 1))) (dVar 3)) (dCons (dVar 8) (dNil)))) (dCons (dVar 9) (dCons (dCall (p__law_takes K) (dCons (dOp rIxDD (dOp rIxDD (dVar 1) (dC (.int 1))) (dVar 3)) (dCons (dVar 7) (dCons (dVar 8) (dCons (dVar 10) (dNil)))))) (dNil))))))
    (dSeq (dSet 12 (dCB rReprDD (dCons (dTup (dCons (dVar 1) (dCons (dVar 8) (dCons (dVar 10) (dNil))))) (dNil))))
    (dSeq (dFor (dRng1 (dCons (dC (.int 2)) (dNil))) (.nm 13) (dSeq (dSet 14 (dLst (dCons (dCall (p_room_tails K) (dCons (dVar 1) (dCons (dVar 4) (dCons (dVar 8) (dNil))))) (dCons (dCall (p_made_tails K) (dCons (dVar 1) (dCons (dVar 2) (dCons (dVar 4) (dCons (dVar 8) (dNil)))))) (dNil)))))
    (dIfS (dOr (dNot (dTru (dCall (p__law_alike K) (dCons (dOp rAddD (dVar 14) (dLst (dCons (dCall (p_takes K) (dCons (dVar 1) (dCons (dVar 2) (dCons (dVar 4) (dCons (dVar 8) (dCons (dVar 10) (dNil))))))) (dNil)))) (dCons (dVar 11) (dNil)))))) (dB (dOp rNee (dCB rReprDD (dCons (dTup (dCons (dVar 1) (dCons (dVar 8) (dCons (dVar 10) (dNil))))) (dNil))) (dVar 12)))) (dRet (dC (.bl false))) (dNext))))
    (dRet (dC (.bl true)))))) Z [a0, some h.d, some (.int d), some (.int j), some (.str w.name), a5, a6, some (iT bk), some (iT (ss.map Int.ofNat)), some (optI (madeI w bk ss)), some (iT (zs.map Int.ofNat)), none, none, none, none] N W := by
  have hm1 := ho.m1
  have hm4 := ho.m4
  have hc1 := hwm.1
  refine ⟨_, _, rfl, rfl, _, _, rfl, atI_map hw, w, ss, rfl, hok, ?_⟩
  refine ⟨_, _, rfl, rfl, _, _, rfl, atI_map hw, w, bk, ss, zs, rfl, hok, hzl, by omega, ?_⟩
  have rd := wr_shown N ho hsl hss hzl hzs
  obtain ⟨rd1, rd2, rd3, rd4, rd5⟩ := id rd
  refine ⟨small_line (by simp), ?_⟩
  refine ⟨small_line (by simp), rd1, rd2, rd3, rd4, rd5, ?_⟩
  generalize hk : (frz N (D.tup [h.d, iT (ss.map Int.ofNat), iT (zs.map Int.ofNat)])).py.shown = kept
  have hal : Nice 1000000 50 (.lst [optI (roomI w ss), optI (madeI w bk ss), .bl (takesI w bk ss zs)]) := by
    refine (nice_lst (w := 210) (k := 1) (n := 3) (fun d hd => ?_) (by simp)).mono (by omega) (by omega)
    simp only [List.mem_cons, List.not_mem_nil, or_false] at hd
    rcases hd with rfl | rfl | rfl
    · exact nice_opt fun ts hts => ⟨by have := roomI_len hok hts; omega, fun t ht => by have := room_bnd hwm hm4 hok hts t ht; omega⟩
    · exact nice_opt fun ts hts => by
        have := made_bnd hwm hm4 hok (by omega) hbm.2 hts
        exact ⟨by omega, fun t ht => by have := this.2 t ht; omega⟩
    · exact (nice_bl _).mono (by omega) (by omega)
  have hbl : bk.length = w.counts.length := by omega
  refine ⟨by omega, by omega, ?_⟩
  refine ⟨trivial, _, rfl, wr_body K ho hiw hok hzl hx hxm.1 hbk hbl hwm hal rd hk ?_⟩
  refine ⟨trivial, _, rfl, wr_body K ho hiw hok hzl hx hxm.1 hbk hbl hwm hal rd hk ?_⟩
  refine ⟨trivial, ?_⟩
  exact q
theorem b__law_wall_right (K : PySem.W.Frag) (_ : ErrK K) : Body 15 4 (p__law_wall_right K) (t__law_wall_right K) := by
  rintro ds M Q E ⟨B, h, d, j, rfl, ⟨b, hb, hB⟩, ho, hd, hj, q⟩
  have hB' : ∃ o, M B = some o ∧ o ≠ .busy := ⟨_, hB, bag_nb b⟩
  have hx := List.getElem?_eq_getElem hd
  generalize h.week[d] = x at hx
  have hw := List.getElem?_eq_getElem hj
  generalize h.walls[j] = w at hw
  have hwm := ho.wl w (List.mem_of_getElem? hw)
  have hxm := ho.dy x (List.mem_of_getElem? hx)
  have hm1 := ho.m1
  have hm4 := ho.m4
  have hjb : j < x.backs.length := by rw [hxm.1]; exact hj
  have hbk := List.getElem?_eq_getElem hjb
  generalize x.backs[j] = bk at hbk
  have hbm := hxm.2.1 bk (List.mem_of_getElem? hbk)
  have st : StH M M B b [] := .start hB
  have hiw := isWall_of ho hw
  have hs0 := sum_ge (cs := w.counts) fun c hc => (hwm.2.1 c hc).1
  have hs1 := sum_le (cs := w.counts) fun c hc => (hwm.2.1 c hc).2
  obtain ⟨sN, hsN⟩ := Int.eq_ofNat_of_zero_le hs0
  refine ⟨rfl, _, _, rfl, rfl, _, _, rfl, atI_map hw, ?_⟩
  refine ⟨_, _, rfl, rfl, _, _, rfl, atI_map hx, _, _, rfl, rfl, _, _, rfl, atI_map hbk, ?_⟩
  refine ⟨_, _, rfl, rfl, w.counts, rfl, ?_⟩
  rw [hsN]
  refine ⟨B, h.m, sN, rfl, ⟨b, hb, hB⟩, hm1, hm4, by omega, fun b1 d' hb1 hd' => ?_⟩
  obtain ⟨ss, hsl, hss, rfl⟩ := hd'
  have st := st.draw (b' := b1)
  have hok : SizesOk w.counts ss := ⟨fun s hs => by have := hss s hs; omega, by omega, by omega⟩
  refine ⟨w, bk, ss, rfl, hok, by omega, ?_⟩
  refine ⟨_, _, rfl, rfl, B, h.m, madeI w bk ss, rfl, ⟨b1, hb1, st.bag⟩, hm1, hm4, fun ts hts => ?_, fun b d' hb hd' => ?_⟩
  · have := made_bnd hwm hm4 hok (by omega) hbm.2 hts
    exact ⟨this.1, fun t ht => (this.2 t ht).2⟩
  obtain ⟨zs, hzl, hzs, rfl⟩ := hd'
  have st := st.draw (b' := b)
  generalize updD (updD M B b1.o) B b.o = N at st ⊢
  exact wr_rest K ho hw hiw hok hsl hss hzl hzs hx hxm hbk hbm hwm (st.back hB' q hb rfl)
end K38
end

section
set_option Elab.async false
set_option linter.all false
set_option maxRecDepth 100000
set_option maxHeartbeats 400000
namespace K38
open PySem PySem.Spec PyProof.Rows L2 DL
theorem law_l5 (K : PySem.W.Frag) {M : DHp} {B : Addr} {h : House} {d : Nat} (ho : h.ok) (hd : d < h.week.length) {a0 a2 a6 : Option D} {Z : DEnds} {W : DW} {chk : DHp → Prop} (hc : ∀ N, chk N) : ∀ (ds : List Nat) (b : Bag) (o5 : Option D), b.ok → (∀ j ∈ ds, j < h.walls.length) →
    (∀ (b : Bag) (o5 : Option D), b.ok → Z.nx [a0, some (.ref B), a2, some h.d, some (.int d), o5, a6] (updD M B b.o)) →
    dForL (.nm 5) (dIfS (dNot (dTru (dCall (p__law_wall_right K) (dCons (dVar 1) (dCons (dVar 3) (dCons (dVar 4) (dCons (dVar 5) (dNil)))))))) (dRet (dC (.bl false))) (dNext)) Z W chk (ds.map fun (j : Nat) => D.int (0 + (j : Int))) [a0, some (.ref B), a2, some h.d, some (.int d), o5, a6] (updD M B b.o)
  | [], b, o5, hb, _, q => ⟨hc _, q b o5 hb⟩
  | j :: ds, b, o5, hb, hj, q => by
    refine ⟨hc _, _, rfl, ?_⟩
    refine ⟨B, h, d, j, by simp, ⟨b, hb, updD_same⟩, ho, hd, hj j List.mem_cons_self, fun b' d' hb' hd' => ?_⟩
    obtain rfl := hd'
    rw [updD_updD]
    exact law_l5 K ho hd hc ds b' _ hb' (fun j hj' => hj j (List.mem_cons_of_mem _ hj')) q
theorem law_l4 (K : PySem.W.Frag) {M : DHp} {B : Addr} {h : House} (ho : h.ok) {a0 a2 a6 : Option D} {Z : DEnds} {W : DW} {chk : DHp → Prop} (hc : ∀ N, chk N) : ∀ (ds : List Nat) (b : Bag) (o4 o5 : Option D), b.ok → (∀ d ∈ ds, d < h.week.length) →
    (∀ (b : Bag) (o4 o5 : Option D), b.ok → Z.nx [a0, some (.ref B), a2, some h.d, o4, o5, a6] (updD M B b.o)) →
    dForL (.nm 4) (dFor (dRng1 (dCons (dCB rLenD (dCons (dOp rIxDD (dVar 3) (dC (.int 1))) (dNil))) (dNil))) (.nm 5) (dIfS (dNot (dTru (dCall (p__law_wall_right K) (dCons (dVar 1) (dCons (dVar 3) (dCons (dVar 4) (dCons (dVar 5) (dNil)))))))) (dRet (dC (.bl false))) (dNext))) Z W chk (ds.map fun (j : Nat) => D.int (0 + (j : Int))) [a0, some (.ref B), a2, some h.d, o4, o5, a6] (updD M B b.o)
  | [], b, o4, o5, hb, _, q => ⟨hc _, q b o4 o5 hb⟩
  | d :: ds, b, o4, o5, hb, hj, q => by
    have hw3 := ho.w3
    refine ⟨hc _, _, rfl, ?_⟩
    refine ⟨_, _, rfl, rfl, _, rfl, ?_⟩
    refine ⟨by simp <;> omega, by simp; omega, ?_⟩
    have hd := hj d List.mem_cons_self
    have e1 : rngD 0 ((h.walls.map Wall.d).length : Int).toNat = (List.range h.walls.length).map fun (j : Nat) => D.int (0 + (j : Int)) := by simp [rngD]
    show dForL _ _ _ W _ (rngD 0 ((h.walls.map Wall.d).length : Int).toNat) [a0, some (.ref B), a2, some h.d, some (.int (0 + (d : Int))), o5, a6] _
    rw [e1, Int.zero_add (d : Int)]
    exact law_l5 K ho hd (fun _ => trivial) _ b o5 hb (fun j hj => List.mem_range.mp hj) (fun b o5 hb => law_l4 K ho hc ds b _ o5 hb (fun j hj' => hj j (List.mem_cons_of_mem _ hj')) q)
theorem not_named {h : House} (ho : h.ok) {n : Str} (hn : n ∉ someNames) : n ∉ h.names := fun hm => by
  obtain ⟨w, hw, rfl⟩ := List.mem_map.mp hm
  exact hn (ho.wl w hw).2.2.2.2
theorem law_heard (K : PySem.W.Frag) {N : DHp} {P : Addr} {h : House} (ho : h.ok) (ht : TblsOk [(P, "law.<locals>.<lambda>")] N) {a0 a1 a2 a4 a5 a6 : Option D} {Z : DEnds} {W : DW}
    (q : ∀ p, N p = none → Z.nx [a0, a1, a2, some h.d, a4, a5, some (.ref p)] (updD N p (.lst [.tup [.str "nowall", .str "nobody"], .tup [.str "nowall", .str ""], .tup [.str "nowall", .str "nobody"]]))) :
    (dSeq (dSet 6 (dLstM (dCons (dLam [(P, "law.<locals>.<lambda>")] (h__law_heard K) (dCall (p_room_tails K) (dCons (dVar 3) (dCons (dC (.str "nobody")) (dCons (dTup (dNil)) (dNil)))))) (dNil))))
    (dSeq (dDrop (dMt rAppendD isLst (dVar 6) (dCons (dLam [(P, "law.<locals>.<lambda>")] (h__law_heard K) (dCall (p_takes K) (dCons (dVar 3) (dCons (dC (.int 0)) (dCons (dC (.str "")) (dCons (dTup (dNil)) (dCons (dTup (dNil)) (dNil)))))))) (dNil))))
    (dSeq (dDrop (dMt rAppendD isLst (dVar 6) (dCons (dLam [(P, "law.<locals>.<lambda>")] (h__law_heard K) (dCall (p_made_tails K) (dCons (dVar 3) (dCons (dC (.int 0)) (dCons (dC (.str "nobody")) (dCons (dOp rMulD (dTup (dCons (dC (.int 1)) (dNil))) (dC (.int 99))) (dNil))))))) (dNil))))
    (dIfS (dNot (dTru (dCall (p__law_alike K) (dCons (dVar 6) (dCons (dLst (dCons (dTup (dCons (dC (.str "nowall")) (dCons (dC (.str "nobody")) (dNil)))) (dCons (dTup (dCons (dC (.str "nowall")) (dCons (dC (.str "")) (dNil)))) (dCons (dTup (dCons (dC (.str "nowall")) (dCons (dC (.str "nobody")) (dNil)))) (dNil))))) (dNil)))))) (dRet (dC (.bl false))) (dNext))))) Z [a0, a1, a2, some h.d, a4, a5, a6] N W := by
  have hw3 : h.walls.length ≤ 1000 := by have := ho.w3; omega
  refine ⟨ht, "nobody", fun Qa Ea e => ⟨small_line (by simp), h, "nobody", [], rfl, hw3, .inl ⟨not_named ho (by decide), e⟩⟩, ?_⟩
  refine ⟨small_line (by simp), fun p hp => ?_⟩
  refine ⟨⟨p, _, rfl, updD_same⟩, tbls_lst ht hp, "", fun Qa Ea e => ⟨small_line (by simp), small_line (by simp), h, 0, "", [], [], rfl, hw3, .inl ⟨not_named ho (by decide), e⟩⟩, ?_⟩
  refine ⟨_, updD_same, small_line (by simp), ?_⟩
  rw [updD_updD]
  refine ⟨⟨p, _, rfl, updD_same⟩, tbls_lst ht hp, "nobody", fun Qa Ea e => ⟨small_line (by simp), by simp, by omega, by omega, by simp, h, 0, "nobody", List.replicate 99 1, by rfl, hw3, .inl ⟨not_named ho (by decide), e⟩⟩, ?_⟩
  refine ⟨_, updD_same, small_line (by simp), ?_⟩
  rw [updD_updD]
  refine ⟨small_line (by simp), small_line (by simp), small_line (by simp), small_line (by simp), .ref p, _, rfl, .inr ⟨p, rfl, updD_same⟩, ?_, ?_⟩
  · have n1 : Nice 20 0 (.str "nowall") := nice_str (by decide +kernel)
    have n2 : Nice 20 0 (.str "nobody") := nice_str (by decide +kernel)
    have n3 : Nice 20 0 (.str "") := nice_str (by decide +kernel)
    exact (nice_lst (w := 42) (k := 1) (n := 3) (fun d hd => by
      simp only [List.mem_cons, List.not_mem_nil, or_false] at hd
      rcases hd with rfl | rfl | rfl
      · exact nice_pair n1 n2
      · exact nice_pair n1 n3
      · exact nice_pair n1 n2) (by simp)).mono (by omega) (by omega)
  · exact q p hp
theorem law_l2 (K : PySem.W.Frag) {P B : Addr} {a0 : Option D} {Z : DEnds} {W : DW} {chk : DHp → Prop} (hc : ∀ N, chk N) : ∀ (ds : List D) (b : Bag) (N : DHp) (o2 o3 o4 o5 o6 : Option D), b.ok → N B = some b.o → TblsOk [(P, "law.<locals>.<lambda>")] N →
    (∀ (N : DHp) (o2 o3 o4 o5 o6 : Option D), Z.nx [a0, some (.ref B), o2, o3, o4, o5, o6] N) →
    dForL (.nm 2) (dSeq (dSet 3 (dCall (p__law_house K) (dCons (dVar 1) (dCons (dOp rAddD (dC (.int 1)) (dCall (p__law_take K) (dCons (dVar 1) (dCons (dC (.int 4)) (dNil))))) (dCons (dOp rAddD (dC (.int 1)) (dCall (p__law_take K) (dCons (dVar 1) (dCons (dC (.int 3)) (dNil))))) (dCons (dC (.int 1)) (dCons (dOp rAddD (dC (.int 1)) (dCall (p__law_take K) (dCons (dVar 1) (dCons (dC (.int 3)) (dNil))))) (dNil))))))))
    (dSeq (dFor (dRng1 (dCons (dCB rLenD (dCons (dOp rIxDD (dVar 3) (dC (.int 3))) (dNil))) (dNil))) (.nm 4) (dFor (dRng1 (dCons (dCB rLenD (dCons (dOp rIxDD (dVar 3) (dC (.int 1))) (dNil))) (dNil))) (.nm 5) (dIfS (dNot (dTru (dCall (p__law_wall_right K) (dCons (dVar 1) (dCons (dVar 3) (dCons (dVar 4) (dCons (dVar 5) (dNil)))))))) (dRet (dC (.bl false))) (dNext))))
    (dSeq (dSet 6 (dLstM (dCons (dLam [(P, "law.<locals>.<lambda>")] (h__law_heard K) (dCall (p_room_tails K) (dCons (dVar 3) (dCons (dC (.str "nobody")) (dCons (dTup (dNil)) (dNil)))))) (dNil))))
    (dSeq (dDrop (dMt rAppendD isLst (dVar 6) (dCons (dLam [(P, "law.<locals>.<lambda>")] (h__law_heard K) (dCall (p_takes K) (dCons (dVar 3) (dCons (dC (.int 0)) (dCons (dC (.str "")) (dCons (dTup (dNil)) (dCons (dTup (dNil)) (dNil)))))))) (dNil))))
    (dSeq (dDrop (dMt rAppendD isLst (dVar 6) (dCons (dLam [(P, "law.<locals>.<lambda>")] (h__law_heard K) (dCall (p_made_tails K) (dCons (dVar 3) (dCons (dC (.int 0)) (dCons (dC (.str "nobody")) (dCons (dOp rMulD (dTup (dCons (dC (.int 1)) (dNil))) (dC (.int 99))) (dNil))))))) (dNil))))
    (dIfS (dNot (dTru (dCall (p__law_alike K) (dCons (dVar 6) (dCons (dLst (dCons (dTup (dCons (dC (.str "nowall")) (dCons (dC (.str "nobody")) (dNil)))) (dCons (dTup (dCons (dC (.str "nowall")) (dCons (dC (.str "")) (dNil)))) (dCons (dTup (dCons (dC (.str "nowall")) (dCons (dC (.str "nobody")) (dNil)))) (dNil))))) (dNil)))))) (dRet (dC (.bl false))) (dNext))))))) Z W chk ds [a0, some (.ref B), o2, o3, o4, o5, o6] N
  | [], b, N, o2, o3, o4, o5, o6, hb, hN, ht, q => ⟨hc _, q N o2 o3 o4 o5 o6⟩
  | d :: ds, b, N, o2, o3, o4, o5, o6, hb, hN, ht, q => by
    refine ⟨hc _, _, rfl, ?_⟩
    refine ⟨B, 4, rfl, ⟨b, hb, hN⟩, by omega, by omega, fun b1 d1 hb1 hd1 => ?_⟩
    obtain ⟨v1, hv1, rfl⟩ := hd1
    refine ⟨B, 3, rfl, ⟨b1, hb1, updD_same⟩, by omega, by omega, fun b2 d2 hb2 hd2 => ?_⟩
    obtain ⟨v2, hv2, rfl⟩ := hd2
    rw [updD_updD]
    refine ⟨B, 3, rfl, ⟨b2, hb2, updD_same⟩, by omega, by omega, fun b3 d3 hb3 hd3 => ?_⟩
    obtain ⟨v3, hv3, rfl⟩ := hd3
    rw [updD_updD]
    refine ⟨B, 1 + v1, 1 + v2, 1 + v3, rfl, ⟨b3, hb3, updD_same⟩, by omega, by omega, by omega, by omega, by omega, fun b4 d4 hb4 hd4 => ?_⟩
    obtain ⟨h, ho, rfl⟩ := hd4
    rw [updD_updD]
    have hwk := ho.dl
    refine ⟨_, _, rfl, rfl, _, rfl, ?_⟩
    refine ⟨by simp <;> omega, by simp; omega, ?_⟩
    have e1 : rngD 0 ((h.week.map Day.d).length : Int).toNat = (List.range h.week.length).map fun (j : Nat) => D.int (0 + (j : Int)) := by simp [rngD]
    show dForL _ _ _ W _ (rngD 0 ((h.week.map Day.d).length : Int).toNat) [a0, some (.ref B), some d, some h.d, o4, o5, o6] _
    rw [e1]
    refine law_l4 K ho (fun _ => trivial) _ b4 o4 o5 hb4 (fun j hj => List.mem_range.mp hj) (fun b5 o4 o5 hb5 => ?_)
    have ht5 : TblsOk [(P, "law.<locals>.<lambda>")] (updD N B b5.o) := by
      refine ⟨fun a q h => ?_, fun t htm => ?_⟩
      · by_cases e : a = B
        · subst e; rw [updD_same] at h; cases h
        · rw [updD_ne e] at h; exact ht.1 a q h
      · have h1 := ht.2 t htm
        rw [updD_ne (fun e => by rw [e, hN] at h1; cases h1)]
        exact h1
    refine law_heard K ho ht5 fun p hp => ?_
    have hpB : B ≠ p := fun e => by rw [← e, updD_same] at hp; cases hp
    exact law_l2 K hc ds b5 _ _ _ _ _ _ hb5 (by rw [updD_ne hpB, updD_same]) (tbls_lst ht5 hp) q
theorem b_law (K : PySem.W.Frag) (P : Addr) (_ : ErrK K) : Body 7 1 (p_law K P) (t_law K P) := by
  rintro ds M Q E ⟨ns, rfl, rfl, q⟩
  refine ⟨rfl, ns, rfl, fun B b hB hb => ?_⟩
  refine ⟨by omega, by omega, ?_⟩
  refine law_l2 K (fun _ => trivial) _ b _ _ _ _ _ _ hb updD_same (tbls_lst (tblsM_ok (by simp)) hB) fun N o2 o3 o4 o5 o6 => ?_
  exact tblsM_back q
end K38
end

section
set_option Elab.async false
set_option linter.all false
set_option maxRecDepth 100000
set_option maxHeartbeats 2000000
/-! DH: the head: own errors' facts by a look at the heap, the Hook, the end of a law with tables where nothing is shown. -/
namespace DL
open PySem PySem.Spec PyProof.Rows L2
/-! ### an own error's class, its __init__ -/
abbrev IniW : Type := Option (Str × Str × Arguments × FuncBody × Scope × Addr × List Str × Addr)
/-- the __init__ of the class x, but for where it stands -/
def iniW (K : PySem.W.Frag) (x : Str) : IniW := match K.lookup (He.ma K (He.ga K x) "__init__") with
  | some ⟨_, _, .func fd, _⟩ => some (fd.name, fd.qualname, fd.params, fd.body, fd.scope, fd.globals, fd.closure.map (·.1), fd.builtins)
  | _ => none
/-- .. as the text has it -/
def iniV (qual : Str) (pa : Arguments) (bo : List Stmt) (sc : Scope) : IniW := some (("__init__" : Str), qual, pa, .stmts bo, sc, mainGlobals, [("__class__" : Str)], builtinsNs)
def fnOf (K : PySem.W.Frag) (a : Addr) : Option FuncData := match K.lookup a with
  | some ⟨_, _, .func fd, _⟩ => some fd
  | _ => none
def vsOf (K : PySem.W.Frag) (v : Value) : Array Value := match v with
  | .ref a => (match K.lookup a with
    | some ⟨_, _, .fields vs, _⟩ => vs
    | _ => #[])
  | _ => #[]
def isNoneV : Value → Bool
  | .none => true
  | _ => false
/-- what __init__'s function object holds besides its text -/
def iniB (file : Str) (K : PySem.W.Frag) (C : Addr) (qual : Str) (fd : FuncData) : Bool :=
  isNoneV fd.defaults && (isNoneV fd.kwdefaults && (PySem.W.codeIn K fd.code qual && ((match ((vsOf K fd.code)[2]? : Option Value) with
    | some (Value.str f _) => file == f
    | _ => false) && (match fd.closure with
    | [(_, cc)] => (match K.lookup cc with
      | some ⟨_, _, .cell (some (.ref C')), _⟩ => decide (C' = C)
      | _ => false)
    | _ => false))))
def clsB (K : PySem.W.Frag) (C : Addr) : Bool := match K.lookup C with
  | some ⟨.type "type", _, .cls cd, sl⟩ => (match cd.mro, sl.toList with
    | .ref C' :: bm, [_, _, _, _, some (.builtin n), _] => decide (C' = C) && (decide (n = "ValueError.__new__") && (!cd.hasDel && (cd.hasDict && PySem.HandSPX.refsVE bm)))
    | _, _ => false)
  | _ => false
theorem clsB_ok {K : PySem.W.Frag} {C : Addr} (h : clsB K C = true) : ∃ nm q N bs bm sn sub ab col dd k0 k1 k2 k3 k5, K.lookup C = some (excClassObj nm q C N bs bm true sn sub ab col dd k0 k1 k2 k3 k5 "ValueError.__new__") ∧ PySem.HandSPX.refsVE bm = true := by
  unfold clsB at h
  split at h
  · rename_i dd cd sl lk
    split at h
    · rename_i C' bm k0 k1 k2 k3 n k5 em es
      obtain ⟨h1, h⟩ := He.ba h
      obtain ⟨h2, h⟩ := He.ba h
      obtain ⟨h3, h⟩ := He.ba h
      obtain ⟨h4, h5⟩ := He.ba h
      obtain ⟨nm, bs, mro, N, q, hd, sn, sub, ab, col, del⟩ := cd
      dsimp only at em h3 h4
      have e1 := of_decide_eq_true h1
      have e2 := of_decide_eq_true h2
      have e3 : del = false := by simpa using h3
      subst e1 e2 e3 h4 em
      have esl : sl = #[k0, k1, k2, k3, some (.builtin "ValueError.__new__"), k5] := by
        obtain ⟨l⟩ := sl
        have : l = _ := es
        rw [this]
      subst esl
      exact ⟨nm, q, N, bs, bm, sn, sub, ab, col, dd, k0, k1, k2, k3, k5, lk, h5⟩
    · cases h
  · cases h
def txtB (K : PySem.W.Frag) (file qual x f : Str) : Bool :=
  clsB K (He.ga K x) && (He.eqO (PySem.W.findIn K (.ref (He.ga K x)) "__setattr__") (some (some (.builtin "object.__setattr__"))) && (He.eqO (PySem.W.findIn K (.ref (He.ga K x)) "__init__") (some (some (.ref (He.ma K (He.ga K x) "__init__")))) &&
    (decide (PySem.W.typeIn K (.ref (He.ma K (He.ga K x) "__init__")) = some (.type "function")) && (PySem.W.keepIn K (.ref (He.ga K x)) && (decide (PySem.W.subIn K (.ref (He.ga K x)) (.type "BaseException") = some true) && (decide (PySem.W.subIn K (.ref (He.ga K x)) (.type "ValueError") = some true) &&
      (decide (PySem.W.mroIn K (He.ga K x) (.ref (He.ga K x)) = some true) && (decide (PySem.W.typeIn K (.ref (He.ga K x)) = some (.type "type")) && (He.eqO (PySem.W.nsIn K cStatics "thirdparty.any") (some none) && (He.eqO (PySem.W.ks_superIn K (He.ga K x) (He.ga K x) "__init__") (some (some (.builtin "ValueError.__init__"))) &&
        (He.eqO (PySem.W.nsIn K mainGlobals "super") (some none) && (He.eqO (PySem.W.findIn K (.ref (He.ga K x)) f) (some none) && (match fnOf K (He.ma K (He.ga K x) "__init__") with
          | some fd => iniB file K (He.ga K x) qual fd
          | none => false)))))))))))))
/-- an own error with one field: from the look -/
theorem err1_of {P : Program} {K : PySem.W.Frag} {mg : Str → Option Value} {x f qual : Str} {p1 p2 r0 r1 r2 r3 r4 r5 q1 q2 q3 q4 : Pos} (h : txtB K P.main.file qual x f = true)
    (e : iniW K x = iniV qual (OEK.iA1 f p1 p2) (OEK.iB1 f r0 r1 r2 r3 r4 r5 q1 q2 q3 q4) (OEK.iS1 f)) (g : mg x = some (.ref (He.ga K x))) (top : (P.main.scope.names.lookup ("super" : Str)).isSome = false)
    (hb : ∀ (doc pm : Value) (an : Option Addr) (cd ct : Value) (cc : Addr) (a v : Value), bindArgs (PySem.W.ksFn "__init__" qual (OEK.iA1 f p1 p2) (OEK.iB1 f r0 r1 r2 r3 r4 r5 q1 q2 q3 q4) (OEK.iS1 f) .none .none doc pm an cd ct cc) ⟨[a, v], []⟩ = pure ([(PySem.Str.ofString "self", a), (f, v)] : List (Str × Value)))
    (hc : OEK.CallEq f r0 r1 r2 r3 r4) (n1 : (f == ("self" : Str)) = false := by decide) (n2 : (f == ("__debug__" : Str)) = false := by decide) (n3 : (f == ("__class__" : Str)) = false := by decide) (n4 : (f == ("super" : Str)) = false := by decide) : Err1 P K mg x f := by
  unfold txtB at h
  obtain ⟨h1, h⟩ := He.ba h
  obtain ⟨h2, h⟩ := He.ba h
  obtain ⟨h3, h⟩ := He.ba h
  obtain ⟨h4, h⟩ := He.ba h
  obtain ⟨h5, h⟩ := He.ba h
  obtain ⟨h6, h⟩ := He.ba h
  obtain ⟨h7, h⟩ := He.ba h
  obtain ⟨h8, h⟩ := He.ba h
  obtain ⟨h9, h⟩ := He.ba h
  obtain ⟨h10, h⟩ := He.ba h
  obtain ⟨h11, h⟩ := He.ba h
  obtain ⟨h12, h⟩ := He.ba h
  obtain ⟨h13, h⟩ := He.ba h
  unfold iniW at e
  unfold fnOf at h
  cases lk : K.lookup (He.ma K (He.ga K x) "__init__") with
  | none => rw [lk] at h; cases h
  | some o =>
    obtain ⟨oc, od, dt, osl⟩ := o
    rw [lk] at h e
    cases dt with
    | func fd =>
      obtain ⟨m1, m2, m3, m4, m5, m6, m7, m8, m9, m10, m11, m12, m13, m14, m15⟩ := fd
      unfold iniV at e
      simp only [Option.some.injEq, Prod.mk.injEq] at e
      obtain ⟨e1, e2, e3, e4, e5, e6, e7, e8⟩ := e
      dsimp only at h
      unfold iniB at h
      obtain ⟨k1, h⟩ := He.ba h
      obtain ⟨k2, h⟩ := He.ba h
      obtain ⟨k3, h⟩ := He.ba h
      obtain ⟨k4, k5⟩ := He.ba h
      dsimp only at k1 k2 k3 k4 k5
      have d8 : m8 = .none := by
        cases m8 with
        | none => rfl
        | _ => cases k1
      have d9 : m9 = .none := by
        cases m9 with
        | none => rfl
        | _ => cases k2
      obtain ⟨cda, rfl⟩ := He.codeIn_ref k3
      cases m7 with
      | nil => cases k5
      | cons y r =>
        cases r with
        | cons z r => cases k5
        | nil =>
          obtain ⟨yn, cc⟩ := y
          have ey : yn = "__class__" := by simpa using e7
          subst d8 d9 e1 e2 e3 e4 e5 e6 e8 ey
          dsimp only at k5
          unfold vsOf at k4
          dsimp only at k4
          cases lkc : K.lookup cda with
          | none => rw [lkc] at k4; cases k4
          | some oc2 =>
            obtain ⟨ccl, cdd, dt2, ccs⟩ := oc2
            rw [lkc] at k4
            cases dt2 with
            | fields vs =>
              dsimp only at k4
              cases ev : vs[2]? with
              | none => rw [ev] at k4; cases k4
              | some fv =>
                rw [ev] at k4
                cases fv with
                | str file tf =>
                  cases lkl : K.lookup cc with
                  | none => rw [lkl] at k5; cases k5
                  | some ol =>
                    obtain ⟨lc, ld, dt3, lsl⟩ := ol
                    rw [lkl] at k5
                    cases dt3 with
                    | cell cv =>
                      cases cv with
                      | none => cases k5
                      | some cv =>
                        cases cv with
                        | ref C' =>
                          have eC : C' = He.ga K x := of_decide_eq_true k5
                          subst eC
                          exact ⟨_, cc, _, ⟨g, clsB_ok h1, He.eqO_ok h2, He.eqO_ok h3, of_decide_eq_true h4, h5, of_decide_eq_true h6, of_decide_eq_true h7, of_decide_eq_true h8, of_decide_eq_true h9, He.eqO_ok h10, He.eqO_ok h11, ⟨lc, ld, lsl, lkl⟩, He.eqO_ok h12, top⟩,
                            ⟨oc, od, m10, m11, m12, cda, m14, osl, p1, p2, r0, r1, r2, r3, r4, r5, q1, q2, q3, q4, ccl, cdd, vs, ccs, file, tf, lk, k3, lkc, ev, k4, fun a v => hb m10 m11 m12 (.ref cda) m14 cc a v, hc⟩, ⟨n1, n2, n3, n4, He.eqO_ok h13⟩⟩
                        | _ => cases k5
                    | _ => cases k5
                | _ => cases k4
            | _ => cases k4
    | _ => cases h
def excB (K : PySem.W.Frag) (D : Addr) : Bool :=
  He.eqO (PySem.W.findIn K (.ref D) "__getattribute__") (some (some (.builtin "BaseException.__getattribute__"))) && (He.eqO (PySem.W.findIn K (.ref D) "__getattr__") (some none) && (decide (PySem.W.subIn K (.ref D) (.type "BaseException") = some true) && (PySem.W.hasDictIn K D &&
    (He.eqO (PySem.W.findIn K (.ref D) "__class__") (some (some (.builtin "object.__class__"))) && (He.eqO (PySem.W.specialIn K (.builtin "object.__class__") "__get__") (some (some (.builtin "getset_descriptor.__get__"))) && (decide (PySem.W.takesIn K (.builtin "object.__class__") = some true) && decide (PySem.W.mroIn K D (.type "object") = some true)))))))
theorem excB_ok {K : PySem.W.Frag} {D : Addr} (h : excB K D = true) : ExcC K D := by
  unfold excB at h
  obtain ⟨h1, h⟩ := He.ba h
  obtain ⟨h2, h⟩ := He.ba h
  obtain ⟨h3, h⟩ := He.ba h
  obtain ⟨h4, h⟩ := He.ba h
  obtain ⟨h5, h⟩ := He.ba h
  obtain ⟨h6, h⟩ := He.ba h
  obtain ⟨h7, h8⟩ := He.ba h
  exact ⟨He.eqO_ok h1, He.eqO_ok h2, of_decide_eq_true h3, h4, He.eqO_ok h5, He.eqO_ok h6, of_decide_eq_true h7, of_decide_eq_true h8⟩
/-! ### the Hook -/
def asY (g : Addr → Option Obj) (n : Nat) : List Addr := cStatics :: He.asD g n
def frY (g : Addr → Option Obj) (n : Nat) : PySem.W.Frag := He.frT g (asY g n)
structure SaysY (fa : List He.Fa) (fn : List He.DefD) (tf : List He.Defn) (ex : PySem.W.Frag → Bool) (xs : List Str) (vals : List IniW) (h : Heap) (K : PySem.W.Frag) : Prop where
  d : He.SaysD fa fn K
  more : ex K = true
  ini : xs.map (iniW K) = vals
  hd : ∀ p ∈ tf, PySem.W.codeHdIn K (He.cT K p).1 (He.cT K p).2 = true
  out : ∀ p ∈ tf, K.lookup (He.cT K p).2 = none
  empty : ∀ p ∈ tf, h.get? (He.cT K p).2 = some { cls := .none, data := .fields #[] }
abbrev AlY : Type := He.AlD × Bool × List IniW
def obsY (n : Nat) (fa : List He.Fa) (fn : List He.DefD) (tf : List He.Defn) (ex : PySem.W.Frag → Bool) (xs : List Str) (g : Addr → Option Obj) : AlY := (He.obsD fa fn (frY g n), ex (frY g n) && He.tabsB g tf (frY g n), xs.map (iniW (frY g n)))
def valY (fn : List He.DefD) (vals : List IniW) : AlY := (He.valD fn, true, vals)
theorem saysY_of {n : Nat} {fa : List He.Fa} {fn : List He.DefD} {tf : List He.Defn} {ex : PySem.W.Frag → Bool} {xs : List Str} {vals : List IniW} {h : Heap} (e : obsY n fa fn tf ex xs h.get? = valY fn vals) : SaysY fa fn tf ex xs vals h (frY h.get? n) := by
  have e1 : He.obsD fa fn (frY h.get? n) = He.valD fn := congrArg (fun z : AlY => z.1) e
  have e2 : (ex (frY h.get? n) && He.tabsB h.get? tf (frY h.get? n)) = true := congrArg (fun z : AlY => z.2.1) e
  have e3 : xs.map (iniW (frY h.get? n)) = vals := congrArg (fun z : AlY => z.2.2) e
  obtain ⟨h1, h2⟩ := He.ba e2
  have each : ∀ p ∈ tf, PySem.W.codeHdIn (frY h.get? n) (He.cT (frY h.get? n) p).1 (He.cT (frY h.get? n) p).2 = true ∧ ∃ o, h.get? (He.cT (frY h.get? n) p).2 = some o ∧ He.emptyTab o = true := fun p hp => by
    obtain ⟨h3, h4⟩ := He.ba (List.all_eq_true.mp h2 p hp)
    refine ⟨h3, ?_⟩
    cases q : h.get? (He.cT (frY h.get? n) p).2 with
    | none => rw [q] at h4; cases h4
    | some o => rw [q] at h4; exact ⟨o, rfl, h4⟩
  refine ⟨e1, h1, e3, fun p hp => (each p hp).1, fun p hp => ?_, fun p hp => ?_⟩
  · obtain ⟨_, o, q, z⟩ := each p hp
    exact He.frT_none q z
  · obtain ⟨_, o, q, z⟩ := each p hp
    rw [q, He.emptyTab_eq z]
def hookY (n : Nat) (fa : List He.Fa) (fn : List He.DefD) (tf : List He.Defn) (ex : PySem.W.Frag → Bool) (xs : List Str) (vals : List IniW) : PySem.W.Hook where
  α := AlY
  obs := fun s => obsY n fa fn tf ex xs s.heap.get?
  val := fun _ => valY fn vals
  says := fun _ h => ∃ K : PySem.W.Frag, K.In h ∧ SaysY fa fn tf ex xs vals h K
  of := fun _ _ e => ⟨_, He.frT_in, saysY_of e⟩
  keeps := fun _ _ _ ⟨K, hK, c⟩ k => ⟨K, PySem.W.Frag.In.keeps hK k, ⟨c.d, c.more, c.ini, c.hd, c.out, fun p hp => k _ _ (c.empty p hp)⟩⟩
theorem obsY_eq {n : Nat} {fa : List He.Fa} {fn : List He.DefD} {tf : List He.Defn} {ex : PySem.W.Frag → Bool} {xs : List Str} {vals : List IniW} {g : Addr → Option Obj} {s : Shared} (h : ∀ a, g a = s.heap.get? a) : obsY n fa fn tf ex xs g = (hookY n fa fn tf ex xs vals).obs s := by
  have e : g = s.heap.get? := funext h
  rw [e] <;> rfl
end DL
end

section
set_option Elab.async false
set_option linter.all false
set_option maxRecDepth 100000
set_option maxHeartbeats 2000000
/-! DH2: the end of a law: its call, from where nothing is shown, with tables of code objects. -/
namespace DL
open PySem PySem.Spec PyProof.Rows L2
/-- the tables of cs, and the script at a where K does not hold it -/
def startH (K : PySem.W.Frag) (cs : List (Addr × Addr)) (a : Addr) (so : Obj) (xs : List V) : Hp := fun b => if b ∈ cs.map (·.2) then some (.tbl #[]) else if b = a then (match K.lookup a with
  | some _ => none
  | none => some (.frz so (.lst xs))) else none
theorem law_callQT {P : Program} {w : World} {K : PySem.W.Frag} {mg mb : Str → Option Value} {CX : CXT} {k : Nat} {fa a : Addr} {cs : List (Addr × Addr)} {fd : FuncData} {x : Str} {sp : Sp} {s₁ : Shared} {us : List Value} {is : List Int}
    (kin : K.In s₁.heap) (gns : s₁.heap.Ns mainGlobals mg) (bns : s₁.heap.Ns builtinsNs mb) (bbt : ∀ x : Str, x ≠ "__name__" → mb x = bootBuiltins x) (nlim : s₁.heap.NoLimit) (ngen : s₁.gens = #[])
    (tEmp : ∀ p ∈ cs, s₁.heap.get? p.2 = some { cls := .none, data := .fields #[] }) (tOut : ∀ p ∈ cs, K.lookup p.2 = none) (tHd : ∀ p ∈ cs, PySem.W.CodeHd s₁.heap p.1 p.2)
    (bmod : ∃ (bm : Addr) (ob : Obj), mg "__builtins__" = some (.ref bm) ∧ bm ≠ builtinsNs ∧ s₁.heap.get? bm = some ob ∧ ob.cls = .type "module" ∧ ob.dict = some builtinsNs ∧ ob.data = .plain)
    (scr : s₁.heap.get? a = some { cls := .type "list", data := .seq us.toArray }) (isI : IntsAre us is) (few : is.length ≤ sizeLine) (room : Room k callerA)
    (F : ∀ base : Heap, K.In base → base.Ns mainGlobals mg → (∀ p ∈ cs, LamX.TabB base mg p.1 p.2) → FnQ true P w K mg base CX k fa fd [x] sp) (bind : ∀ (s : Shared) (u : Value), BindsTo s fd ⟨[u], []⟩ [(x, u)])
    (prom : ∀ H : Hp, (∀ p ∈ cs, H p.2 = some (.tbl #[])) → SqL K H a (is.map V.int) → sp [.ref a] H (fun v _ => v = .bl true) fun _ _ _ => False)
    (noX : ∀ H e s', CX [] H s₁ (fun _ _ _ => False) e s' → False) :
    codeAny (model P w) callerA (.call (.ref fa) ⟨[.ref a], []⟩) (fun r s' => r = .ok (.ret (.bool true)) ∧ OldK s₁.heap s'.heap ∧ s'.os = s₁.os ∧ AllBare s'.gens) s₁ := by
  have rv := vals_ints isI
  have lenV := isI.length
  obtain ⟨so, hso⟩ : ∃ so : Obj, so = { cls := .type "list", data := .seq us.toArray } := ⟨_, rfl⟩
  have scr' : s₁.heap.get? a = some so := by rw [hso]; exact scr
  have isT : ∀ b : Addr, b ∈ cs.map (·.2) → s₁.heap.get? b = some { cls := .none, data := .fields #[] } := fun b hb => by
    obtain ⟨p, hp, e⟩ := List.mem_map.mp hb
    rw [← e]; exact tEmp p hp
  have outT : ∀ b : Addr, b ∈ cs.map (·.2) → K.lookup b = none := fun b hb => by
    obtain ⟨p, hp, e⟩ := List.mem_map.mp hb
    rw [← e]; exact tOut p hp
  have memT : ∀ p ∈ cs, p.2 ∈ cs.map (·.2) := fun p hp => List.mem_map.mpr ⟨p, hp, rfl⟩
  have aT : a ∉ cs.map (·.2) := fun z => by
    have q := isT a z
    rw [scr] at q
    have z' : Data.seq us.toArray _ = Data.fields #[] := congrArg Obj.data (Option.some.inj q)
    cases z'
  obtain ⟨H, hH⟩ : ∃ H : Hp, H = startH K cs a so (is.map V.int) := ⟨_, rfl⟩
  have HT : ∀ b, b ∈ cs.map (·.2) → H b = some (.tbl #[]) := fun b hb => by rw [hH]; exact if_pos hb
  have Ha : ∀ o, K.lookup a = some o → H a = none := fun o e => by
    rw [hH]; unfold startH; rw [if_neg aT, if_pos rfl, e]
  have Ha' : K.lookup a = none → H a = some (.frz so (.lst (is.map V.int))) := fun e => by
    rw [hH]; unfold startH; rw [if_neg aT, if_pos rfl, e]
  have Ho : ∀ b, b ∉ cs.map (·.2) → b ≠ a → H b = none := fun b h1 h2 => by
    rw [hH]; unfold startH; rw [if_neg h1, if_neg h2]
  have cases3 : ∀ b u, H b = some u → (b ∈ cs.map (·.2) ∧ u = .tbl #[]) ∨ (b = a ∧ K.lookup a = none ∧ u = .frz so (.lst (is.map V.int))) := fun b u e => by
    by_cases h1 : b ∈ cs.map (·.2)
    · rw [HT b h1] at e; exact .inl ⟨h1, (Option.some.inj e).symm⟩
    · by_cases h2 : b = a
      · subst h2
        cases ek : K.lookup b with
        | some o => rw [Ha o ek] at e; cases e
        | none => rw [Ha' ek] at e; exact .inr ⟨rfl, rfl, (Option.some.inj e).symm⟩
      · rw [Ho b h1 h2] at e; cases e
  have sq : SqL K H a (is.map V.int) := by
    cases ek : K.lookup a with
    | some o =>
      have e := kin a o ek
      rw [scr] at e; cases e
      exact .inr ⟨_, us.toArray, _, ek, rfl, rfl, rfl, by rw [List.size_toArray, lenV]; exact few, by simpa using rv⟩
    | none => exact .inl (.inr ⟨so, Ha' ek⟩)
  have hok : HOk P w H s₁.heap := fun b u e => by
    rcases cases3 b u e with ⟨h1, rfl⟩ | ⟨rfl, _, rfl⟩
    · exact isT b h1
    · rw [hso]; exact ⟨scr, by rw [List.length_map]; exact few, us, _, rv, scr⟩
  have plainNone : ∀ {b : Addr} {o : Obj}, s₁.heap.get? b = some o → (∀ vs n, o.data ≠ .seq vs n) → o.data ≠ .fields #[] → H b = none := fun {b o} e h1 h2 => by
    cases q : H b with
    | none => rfl
    | some u =>
      rcases cases3 b u q with ⟨h3, _⟩ | ⟨rfl, _, _⟩
      · rw [isT b h3] at e; cases e; exact (h2 rfl).elim
      · rw [scr] at e; cases e; exact (h1 _ _ rfl).elim
  have dictNone : ∀ {b : Addr} {o : Obj} {es : Array DictEntry} {ep : Nat}, s₁.heap.get? b = some o → o.data = .dict es ep → H b = none := fun {b o es ep} e d =>
    plainNone e (fun vs n z => by rw [d] at z; cases z) fun z => by rw [d] at z; cases z
  have nsK : ∀ {b : Addr} {m : Str → Option Value}, s₁.heap.Ns b m → (hidT s₁.heap H).Ns b m := fun {b m} ⟨o, es, ep, e, d, r⟩ => ⟨o, es, ep, hidT_get e (dictNone e d), d, r⟩
  have kinB : K.In (hidT s₁.heap H) := fun b o e => hidT_get (kin b o e) (by
    cases q : H b with
    | none => rfl
    | some u =>
      rcases cases3 b u q with ⟨h3, _⟩ | ⟨rfl, h4, _⟩
      · rw [outT b h3] at e; cases e
      · rw [h4] at e; cases e)
  have modB : L2.Mod K mg (hidT s₁.heap H) := ⟨kinB, nsK gns, ⟨mb, nsK bns, bbt⟩, let ⟨mc, h1, h2⟩ := nlim; ⟨mc, nsK h1, h2⟩⟩
  have TB : ∀ p ∈ cs, LamX.TabB (hidT s₁.heap H) mg p.1 p.2 := fun p hp => by
    have eP := tEmp p hp
    refine ⟨?_, ?_, fun z => ?_⟩
    · obtain ⟨o, ws, file, tf, flags, tg, inF, text, tt, e1, r1, r2, r3, r4, rest⟩ := tHd p hp
      refine ⟨o, ws, file, tf, flags, tg, inF, text, tt, hidT_get e1 (plainNone e1 (fun vs n z => ?_) fun z => ?_), r1, r2, r3, r4, rest⟩
      · rw [r2] at z; cases z
      · rw [r2] at z; cases z; simp at r3
    · obtain ⟨bm, ob, b1, b2, b3, b4, b5, b6⟩ := bmod
      have nG : bm ≠ mainGlobals := fun q => by
        obtain ⟨o, es, ep, e, hd, _⟩ := gns
        rw [q, e] at b3; cases b3
        rw [hd] at b6; cases b6
      have nP : bm ≠ p.2 := fun q => by
        rw [q, eP] at b3; cases b3; cases b6
      refine ⟨bm, ob, b1, b2, nG, nP, hidT_get b3 (plainNone b3 (fun vs n z => ?_) fun z => ?_), b4, b5, b6⟩
      · rw [b6] at z; cases z
      · rw [b6] at z; cases z
    · obtain ⟨o, es, ep, e, hd, _⟩ := gns
      rw [z, eP] at e; cases e
      cases hd
  have env : Env0 P w K mg (hidT s₁.heap H) callerA [] s₁ H := ⟨rfl, modB, fun b o e => of_hidT e, Nat.le_of_eq (hidT_size _ _), trivial, fun b hb => absurd (show b ∈ ([] : List Addr) from hb) (by simp), hok, .of_eq ngen⟩
  refine codeAny_mono ((F _ kinB (nsK gns) TB).run callerA (fun _ => rfl) room [] s₁ H env ⟨[.ref a], []⟩ [.ref a] [.ref a] (bind s₁ (.ref a)) (.cons rfl .nil) _ _ (prom H (fun p hp => HT _ (memT p hp)) sq)) fun r s' h => ?_
  match r, h with
  | .error e, h => exact (noX H e s' h).elim
  | .ok .next, h => exact h.elim
  | .ok .brk, h => exact h.elim
  | .ok .cont, h => exact h.elim
  | .ok (.ret u), ⟨v, H', os, bare, un, hok', r', q⟩ =>
    have q' : v = .bl true := q
    subst q'
    obtain rfl : u = Value.bool true := r'
    have keep : ∀ b o, b ∉ cs.map (·.2) → s₁.heap.get? b = some o → s'.heap.get? b = some o := fun b o nb e => by
      cases q : H b with
      | none => exact un.keep b o e q (by intro z; exact absurd (show b ∈ ([] : List Addr) from z) (by simp)) (by simp)
      | some u =>
        rcases cases3 b u q with ⟨h3, _⟩ | ⟨_, _, rfl⟩
        · exact absurd h3 nb
        · obtain ⟨e1, _⟩ := hok b _ q
          obtain ⟨e2, _⟩ := hok' b _ (un.frzs b so _ q)
          rw [e] at e1; cases e1
          exact e2
    have grown : ∀ p ∈ cs, ∃ more : Array Value, s'.heap.get? p.2 = some { cls := .none, data := .fields more } := fun p hp => by
      obtain ⟨more, z⟩ := un.tbls p.2 #[] (HT _ (memT p hp))
      exact ⟨_, hok' p.2 _ z⟩
    refine ⟨rfl, ⟨fun b o e => ?_, fun b o e => ?_⟩, os, bare⟩
    · by_cases hb : b ∈ cs.map (·.2)
      · obtain ⟨p, hp, ep⟩ := List.mem_map.mp hb
        obtain ⟨more, hm⟩ := grown p hp
        rw [← ep] at e ⊢
        rw [tEmp p hp] at e; cases e
        exact .inr (.inl ⟨((tHd p hp).tab (tEmp p hp)).isCodeTable, rfl, #[], more, rfl, by rw [Array.empty_append]; exact hm⟩)
      · exact .inl (keep b o hb e)
    · by_cases hb : b ∈ cs.map (·.2)
      · obtain ⟨p, hp, ep⟩ := List.mem_map.mp hb
        obtain ⟨more, hm⟩ := grown p hp
        rw [← ep]; exact ⟨_, hm⟩
      · exact ⟨o, keep b o hb e⟩
/-- a law's promise: what it is called with -/
theorem law_sp {K : PySem.W.Frag} {p : DSp} {T : List (Addr × Str)} {H : Hp} {a : Addr} {is : List Int} (hT : ∀ t ∈ T, H t.1 = some (.tbl #[])) (sq : SqL K H a (is.map V.int))
    (h : p [.rol (is.map D.int)] (tblsM T) (fun d _ => d = .bl true) fun _ _ _ => False) : lfSp K p [.ref a] H (fun v _ => v = .bl true) fun _ _ _ => False := by
  have na : ∀ u, H a = some u → (∀ ps, u ≠ .tbl ps) → tblsM T a = none := fun u e nt => by
    cases q : tblsM T a with
    | none => rfl
    | some o =>
      obtain ⟨q', h1, _⟩ := tblsM_some q
      have := hT _ h1
      rw [e] at this
      cases this
      exact (nt _ rfl).elim
  refine ⟨_, tblsM T, _, _, .cons (.rol (xs := is.map V.int) ?_ (RepL.ofInts is)) .nil, ?_, h, fun v H' d M' x m r q => ?_, fun c pd H' gs M' x m r q => q⟩
  · rcases sq with f | f
    · refine .inl ⟨f, ?_⟩
      rcases f with f | ⟨o, f⟩
      · exact na _ f (fun _ z => nomatch z)
      · exact na _ f (fun _ z => nomatch z)
    · exact .inr f
  · intro b o e
    obtain ⟨q, h1, rfl⟩ := tblsM_some e
    exact ⟨#[], hT _ h1, by unfold TriplesOk; simp, fun pos cv z => by simp [codeAmong] at z⟩
  · rw [show d = .bl true from q] at r
    exact r.blI
theorem walk_ofQT {l : PySem.W.OpenLaw} {n k : Nat} {q : Program} {loose : List Str} {XP : (Str → Option Value) → Heap → Prop} {YP : World → Heap → Prop} {d : DefRec} {CX : World → CXT} {x : Str}
    (hn : l.most = some n) (hn2 : n ≤ sizeLine) (hdf : d.params.defaults = []) (room : Room k callerA)
    (F : ∀ (w : World) (mg : Str → Option Value) (fa : Addr) (h : Heap), YP w h → h.Ns mainGlobals mg → mg d.name = some (.ref fa) →
      ∃ (K : PySem.W.Frag) (fd : FuncData) (cs : List (Addr × Addr)) (sp : Sp), K.In h ∧ (∀ p ∈ cs, h.get? p.2 = some { cls := .none, data := .fields #[] }) ∧ (∀ p ∈ cs, K.lookup p.2 = none) ∧ (∀ p ∈ cs, PySem.W.CodeHd h p.1 p.2) ∧ (∀ (s : Shared) (u : Value), BindsTo s fd ⟨[u], []⟩ [(x, u)]) ∧
        (∀ (H : Hp) (a : Addr) (is : List Int), is.length ≤ n → (∀ p ∈ cs, H p.2 = some (.tbl #[])) → SqL K H a (is.map V.int) → sp [.ref a] H (fun v _ => v = .bl true) fun _ _ _ => False) ∧
        ∀ base : Heap, K.In base → base.Ns mainGlobals mg → (∀ p ∈ cs, LamX.TabB base mg p.1 p.2) → FnQ true l.prog w K mg base (CX w) k fa fd [x] sp)
    (noX : ∀ (w : World) (H : Hp) (s : Shared) (e : Value) (s' : Shared), CX w [] H s (fun _ _ _ => False) e s' → False) :
    PySem.W.WalkO q loose XP YP l.row.toRowW d [] (fun f vs => PySem.call f vs) := by
  refine Att.attach_callB hn hdf fun w s₀ s₁ mg mb fa o pm cd doc a vs is G Y ho hd hcd hmg hobj hints hlen hbits hg => ?_
  obtain ⟨K, fd, cs, sp, kin, h1, h2, h3, hb, hsp, hF⟩ := F w mg fa _ Y G.T.g hmg
  exact law_callQT kin G.T.g G.T.b G.T.builtins G.T.nolimit hg h1 h2 h3 G.T.bmain hobj hints (Nat.le_trans hlen hn2) room hF hb (fun H hH hS => hsp H a is hlen hH hS) fun H e s' => noX w H s₁ e s'
/-- a class's first def -/
def initOf : Stmt → Stmt
  | .ClassDef _ _ _ b _ _ _ _ _ _ _ => b.getD 0 (.Pass ⟨0, 0, 0, 0⟩)
  | s => s
theorem code_is {K : PySem.W.Frag} {x : Str} {st : Stmt} {fd : FuncData} (F : FnP K x st (He.ga K x) fd) {cdv : Value} (h : CodeAt K (He.ga K x) cdv) : cdv = .ref (He.cT K (x, none)).1 := by
  obtain ⟨oc, od, dV, kV, doc, pm, an, cd, ct, osl, rfl, lk, hcd, _, _⟩ := F.ex
  obtain ⟨oc2, od2, fd2, osl2, lk2, e⟩ := h
  rw [lk] at lk2
  cases lk2
  obtain ⟨c, rfl⟩ := He.codeIn_ref hcd
  have e2 : He.codeOf K (x, none) = c := He.codeOf_eq (p := (x, none)) lk rfl
  rw [← e]
  show Value.ref c = .ref (He.codeOf K (x, none))
  rw [e2]
theorem fnQ_body {P : Program} {w : World} {K : PySem.W.Frag} {mg : Str → Option Value} {base : Heap} {g : Bool} {N ps : List Str} {k : Nat} {p : DSp} {t : DTS} {x : Str} {params : Arguments} {body : List Stmt} {scope : Scope} {f : Addr} {fd : FuncData} (F : FunD K x x params body scope [] [] f fd) (S : FnScope N ps scope)
    (ht : ∀ (cdv : Value) (A : Around) (outer : List Env) (s : Shared) (H : Hp) (E : XK), CodeAt K f cdv → Room k (cxOf (L2.CX P w) P w K mg base N x scope f cdv A outer s H E).A → (g = true → Quiet (cxOf (L2.CX P w) P w K mg base N x scope f cdv A outer s H E).A) →
      Takes (cxOf (L2.CX P w) P w K mg base N x scope f cdv A outer s H E) (fun c d _ H => E c d H) → DSs (cxOf (L2.CX P w) P w K mg base N x scope f cdv A outer s H E) (fun c d _ H => E c d H) body t)
    (hp : Body N.length ps.length p t) : FnQ g P w K mg base (L2.CX P w) (k + 1) f fd ps (lfSp K p) :=
  fnQ_of F S (fun vs H Q0 E0 h => by
    obtain ⟨ds, M, Q, E, r, m, q, _, _⟩ := h
    rw [r.length]
    exact (hp ds M Q E q).1) fun cdv A outer s H vs Q0 E0 hca hq hr h => by
    obtain ⟨ds, M, Q, E, r, m, q, k1, k2⟩ := h
    refine ⟨_, (ht cdv A outer s H E0 hca hr hq (takes_of rfl rfl rfl rfl)).pss, ?_⟩
    refine lfS.use ⟨repS_start r, m⟩ (hp ds M Q E q).2 ⟨fun σ' H' δ' M' x a q => k1.back _ H' _ M' x a.m .non q, k1.back, fun _ _ _ _ _ _ z => z.elim, fun _ _ _ _ _ _ z => z.elim⟩ ?_
    intro c pd σ' H' gs δ' M' x s m r q
    exact k2.back c pd H' gs M' x m r q
end DL
end

section
set_option Elab.async false
set_option linter.all false
set_option maxRecDepth 100000
set_option maxHeartbeats 4000000
namespace K38
open PySem PySem.Spec PyProof.Rows L2 DL

structure Frees (mg : Str → Option Value) : Prop where
  f_abs : mg "abs" = none
  f_enumerate : mg "enumerate" = none
  f_int : mg "int" = none
  f_isinstance : mg "isinstance" = none
  f_len : mg "len" = none
  f_list : mg "list" = none
  f_max : mg "max" = none
  f_min : mg "min" = none
  f_range : mg "range" = none
  f_repr : mg "repr" = none
  f_sorted : mg "sorted" = none
  f_sum : mg "sum" = none
  f_tuple : mg "tuple" = none
  f_zip : mg "zip" = none
/-! ### wall_names -/
theorem sc_wall_names : FnScope ["house", "wall"] ["house"] (defScope (top 5)) := ⟨rfl, rfl, rfl, by decide +kernel, rfl, by decide +kernel, by decide +kernel⟩
theorem d_wall_names {P₀ : Program} {w : World} {K : PySem.W.Frag} {mg : Str → Option Value} {base : Heap} {f : Addr} {cdv : Value} {A : Around} {outer : List Env} {s : Shared} {H : Hp} {E : XK} (hx : ErrF P₀ K mg) (fr : Frees mg) (hca : CodeAt K f cdv) (hr : Room 0 (cxOf (L2.CX P₀ w) P₀ w K mg base ["house", "wall"] "wall_names" (defScope (top 5)) f cdv A outer s H E).A) (hq : false = true → Quiet (cxOf (L2.CX P₀ w) P₀ w K mg base ["house", "wall"] "wall_names" (defScope (top 5)) f cdv A outer s H E).A)
    (tk : Takes (cxOf (L2.CX P₀ w) P₀ w K mg base ["house", "wall"] "wall_names" (defScope (top 5)) f cdv A outer s H E) (fun c d _ H => E c d H)) : DSs (cxOf (L2.CX P₀ w) P₀ w K mg base ["house", "wall"] "wall_names" (defScope (top 5)) f cdv A outer s H E) (fun c d _ H => E c d H) (defBody (top 5)) (t_wall_names K) := by
  have hxx := hx
  obtain ⟨he_LockerError, he_NoWall, er_NoWall, hxf_NoWall, hno_NoWall, ek⟩ := hx
  exact dss_one (ds_ret (de_callT dc_tuple (da_cons (de_lc rfl sc_wall_names.nd (di_seq (de_ix (de_var 0) (de_int))) (own := [("wall", 1)]) (blkOk_by (by kernel_rfl)) (by decide) (fun _ _ _ _ _ => dg_name (i := 1) sc_wall_names.nd rfl (by first | exact Or.inl rfl | exact Or.inr rfl)) (fun _ _ _ _ _ => dts_nil) (fun _ _ _ _ _ => de_ix (de_var 1) (de_int))) (da_nil)) fr.f_tuple (by decide +kernel)))
/-! ### wall_index -/
theorem sc_wall_index : FnScope ["house", "name", "names"] ["house", "name"] (defScope (top 6)) := ⟨rfl, rfl, rfl, by decide +kernel, rfl, by decide +kernel, by decide +kernel⟩
theorem d_wall_index {P₀ : Program} {w : World} {K : PySem.W.Frag} {mg : Str → Option Value} {base : Heap} {f : Addr} {cdv : Value} {A : Around} {outer : List Env} {s : Shared} {H : Hp} {E : XK} (hx : ErrF P₀ K mg) (fr : Frees mg) (c_wall_names : Cal false P₀ w K mg base 1 "wall_names" (p_wall_names K)) (hca : CodeAt K f cdv) (hr : Room 1 (cxOf (L2.CX P₀ w) P₀ w K mg base ["house", "name", "names"] "wall_index" (defScope (top 6)) f cdv A outer s H E).A) (hq : false = true → Quiet (cxOf (L2.CX P₀ w) P₀ w K mg base ["house", "name", "names"] "wall_index" (defScope (top 6)) f cdv A outer s H E).A)
    (tk : Takes (cxOf (L2.CX P₀ w) P₀ w K mg base ["house", "name", "names"] "wall_index" (defScope (top 6)) f cdv A outer s H E) (fun c d _ H => E c d H)) : DSs (cxOf (L2.CX P₀ w) P₀ w K mg base ["house", "name", "names"] "wall_index" (defScope (top 6)) f cdv A outer s H E) (fun c d _ H => E c d H) (defBody (top 6)) (t_wall_index K) := by
  have hxx := hx
  obtain ⟨he_LockerError, he_NoWall, er_NoWall, hxf_NoWall, hno_NoWall, ek⟩ := hx
  exact dss_cons (ds_set sc_wall_index.nd (i := 2) rfl (by first | exact Or.inl rfl | exact Or.inr rfl) (de_call c_wall_names (hr.mono (by decide)) tk (da_cons (de_var 0) (da_nil))))
    (dss_cons (ds_if (dt_cmp do_notin (de_var 1) (de_var 2) (by rfl)) (dss_one (ds_raiseE rfl er_NoWall hr tk (da_cons (de_var 1) (da_nil)))) (dss_nil))
    (dss_one (ds_ret (de_mt PySem.F.plainAttrs_tuple PySem.F.slot_tuple_index PySem.F.type_tuple_index dm_tindex (de_var 2) (da_cons (de_var 1) (da_nil))))))
/-! ### wall_of -/
theorem sc_wall_of : FnScope ["house", "name"] ["house", "name"] (defScope (top 7)) := ⟨rfl, rfl, rfl, by decide +kernel, rfl, by decide +kernel, by decide +kernel⟩
theorem d_wall_of {P₀ : Program} {w : World} {K : PySem.W.Frag} {mg : Str → Option Value} {base : Heap} {f : Addr} {cdv : Value} {A : Around} {outer : List Env} {s : Shared} {H : Hp} {E : XK} (hx : ErrF P₀ K mg) (fr : Frees mg) (c_wall_index : Cal false P₀ w K mg base 2 "wall_index" (p_wall_index K)) (hca : CodeAt K f cdv) (hr : Room 2 (cxOf (L2.CX P₀ w) P₀ w K mg base ["house", "name"] "wall_of" (defScope (top 7)) f cdv A outer s H E).A) (hq : false = true → Quiet (cxOf (L2.CX P₀ w) P₀ w K mg base ["house", "name"] "wall_of" (defScope (top 7)) f cdv A outer s H E).A)
    (tk : Takes (cxOf (L2.CX P₀ w) P₀ w K mg base ["house", "name"] "wall_of" (defScope (top 7)) f cdv A outer s H E) (fun c d _ H => E c d H)) : DSs (cxOf (L2.CX P₀ w) P₀ w K mg base ["house", "name"] "wall_of" (defScope (top 7)) f cdv A outer s H E) (fun c d _ H => E c d H) (defBody (top 7)) (t_wall_of K) := by
  have hxx := hx
  obtain ⟨he_LockerError, he_NoWall, er_NoWall, hxf_NoWall, hno_NoWall, ek⟩ := hx
  exact dss_one (ds_ret (de_ix (de_ix (de_var 0) (de_int)) (de_call c_wall_index (hr.mono (by decide)) tk (da_cons (de_var 0) (da_cons (de_var 1) (da_nil))))))
/-! ### backs_of -/
theorem sc_backs_of : FnScope ["house", "day", "name"] ["house", "day", "name"] (defScope (top 8)) := ⟨rfl, rfl, rfl, by decide +kernel, rfl, by decide +kernel, by decide +kernel⟩
theorem d_backs_of {P₀ : Program} {w : World} {K : PySem.W.Frag} {mg : Str → Option Value} {base : Heap} {f : Addr} {cdv : Value} {A : Around} {outer : List Env} {s : Shared} {H : Hp} {E : XK} (hx : ErrF P₀ K mg) (fr : Frees mg) (c_wall_index : Cal false P₀ w K mg base 2 "wall_index" (p_wall_index K)) (hca : CodeAt K f cdv) (hr : Room 2 (cxOf (L2.CX P₀ w) P₀ w K mg base ["house", "day", "name"] "backs_of" (defScope (top 8)) f cdv A outer s H E).A) (hq : false = true → Quiet (cxOf (L2.CX P₀ w) P₀ w K mg base ["house", "day", "name"] "backs_of" (defScope (top 8)) f cdv A outer s H E).A)
    (tk : Takes (cxOf (L2.CX P₀ w) P₀ w K mg base ["house", "day", "name"] "backs_of" (defScope (top 8)) f cdv A outer s H E) (fun c d _ H => E c d H)) : DSs (cxOf (L2.CX P₀ w) P₀ w K mg base ["house", "day", "name"] "backs_of" (defScope (top 8)) f cdv A outer s H E) (fun c d _ H => E c d H) (defBody (top 8)) (t_backs_of K) := by
  have hxx := hx
  obtain ⟨he_LockerError, he_NoWall, er_NoWall, hxf_NoWall, hno_NoWall, ek⟩ := hx
  exact dss_one (ds_ret (de_ix (de_ix (de_ix (de_ix (de_var 0) (de_int)) (de_var 1)) (de_int)) (de_call c_wall_index (hr.mono (by decide)) tk (da_cons (de_var 0) (da_cons (de_var 2) (da_nil))))))
/-! ### tails_of -/
theorem sc_tails_of : FnScope ["counts", "at"] ["counts"] (defScope (top 10)) := ⟨rfl, rfl, rfl, by decide +kernel, rfl, by decide +kernel, by decide +kernel⟩
theorem d_tails_of {P₀ : Program} {w : World} {K : PySem.W.Frag} {mg : Str → Option Value} {base : Heap} {f : Addr} {cdv : Value} {A : Around} {outer : List Env} {s : Shared} {H : Hp} {E : XK} (hx : ErrF P₀ K mg) (fr : Frees mg) (hca : CodeAt K f cdv) (hr : Room 0 (cxOf (L2.CX P₀ w) P₀ w K mg base ["counts", "at"] "tails_of" (defScope (top 10)) f cdv A outer s H E).A) (hq : false = true → Quiet (cxOf (L2.CX P₀ w) P₀ w K mg base ["counts", "at"] "tails_of" (defScope (top 10)) f cdv A outer s H E).A)
    (tk : Takes (cxOf (L2.CX P₀ w) P₀ w K mg base ["counts", "at"] "tails_of" (defScope (top 10)) f cdv A outer s H E) (fun c d _ H => E c d H)) : DSs (cxOf (L2.CX P₀ w) P₀ w K mg base ["counts", "at"] "tails_of" (defScope (top 10)) f cdv A outer s H E) (fun c d _ H => E c d H) (defBody (top 10)) (t_tails_of K) := by
  have hxx := hx
  obtain ⟨he_LockerError, he_NoWall, er_NoWall, hxf_NoWall, hno_NoWall, ek⟩ := hx
  exact dss_one (ds_ret (de_callT dc_tuple (da_cons (de_lc rfl sc_tails_of.nd (di_range1 (da_cons (de_callB dc_len (da_cons (de_var 0) (da_nil)) fr.f_len (by decide +kernel)) (da_nil)) fr.f_range) (own := [("at", 1)]) (blkOk_by (by kernel_rfl)) (by decide) (fun _ _ _ _ _ => dg_name (i := 1) sc_tails_of.nd rfl (by first | exact Or.inl rfl | exact Or.inr rfl)) (fun _ _ _ _ _ => dts_nil) (fun _ _ _ _ _ => de_callB (dc_sum rfl) (da_cons (de_slice (de_var 0) (do_some (de_var 1)) (do_none)) (da_nil)) fr.f_sum (by decide +kernel))) (da_nil)) fr.f_tuple (by decide +kernel)))
/-! ### tails_of_sizes -/
theorem sc_tails_of_sizes : FnScope ["m", "sizes", "at", "size"] ["m", "sizes"] (defScope (top 11)) := ⟨rfl, rfl, rfl, by decide +kernel, rfl, by decide +kernel, by decide +kernel⟩
theorem d_tails_of_sizes {P₀ : Program} {w : World} {K : PySem.W.Frag} {mg : Str → Option Value} {base : Heap} {f : Addr} {cdv : Value} {A : Around} {outer : List Env} {s : Shared} {H : Hp} {E : XK} (hx : ErrF P₀ K mg) (fr : Frees mg) (hca : CodeAt K f cdv) (hr : Room 0 (cxOf (L2.CX P₀ w) P₀ w K mg base ["m", "sizes", "at", "size"] "tails_of_sizes" (defScope (top 11)) f cdv A outer s H E).A) (hq : false = true → Quiet (cxOf (L2.CX P₀ w) P₀ w K mg base ["m", "sizes", "at", "size"] "tails_of_sizes" (defScope (top 11)) f cdv A outer s H E).A)
    (tk : Takes (cxOf (L2.CX P₀ w) P₀ w K mg base ["m", "sizes", "at", "size"] "tails_of_sizes" (defScope (top 11)) f cdv A outer s H E) (fun c d _ H => E c d H)) : DSs (cxOf (L2.CX P₀ w) P₀ w K mg base ["m", "sizes", "at", "size"] "tails_of_sizes" (defScope (top 11)) f cdv A outer s H E) (fun c d _ H => E c d H) (defBody (top 11)) (t_tails_of_sizes K) := by
  have hxx := hx
  obtain ⟨he_LockerError, he_NoWall, er_NoWall, hxf_NoWall, hno_NoWall, ek⟩ := hx
  exact dss_one (ds_ret (de_callT dc_tuple (da_cons (de_lc rfl sc_tails_of_sizes.nd (di_range1 (da_cons (de_var 0) (da_nil)) fr.f_range) (own := [("at", 2)]) (blkOk_by (by kernel_rfl)) (by decide) (fun _ _ _ _ _ => dg_name (i := 2) sc_tails_of_sizes.nd rfl (by first | exact Or.inl rfl | exact Or.inr rfl)) (fun _ _ _ _ _ => dts_nil) (fun _ _ _ _ _ => de_callB dc_len (da_cons (de_lc rfl sc_tails_of_sizes.nd (di_seq (de_var 1)) (own := [("size", 3)]) (blkOk_by (by kernel_rfl)) (by decide) (fun _ _ _ _ _ => dg_name (i := 3) sc_tails_of_sizes.nd rfl (by first | exact Or.inl rfl | exact Or.inr rfl)) (fun _ _ _ _ _ => dts_one (dt_cmp do_gt (de_var 3) (de_var 2) (by rfl))) (fun _ _ _ _ _ => de_var 3)) (da_nil)) fr.f_len (by decide +kernel))) (da_nil)) fr.f_tuple (by decide +kernel)))
/-! ### made_falling -/
theorem sc_made_falling : FnScope ["tails", "at"] ["tails"] (defScope (top 12)) := ⟨rfl, rfl, rfl, by decide +kernel, rfl, by decide +kernel, by decide +kernel⟩
theorem d_made_falling {P₀ : Program} {w : World} {K : PySem.W.Frag} {mg : Str → Option Value} {base : Heap} {f : Addr} {cdv : Value} {A : Around} {outer : List Env} {s : Shared} {H : Hp} {E : XK} (hx : ErrF P₀ K mg) (fr : Frees mg) (hca : CodeAt K f cdv) (hr : Room 0 (cxOf (L2.CX P₀ w) P₀ w K mg base ["tails", "at"] "made_falling" (defScope (top 12)) f cdv A outer s H E).A) (hq : false = true → Quiet (cxOf (L2.CX P₀ w) P₀ w K mg base ["tails", "at"] "made_falling" (defScope (top 12)) f cdv A outer s H E).A)
    (tk : Takes (cxOf (L2.CX P₀ w) P₀ w K mg base ["tails", "at"] "made_falling" (defScope (top 12)) f cdv A outer s H E) (fun c d _ H => E c d H)) : DSs (cxOf (L2.CX P₀ w) P₀ w K mg base ["tails", "at"] "made_falling" (defScope (top 12)) f cdv A outer s H E) (fun c d _ H => E c d H) (defBody (top 12)) (t_made_falling K) := by
  have hxx := hx
  obtain ⟨he_LockerError, he_NoWall, er_NoWall, hxf_NoWall, hno_NoWall, ek⟩ := hx
  exact dss_one (ds_ret (de_callT dc_tuple (da_cons (de_lc rfl sc_made_falling.nd (di_range1 (da_cons (de_callB dc_len (da_cons (de_var 0) (da_nil)) fr.f_len (by decide +kernel)) (da_nil)) fr.f_range) (own := [("at", 1)]) (blkOk_by (by kernel_rfl)) (by decide) (fun _ _ _ _ _ => dg_name (i := 1) sc_made_falling.nd rfl (by first | exact Or.inl rfl | exact Or.inr rfl)) (fun _ _ _ _ _ => dts_nil) (fun _ _ _ _ _ => de_callB (dc_min rfl) (da_cons (de_slice (de_var 0) (do_none) (do_some (de_op do_add (de_var 1) (de_int)))) (da_nil)) fr.f_min (by decide +kernel))) (da_nil)) fr.f_tuple (by decide +kernel)))
/-! ### least_box -/
theorem sc_least_box : FnScope ["counts", "size", "found", "box"] ["counts", "size"] (defScope (top 13)) := ⟨rfl, rfl, rfl, by decide +kernel, rfl, by decide +kernel, by decide +kernel⟩
theorem d_least_box {P₀ : Program} {w : World} {K : PySem.W.Frag} {mg : Str → Option Value} {base : Heap} {f : Addr} {cdv : Value} {A : Around} {outer : List Env} {s : Shared} {H : Hp} {E : XK} (hx : ErrF P₀ K mg) (fr : Frees mg) (hca : CodeAt K f cdv) (hr : Room 0 (cxOf (L2.CX P₀ w) P₀ w K mg base ["counts", "size", "found", "box"] "least_box" (defScope (top 13)) f cdv A outer s H E).A) (hq : false = true → Quiet (cxOf (L2.CX P₀ w) P₀ w K mg base ["counts", "size", "found", "box"] "least_box" (defScope (top 13)) f cdv A outer s H E).A)
    (tk : Takes (cxOf (L2.CX P₀ w) P₀ w K mg base ["counts", "size", "found", "box"] "least_box" (defScope (top 13)) f cdv A outer s H E) (fun c d _ H => E c d H)) : DSs (cxOf (L2.CX P₀ w) P₀ w K mg base ["counts", "size", "found", "box"] "least_box" (defScope (top 13)) f cdv A outer s H E) (fun c d _ H => E c d H) (defBody (top 13)) (t_least_box K) := by
  have hxx := hx
  obtain ⟨he_LockerError, he_NoWall, er_NoWall, hxf_NoWall, hno_NoWall, ek⟩ := hx
  exact dss_cons (ds_setLc rfl sc_least_box.nd (i := 2) rfl rfl (sw_true rfl rfl (by rfl) (by decide +kernel)) (di_range2 (da_cons (de_var 1) (da_cons (de_op do_add (de_callB dc_len (da_cons (de_var 0) (da_nil)) fr.f_len (by decide +kernel)) (de_int)) (da_nil))) fr.f_range) (own := [("box", 3)]) (blkOk_by (by kernel_rfl)) (by decide) (fun _ _ _ _ _ => dg_name (i := 3) sc_least_box.nd rfl (by first | exact Or.inl rfl | exact Or.inr rfl)) (fun _ _ _ _ _ => dts_one (dt_cmp do_gt (de_ix (de_var 0) (de_op do_sub (de_var 3) (de_int))) (de_int) (by rfl))) (fun _ _ _ _ _ => de_var 3))
    (dss_one (ds_ret (de_ifExp (dt_truth (de_var 2)) (de_ix (de_var 2) (de_int)) (de_non))))
/-! ### changed_by -/
theorem sc_changed_by : FnScope ["counts", "box", "many"] ["counts", "box", "many"] (defScope (top 14)) := ⟨rfl, rfl, rfl, by decide +kernel, rfl, by decide +kernel, by decide +kernel⟩
theorem d_changed_by {P₀ : Program} {w : World} {K : PySem.W.Frag} {mg : Str → Option Value} {base : Heap} {f : Addr} {cdv : Value} {A : Around} {outer : List Env} {s : Shared} {H : Hp} {E : XK} (hx : ErrF P₀ K mg) (fr : Frees mg) (hca : CodeAt K f cdv) (hr : Room 0 (cxOf (L2.CX P₀ w) P₀ w K mg base ["counts", "box", "many"] "changed_by" (defScope (top 14)) f cdv A outer s H E).A) (hq : false = true → Quiet (cxOf (L2.CX P₀ w) P₀ w K mg base ["counts", "box", "many"] "changed_by" (defScope (top 14)) f cdv A outer s H E).A)
    (tk : Takes (cxOf (L2.CX P₀ w) P₀ w K mg base ["counts", "box", "many"] "changed_by" (defScope (top 14)) f cdv A outer s H E) (fun c d _ H => E c d H)) : DSs (cxOf (L2.CX P₀ w) P₀ w K mg base ["counts", "box", "many"] "changed_by" (defScope (top 14)) f cdv A outer s H E) (fun c d _ H => E c d H) (defBody (top 14)) (t_changed_by K) := by
  have hxx := hx
  obtain ⟨he_LockerError, he_NoWall, er_NoWall, hxf_NoWall, hno_NoWall, ek⟩ := hx
  exact dss_one (ds_ret (de_tup (da_star (de_slice (de_var 0) (do_none) (do_some (de_op do_sub (de_var 1) (de_int)))) (da_cons (de_op do_add (de_ix (de_var 0) (de_op do_sub (de_var 1) (de_int))) (de_var 2)) (da_star (de_slice (de_var 0) (do_some (de_var 1)) (do_none)) (da_nil))))))
/-! ### taken_from -/
theorem sc_taken_from : FnScope ["counts", "box"] ["counts", "box"] (defScope (top 15)) := ⟨rfl, rfl, rfl, by decide +kernel, rfl, by decide +kernel, by decide +kernel⟩
theorem d_taken_from {P₀ : Program} {w : World} {K : PySem.W.Frag} {mg : Str → Option Value} {base : Heap} {f : Addr} {cdv : Value} {A : Around} {outer : List Env} {s : Shared} {H : Hp} {E : XK} (hx : ErrF P₀ K mg) (fr : Frees mg) (c_changed_by : Cal false P₀ w K mg base 1 "changed_by" (p_changed_by K)) (hca : CodeAt K f cdv) (hr : Room 1 (cxOf (L2.CX P₀ w) P₀ w K mg base ["counts", "box"] "taken_from" (defScope (top 15)) f cdv A outer s H E).A) (hq : false = true → Quiet (cxOf (L2.CX P₀ w) P₀ w K mg base ["counts", "box"] "taken_from" (defScope (top 15)) f cdv A outer s H E).A)
    (tk : Takes (cxOf (L2.CX P₀ w) P₀ w K mg base ["counts", "box"] "taken_from" (defScope (top 15)) f cdv A outer s H E) (fun c d _ H => E c d H)) : DSs (cxOf (L2.CX P₀ w) P₀ w K mg base ["counts", "box"] "taken_from" (defScope (top 15)) f cdv A outer s H E) (fun c d _ H => E c d H) (defBody (top 15)) (t_taken_from K) := by
  have hxx := hx
  obtain ⟨he_LockerError, he_NoWall, er_NoWall, hxf_NoWall, hno_NoWall, ek⟩ := hx
  exact dss_cons (ds_if (dt_cmp (do_eq hr.units) (de_ix (de_var 0) (de_op do_sub (de_var 1) (de_int))) (de_int) (by rfl)) (dss_one (ds_dead)) (dss_nil))
    (dss_one (ds_ret (de_call c_changed_by (hr.mono (by decide)) tk (da_cons (de_var 0) (da_cons (de_var 1) (da_cons (de_un du_neg (de_int)) (da_nil)))))))
/-! ### used_boxes -/
theorem sc_used_boxes : FnScope ["m", "laying", "at", "size", "box"] ["m", "laying"] (defScope (top 17)) := ⟨rfl, rfl, rfl, by decide +kernel, rfl, by decide +kernel, by decide +kernel⟩
theorem d_used_boxes {P₀ : Program} {w : World} {K : PySem.W.Frag} {mg : Str → Option Value} {base : Heap} {f : Addr} {cdv : Value} {A : Around} {outer : List Env} {s : Shared} {H : Hp} {E : XK} (hx : ErrF P₀ K mg) (fr : Frees mg) (hca : CodeAt K f cdv) (hr : Room 0 (cxOf (L2.CX P₀ w) P₀ w K mg base ["m", "laying", "at", "size", "box"] "used_boxes" (defScope (top 17)) f cdv A outer s H E).A) (hq : false = true → Quiet (cxOf (L2.CX P₀ w) P₀ w K mg base ["m", "laying", "at", "size", "box"] "used_boxes" (defScope (top 17)) f cdv A outer s H E).A)
    (tk : Takes (cxOf (L2.CX P₀ w) P₀ w K mg base ["m", "laying", "at", "size", "box"] "used_boxes" (defScope (top 17)) f cdv A outer s H E) (fun c d _ H => E c d H)) : DSs (cxOf (L2.CX P₀ w) P₀ w K mg base ["m", "laying", "at", "size", "box"] "used_boxes" (defScope (top 17)) f cdv A outer s H E) (fun c d _ H => E c d H) (defBody (top 17)) (t_used_boxes K) := by
  have hxx := hx
  obtain ⟨he_LockerError, he_NoWall, er_NoWall, hxf_NoWall, hno_NoWall, ek⟩ := hx
  exact dss_one (ds_ret (de_callT dc_tuple (da_cons (de_lc rfl sc_used_boxes.nd (di_range2 (da_cons (de_int) (da_cons (de_op do_add (de_var 0) (de_int)) (da_nil))) fr.f_range) (own := [("at", 2)]) (blkOk_by (by kernel_rfl)) (by decide) (fun _ _ _ _ _ => dg_name (i := 2) sc_used_boxes.nd rfl (by first | exact Or.inl rfl | exact Or.inr rfl)) (fun _ _ _ _ _ => dts_nil) (fun _ _ _ _ _ => de_callB dc_len (da_cons (de_lc rfl sc_used_boxes.nd (di_seq (de_var 1)) (own := [("size", 3), ("box", 4)]) (blkOk_by (by kernel_rfl)) (by decide) (fun _ _ _ _ _ => dg_tup rfl (dgs_cons (dg_name (i := 3) sc_used_boxes.nd rfl (by first | exact Or.inl rfl | exact Or.inr rfl)) (dgs_cons (dg_name (i := 4) sc_used_boxes.nd rfl (by first | exact Or.inl rfl | exact Or.inr rfl)) (dgs_nil)))) (fun _ _ _ _ _ => dts_one (dt_cmp (do_eq hr.units) (de_var 4) (de_var 2) (by rfl))) (fun _ _ _ _ _ => de_var 4)) (da_nil)) fr.f_len (by decide +kernel))) (da_nil)) fr.f_tuple (by decide +kernel)))
/-! ### free_behind -/
theorem sc_free_behind : FnScope ["counts", "laying", "many", "used"] ["counts", "laying"] (defScope (top 18)) := ⟨rfl, rfl, rfl, by decide +kernel, rfl, by decide +kernel, by decide +kernel⟩
theorem d_free_behind {P₀ : Program} {w : World} {K : PySem.W.Frag} {mg : Str → Option Value} {base : Heap} {f : Addr} {cdv : Value} {A : Around} {outer : List Env} {s : Shared} {H : Hp} {E : XK} (hx : ErrF P₀ K mg) (fr : Frees mg) (c_used_boxes : Cal false P₀ w K mg base 1 "used_boxes" (p_used_boxes K)) (hca : CodeAt K f cdv) (hr : Room 1 (cxOf (L2.CX P₀ w) P₀ w K mg base ["counts", "laying", "many", "used"] "free_behind" (defScope (top 18)) f cdv A outer s H E).A) (hq : false = true → Quiet (cxOf (L2.CX P₀ w) P₀ w K mg base ["counts", "laying", "many", "used"] "free_behind" (defScope (top 18)) f cdv A outer s H E).A)
    (tk : Takes (cxOf (L2.CX P₀ w) P₀ w K mg base ["counts", "laying", "many", "used"] "free_behind" (defScope (top 18)) f cdv A outer s H E) (fun c d _ H => E c d H)) : DSs (cxOf (L2.CX P₀ w) P₀ w K mg base ["counts", "laying", "many", "used"] "free_behind" (defScope (top 18)) f cdv A outer s H E) (fun c d _ H => E c d H) (defBody (top 18)) (t_free_behind K) := by
  have hxx := hx
  obtain ⟨he_LockerError, he_NoWall, er_NoWall, hxf_NoWall, hno_NoWall, ek⟩ := hx
  exact dss_one (ds_ret (de_callT dc_tuple (da_cons (de_lc rfl sc_free_behind.nd (di_zip (da_cons (de_var 0) (da_cons (de_call c_used_boxes (hr.mono (by decide)) tk (da_cons (de_callB dc_len (da_cons (de_var 0) (da_nil)) fr.f_len (by decide +kernel)) (da_cons (de_var 1) (da_nil)))) (da_nil))) fr.f_zip) (own := [("many", 2), ("used", 3)]) (blkOk_by (by kernel_rfl)) (by decide) (fun _ _ _ _ _ => dg_tup rfl (dgs_cons (dg_name (i := 2) sc_free_behind.nd rfl (by first | exact Or.inl rfl | exact Or.inr rfl)) (dgs_cons (dg_name (i := 3) sc_free_behind.nd rfl (by first | exact Or.inl rfl | exact Or.inr rfl)) (dgs_nil)))) (fun _ _ _ _ _ => dts_nil) (fun _ _ _ _ _ => de_op do_sub (de_var 2) (de_var 3))) (da_nil)) fr.f_tuple (by decide +kernel)))
/-! ### best_laying -/
theorem sc_best_laying : FnScope ["counts", "sizes", "laying", "size", "box"] ["counts", "sizes"] (defScope (top 19)) := ⟨rfl, rfl, rfl, by decide +kernel, rfl, by decide +kernel, by decide +kernel⟩
theorem d_best_laying {P₀ : Program} {w : World} {K : PySem.W.Frag} {mg : Str → Option Value} {base : Heap} {f : Addr} {cdv : Value} {A : Around} {outer : List Env} {s : Shared} {H : Hp} {E : XK} (hx : ErrF P₀ K mg) (fr : Frees mg) (c_least_box : Cal false P₀ w K mg base 1 "least_box" (p_least_box K)) (c_taken_from : Cal false P₀ w K mg base 2 "taken_from" (p_taken_from K)) (hca : CodeAt K f cdv) (hr : Room 2 (cxOf (L2.CX P₀ w) P₀ w K mg base ["counts", "sizes", "laying", "size", "box"] "best_laying" (defScope (top 19)) f cdv A outer s H E).A) (hq : false = true → Quiet (cxOf (L2.CX P₀ w) P₀ w K mg base ["counts", "sizes", "laying", "size", "box"] "best_laying" (defScope (top 19)) f cdv A outer s H E).A)
    (tk : Takes (cxOf (L2.CX P₀ w) P₀ w K mg base ["counts", "sizes", "laying", "size", "box"] "best_laying" (defScope (top 19)) f cdv A outer s H E) (fun c d _ H => E c d H)) : DSs (cxOf (L2.CX P₀ w) P₀ w K mg base ["counts", "sizes", "laying", "size", "box"] "best_laying" (defScope (top 19)) f cdv A outer s H E) (fun c d _ H => E c d H) (defBody (top 19)) (t_best_laying K) := by
  have hxx := hx
  obtain ⟨he_LockerError, he_NoWall, er_NoWall, hxf_NoWall, hno_NoWall, ek⟩ := hx
  exact dss_cons (ds_set sc_best_laying.nd (i := 2) rfl (by first | exact Or.inl rfl | exact Or.inr rfl) (de_lstM (da_nil)))
    (dss_cons (ds_for (passes_of rfl) rfl (di_seq (de_callB dc_sorted (da_cons (de_var 1) (da_nil)) fr.f_sorted (by decide +kernel))) (dg_name (i := 3) sc_best_laying.nd rfl (by first | exact Or.inl rfl | exact Or.inr rfl)) (dss_cons (ds_set sc_best_laying.nd (i := 4) rfl (by first | exact Or.inl rfl | exact Or.inr rfl) (de_call c_least_box (hr.mono (by decide)) tk (da_cons (de_var 0) (da_cons (de_var 3) (da_nil)))))
    (dss_cons (ds_if (dt_cmp do_is (de_var 4) (de_non) (by rfl)) (dss_one (ds_ret (de_non))) (dss_nil))
    (dss_cons (ds_set sc_best_laying.nd (i := 0) rfl (by first | exact Or.inl rfl | exact Or.inr rfl) (de_call c_taken_from (hr.mono (by decide)) tk (da_cons (de_var 0) (da_cons (de_var 4) (da_nil)))))
    (dss_one (ds_expr (de_mt PySem.F.plainAttrs_list PySem.F.slot_list_append PySem.F.type_list_append dm_append (de_var 2) (da_cons (de_tup (da_cons (de_var 3) (da_cons (de_var 4) (da_nil)))) (da_nil)))))))))
    (dss_one (ds_ret (de_callT dc_tuple (da_cons (de_callB dc_sorted (da_cons (de_var 2) (da_nil)) fr.f_sorted (by decide +kernel)) (da_nil)) fr.f_tuple (by decide +kernel)))))
/-! ### best_free -/
theorem sc_best_free : FnScope ["counts", "sizes", "laying"] ["counts", "sizes"] (defScope (top 20)) := ⟨rfl, rfl, rfl, by decide +kernel, rfl, by decide +kernel, by decide +kernel⟩
theorem d_best_free {P₀ : Program} {w : World} {K : PySem.W.Frag} {mg : Str → Option Value} {base : Heap} {f : Addr} {cdv : Value} {A : Around} {outer : List Env} {s : Shared} {H : Hp} {E : XK} (hx : ErrF P₀ K mg) (fr : Frees mg) (c_best_laying : Cal false P₀ w K mg base 3 "best_laying" (p_best_laying K)) (c_tails_of : Cal false P₀ w K mg base 1 "tails_of" (p_tails_of K)) (c_free_behind : Cal false P₀ w K mg base 2 "free_behind" (p_free_behind K)) (hca : CodeAt K f cdv) (hr : Room 3 (cxOf (L2.CX P₀ w) P₀ w K mg base ["counts", "sizes", "laying"] "best_free" (defScope (top 20)) f cdv A outer s H E).A) (hq : false = true → Quiet (cxOf (L2.CX P₀ w) P₀ w K mg base ["counts", "sizes", "laying"] "best_free" (defScope (top 20)) f cdv A outer s H E).A)
    (tk : Takes (cxOf (L2.CX P₀ w) P₀ w K mg base ["counts", "sizes", "laying"] "best_free" (defScope (top 20)) f cdv A outer s H E) (fun c d _ H => E c d H)) : DSs (cxOf (L2.CX P₀ w) P₀ w K mg base ["counts", "sizes", "laying"] "best_free" (defScope (top 20)) f cdv A outer s H E) (fun c d _ H => E c d H) (defBody (top 20)) (t_best_free K) := by
  have hxx := hx
  obtain ⟨he_LockerError, he_NoWall, er_NoWall, hxf_NoWall, hno_NoWall, ek⟩ := hx
  exact dss_cons (ds_set sc_best_free.nd (i := 2) rfl (by first | exact Or.inl rfl | exact Or.inr rfl) (de_call c_best_laying (hr.mono (by decide)) tk (da_cons (de_var 0) (da_cons (de_var 1) (da_nil)))))
    (dss_one (ds_ret (de_ifExp (dt_cmp do_is (de_var 2) (de_non) (by rfl)) (de_non) (de_call c_tails_of (hr.mono (by decide)) tk (da_cons (de_call c_free_behind (hr.mono (by decide)) tk (da_cons (de_var 0) (da_cons (de_var 2) (da_nil)))) (da_nil))))))
/-! ### room_tails -/
theorem sc_room_tails : FnScope ["house", "name", "standing", "wall", "free", "tail"] ["house", "name", "standing"] (defScope (top 22)) := ⟨rfl, rfl, rfl, by decide +kernel, rfl, by decide +kernel, by decide +kernel⟩
theorem d_room_tails {P₀ : Program} {w : World} {K : PySem.W.Frag} {mg : Str → Option Value} {base : Heap} {f : Addr} {cdv : Value} {A : Around} {outer : List Env} {s : Shared} {H : Hp} {E : XK} (hx : ErrF P₀ K mg) (fr : Frees mg) (c_wall_of : Cal false P₀ w K mg base 3 "wall_of" (p_wall_of K)) (c_best_free : Cal false P₀ w K mg base 4 "best_free" (p_best_free K)) (hca : CodeAt K f cdv) (hr : Room 4 (cxOf (L2.CX P₀ w) P₀ w K mg base ["house", "name", "standing", "wall", "free", "tail"] "room_tails" (defScope (top 22)) f cdv A outer s H E).A) (hq : false = true → Quiet (cxOf (L2.CX P₀ w) P₀ w K mg base ["house", "name", "standing", "wall", "free", "tail"] "room_tails" (defScope (top 22)) f cdv A outer s H E).A)
    (tk : Takes (cxOf (L2.CX P₀ w) P₀ w K mg base ["house", "name", "standing", "wall", "free", "tail"] "room_tails" (defScope (top 22)) f cdv A outer s H E) (fun c d _ H => E c d H)) : DSs (cxOf (L2.CX P₀ w) P₀ w K mg base ["house", "name", "standing", "wall", "free", "tail"] "room_tails" (defScope (top 22)) f cdv A outer s H E) (fun c d _ H => E c d H) (defBody (top 22)) (t_room_tails K) := by
  have hxx := hx
  obtain ⟨he_LockerError, he_NoWall, er_NoWall, hxf_NoWall, hno_NoWall, ek⟩ := hx
  exact dss_cons (ds_set sc_room_tails.nd (i := 3) rfl (by first | exact Or.inl rfl | exact Or.inr rfl) (de_call c_wall_of (hr.mono (by decide)) tk (da_cons (de_var 0) (da_cons (de_var 1) (da_nil)))))
    (dss_cons (ds_set sc_room_tails.nd (i := 4) rfl (by first | exact Or.inl rfl | exact Or.inr rfl) (de_call c_best_free (hr.mono (by decide)) tk (da_cons (de_ix (de_var 3) (de_int)) (da_cons (de_var 2) (da_nil)))))
    (dss_one (ds_ret (de_ifExp (dt_cmp do_is (de_var 4) (de_non) (by rfl)) (de_non) (de_callT dc_tuple (da_cons (de_lc rfl sc_room_tails.nd (di_seq (de_var 4)) (own := [("tail", 5)]) (blkOk_by (by kernel_rfl)) (by decide) (fun _ _ _ _ _ => dg_name (i := 5) sc_room_tails.nd rfl (by first | exact Or.inl rfl | exact Or.inr rfl)) (fun _ _ _ _ _ => dts_nil) (fun _ _ _ _ _ => de_callB (dc_max rfl) (da_cons (de_int) (da_cons (de_op do_sub (de_var 5) (de_ix (de_var 3) (de_int))) (da_nil))) fr.f_max (by decide +kernel))) (da_nil)) fr.f_tuple (by decide +kernel))))))
/-! ### made_tails -/
theorem sc_made_tails : FnScope ["house", "day", "name", "standing", "found", "room", "owed"] ["house", "day", "name", "standing"] (defScope (top 23)) := ⟨rfl, rfl, rfl, by decide +kernel, rfl, by decide +kernel, by decide +kernel⟩
theorem d_made_tails {P₀ : Program} {w : World} {K : PySem.W.Frag} {mg : Str → Option Value} {base : Heap} {f : Addr} {cdv : Value} {A : Around} {outer : List Env} {s : Shared} {H : Hp} {E : XK} (hx : ErrF P₀ K mg) (fr : Frees mg) (c_room_tails : Cal false P₀ w K mg base 5 "room_tails" (p_room_tails K)) (c_made_falling : Cal false P₀ w K mg base 1 "made_falling" (p_made_falling K)) (c_backs_of : Cal false P₀ w K mg base 3 "backs_of" (p_backs_of K)) (hca : CodeAt K f cdv) (hr : Room 5 (cxOf (L2.CX P₀ w) P₀ w K mg base ["house", "day", "name", "standing", "found", "room", "owed"] "made_tails" (defScope (top 23)) f cdv A outer s H E).A) (hq : false = true → Quiet (cxOf (L2.CX P₀ w) P₀ w K mg base ["house", "day", "name", "standing", "found", "room", "owed"] "made_tails" (defScope (top 23)) f cdv A outer s H E).A)
    (tk : Takes (cxOf (L2.CX P₀ w) P₀ w K mg base ["house", "day", "name", "standing", "found", "room", "owed"] "made_tails" (defScope (top 23)) f cdv A outer s H E) (fun c d _ H => E c d H)) : DSs (cxOf (L2.CX P₀ w) P₀ w K mg base ["house", "day", "name", "standing", "found", "room", "owed"] "made_tails" (defScope (top 23)) f cdv A outer s H E) (fun c d _ H => E c d H) (defBody (top 23)) (t_made_tails K) := by
  have hxx := hx
  obtain ⟨he_LockerError, he_NoWall, er_NoWall, hxf_NoWall, hno_NoWall, ek⟩ := hx
  exact dss_cons (ds_set sc_made_tails.nd (i := 4) rfl (by first | exact Or.inl rfl | exact Or.inr rfl) (de_call c_room_tails (hr.mono (by decide)) tk (da_cons (de_var 0) (da_cons (de_var 2) (da_cons (de_var 3) (da_nil))))))
    (dss_cons (ds_if (dt_cmp do_is (de_var 4) (de_non) (by rfl)) (dss_one (ds_ret (de_non))) (dss_nil))
    (dss_one (ds_ret (de_call c_made_falling (hr.mono (by decide)) tk (da_cons (de_callT dc_tuple (da_cons (de_lc rfl sc_made_tails.nd (di_zip (da_cons (de_var 4) (da_cons (de_call c_backs_of (hr.mono (by decide)) tk (da_cons (de_var 0) (da_cons (de_var 1) (da_cons (de_var 2) (da_nil))))) (da_nil))) fr.f_zip) (own := [("room", 5), ("owed", 6)]) (blkOk_by (by kernel_rfl)) (by decide) (fun _ _ _ _ _ => dg_tup rfl (dgs_cons (dg_name (i := 5) sc_made_tails.nd rfl (by first | exact Or.inl rfl | exact Or.inr rfl)) (dgs_cons (dg_name (i := 6) sc_made_tails.nd rfl (by first | exact Or.inl rfl | exact Or.inr rfl)) (dgs_nil)))) (fun _ _ _ _ _ => dts_nil) (fun _ _ _ _ _ => de_op do_sub (de_var 5) (de_var 6))) (da_nil)) fr.f_tuple (by decide +kernel)) (da_nil))))))
/-! ### breaking -/
theorem sc_breaking : FnScope ["house", "day", "name", "standing", "sizes", "boxes", "found", "stood", "owed", "come", "at"] ["house", "day", "name", "standing", "sizes"] (defScope (top 24)) := ⟨rfl, rfl, rfl, by decide +kernel, rfl, by decide +kernel, by decide +kernel⟩
theorem d_breaking {P₀ : Program} {w : World} {K : PySem.W.Frag} {mg : Str → Option Value} {base : Heap} {f : Addr} {cdv : Value} {A : Around} {outer : List Env} {s : Shared} {H : Hp} {E : XK} (hx : ErrF P₀ K mg) (fr : Frees mg) (c_tails_of : Cal false P₀ w K mg base 1 "tails_of" (p_tails_of K)) (c_wall_of : Cal false P₀ w K mg base 3 "wall_of" (p_wall_of K)) (c_room_tails : Cal false P₀ w K mg base 5 "room_tails" (p_room_tails K)) (c_tails_of_sizes : Cal false P₀ w K mg base 1 "tails_of_sizes" (p_tails_of_sizes K)) (c_backs_of : Cal false P₀ w K mg base 3 "backs_of" (p_backs_of K)) (hca : CodeAt K f cdv) (hr : Room 5 (cxOf (L2.CX P₀ w) P₀ w K mg base ["house", "day", "name", "standing", "sizes", "boxes", "found", "stood", "owed", "come", "at"] "breaking" (defScope (top 24)) f cdv A outer s H E).A) (hq : false = true → Quiet (cxOf (L2.CX P₀ w) P₀ w K mg base ["house", "day", "name", "standing", "sizes", "boxes", "found", "stood", "owed", "come", "at"] "breaking" (defScope (top 24)) f cdv A outer s H E).A)
    (tk : Takes (cxOf (L2.CX P₀ w) P₀ w K mg base ["house", "day", "name", "standing", "sizes", "boxes", "found", "stood", "owed", "come", "at"] "breaking" (defScope (top 24)) f cdv A outer s H E) (fun c d _ H => E c d H)) : DSs (cxOf (L2.CX P₀ w) P₀ w K mg base ["house", "day", "name", "standing", "sizes", "boxes", "found", "stood", "owed", "come", "at"] "breaking" (defScope (top 24)) f cdv A outer s H E) (fun c d _ H => E c d H) (defBody (top 24)) (t_breaking K) := by
  have hxx := hx
  obtain ⟨he_LockerError, he_NoWall, er_NoWall, hxf_NoWall, hno_NoWall, ek⟩ := hx
  exact dss_cons (ds_unp (de_tup (da_cons (de_call c_tails_of (hr.mono (by decide)) tk (da_cons (de_ix (de_call c_wall_of (hr.mono (by decide)) tk (da_cons (de_var 0) (da_cons (de_var 2) (da_nil)))) (de_int)) (da_nil))) (da_cons (de_call c_room_tails (hr.mono (by decide)) tk (da_cons (de_var 0) (da_cons (de_var 2) (da_cons (de_var 3) (da_nil))))) (da_nil)))) (dg_tup rfl (dgs_cons (dg_name (i := 5) sc_breaking.nd rfl (by first | exact Or.inl rfl | exact Or.inr rfl)) (dgs_cons (dg_name (i := 6) sc_breaking.nd rfl (by first | exact Or.inl rfl | exact Or.inr rfl)) (dgs_nil)))))
    (dss_cons (ds_if (dt_cmp do_is (de_var 6) (de_non) (by rfl)) (dss_cons (ds_set sc_breaking.nd (i := 7) rfl (by first | exact Or.inl rfl | exact Or.inr rfl) (de_call c_tails_of_sizes (hr.mono (by decide)) tk (da_cons (de_ix (de_var 0) (de_int)) (da_cons (de_var 3) (da_nil)))))
    (dss_one (ds_ret (de_tup (da_cons (de_str) (da_cons (de_callB (dc_min rfl) (da_cons (de_lc rfl sc_breaking.nd (di_range1 (da_cons (de_ix (de_var 0) (de_int)) (da_nil)) fr.f_range) (own := [("at", 10)]) (blkOk_by (by kernel_rfl)) (by decide) (fun _ _ _ _ _ => dg_name (i := 10) sc_breaking.nd rfl (by first | exact Or.inl rfl | exact Or.inr rfl)) (fun _ _ _ _ _ => dts_one (dt_cmp do_gt (de_ix (de_var 7) (de_var 10)) (de_ix (de_var 5) (de_var 10)) (by rfl))) (fun _ _ _ _ _ => de_op do_add (de_var 10) (de_int))) (da_nil)) fr.f_min (by decide +kernel)) (da_nil))))))) (dss_nil))
    (dss_cons (ds_par (i := 8) (j := 9) rfl sc_breaking.nd rfl rfl (by decide) rfl rfl (da_cons (de_call c_backs_of (hr.mono (by decide)) tk (da_cons (de_var 0) (da_cons (de_var 1) (da_cons (de_var 2) (da_nil))))) (da_cons (de_call c_tails_of_sizes (hr.mono (by decide)) tk (da_cons (de_ix (de_var 0) (de_int)) (da_cons (de_var 4) (da_nil)))) (da_nil))) (by rfl))
    (dss_cons (ds_for (passes_of rfl) rfl (di_range1 (da_cons (de_ix (de_var 0) (de_int)) (da_nil)) fr.f_range) (dg_name (i := 10) sc_breaking.nd rfl (by first | exact Or.inl rfl | exact Or.inr rfl)) (dss_one (ds_if (dt_cmp do_gt (de_op do_add (de_ix (de_var 9) (de_var 10)) (de_ix (de_var 8) (de_var 10))) (de_ix (de_var 6) (de_var 10)) (by rfl)) (dss_one (ds_ret (de_tup (da_cons (de_str) (da_cons (de_op do_add (de_var 10) (de_int)) (da_nil)))))) (dss_nil))))
    (dss_one (ds_ret (de_non))))))
/-! ### takes -/
theorem sc_takes : FnScope ["house", "day", "name", "standing", "sizes"] ["house", "day", "name", "standing", "sizes"] (defScope (top 25)) := ⟨rfl, rfl, rfl, by decide +kernel, rfl, by decide +kernel, by decide +kernel⟩
theorem d_takes {P₀ : Program} {w : World} {K : PySem.W.Frag} {mg : Str → Option Value} {base : Heap} {f : Addr} {cdv : Value} {A : Around} {outer : List Env} {s : Shared} {H : Hp} {E : XK} (hx : ErrF P₀ K mg) (fr : Frees mg) (c_breaking : Cal false P₀ w K mg base 6 "breaking" (p_breaking K)) (hca : CodeAt K f cdv) (hr : Room 6 (cxOf (L2.CX P₀ w) P₀ w K mg base ["house", "day", "name", "standing", "sizes"] "takes" (defScope (top 25)) f cdv A outer s H E).A) (hq : false = true → Quiet (cxOf (L2.CX P₀ w) P₀ w K mg base ["house", "day", "name", "standing", "sizes"] "takes" (defScope (top 25)) f cdv A outer s H E).A)
    (tk : Takes (cxOf (L2.CX P₀ w) P₀ w K mg base ["house", "day", "name", "standing", "sizes"] "takes" (defScope (top 25)) f cdv A outer s H E) (fun c d _ H => E c d H)) : DSs (cxOf (L2.CX P₀ w) P₀ w K mg base ["house", "day", "name", "standing", "sizes"] "takes" (defScope (top 25)) f cdv A outer s H E) (fun c d _ H => E c d H) (defBody (top 25)) (t_takes K) := by
  have hxx := hx
  obtain ⟨he_LockerError, he_NoWall, er_NoWall, hxf_NoWall, hno_NoWall, ek⟩ := hx
  exact dss_one (ds_ret (de_cmp do_is (de_call c_breaking (hr.mono (by decide)) tk (da_cons (de_var 0) (da_cons (de_var 1) (da_cons (de_var 2) (da_cons (de_var 3) (da_cons (de_var 4) (da_nil))))))) (de_non) (by rfl)))
/-! ### _law_take -/
theorem sc__law_take : FnScope ["bag", "many", "cell", "stirred", "value", "begin", "second"] ["bag", "many"] (defScope (top 27)) := ⟨rfl, rfl, rfl, by decide +kernel, rfl, by decide +kernel, by decide +kernel⟩
theorem d__law_take {P₀ : Program} {w : World} {K : PySem.W.Frag} {mg : Str → Option Value} {base : Heap} {f : Addr} {cdv : Value} {A : Around} {outer : List Env} {s : Shared} {H : Hp} {E : XK} (hx : ErrF P₀ K mg) (fr : Frees mg) (hca : CodeAt K f cdv) (hr : Room 0 (cxOf (L2.CX P₀ w) P₀ w K mg base ["bag", "many", "cell", "stirred", "value", "begin", "second"] "_law_take" (defScope (top 27)) f cdv A outer s H E).A) (hq : false = true → Quiet (cxOf (L2.CX P₀ w) P₀ w K mg base ["bag", "many", "cell", "stirred", "value", "begin", "second"] "_law_take" (defScope (top 27)) f cdv A outer s H E).A)
    (tk : Takes (cxOf (L2.CX P₀ w) P₀ w K mg base ["bag", "many", "cell", "stirred", "value", "begin", "second"] "_law_take" (defScope (top 27)) f cdv A outer s H E) (fun c d _ H => E c d H)) : DSs (cxOf (L2.CX P₀ w) P₀ w K mg base ["bag", "many", "cell", "stirred", "value", "begin", "second"] "_law_take" (defScope (top 27)) f cdv A outer s H E) (fun c d _ H => E c d H) (defBody (top 27)) (t__law_take K) := by
  have hxx := hx
  obtain ⟨he_LockerError, he_NoWall, er_NoWall, hxf_NoWall, hno_NoWall, ek⟩ := hx
  exact dss_cons (ds_if (dt_cmp (do_eq hr.units) (de_ix (de_var 0) (de_int)) (de_int) (by rfl)) (dss_cons (ds_set sc__law_take.nd (i := 2) rfl (by first | exact Or.inl rfl | exact Or.inr rfl) (de_ix (de_op do_add (de_slice (de_ix (de_var 0) (de_int)) (do_some (de_ix (de_var 0) (de_int))) (do_none)) (de_lst (da_cons (de_int) (da_nil)))) (de_int)))
    (dss_cons (ds_augI (de_var 0) (de_int) (de_int) di_add)
    (dss_cons (ds_if (dt_cmp do_ge (de_var 2) (de_op do_pow (de_int) (de_int)) (by rfl)) (dss_one (ds_stI (de_var 0) (de_int) (de_var 2))) (dss_nil))
    (dss_cons (ds_set sc__law_take.nd (i := 3) rfl (by first | exact Or.inl rfl | exact Or.inr rfl) (de_op do_add (de_op do_add (de_op do_mul (de_ix (de_var 0) (de_int)) (de_int)) (de_op do_mod (de_callT dc_int (da_cons (de_var 2) (da_nil)) fr.f_int (by decide +kernel)) (de_int))) (de_op do_mul (de_int) (de_ix (de_var 0) (de_int)))))
    (dss_one (ds_stI (de_var 0) (de_int) (de_op do_mod (de_callT dc_int (da_cons (de_var 3) (da_nil)) fr.f_int (by decide +kernel)) (de_int)))))))) (dss_nil))
    (dss_cons (ds_if (dt_cmp do_gt (de_ix (de_var 0) (de_int)) (de_int) (by rfl)) (dss_cons (ds_set sc__law_take.nd (i := 4) rfl (by first | exact Or.inl rfl | exact Or.inr rfl) (de_op do_mod (de_callT dc_int (da_cons (de_ix (de_var 0) (de_int)) (da_nil)) fr.f_int (by decide +kernel)) (de_var 1)))
    (dss_cons (ds_stI (de_var 0) (de_int) (de_op do_div (de_callT dc_int (da_cons (de_ix (de_var 0) (de_int)) (da_nil)) fr.f_int (by decide +kernel)) (de_var 1)))
    (dss_one (ds_ret (de_var 4))))) (dss_nil))
    (dss_cons (ds_set sc__law_take.nd (i := 5) rfl (by first | exact Or.inl rfl | exact Or.inr rfl) (de_op do_mod (de_callT dc_int (da_cons (de_op do_mul (de_op do_add (de_ix (de_var 0) (de_int)) (de_int)) (de_int)) (da_nil)) fr.f_int (by decide +kernel)) (de_int)))
    (dss_cons (ds_set sc__law_take.nd (i := 6) rfl (by first | exact Or.inl rfl | exact Or.inr rfl) (de_op do_mod (de_callT dc_int (da_cons (de_op do_mul (de_op do_mod (de_callT dc_int (da_cons (de_op do_mul (de_var 5) (de_var 5)) (da_nil)) fr.f_int (by decide +kernel)) (de_int)) (de_int)) (da_nil)) fr.f_int (by decide +kernel)) (de_int)))
    (dss_one (ds_ret (de_op do_mod (de_callT dc_int (da_cons (de_op do_div (de_var 6) (de_int)) (da_nil)) fr.f_int (by decide +kernel)) (de_var 1)))))))
/-! ### _law_laid -/
theorem sc__law_laid : FnScope ["counts", "sizes", "free", "found", "size", "some", "box"] ["counts", "sizes"] (defScope (top 28)) := ⟨rfl, rfl, rfl, by decide +kernel, rfl, by decide +kernel, by decide +kernel⟩
theorem d__law_laid {P₀ : Program} {w : World} {K : PySem.W.Frag} {mg : Str → Option Value} {base : Heap} {f : Addr} {cdv : Value} {A : Around} {outer : List Env} {s : Shared} {H : Hp} {E : XK} (hx : ErrF P₀ K mg) (fr : Frees mg) (hca : CodeAt K f cdv) (hr : Room 0 (cxOf (L2.CX P₀ w) P₀ w K mg base ["counts", "sizes", "free", "found", "size", "some", "box"] "_law_laid" (defScope (top 28)) f cdv A outer s H E).A) (hq : false = true → Quiet (cxOf (L2.CX P₀ w) P₀ w K mg base ["counts", "sizes", "free", "found", "size", "some", "box"] "_law_laid" (defScope (top 28)) f cdv A outer s H E).A)
    (tk : Takes (cxOf (L2.CX P₀ w) P₀ w K mg base ["counts", "sizes", "free", "found", "size", "some", "box"] "_law_laid" (defScope (top 28)) f cdv A outer s H E) (fun c d _ H => E c d H)) : DSs (cxOf (L2.CX P₀ w) P₀ w K mg base ["counts", "sizes", "free", "found", "size", "some", "box"] "_law_laid" (defScope (top 28)) f cdv A outer s H E) (fun c d _ H => E c d H) (defBody (top 28)) (t__law_laid K) := by
  have hxx := hx
  obtain ⟨he_LockerError, he_NoWall, er_NoWall, hxf_NoWall, hno_NoWall, ek⟩ := hx
  exact dss_cons (ds_unp (de_tup (da_cons (de_callT dc_list (da_cons (de_var 0) (da_nil)) fr.f_list (by decide +kernel)) (da_cons (de_lstM (da_nil)) (da_nil)))) (dg_tup rfl (dgs_cons (dg_name (i := 2) sc__law_laid.nd rfl (by first | exact Or.inl rfl | exact Or.inr rfl)) (dgs_cons (dg_name (i := 3) sc__law_laid.nd rfl (by first | exact Or.inl rfl | exact Or.inr rfl)) (dgs_nil)))))
    (dss_cons (ds_for (passes_of rfl) rfl (di_seq (de_callB dc_sorted (da_cons (de_var 1) (da_nil)) fr.f_sorted (by decide +kernel))) (dg_name (i := 4) sc__law_laid.nd rfl (by first | exact Or.inl rfl | exact Or.inr rfl)) (dss_cons (ds_setLc rfl sc__law_laid.nd (i := 5) rfl rfl (sw_true rfl rfl (by rfl) (by decide +kernel)) (di_range2 (da_cons (de_var 4) (da_cons (de_op do_add (de_callB dc_len (da_cons (de_var 0) (da_nil)) fr.f_len (by decide +kernel)) (de_int)) (da_nil))) fr.f_range) (own := [("box", 6)]) (blkOk_by (by kernel_rfl)) (by decide) (fun _ _ _ _ _ => dg_name (i := 6) sc__law_laid.nd rfl (by first | exact Or.inl rfl | exact Or.inr rfl)) (fun _ _ _ _ _ => dts_one (dt_cmp do_gt (de_ix (de_var 2) (de_op do_sub (de_var 6) (de_int))) (de_int) (by rfl))) (fun _ _ _ _ _ => de_var 6))
    (dss_cons (ds_if (dt_cmp (do_eq hr.units) (de_var 5) (de_lst (da_nil)) (by rfl)) (dss_one (ds_ret (de_non))) (dss_nil))
    (dss_cons (ds_augI (de_var 2) (de_op do_sub (de_ix (de_var 5) (de_int)) (de_int)) (de_int) di_sub)
    (dss_one (ds_expr (de_mt PySem.F.plainAttrs_list PySem.F.slot_list_append PySem.F.type_list_append dm_append (de_var 3) (da_cons (de_tup (da_cons (de_var 4) (da_cons (de_ix (de_var 5) (de_int)) (da_nil)))) (da_nil)))))))))
    (dss_one (ds_ret (de_tup (da_cons (de_callT dc_tuple (da_cons (de_callB dc_sorted (da_cons (de_var 3) (da_nil)) fr.f_sorted (by decide +kernel)) (da_nil)) fr.f_tuple (by decide +kernel)) (da_cons (de_callT dc_tuple (da_cons (de_var 2) (da_nil)) fr.f_tuple (by decide +kernel)) (da_nil)))))))
/-! ### _law_tails -/
theorem sc__law_tails : FnScope ["counts", "at"] ["counts"] (defScope (top 29)) := ⟨rfl, rfl, rfl, by decide +kernel, rfl, by decide +kernel, by decide +kernel⟩
theorem d__law_tails {P₀ : Program} {w : World} {K : PySem.W.Frag} {mg : Str → Option Value} {base : Heap} {f : Addr} {cdv : Value} {A : Around} {outer : List Env} {s : Shared} {H : Hp} {E : XK} (hx : ErrF P₀ K mg) (fr : Frees mg) (hca : CodeAt K f cdv) (hr : Room 0 (cxOf (L2.CX P₀ w) P₀ w K mg base ["counts", "at"] "_law_tails" (defScope (top 29)) f cdv A outer s H E).A) (hq : false = true → Quiet (cxOf (L2.CX P₀ w) P₀ w K mg base ["counts", "at"] "_law_tails" (defScope (top 29)) f cdv A outer s H E).A)
    (tk : Takes (cxOf (L2.CX P₀ w) P₀ w K mg base ["counts", "at"] "_law_tails" (defScope (top 29)) f cdv A outer s H E) (fun c d _ H => E c d H)) : DSs (cxOf (L2.CX P₀ w) P₀ w K mg base ["counts", "at"] "_law_tails" (defScope (top 29)) f cdv A outer s H E) (fun c d _ H => E c d H) (defBody (top 29)) (t__law_tails K) := by
  have hxx := hx
  obtain ⟨he_LockerError, he_NoWall, er_NoWall, hxf_NoWall, hno_NoWall, ek⟩ := hx
  exact dss_one (ds_ret (de_callT dc_tuple (da_cons (de_lc rfl sc__law_tails.nd (di_range1 (da_cons (de_callB dc_len (da_cons (de_var 0) (da_nil)) fr.f_len (by decide +kernel)) (da_nil)) fr.f_range) (own := [("at", 1)]) (blkOk_by (by kernel_rfl)) (by decide) (fun _ _ _ _ _ => dg_name (i := 1) sc__law_tails.nd rfl (by first | exact Or.inl rfl | exact Or.inr rfl)) (fun _ _ _ _ _ => dts_nil) (fun _ _ _ _ _ => de_callB (dc_sum rfl) (da_cons (de_slice (de_var 0) (do_some (de_var 1)) (do_none)) (da_nil)) fr.f_sum (by decide +kernel))) (da_nil)) fr.f_tuple (by decide +kernel)))
/-! ### _law_made -/
theorem sc__law_made : FnScope ["counts", "jams", "sizes", "backs", "laid", "found", "tail", "owed", "own"] ["counts", "jams", "sizes", "backs"] (defScope (top 30)) := ⟨rfl, rfl, rfl, by decide +kernel, rfl, by decide +kernel, by decide +kernel⟩
theorem d__law_made {P₀ : Program} {w : World} {K : PySem.W.Frag} {mg : Str → Option Value} {base : Heap} {f : Addr} {cdv : Value} {A : Around} {outer : List Env} {s : Shared} {H : Hp} {E : XK} (hx : ErrF P₀ K mg) (fr : Frees mg) (c__law_laid : Cal false P₀ w K mg base 1 "_law_laid" (p__law_laid K)) (c__law_tails : Cal false P₀ w K mg base 1 "_law_tails" (p__law_tails K)) (hca : CodeAt K f cdv) (hr : Room 1 (cxOf (L2.CX P₀ w) P₀ w K mg base ["counts", "jams", "sizes", "backs", "laid", "found", "tail", "owed", "own"] "_law_made" (defScope (top 30)) f cdv A outer s H E).A) (hq : false = true → Quiet (cxOf (L2.CX P₀ w) P₀ w K mg base ["counts", "jams", "sizes", "backs", "laid", "found", "tail", "owed", "own"] "_law_made" (defScope (top 30)) f cdv A outer s H E).A)
    (tk : Takes (cxOf (L2.CX P₀ w) P₀ w K mg base ["counts", "jams", "sizes", "backs", "laid", "found", "tail", "owed", "own"] "_law_made" (defScope (top 30)) f cdv A outer s H E) (fun c d _ H => E c d H)) : DSs (cxOf (L2.CX P₀ w) P₀ w K mg base ["counts", "jams", "sizes", "backs", "laid", "found", "tail", "owed", "own"] "_law_made" (defScope (top 30)) f cdv A outer s H E) (fun c d _ H => E c d H) (defBody (top 30)) (t__law_made K) := by
  have hxx := hx
  obtain ⟨he_LockerError, he_NoWall, er_NoWall, hxf_NoWall, hno_NoWall, ek⟩ := hx
  exact dss_cons (ds_par (i := 4) (j := 5) rfl sc__law_made.nd rfl rfl (by decide) rfl rfl (da_cons (de_call c__law_laid (hr.mono (by decide)) tk (da_cons (de_var 0) (da_cons (de_var 2) (da_nil)))) (da_cons (de_lstM (da_nil)) (da_nil))) (by rfl))
    (dss_cons (ds_if (dt_cmp do_is (de_var 4) (de_non) (by rfl)) (dss_one (ds_ret (de_non))) (dss_nil))
    (dss_cons (ds_for (passes_of rfl) rfl (di_zip (da_cons (de_call c__law_tails (hr.mono (by decide)) tk (da_cons (de_ix (de_var 4) (de_int)) (da_nil))) (da_cons (de_var 3) (da_nil))) fr.f_zip) (dg_tup rfl (dgs_cons (dg_name (i := 6) sc__law_made.nd rfl (by first | exact Or.inl rfl | exact Or.inr rfl)) (dgs_cons (dg_name (i := 7) sc__law_made.nd rfl (by first | exact Or.inl rfl | exact Or.inr rfl)) (dgs_nil)))) (dss_cons (ds_set sc__law_made.nd (i := 8) rfl (by first | exact Or.inl rfl | exact Or.inr rfl) (de_op do_sub (de_callB (dc_max rfl) (da_cons (de_int) (da_cons (de_op do_sub (de_var 6) (de_var 1)) (da_nil))) fr.f_max (by decide +kernel)) (de_var 7)))
    (dss_one (ds_expr (de_mt PySem.F.plainAttrs_list PySem.F.slot_list_append PySem.F.type_list_append dm_append (de_var 5) (da_cons (de_ifExp (dt_cmp (do_ne hr.units) (de_var 5) (de_lst (da_nil)) (by rfl)) (de_callB (dc_min rfl) (da_cons (de_var 8) (da_cons (de_ix (de_var 5) (de_un du_neg (de_int))) (da_nil))) fr.f_min (by decide +kernel)) (de_var 8)) (da_nil)))))))
    (dss_one (ds_ret (de_callT dc_tuple (da_cons (de_var 5) (da_nil)) fr.f_tuple (by decide +kernel))))))
/-! ### _law_is_at_most -/
theorem sc__law_is_at_most : FnScope ["one", "other", "few", "many"] ["one", "other"] (defScope (top 31)) := ⟨rfl, rfl, rfl, by decide +kernel, rfl, by decide +kernel, by decide +kernel⟩
theorem d__law_is_at_most {P₀ : Program} {w : World} {K : PySem.W.Frag} {mg : Str → Option Value} {base : Heap} {f : Addr} {cdv : Value} {A : Around} {outer : List Env} {s : Shared} {H : Hp} {E : XK} (hx : ErrF P₀ K mg) (fr : Frees mg) (hca : CodeAt K f cdv) (hr : Room 0 (cxOf (L2.CX P₀ w) P₀ w K mg base ["one", "other", "few", "many"] "_law_is_at_most" (defScope (top 31)) f cdv A outer s H E).A) (hq : false = true → Quiet (cxOf (L2.CX P₀ w) P₀ w K mg base ["one", "other", "few", "many"] "_law_is_at_most" (defScope (top 31)) f cdv A outer s H E).A)
    (tk : Takes (cxOf (L2.CX P₀ w) P₀ w K mg base ["one", "other", "few", "many"] "_law_is_at_most" (defScope (top 31)) f cdv A outer s H E) (fun c d _ H => E c d H)) : DSs (cxOf (L2.CX P₀ w) P₀ w K mg base ["one", "other", "few", "many"] "_law_is_at_most" (defScope (top 31)) f cdv A outer s H E) (fun c d _ H => E c d H) (defBody (top 31)) (t__law_is_at_most K) := by
  have hxx := hx
  obtain ⟨he_LockerError, he_NoWall, er_NoWall, hxf_NoWall, hno_NoWall, ek⟩ := hx
  exact dss_one (ds_ret (de_cmp (do_eq hr.units) (de_lc rfl sc__law_is_at_most.nd (di_zip (da_cons (de_var 0) (da_cons (de_var 1) (da_nil))) fr.f_zip) (own := [("few", 2), ("many", 3)]) (blkOk_by (by kernel_rfl)) (by decide) (fun _ _ _ _ _ => dg_tup rfl (dgs_cons (dg_name (i := 2) sc__law_is_at_most.nd rfl (by first | exact Or.inl rfl | exact Or.inr rfl)) (dgs_cons (dg_name (i := 3) sc__law_is_at_most.nd rfl (by first | exact Or.inl rfl | exact Or.inr rfl)) (dgs_nil)))) (fun _ _ _ _ _ => dts_one (dt_cmp do_gt (de_var 2) (de_var 3) (by rfl))) (fun _ _ _ _ _ => de_int)) (de_lst (da_nil)) (by rfl)))
/-! ### _law_size_tails -/
theorem sc__law_size_tails : FnScope ["m", "sizes", "at", "size"] ["m", "sizes"] (defScope (top 32)) := ⟨rfl, rfl, rfl, by decide +kernel, rfl, by decide +kernel, by decide +kernel⟩
theorem d__law_size_tails {P₀ : Program} {w : World} {K : PySem.W.Frag} {mg : Str → Option Value} {base : Heap} {f : Addr} {cdv : Value} {A : Around} {outer : List Env} {s : Shared} {H : Hp} {E : XK} (hx : ErrF P₀ K mg) (fr : Frees mg) (hca : CodeAt K f cdv) (hr : Room 0 (cxOf (L2.CX P₀ w) P₀ w K mg base ["m", "sizes", "at", "size"] "_law_size_tails" (defScope (top 32)) f cdv A outer s H E).A) (hq : false = true → Quiet (cxOf (L2.CX P₀ w) P₀ w K mg base ["m", "sizes", "at", "size"] "_law_size_tails" (defScope (top 32)) f cdv A outer s H E).A)
    (tk : Takes (cxOf (L2.CX P₀ w) P₀ w K mg base ["m", "sizes", "at", "size"] "_law_size_tails" (defScope (top 32)) f cdv A outer s H E) (fun c d _ H => E c d H)) : DSs (cxOf (L2.CX P₀ w) P₀ w K mg base ["m", "sizes", "at", "size"] "_law_size_tails" (defScope (top 32)) f cdv A outer s H E) (fun c d _ H => E c d H) (defBody (top 32)) (t__law_size_tails K) := by
  have hxx := hx
  obtain ⟨he_LockerError, he_NoWall, er_NoWall, hxf_NoWall, hno_NoWall, ek⟩ := hx
  exact dss_one (ds_ret (de_callT dc_tuple (da_cons (de_lc rfl sc__law_size_tails.nd (di_range1 (da_cons (de_var 0) (da_nil)) fr.f_range) (own := [("at", 2)]) (blkOk_by (by kernel_rfl)) (by decide) (fun _ _ _ _ _ => dg_name (i := 2) sc__law_size_tails.nd rfl (by first | exact Or.inl rfl | exact Or.inr rfl)) (fun _ _ _ _ _ => dts_nil) (fun _ _ _ _ _ => de_callB dc_len (da_cons (de_lc rfl sc__law_size_tails.nd (di_seq (de_var 1)) (own := [("size", 3)]) (blkOk_by (by kernel_rfl)) (by decide) (fun _ _ _ _ _ => dg_name (i := 3) sc__law_size_tails.nd rfl (by first | exact Or.inl rfl | exact Or.inr rfl)) (fun _ _ _ _ _ => dts_one (dt_cmp do_gt (de_var 3) (de_var 2) (by rfl))) (fun _ _ _ _ _ => de_var 3)) (da_nil)) fr.f_len (by decide +kernel))) (da_nil)) fr.f_tuple (by decide +kernel)))
/-! ### _law_counts -/
theorem sc__law_counts : FnScope ["tails", "one", "other"] ["tails"] (defScope (top 33)) := ⟨rfl, rfl, rfl, by decide +kernel, rfl, by decide +kernel, by decide +kernel⟩
theorem d__law_counts {P₀ : Program} {w : World} {K : PySem.W.Frag} {mg : Str → Option Value} {base : Heap} {f : Addr} {cdv : Value} {A : Around} {outer : List Env} {s : Shared} {H : Hp} {E : XK} (hx : ErrF P₀ K mg) (fr : Frees mg) (hca : CodeAt K f cdv) (hr : Room 0 (cxOf (L2.CX P₀ w) P₀ w K mg base ["tails", "one", "other"] "_law_counts" (defScope (top 33)) f cdv A outer s H E).A) (hq : false = true → Quiet (cxOf (L2.CX P₀ w) P₀ w K mg base ["tails", "one", "other"] "_law_counts" (defScope (top 33)) f cdv A outer s H E).A)
    (tk : Takes (cxOf (L2.CX P₀ w) P₀ w K mg base ["tails", "one", "other"] "_law_counts" (defScope (top 33)) f cdv A outer s H E) (fun c d _ H => E c d H)) : DSs (cxOf (L2.CX P₀ w) P₀ w K mg base ["tails", "one", "other"] "_law_counts" (defScope (top 33)) f cdv A outer s H E) (fun c d _ H => E c d H) (defBody (top 33)) (t__law_counts K) := by
  have hxx := hx
  obtain ⟨he_LockerError, he_NoWall, er_NoWall, hxf_NoWall, hno_NoWall, ek⟩ := hx
  exact dss_one (ds_ret (de_callT dc_tuple (da_cons (de_lc rfl sc__law_counts.nd (di_zip (da_cons (de_var 0) (da_cons (de_op do_add (de_callT dc_tuple (da_cons (de_slice (de_var 0) (do_some (de_int)) (do_none)) (da_nil)) fr.f_tuple (by decide +kernel)) (de_tup (da_cons (de_int) (da_nil)))) (da_nil))) fr.f_zip) (own := [("one", 1), ("other", 2)]) (blkOk_by (by kernel_rfl)) (by decide) (fun _ _ _ _ _ => dg_tup rfl (dgs_cons (dg_name (i := 1) sc__law_counts.nd rfl (by first | exact Or.inl rfl | exact Or.inr rfl)) (dgs_cons (dg_name (i := 2) sc__law_counts.nd rfl (by first | exact Or.inl rfl | exact Or.inr rfl)) (dgs_nil)))) (fun _ _ _ _ _ => dts_nil) (fun _ _ _ _ _ => de_op do_sub (de_var 1) (de_var 2))) (da_nil)) fr.f_tuple (by decide +kernel)))
/-! ### _law_alike -/
theorem sc__law_alike : FnScope ["found", "due"] ["found", "due"] (defScope (top 34)) := ⟨rfl, rfl, rfl, by decide +kernel, rfl, by decide +kernel, by decide +kernel⟩
theorem d__law_alike {P₀ : Program} {w : World} {K : PySem.W.Frag} {mg : Str → Option Value} {base : Heap} {f : Addr} {cdv : Value} {A : Around} {outer : List Env} {s : Shared} {H : Hp} {E : XK} (hx : ErrF P₀ K mg) (fr : Frees mg) (hca : CodeAt K f cdv) (hr : Room 0 (cxOf (L2.CX P₀ w) P₀ w K mg base ["found", "due"] "_law_alike" (defScope (top 34)) f cdv A outer s H E).A) (hq : true = true → Quiet (cxOf (L2.CX P₀ w) P₀ w K mg base ["found", "due"] "_law_alike" (defScope (top 34)) f cdv A outer s H E).A)
    (tk : Takes (cxOf (L2.CX P₀ w) P₀ w K mg base ["found", "due"] "_law_alike" (defScope (top 34)) f cdv A outer s H E) (fun c d _ H => E c d H)) : DSs (cxOf (L2.CX P₀ w) P₀ w K mg base ["found", "due"] "_law_alike" (defScope (top 34)) f cdv A outer s H E) (fun c d _ H => E c d H) (defBody (top 34)) (t__law_alike K) := by
  have hxx := hx
  obtain ⟨he_LockerError, he_NoWall, er_NoWall, hxf_NoWall, hno_NoWall, ek⟩ := hx
  exact dss_one (ds_ret (de_and (de_cmp (do_eq hr.units) (de_callB (dc_repr rfl (hq rfl) hr.units) (da_cons (de_var 0) (da_nil)) fr.f_repr (by decide +kernel)) (de_callB (dc_repr rfl (hq rfl) hr.units) (da_cons (de_var 1) (da_nil)) fr.f_repr (by decide +kernel)) (by rfl)) (de_one (de_cmp (do_eq hr.units) (de_var 0) (de_var 1) (by rfl)))))
/-! ### _law_bag -/
theorem sc__law_bag : FnScope ["script", "cell"] ["script"] (defScope (top 35)) := ⟨rfl, rfl, rfl, by decide +kernel, rfl, by decide +kernel, by decide +kernel⟩
theorem d__law_bag {P₀ : Program} {w : World} {K : PySem.W.Frag} {mg : Str → Option Value} {base : Heap} {f : Addr} {cdv : Value} {A : Around} {outer : List Env} {s : Shared} {H : Hp} {E : XK} (hx : ErrF P₀ K mg) (fr : Frees mg) (hca : CodeAt K f cdv) (hr : Room 0 (cxOf (L2.CX P₀ w) P₀ w K mg base ["script", "cell"] "_law_bag" (defScope (top 35)) f cdv A outer s H E).A) (hq : false = true → Quiet (cxOf (L2.CX P₀ w) P₀ w K mg base ["script", "cell"] "_law_bag" (defScope (top 35)) f cdv A outer s H E).A)
    (tk : Takes (cxOf (L2.CX P₀ w) P₀ w K mg base ["script", "cell"] "_law_bag" (defScope (top 35)) f cdv A outer s H E) (fun c d _ H => E c d H)) : DSs (cxOf (L2.CX P₀ w) P₀ w K mg base ["script", "cell"] "_law_bag" (defScope (top 35)) f cdv A outer s H E) (fun c d _ H => E c d H) (defBody (top 35)) (t__law_bag K) := by
  have hxx := hx
  obtain ⟨he_LockerError, he_NoWall, er_NoWall, hxf_NoWall, hno_NoWall, ek⟩ := hx
  exact dss_one (ds_ret (de_lstM (da_cons (de_int) (da_cons (de_int) (da_cons (de_int) (da_cons (de_lc rfl sc__law_bag.nd (di_seq (de_slice (de_var 0) (do_none) (do_some (de_int)))) (own := [("cell", 1)]) (blkOk_by (by kernel_rfl)) (by decide) (fun _ _ _ _ _ => dg_name (i := 1) sc__law_bag.nd rfl (by first | exact Or.inl rfl | exact Or.inr rfl)) (fun _ _ _ _ _ => dts_nil) (fun _ _ _ _ _ => de_callB dc_abs (da_cons (de_var 1) (da_nil)) fr.f_abs (by decide +kernel))) (da_nil)))))))
/-! ### _law_mixed -/
theorem sc__law_mixed : FnScope ["bag", "things", "left", "found"] ["bag", "things"] (defScope (top 36)) := ⟨rfl, rfl, rfl, by decide +kernel, rfl, by decide +kernel, by decide +kernel⟩
theorem d__law_mixed {P₀ : Program} {w : World} {K : PySem.W.Frag} {mg : Str → Option Value} {base : Heap} {f : Addr} {cdv : Value} {A : Around} {outer : List Env} {s : Shared} {H : Hp} {E : XK} (hx : ErrF P₀ K mg) (fr : Frees mg) (c__law_take : Cal false P₀ w K mg base 1 "_law_take" (p__law_take K)) (hca : CodeAt K f cdv) (hr : Room 1 (cxOf (L2.CX P₀ w) P₀ w K mg base ["bag", "things", "left", "found"] "_law_mixed" (defScope (top 36)) f cdv A outer s H E).A) (hq : false = true → Quiet (cxOf (L2.CX P₀ w) P₀ w K mg base ["bag", "things", "left", "found"] "_law_mixed" (defScope (top 36)) f cdv A outer s H E).A)
    (tk : Takes (cxOf (L2.CX P₀ w) P₀ w K mg base ["bag", "things", "left", "found"] "_law_mixed" (defScope (top 36)) f cdv A outer s H E) (fun c d _ H => E c d H)) : DSs (cxOf (L2.CX P₀ w) P₀ w K mg base ["bag", "things", "left", "found"] "_law_mixed" (defScope (top 36)) f cdv A outer s H E) (fun c d _ H => E c d H) (defBody (top 36)) (t__law_mixed K) := by
  have hxx := hx
  obtain ⟨he_LockerError, he_NoWall, er_NoWall, hxf_NoWall, hno_NoWall, ek⟩ := hx
  exact dss_cons (ds_par (i := 2) (j := 3) rfl sc__law_mixed.nd rfl rfl (by decide) rfl rfl (da_cons (de_callT dc_list (da_cons (de_var 1) (da_nil)) fr.f_list (by decide +kernel)) (da_cons (de_lstM (da_nil)) (da_nil))) (by rfl))
    (dss_cons (ds_while (passes_of rfl) (dt_cmp (do_ne hr.units) (de_var 2) (de_lst (da_nil)) (by rfl)) (dss_one (ds_expr (de_mt PySem.F.plainAttrs_list PySem.F.slot_list_append PySem.F.type_list_append dm_append (de_var 3) (da_cons (de_mt PySem.F.plainAttrs_list PySem.F.slot_list_pop PySem.F.type_list_pop dm_pop (de_var 2) (da_cons (de_call c__law_take (hr.mono (by decide)) tk (da_cons (de_var 0) (da_cons (de_callB dc_len (da_cons (de_var 2) (da_nil)) fr.f_len (by decide +kernel)) (da_nil)))) (da_nil))) (da_nil))))))
    (dss_one (ds_ret (de_var 3))))
/-! ### _law_names -/
theorem sc__law_names : FnScope ["bag", "many"] ["bag", "many"] (defScope (top 37)) := ⟨rfl, rfl, rfl, by decide +kernel, rfl, by decide +kernel, by decide +kernel⟩
theorem d__law_names {P₀ : Program} {w : World} {K : PySem.W.Frag} {mg : Str → Option Value} {base : Heap} {f : Addr} {cdv : Value} {A : Around} {outer : List Env} {s : Shared} {H : Hp} {E : XK} (hx : ErrF P₀ K mg) (fr : Frees mg) (c__law_mixed : Cal false P₀ w K mg base 2 "_law_mixed" (p__law_mixed K)) (hca : CodeAt K f cdv) (hr : Room 2 (cxOf (L2.CX P₀ w) P₀ w K mg base ["bag", "many"] "_law_names" (defScope (top 37)) f cdv A outer s H E).A) (hq : false = true → Quiet (cxOf (L2.CX P₀ w) P₀ w K mg base ["bag", "many"] "_law_names" (defScope (top 37)) f cdv A outer s H E).A)
    (tk : Takes (cxOf (L2.CX P₀ w) P₀ w K mg base ["bag", "many"] "_law_names" (defScope (top 37)) f cdv A outer s H E) (fun c d _ H => E c d H)) : DSs (cxOf (L2.CX P₀ w) P₀ w K mg base ["bag", "many"] "_law_names" (defScope (top 37)) f cdv A outer s H E) (fun c d _ H => E c d H) (defBody (top 37)) (t__law_names K) := by
  have hxx := hx
  obtain ⟨he_LockerError, he_NoWall, er_NoWall, hxf_NoWall, hno_NoWall, ek⟩ := hx
  exact dss_one (ds_ret (de_callB dc_sorted (da_cons (de_slice (de_call c__law_mixed (hr.mono (by decide)) tk (da_cons (de_var 0) (da_cons (de_lst (da_cons (de_str) (da_cons (de_str) (da_cons (de_str) (da_cons (de_str) (da_cons (de_str) (da_cons (de_str) (da_cons (de_str) (da_cons (de_str) (da_cons (de_str) (da_cons (de_str) (da_nil)))))))))))) (da_nil)))) (do_none) (do_some (de_var 1))) (da_nil)) fr.f_sorted (by decide +kernel)))
/-! ### _law_drawn_counts -/
theorem sc__law_drawn_counts : FnScope ["bag", "m", "most", "found", "size"] ["bag", "m", "most"] (defScope (top 38)) := ⟨rfl, rfl, rfl, by decide +kernel, rfl, by decide +kernel, by decide +kernel⟩
theorem d__law_drawn_counts {P₀ : Program} {w : World} {K : PySem.W.Frag} {mg : Str → Option Value} {base : Heap} {f : Addr} {cdv : Value} {A : Around} {outer : List Env} {s : Shared} {H : Hp} {E : XK} (hx : ErrF P₀ K mg) (fr : Frees mg) (c__law_take : Cal false P₀ w K mg base 1 "_law_take" (p__law_take K)) (hca : CodeAt K f cdv) (hr : Room 1 (cxOf (L2.CX P₀ w) P₀ w K mg base ["bag", "m", "most", "found", "size"] "_law_drawn_counts" (defScope (top 38)) f cdv A outer s H E).A) (hq : false = true → Quiet (cxOf (L2.CX P₀ w) P₀ w K mg base ["bag", "m", "most", "found", "size"] "_law_drawn_counts" (defScope (top 38)) f cdv A outer s H E).A)
    (tk : Takes (cxOf (L2.CX P₀ w) P₀ w K mg base ["bag", "m", "most", "found", "size"] "_law_drawn_counts" (defScope (top 38)) f cdv A outer s H E) (fun c d _ H => E c d H)) : DSs (cxOf (L2.CX P₀ w) P₀ w K mg base ["bag", "m", "most", "found", "size"] "_law_drawn_counts" (defScope (top 38)) f cdv A outer s H E) (fun c d _ H => E c d H) (defBody (top 38)) (t__law_drawn_counts K) := by
  have hxx := hx
  obtain ⟨he_LockerError, he_NoWall, er_NoWall, hxf_NoWall, hno_NoWall, ek⟩ := hx
  exact dss_cons (ds_setLcM rfl sc__law_drawn_counts.nd (i := 3) rfl rfl (sw_true rfl rfl (by rfl) (by decide +kernel)) (di_range1 (da_cons (de_var 1) (da_nil)) fr.f_range) (own := [("size", 4)]) (blkOk_by (by kernel_rfl)) (by decide) (fun _ _ _ _ _ => dg_name (i := 4) sc__law_drawn_counts.nd rfl (by first | exact Or.inl rfl | exact Or.inr rfl)) (fun _ _ _ _ _ => dts_nil) (fun _ _ _ _ _ => de_call c__law_take (hr.mono (by decide)) LamX.takes0 (da_cons (de_var 0) (da_cons (de_op do_add (de_var 2) (de_int)) (da_nil)))))
    (dss_cons (ds_if (dt_cmp (do_eq hr.units) (de_callB (dc_sum rfl) (da_cons (de_var 3) (da_nil)) fr.f_sum (by decide +kernel)) (de_int) (by rfl)) (dss_one (ds_stI (de_var 3) (de_call c__law_take (hr.mono (by decide)) tk (da_cons (de_var 0) (da_cons (de_var 1) (da_nil)))) (de_int))) (dss_nil))
    (dss_one (ds_ret (de_callT dc_tuple (da_cons (de_var 3) (da_nil)) fr.f_tuple (by decide +kernel)))))
/-! ### _law_some -/
theorem sc__law_some : FnScope ["bag", "things"] ["bag", "things"] (defScope (top 39)) := ⟨rfl, rfl, rfl, by decide +kernel, rfl, by decide +kernel, by decide +kernel⟩
theorem d__law_some {P₀ : Program} {w : World} {K : PySem.W.Frag} {mg : Str → Option Value} {base : Heap} {f : Addr} {cdv : Value} {A : Around} {outer : List Env} {s : Shared} {H : Hp} {E : XK} (hx : ErrF P₀ K mg) (fr : Frees mg) (c__law_take : Cal false P₀ w K mg base 1 "_law_take" (p__law_take K)) (hca : CodeAt K f cdv) (hr : Room 1 (cxOf (L2.CX P₀ w) P₀ w K mg base ["bag", "things"] "_law_some" (defScope (top 39)) f cdv A outer s H E).A) (hq : false = true → Quiet (cxOf (L2.CX P₀ w) P₀ w K mg base ["bag", "things"] "_law_some" (defScope (top 39)) f cdv A outer s H E).A)
    (tk : Takes (cxOf (L2.CX P₀ w) P₀ w K mg base ["bag", "things"] "_law_some" (defScope (top 39)) f cdv A outer s H E) (fun c d _ H => E c d H)) : DSs (cxOf (L2.CX P₀ w) P₀ w K mg base ["bag", "things"] "_law_some" (defScope (top 39)) f cdv A outer s H E) (fun c d _ H => E c d H) (defBody (top 39)) (t__law_some K) := by
  have hxx := hx
  obtain ⟨he_LockerError, he_NoWall, er_NoWall, hxf_NoWall, hno_NoWall, ek⟩ := hx
  exact dss_one (ds_ret (de_ix (de_var 1) (de_call c__law_take (hr.mono (by decide)) tk (da_cons (de_var 0) (da_cons (de_callB dc_len (da_cons (de_var 1) (da_nil)) fr.f_len (by decide +kernel)) (da_nil))))))
/-! ### _law_places -/
theorem sc__law_places : FnScope ["bag", "names"] ["bag", "names"] (defScope (top 40)) := ⟨rfl, rfl, rfl, by decide +kernel, rfl, by decide +kernel, by decide +kernel⟩
theorem d__law_places {P₀ : Program} {w : World} {K : PySem.W.Frag} {mg : Str → Option Value} {base : Heap} {f : Addr} {cdv : Value} {A : Around} {outer : List Env} {s : Shared} {H : Hp} {E : XK} (hx : ErrF P₀ K mg) (fr : Frees mg) (c__law_mixed : Cal false P₀ w K mg base 2 "_law_mixed" (p__law_mixed K)) (c__law_take : Cal false P₀ w K mg base 1 "_law_take" (p__law_take K)) (hca : CodeAt K f cdv) (hr : Room 2 (cxOf (L2.CX P₀ w) P₀ w K mg base ["bag", "names"] "_law_places" (defScope (top 40)) f cdv A outer s H E).A) (hq : false = true → Quiet (cxOf (L2.CX P₀ w) P₀ w K mg base ["bag", "names"] "_law_places" (defScope (top 40)) f cdv A outer s H E).A)
    (tk : Takes (cxOf (L2.CX P₀ w) P₀ w K mg base ["bag", "names"] "_law_places" (defScope (top 40)) f cdv A outer s H E) (fun c d _ H => E c d H)) : DSs (cxOf (L2.CX P₀ w) P₀ w K mg base ["bag", "names"] "_law_places" (defScope (top 40)) f cdv A outer s H E) (fun c d _ H => E c d H) (defBody (top 40)) (t__law_places K) := by
  have hxx := hx
  obtain ⟨he_LockerError, he_NoWall, er_NoWall, hxf_NoWall, hno_NoWall, ek⟩ := hx
  exact dss_one (ds_ret (de_callT dc_tuple (da_cons (de_callB dc_sorted (da_cons (de_slice (de_call c__law_mixed (hr.mono (by decide)) tk (da_cons (de_var 0) (da_cons (de_var 1) (da_nil)))) (do_none) (do_some (de_op do_add (de_int) (de_call c__law_take (hr.mono (by decide)) tk (da_cons (de_var 0) (da_cons (de_callB dc_len (da_cons (de_var 1) (da_nil)) fr.f_len (by decide +kernel)) (da_nil))))))) (da_nil)) fr.f_sorted (by decide +kernel)) (da_nil)) fr.f_tuple (by decide +kernel)))
/-! ### _law_drawn_tails -/
theorem sc__law_drawn_tails : FnScope ["bag", "m", "most", "turn"] ["bag", "m", "most"] (defScope (top 41)) := ⟨rfl, rfl, rfl, by decide +kernel, rfl, by decide +kernel, by decide +kernel⟩
theorem d__law_drawn_tails {P₀ : Program} {w : World} {K : PySem.W.Frag} {mg : Str → Option Value} {base : Heap} {f : Addr} {cdv : Value} {A : Around} {outer : List Env} {s : Shared} {H : Hp} {E : XK} (hx : ErrF P₀ K mg) (fr : Frees mg) (c__law_size_tails : Cal false P₀ w K mg base 1 "_law_size_tails" (p__law_size_tails K)) (c__law_take : Cal false P₀ w K mg base 1 "_law_take" (p__law_take K)) (hca : CodeAt K f cdv) (hr : Room 1 (cxOf (L2.CX P₀ w) P₀ w K mg base ["bag", "m", "most", "turn"] "_law_drawn_tails" (defScope (top 41)) f cdv A outer s H E).A) (hq : false = true → Quiet (cxOf (L2.CX P₀ w) P₀ w K mg base ["bag", "m", "most", "turn"] "_law_drawn_tails" (defScope (top 41)) f cdv A outer s H E).A)
    (tk : Takes (cxOf (L2.CX P₀ w) P₀ w K mg base ["bag", "m", "most", "turn"] "_law_drawn_tails" (defScope (top 41)) f cdv A outer s H E) (fun c d _ H => E c d H)) : DSs (cxOf (L2.CX P₀ w) P₀ w K mg base ["bag", "m", "most", "turn"] "_law_drawn_tails" (defScope (top 41)) f cdv A outer s H E) (fun c d _ H => E c d H) (defBody (top 41)) (t__law_drawn_tails K) := by
  have hxx := hx
  obtain ⟨he_LockerError, he_NoWall, er_NoWall, hxf_NoWall, hno_NoWall, ek⟩ := hx
  exact dss_one (ds_ret (de_call c__law_size_tails (hr.mono (by decide)) tk (da_cons (de_var 1) (da_cons (de_lc rfl sc__law_drawn_tails.nd (di_range1 (da_cons (de_call c__law_take (hr.mono (by decide)) tk (da_cons (de_var 0) (da_cons (de_op do_add (de_var 2) (de_int)) (da_nil)))) (da_nil)) fr.f_range) (own := [("turn", 3)]) (blkOk_by (by kernel_rfl)) (by decide) (fun _ _ _ _ _ => dg_name (i := 3) sc__law_drawn_tails.nd rfl (by first | exact Or.inl rfl | exact Or.inr rfl)) (fun _ _ _ _ _ => dts_nil) (fun _ _ _ _ _ => de_op do_add (de_int) (de_call c__law_take (hr.mono (by decide)) LamX.takes0 (da_cons (de_var 0) (da_cons (de_var 1) (da_nil)))))) (da_nil)))))
/-! ### _law_house -/
theorem sc__law_house : FnScope ["bag", "m", "walls", "kinds", "days", "names", "made", "name", "some", "ahead", "stay", "week", "day", "asks", "kind", "wall"] ["bag", "m", "walls", "kinds", "days"] (defScope (top 42)) := ⟨rfl, rfl, rfl, by decide +kernel, rfl, by decide +kernel, by decide +kernel⟩
theorem d__law_house {P₀ : Program} {w : World} {K : PySem.W.Frag} {mg : Str → Option Value} {base : Heap} {f : Addr} {cdv : Value} {A : Around} {outer : List Env} {s : Shared} {H : Hp} {E : XK} (hx : ErrF P₀ K mg) (fr : Frees mg) (c__law_names : Cal false P₀ w K mg base 3 "_law_names" (p__law_names K)) (c__law_some : Cal false P₀ w K mg base 2 "_law_some" (p__law_some K)) (c__law_drawn_counts : Cal false P₀ w K mg base 2 "_law_drawn_counts" (p__law_drawn_counts K)) (c__law_places : Cal false P₀ w K mg base 3 "_law_places" (p__law_places K)) (c__law_take : Cal false P₀ w K mg base 1 "_law_take" (p__law_take K)) (c__law_drawn_tails : Cal false P₀ w K mg base 2 "_law_drawn_tails" (p__law_drawn_tails K)) (hca : CodeAt K f cdv) (hr : Room 3 (cxOf (L2.CX P₀ w) P₀ w K mg base ["bag", "m", "walls", "kinds", "days", "names", "made", "name", "some", "ahead", "stay", "week", "day", "asks", "kind", "wall"] "_law_house" (defScope (top 42)) f cdv A outer s H E).A) (hq : false = true → Quiet (cxOf (L2.CX P₀ w) P₀ w K mg base ["bag", "m", "walls", "kinds", "days", "names", "made", "name", "some", "ahead", "stay", "week", "day", "asks", "kind", "wall"] "_law_house" (defScope (top 42)) f cdv A outer s H E).A)
    (tk : Takes (cxOf (L2.CX P₀ w) P₀ w K mg base ["bag", "m", "walls", "kinds", "days", "names", "made", "name", "some", "ahead", "stay", "week", "day", "asks", "kind", "wall"] "_law_house" (defScope (top 42)) f cdv A outer s H E) (fun c d _ H => E c d H)) : DSs (cxOf (L2.CX P₀ w) P₀ w K mg base ["bag", "m", "walls", "kinds", "days", "names", "made", "name", "some", "ahead", "stay", "week", "day", "asks", "kind", "wall"] "_law_house" (defScope (top 42)) f cdv A outer s H E) (fun c d _ H => E c d H) (defBody (top 42)) (t__law_house K) := by
  have hxx := hx
  obtain ⟨he_LockerError, he_NoWall, er_NoWall, hxf_NoWall, hno_NoWall, ek⟩ := hx
  exact dss_cons (ds_par (i := 5) (j := 6) rfl sc__law_house.nd rfl rfl (by decide) rfl rfl (da_cons (de_call c__law_names (hr.mono (by decide)) tk (da_cons (de_var 0) (da_cons (de_var 2) (da_nil)))) (da_cons (de_lstM (da_nil)) (da_nil))) (by rfl))
    (dss_cons (ds_for (passes_of rfl) rfl (di_seq (de_var 5)) (dg_name (i := 7) sc__law_house.nd rfl (by first | exact Or.inl rfl | exact Or.inr rfl)) (dss_one (ds_expr (de_mt PySem.F.plainAttrs_list PySem.F.slot_list_append PySem.F.type_list_append dm_append (de_var 6) (da_cons (de_tup (da_cons (de_var 7) (da_cons (de_call c__law_drawn_counts (hr.mono (by decide)) tk (da_cons (de_var 0) (da_cons (de_var 1) (da_cons (de_int) (da_nil))))) (da_cons (de_call c__law_some (hr.mono (by decide)) tk (da_cons (de_var 0) (da_cons (de_lst (da_cons (de_int) (da_cons (de_int) (da_cons (de_int) (da_cons (de_int) (da_cons (de_int) (da_nil))))))) (da_nil)))) (da_nil))))) (da_nil))))))
    (dss_cons (ds_set sc__law_house.nd (i := 8) rfl (by first | exact Or.inl rfl | exact Or.inr rfl) (de_lstM (da_nil)))
    (dss_cons (ds_for (passes_of rfl) rfl (di_seq (de_call c__law_names (hr.mono (by decide)) tk (da_cons (de_var 0) (da_cons (de_var 3) (da_nil))))) (dg_name (i := 7) sc__law_house.nd rfl (by first | exact Or.inl rfl | exact Or.inr rfl)) (dss_cons (ds_par (i := 9) (j := 10) rfl sc__law_house.nd rfl rfl (by decide) rfl rfl (da_cons (de_call c__law_some (hr.mono (by decide)) tk (da_cons (de_var 0) (da_cons (de_lst (da_cons (de_int) (da_cons (de_int) (da_cons (de_int) (da_cons (de_int) (da_nil)))))) (da_nil)))) (da_cons (de_call c__law_some (hr.mono (by decide)) tk (da_cons (de_var 0) (da_cons (de_lst (da_cons (de_int) (da_cons (de_int) (da_cons (de_int) (da_cons (de_int) (da_nil)))))) (da_nil)))) (da_nil))) (by rfl))
    (dss_one (ds_expr (de_mt PySem.F.plainAttrs_list PySem.F.slot_list_append PySem.F.type_list_append dm_append (de_var 8) (da_cons (de_tup (da_cons (de_var 7) (da_cons (de_op do_add (de_int) (de_call c__law_take (hr.mono (by decide)) tk (da_cons (de_var 0) (da_cons (de_var 1) (da_nil))))) (da_cons (de_call c__law_places (hr.mono (by decide)) tk (da_cons (de_var 0) (da_cons (de_var 5) (da_nil)))) (da_cons (de_var 9) (da_cons (de_var 10) (da_nil))))))) (da_nil)))))))
    (dss_cons (ds_set sc__law_house.nd (i := 11) rfl (by first | exact Or.inl rfl | exact Or.inr rfl) (de_lstM (da_nil)))
    (dss_cons (ds_for (passes_of rfl) rfl (di_range1 (da_cons (de_var 4) (da_nil)) fr.f_range) (dg_name (i := 12) sc__law_house.nd rfl (by first | exact Or.inl rfl | exact Or.inr rfl)) (dss_cons (ds_set sc__law_house.nd (i := 13) rfl (by first | exact Or.inl rfl | exact Or.inr rfl) (de_callT dc_tuple (da_cons (de_lc rfl sc__law_house.nd (di_seq (de_var 8)) (own := [("kind", 14)]) (blkOk_by (by kernel_rfl)) (by decide) (fun _ _ _ _ _ => dg_name (i := 14) sc__law_house.nd rfl (by first | exact Or.inl rfl | exact Or.inr rfl)) (fun _ _ _ _ _ => dts_nil) (fun _ _ _ _ _ => de_call c__law_some (hr.mono (by decide)) LamX.takes0 (da_cons (de_var 0) (da_cons (de_lst (da_cons (de_int) (da_cons (de_int) (da_cons (de_int) (da_cons (de_int) (da_cons (de_int) (da_nil))))))) (da_nil))))) (da_nil)) fr.f_tuple (by decide +kernel)))
    (dss_one (ds_expr (de_mt PySem.F.plainAttrs_list PySem.F.slot_list_append PySem.F.type_list_append dm_append (de_var 11) (da_cons (de_tup (da_cons (de_var 13) (da_cons (de_callT dc_tuple (da_cons (de_lc rfl sc__law_house.nd (di_seq (de_var 6)) (own := [("wall", 15)]) (blkOk_by (by kernel_rfl)) (by decide) (fun _ _ _ _ _ => dg_name (i := 15) sc__law_house.nd rfl (by first | exact Or.inl rfl | exact Or.inr rfl)) (fun _ _ _ _ _ => dts_nil) (fun _ _ _ _ _ => de_call c__law_drawn_tails (hr.mono (by decide)) LamX.takes0 (da_cons (de_var 0) (da_cons (de_var 1) (da_cons (de_call c__law_some (hr.mono (by decide)) LamX.takes0 (da_cons (de_var 0) (da_cons (de_lst (da_cons (de_int) (da_cons (de_int) (da_cons (de_int) (da_cons (de_int) (da_nil)))))) (da_nil)))) (da_nil)))))) (da_nil)) fr.f_tuple (by decide +kernel)) (da_nil)))) (da_nil)))))))
    (dss_one (ds_ret (de_tup (da_cons (de_var 1) (da_cons (de_callT dc_tuple (da_cons (de_var 6) (da_nil)) fr.f_tuple (by decide +kernel)) (da_cons (de_callT dc_tuple (da_cons (de_var 8) (da_nil)) fr.f_tuple (by decide +kernel)) (da_cons (de_callT dc_tuple (da_cons (de_var 11) (da_nil)) fr.f_tuple (by decide +kernel)) (da_nil)))))))))))))
/-! ### _law_heard -/
theorem sc__law_heard : FnScope ["act", "e"] ["act"] (defScope (top 43)) := ⟨rfl, rfl, rfl, by decide +kernel, rfl, by decide +kernel, by decide +kernel⟩
theorem d__law_heard {X : Cx} {K : PySem.W.Frag} (hK : X.K = K) (hx : ErrF X.prog X.K X.mg) (fr : Frees X.mg) {g : Addr} {cdg : Value} (s : Shared) (H : Hp) (act : DTE)
    (hact : ∀ (W : WX) (pn : List (Addr × Obj)) (xe : Value → Shared → Prop) (p1 p2 : Pos), Takes ((hrdCx X ["act", "e"] "_law_heard" (defScope (top 43)) g cdg s H).tr pn xe) W → DE ((hrdCx X ["act", "e"] "_law_heard" (defScope (top 43)) g cdg s H).tr pn xe) W (.Call (.Name "act" p1) [] [] p2) act) :
    DSs (hrdCx X ["act", "e"] "_law_heard" (defScope (top 43)) g cdg s H) WF (defBody (top 43)) (t__law_heard K act) := by
  subst hK
  have hxx := hx
  obtain ⟨he_LockerError, he_NoWall, er_NoWall, hxf_NoWall, hno_NoWall, ek⟩ := hx
  exact dss_one (ds_try_as (i := 1) rfl rfl sc__law_heard.nd rfl rfl ⟨rfl, by decide, .inl he_LockerError⟩ LamX.takes0 (fun W pn xe tk2 _ => dss_one (ds_ret (de_tup (da_cons (de_str) (da_cons ((hact W pn xe _ _ tk2)) (da_nil)))))) (fun a oe cls d pn hz hf => dss_one (ds_ret (de_ifExp (dt_truth (de_callB (dc_isX hz hf) (da_cons (de_var 1) (da_cons (de_globRef rfl (he_NoWall)) (da_nil))) fr.f_isinstance (by decide +kernel))) (de_tup (da_cons (de_str) (da_cons (de_xf (hxf_NoWall) (hno_NoWall) hz hf (de_var 1)) (da_nil)))) (de_tup (da_cons (de_str) (da_nil)))))))
theorem lam__law_heard {X : Cx} {W0 : WX} {k : Nat} {g c P : Addr} {fd : FuncData} {qn : Str} {params : Arguments} {body : Expr} {scope : Scope} {p lpos pos : Pos} {tb : DTE} (HB : HOk__law_heard X.K) (hx : ErrF X.prog X.K X.mg) (fr : Frees X.mg) (F : FnP X.K "_law_heard" (top 43) g fd) (hm : X.mg "_law_heard" = some (.ref g))
    (TB : LamX.TabB X.base X.mg c P) (hcode : X.env.code = .ref c) (hqn : X.env.qual ++ "<lambda>" = qn) (hr : Room (k + 2) X.A) (L : LamX.LamS X.env.scope scope) (hdef : defaultsOf params X.env = ([], [])) (hbind : ∀ (q : Str) (cl : List (Str × Addr)) (pm cv ctv : Value), bindArgs (PySem.W.kla_fn "<lambda>" q params body scope cl pm cv ctv) ⟨[], []⟩ = pure [])
    (hbody : ∀ (A : Around) (outer : List Env) (s : Shared) (H : Hp) (E : XK) (f c' : Addr), Room k (A.deeper (LamX.lamEnv X scope s.heap.objs.size f c')) → Takes (LamX.lamCx X A outer s H E scope f c') (fun cls d _ H => E cls d H) → DE (LamX.lamCx X A outer s H E scope f c') (fun cls d _ H => E cls d H) body tb) (hg : Gl X "_law_heard" := by rfl) :
    DE X W0 (.Call (.Name "_law_heard" p) [.Lambda params body scope lpos] [] pos) (dLam [(P, qn)] (h__law_heard X.K) tb) := by
  subst hqn
  exact de_lamcall (Ng := ["act", "e"]) (a := "act") (T := [(P, X.env.qual ++ "<lambda>")]) (t := h__law_heard X.K) F hm (fun _ _ _ _ _ _ us hl => match us, hl with | [_], _ => rfl) sc__law_heard rfl (by first | exact Or.inl rfl | exact Or.inr (Or.inl rfl)) (fun cdv => gives_of (by decide) (fun s H ta ha => d__law_heard rfl hx fr s H ta ha) (fun act M Q f c vs xs h => HB act M Q f c _ vs xs h)) TB hcode (List.mem_singleton.mpr rfl) (fun p hp _ => by cases List.mem_singleton.mp hp; rfl) hr L hdef hbind hbody hg
/-! ### _law_stays -/
theorem sc__law_stays : FnScope ["bag", "m", "boxes", "many", "turn"] ["bag", "m", "boxes"] (defScope (top 44)) := ⟨rfl, rfl, rfl, by decide +kernel, rfl, by decide +kernel, by decide +kernel⟩
theorem d__law_stays {P₀ : Program} {w : World} {K : PySem.W.Frag} {mg : Str → Option Value} {base : Heap} {f : Addr} {cdv : Value} {A : Around} {outer : List Env} {s : Shared} {H : Hp} {E : XK} (hx : ErrF P₀ K mg) (fr : Frees mg) (c__law_take : Cal false P₀ w K mg base 1 "_law_take" (p__law_take K)) (c__law_some : Cal false P₀ w K mg base 2 "_law_some" (p__law_some K)) (hca : CodeAt K f cdv) (hr : Room 2 (cxOf (L2.CX P₀ w) P₀ w K mg base ["bag", "m", "boxes", "many", "turn"] "_law_stays" (defScope (top 44)) f cdv A outer s H E).A) (hq : false = true → Quiet (cxOf (L2.CX P₀ w) P₀ w K mg base ["bag", "m", "boxes", "many", "turn"] "_law_stays" (defScope (top 44)) f cdv A outer s H E).A)
    (tk : Takes (cxOf (L2.CX P₀ w) P₀ w K mg base ["bag", "m", "boxes", "many", "turn"] "_law_stays" (defScope (top 44)) f cdv A outer s H E) (fun c d _ H => E c d H)) : DSs (cxOf (L2.CX P₀ w) P₀ w K mg base ["bag", "m", "boxes", "many", "turn"] "_law_stays" (defScope (top 44)) f cdv A outer s H E) (fun c d _ H => E c d H) (defBody (top 44)) (t__law_stays K) := by
  have hxx := hx
  obtain ⟨he_LockerError, he_NoWall, er_NoWall, hxf_NoWall, hno_NoWall, ek⟩ := hx
  exact dss_cons (ds_set sc__law_stays.nd (i := 3) rfl (by first | exact Or.inl rfl | exact Or.inr rfl) (de_call c__law_take (hr.mono (by decide)) tk (da_cons (de_var 0) (da_cons (de_call c__law_some (hr.mono (by decide)) tk (da_cons (de_var 0) (da_cons (de_lst (da_cons (de_int) (da_cons (de_int) (da_cons (de_op do_add (de_var 2) (de_int)) (da_nil))))) (da_nil)))) (da_nil)))))
    (dss_one (ds_ret (de_callT dc_tuple (da_cons (de_callB dc_sorted (da_cons (de_lc rfl sc__law_stays.nd (di_range1 (da_cons (de_var 3) (da_nil)) fr.f_range) (own := [("turn", 4)]) (blkOk_by (by kernel_rfl)) (by decide) (fun _ _ _ _ _ => dg_name (i := 4) sc__law_stays.nd rfl (by first | exact Or.inl rfl | exact Or.inr rfl)) (fun _ _ _ _ _ => dts_nil) (fun _ _ _ _ _ => de_op do_add (de_int) (de_call c__law_take (hr.mono (by decide)) LamX.takes0 (da_cons (de_var 0) (da_cons (de_var 1) (da_nil)))))) (da_nil)) fr.f_sorted (by decide +kernel)) (da_nil)) fr.f_tuple (by decide +kernel))))
/-! ### _law_room_tails -/
theorem sc__law_room_tails : FnScope ["wall", "stays", "laid", "tail"] ["wall", "stays"] (defScope (top 45)) := ⟨rfl, rfl, rfl, by decide +kernel, rfl, by decide +kernel, by decide +kernel⟩
theorem d__law_room_tails {P₀ : Program} {w : World} {K : PySem.W.Frag} {mg : Str → Option Value} {base : Heap} {f : Addr} {cdv : Value} {A : Around} {outer : List Env} {s : Shared} {H : Hp} {E : XK} (hx : ErrF P₀ K mg) (fr : Frees mg) (c__law_laid : Cal false P₀ w K mg base 1 "_law_laid" (p__law_laid K)) (c__law_tails : Cal false P₀ w K mg base 1 "_law_tails" (p__law_tails K)) (hca : CodeAt K f cdv) (hr : Room 1 (cxOf (L2.CX P₀ w) P₀ w K mg base ["wall", "stays", "laid", "tail"] "_law_room_tails" (defScope (top 45)) f cdv A outer s H E).A) (hq : false = true → Quiet (cxOf (L2.CX P₀ w) P₀ w K mg base ["wall", "stays", "laid", "tail"] "_law_room_tails" (defScope (top 45)) f cdv A outer s H E).A)
    (tk : Takes (cxOf (L2.CX P₀ w) P₀ w K mg base ["wall", "stays", "laid", "tail"] "_law_room_tails" (defScope (top 45)) f cdv A outer s H E) (fun c d _ H => E c d H)) : DSs (cxOf (L2.CX P₀ w) P₀ w K mg base ["wall", "stays", "laid", "tail"] "_law_room_tails" (defScope (top 45)) f cdv A outer s H E) (fun c d _ H => E c d H) (defBody (top 45)) (t__law_room_tails K) := by
  have hxx := hx
  obtain ⟨he_LockerError, he_NoWall, er_NoWall, hxf_NoWall, hno_NoWall, ek⟩ := hx
  exact dss_cons (ds_set sc__law_room_tails.nd (i := 2) rfl (by first | exact Or.inl rfl | exact Or.inr rfl) (de_call c__law_laid (hr.mono (by decide)) tk (da_cons (de_ix (de_var 0) (de_int)) (da_cons (de_var 1) (da_nil)))))
    (dss_one (ds_ret (de_ifExp (dt_cmp do_is (de_var 2) (de_non) (by rfl)) (de_non) (de_callT dc_tuple (da_cons (de_lc rfl sc__law_room_tails.nd (di_seq (de_call c__law_tails (hr.mono (by decide)) tk (da_cons (de_ix (de_var 2) (de_int)) (da_nil)))) (own := [("tail", 3)]) (blkOk_by (by kernel_rfl)) (by decide) (fun _ _ _ _ _ => dg_name (i := 3) sc__law_room_tails.nd rfl (by first | exact Or.inl rfl | exact Or.inr rfl)) (fun _ _ _ _ _ => dts_nil) (fun _ _ _ _ _ => de_callB (dc_max rfl) (da_cons (de_int) (da_cons (de_op do_sub (de_var 3) (de_ix (de_var 0) (de_int))) (da_nil))) fr.f_max (by decide +kernel))) (da_nil)) fr.f_tuple (by decide +kernel)))))
/-! ### _law_takes -/
theorem sc__law_takes : FnScope ["wall", "backs", "stays", "sizes", "made"] ["wall", "backs", "stays", "sizes"] (defScope (top 46)) := ⟨rfl, rfl, rfl, by decide +kernel, rfl, by decide +kernel, by decide +kernel⟩
theorem d__law_takes {P₀ : Program} {w : World} {K : PySem.W.Frag} {mg : Str → Option Value} {base : Heap} {f : Addr} {cdv : Value} {A : Around} {outer : List Env} {s : Shared} {H : Hp} {E : XK} (hx : ErrF P₀ K mg) (fr : Frees mg) (c__law_made : Cal false P₀ w K mg base 2 "_law_made" (p__law_made K)) (c__law_is_at_most : Cal false P₀ w K mg base 1 "_law_is_at_most" (p__law_is_at_most K)) (c__law_size_tails : Cal false P₀ w K mg base 1 "_law_size_tails" (p__law_size_tails K)) (hca : CodeAt K f cdv) (hr : Room 2 (cxOf (L2.CX P₀ w) P₀ w K mg base ["wall", "backs", "stays", "sizes", "made"] "_law_takes" (defScope (top 46)) f cdv A outer s H E).A) (hq : false = true → Quiet (cxOf (L2.CX P₀ w) P₀ w K mg base ["wall", "backs", "stays", "sizes", "made"] "_law_takes" (defScope (top 46)) f cdv A outer s H E).A)
    (tk : Takes (cxOf (L2.CX P₀ w) P₀ w K mg base ["wall", "backs", "stays", "sizes", "made"] "_law_takes" (defScope (top 46)) f cdv A outer s H E) (fun c d _ H => E c d H)) : DSs (cxOf (L2.CX P₀ w) P₀ w K mg base ["wall", "backs", "stays", "sizes", "made"] "_law_takes" (defScope (top 46)) f cdv A outer s H E) (fun c d _ H => E c d H) (defBody (top 46)) (t__law_takes K) := by
  have hxx := hx
  obtain ⟨he_LockerError, he_NoWall, er_NoWall, hxf_NoWall, hno_NoWall, ek⟩ := hx
  exact dss_cons (ds_set sc__law_takes.nd (i := 4) rfl (by first | exact Or.inl rfl | exact Or.inr rfl) (de_call c__law_made (hr.mono (by decide)) tk (da_cons (de_ix (de_var 0) (de_int)) (da_cons (de_ix (de_var 0) (de_int)) (da_cons (de_var 2) (da_cons (de_var 1) (da_nil)))))))
    (dss_one (ds_ret (de_and (de_cmp do_isnot (de_var 4) (de_non) (by rfl)) (de_one (de_call c__law_is_at_most (hr.mono (by decide)) tk (da_cons (de_call c__law_size_tails (hr.mono (by decide)) tk (da_cons (de_callB dc_len (da_cons (de_ix (de_var 0) (de_int)) (da_nil)) fr.f_len (by decide +kernel)) (da_cons (de_var 3) (da_nil)))) (da_cons (de_var 4) (da_nil))))))))
/-! ### _law_edge -/
theorem sc__law_edge : FnScope ["bag", "m", "made", "sizes", "at", "many", "turn"] ["bag", "m", "made"] (defScope (top 47)) := ⟨rfl, rfl, rfl, by decide +kernel, rfl, by decide +kernel, by decide +kernel⟩
theorem d__law_edge {P₀ : Program} {w : World} {K : PySem.W.Frag} {mg : Str → Option Value} {base : Heap} {f : Addr} {cdv : Value} {A : Around} {outer : List Env} {s : Shared} {H : Hp} {E : XK} (hx : ErrF P₀ K mg) (fr : Frees mg) (c__law_take : Cal false P₀ w K mg base 1 "_law_take" (p__law_take K)) (c__law_counts : Cal false P₀ w K mg base 1 "_law_counts" (p__law_counts K)) (hca : CodeAt K f cdv) (hr : Room 1 (cxOf (L2.CX P₀ w) P₀ w K mg base ["bag", "m", "made", "sizes", "at", "many", "turn"] "_law_edge" (defScope (top 47)) f cdv A outer s H E).A) (hq : false = true → Quiet (cxOf (L2.CX P₀ w) P₀ w K mg base ["bag", "m", "made", "sizes", "at", "many", "turn"] "_law_edge" (defScope (top 47)) f cdv A outer s H E).A)
    (tk : Takes (cxOf (L2.CX P₀ w) P₀ w K mg base ["bag", "m", "made", "sizes", "at", "many", "turn"] "_law_edge" (defScope (top 47)) f cdv A outer s H E) (fun c d _ H => E c d H)) : DSs (cxOf (L2.CX P₀ w) P₀ w K mg base ["bag", "m", "made", "sizes", "at", "many", "turn"] "_law_edge" (defScope (top 47)) f cdv A outer s H E) (fun c d _ H => E c d H) (defBody (top 47)) (t__law_edge K) := by
  have hxx := hx
  obtain ⟨he_LockerError, he_NoWall, er_NoWall, hxf_NoWall, hno_NoWall, ek⟩ := hx
  exact dss_cons (ds_if (DPW.dt (dw_or (dt_cmp do_is (de_var 2) (de_non) (by rfl)) (dw_or (dt_cmp do_lt (de_callB (dc_min rfl) (da_cons (de_var 2) (da_nil)) fr.f_min (by decide +kernel)) (de_int) (by rfl)) (dw_or1 (dt_cmp (do_eq hr.units) (de_call c__law_take (hr.mono (by decide)) tk (da_cons (de_var 0) (da_cons (de_int) (da_nil)))) (de_int) (by rfl)))))) (dss_one (ds_ret (de_callT dc_tuple (da_cons (de_callB dc_sorted (da_cons (de_lc rfl sc__law_edge.nd (di_range1 (da_cons (de_call c__law_take (hr.mono (by decide)) tk (da_cons (de_var 0) (da_cons (de_int) (da_nil)))) (da_nil)) fr.f_range) (own := [("turn", 6)]) (blkOk_by (by kernel_rfl)) (by decide) (fun _ _ _ _ _ => dg_name (i := 6) sc__law_edge.nd rfl (by first | exact Or.inl rfl | exact Or.inr rfl)) (fun _ _ _ _ _ => dts_nil) (fun _ _ _ _ _ => de_op do_add (de_int) (de_call c__law_take (hr.mono (by decide)) LamX.takes0 (da_cons (de_var 0) (da_cons (de_var 1) (da_nil)))))) (da_nil)) fr.f_sorted (by decide +kernel)) (da_nil)) fr.f_tuple (by decide +kernel)))) (dss_nil))
    (dss_cons (ds_set sc__law_edge.nd (i := 3) rfl (by first | exact Or.inl rfl | exact Or.inr rfl) (de_lst (da_nil)))
    (dss_cons (ds_for (passes_of rfl) rfl (di_enum (da_cons (de_call c__law_counts (hr.mono (by decide)) tk (da_cons (de_var 2) (da_nil))) (da_nil)) fr.f_enumerate) (dg_tup rfl (dgs_cons (dg_name (i := 4) sc__law_edge.nd rfl (by first | exact Or.inl rfl | exact Or.inr rfl)) (dgs_cons (dg_name (i := 5) sc__law_edge.nd rfl (by first | exact Or.inl rfl | exact Or.inr rfl)) (dgs_nil)))) (dss_one (ds_set sc__law_edge.nd (i := 3) rfl (by first | exact Or.inl rfl | exact Or.inr rfl) (de_op do_add (de_var 3) (de_op do_mul (de_lst (da_cons (de_op do_add (de_var 4) (de_int)) (da_nil))) (de_var 5))))))
    (dss_one (ds_ret (de_callT dc_tuple (da_cons (de_callB dc_sorted (da_cons (de_op do_add (de_var 3) (de_op do_mul (de_lst (da_cons (de_op do_add (de_int) (de_call c__law_take (hr.mono (by decide)) tk (da_cons (de_var 0) (da_cons (de_var 1) (da_nil))))) (da_nil))) (de_call c__law_take (hr.mono (by decide)) tk (da_cons (de_var 0) (da_cons (de_int) (da_nil)))))) (da_nil)) fr.f_sorted (by decide +kernel)) (da_nil)) fr.f_tuple (by decide +kernel))))))
/-! ### _law_wall_right -/
theorem sc__law_wall_right : FnScope ["bag", "house", "day", "at", "name", "counts", "jams", "backs", "stays", "made", "sizes", "due", "kept", "again", "found"] ["bag", "house", "day", "at"] (defScope (top 48)) := ⟨rfl, rfl, rfl, by decide +kernel, rfl, by decide +kernel, by decide +kernel⟩
theorem d__law_wall_right {P₀ : Program} {w : World} {K : PySem.W.Frag} {mg : Str → Option Value} {base : Heap} {f : Addr} {cdv : Value} {A : Around} {outer : List Env} {s : Shared} {H : Hp} {E : XK} (hx : ErrF P₀ K mg) (fr : Frees mg) (c__law_stays : Cal false P₀ w K mg base 3 "_law_stays" (p__law_stays K)) (c__law_made : Cal false P₀ w K mg base 2 "_law_made" (p__law_made K)) (c__law_edge : Cal false P₀ w K mg base 2 "_law_edge" (p__law_edge K)) (c__law_takes : Cal false P₀ w K mg base 3 "_law_takes" (p__law_takes K)) (c__law_room_tails : Cal false P₀ w K mg base 2 "_law_room_tails" (p__law_room_tails K)) (c_made_tails : Cal false P₀ w K mg base 6 "made_tails" (p_made_tails K)) (c_room_tails : Cal false P₀ w K mg base 5 "room_tails" (p_room_tails K)) (c__law_alike : Cal true P₀ w K mg base 1 "_law_alike" (p__law_alike K)) (c_takes : Cal false P₀ w K mg base 7 "takes" (p_takes K)) (hca : CodeAt K f cdv) (hr : Room 7 (cxOf (L2.CX P₀ w) P₀ w K mg base ["bag", "house", "day", "at", "name", "counts", "jams", "backs", "stays", "made", "sizes", "due", "kept", "again", "found"] "_law_wall_right" (defScope (top 48)) f cdv A outer s H E).A) (hq : true = true → Quiet (cxOf (L2.CX P₀ w) P₀ w K mg base ["bag", "house", "day", "at", "name", "counts", "jams", "backs", "stays", "made", "sizes", "due", "kept", "again", "found"] "_law_wall_right" (defScope (top 48)) f cdv A outer s H E).A)
    (tk : Takes (cxOf (L2.CX P₀ w) P₀ w K mg base ["bag", "house", "day", "at", "name", "counts", "jams", "backs", "stays", "made", "sizes", "due", "kept", "again", "found"] "_law_wall_right" (defScope (top 48)) f cdv A outer s H E) (fun c d _ H => E c d H)) : DSs (cxOf (L2.CX P₀ w) P₀ w K mg base ["bag", "house", "day", "at", "name", "counts", "jams", "backs", "stays", "made", "sizes", "due", "kept", "again", "found"] "_law_wall_right" (defScope (top 48)) f cdv A outer s H E) (fun c d _ H => E c d H) (defBody (top 48)) (t__law_wall_right K) := by
  have hxx := hx
  obtain ⟨he_LockerError, he_NoWall, er_NoWall, hxf_NoWall, hno_NoWall, ek⟩ := hx
  exact dss_cons (ds_unp (de_ix (de_ix (de_var 1) (de_int)) (de_var 3)) (dg_tup rfl (dgs_cons (dg_name (i := 4) sc__law_wall_right.nd rfl (by first | exact Or.inl rfl | exact Or.inr rfl)) (dgs_cons (dg_name (i := 5) sc__law_wall_right.nd rfl (by first | exact Or.inl rfl | exact Or.inr rfl)) (dgs_cons (dg_name (i := 6) sc__law_wall_right.nd rfl (by first | exact Or.inl rfl | exact Or.inr rfl)) (dgs_nil))))))
    (dss_cons (ds_par (i := 7) (j := 8) rfl sc__law_wall_right.nd rfl rfl (by decide) rfl rfl (da_cons (de_ix (de_ix (de_ix (de_ix (de_var 1) (de_int)) (de_var 2)) (de_int)) (de_var 3)) (da_cons (de_call c__law_stays (hr.mono (by decide)) tk (da_cons (de_var 0) (da_cons (de_ix (de_var 1) (de_int)) (da_cons (de_callB (dc_sum rfl) (da_cons (de_var 5) (da_nil)) fr.f_sum (by decide +kernel)) (da_nil))))) (da_nil))) (by rfl))
    (dss_cons (ds_set sc__law_wall_right.nd (i := 9) rfl (by first | exact Or.inl rfl | exact Or.inr rfl) (de_call c__law_made (hr.mono (by decide)) tk (da_cons (de_var 5) (da_cons (de_var 6) (da_cons (de_var 8) (da_cons (de_var 7) (da_nil)))))))
    (dss_cons (ds_set sc__law_wall_right.nd (i := 10) rfl (by first | exact Or.inl rfl | exact Or.inr rfl) (de_call c__law_edge (hr.mono (by decide)) tk (da_cons (de_var 0) (da_cons (de_ix (de_var 1) (de_int)) (da_cons (de_var 9) (da_nil))))))
    (dss_cons (ds_set sc__law_wall_right.nd (i := 11) rfl (by first | exact Or.inl rfl | exact Or.inr rfl) (de_lst (da_cons (de_call c__law_room_tails (hr.mono (by decide)) tk (da_cons (de_ix (de_ix (de_var 1) (de_int)) (de_var 3)) (da_cons (de_var 8) (da_nil)))) (da_cons (de_var 9) (da_cons (de_call c__law_takes (hr.mono (by decide)) tk (da_cons (de_ix (de_ix (de_var 1) (de_int)) (de_var 3)) (da_cons (de_var 7) (da_cons (de_var 8) (da_cons (de_var 10) (da_nil)))))) (da_nil))))))
    (dss_cons (ds_set sc__law_wall_right.nd (i := 12) rfl (by first | exact Or.inl rfl | exact Or.inr rfl) (de_callB (dc_repr rfl (hq rfl) hr.units) (da_cons (de_tup (da_cons (de_var 1) (da_cons (de_var 8) (da_cons (de_var 10) (da_nil))))) (da_nil)) fr.f_repr (by decide +kernel)))
    (dss_cons (ds_for (passes_of rfl) rfl (di_range1 (da_cons (de_int) (da_nil)) fr.f_range) (dg_name (i := 13) sc__law_wall_right.nd rfl (by first | exact Or.inl rfl | exact Or.inr rfl)) (dss_cons (ds_set sc__law_wall_right.nd (i := 14) rfl (by first | exact Or.inl rfl | exact Or.inr rfl) (de_lst (da_cons (de_call c_room_tails (hr.mono (by decide)) tk (da_cons (de_var 1) (da_cons (de_var 4) (da_cons (de_var 8) (da_nil))))) (da_cons (de_call c_made_tails (hr.mono (by decide)) tk (da_cons (de_var 1) (da_cons (de_var 2) (da_cons (de_var 4) (da_cons (de_var 8) (da_nil)))))) (da_nil)))))
    (dss_one (ds_if (DPW.dt (dw_or (dt_not (dt_truth (de_call c__law_alike (hr.mono (by decide)) tk (da_cons (de_op do_add (de_var 14) (de_lst (da_cons (de_call c_takes (hr.mono (by decide)) tk (da_cons (de_var 1) (da_cons (de_var 2) (da_cons (de_var 4) (da_cons (de_var 8) (da_cons (de_var 10) (da_nil))))))) (da_nil)))) (da_cons (de_var 11) (da_nil))) (hq := fun _ => hq rfl)))) (dw_or1 (dt_cmp (do_ne hr.units) (de_callB (dc_repr rfl (hq rfl) hr.units) (da_cons (de_tup (da_cons (de_var 1) (da_cons (de_var 8) (da_cons (de_var 10) (da_nil))))) (da_nil)) fr.f_repr (by decide +kernel)) (de_var 12) (by rfl))))) (dss_one (ds_ret (de_bl))) (dss_nil)))))
    (dss_one (ds_ret (de_bl)))))))))
/-! ### law -/
theorem sc_law : FnScope ["script", "bag", "turn", "house", "day", "at", "heard"] ["script"] (defScope (top 49)) := ⟨rfl, rfl, rfl, by decide +kernel, rfl, by decide +kernel, by decide +kernel⟩
theorem d_law {P₀ : Program} {w : World} {K : PySem.W.Frag} {mg : Str → Option Value} {base : Heap} {f : Addr} {cdv : Value} {A : Around} {outer : List Env} {s : Shared} {H : Hp} {E : XK} (hx : ErrF P₀ K mg) (fr : Frees mg) (c__law_bag : Cal false P₀ w K mg base 1 "_law_bag" (p__law_bag K)) (c__law_house : Cal false P₀ w K mg base 4 "_law_house" (p__law_house K)) (c__law_take : Cal false P₀ w K mg base 1 "_law_take" (p__law_take K)) (c__law_wall_right : Cal true P₀ w K mg base 8 "_law_wall_right" (p__law_wall_right K)) {gH : Addr} {fdH : FuncData} (FH__law_heard : FnP K "_law_heard" (top 43) gH fdH) (hmH__law_heard : mg "_law_heard" = some (.ref gH)) (HB__law_heard : HOk__law_heard K) {cc P : Addr} (TB : LamX.TabB base mg cc P) (hcode : CodeAt K f cdv → cdv = .ref cc) (c_room_tails : Cal false P₀ w K mg base 5 "room_tails" (p_room_tails K)) (c_takes : Cal false P₀ w K mg base 7 "takes" (p_takes K)) (c_made_tails : Cal false P₀ w K mg base 6 "made_tails" (p_made_tails K)) (c__law_alike : Cal true P₀ w K mg base 1 "_law_alike" (p__law_alike K)) (hca : CodeAt K f cdv) (hr : Room 10 (cxOf (L2.CX P₀ w) P₀ w K mg base ["script", "bag", "turn", "house", "day", "at", "heard"] "law" (defScope (top 49)) f cdv A outer s H E).A) (hq : true = true → Quiet (cxOf (L2.CX P₀ w) P₀ w K mg base ["script", "bag", "turn", "house", "day", "at", "heard"] "law" (defScope (top 49)) f cdv A outer s H E).A)
    (tk : Takes (cxOf (L2.CX P₀ w) P₀ w K mg base ["script", "bag", "turn", "house", "day", "at", "heard"] "law" (defScope (top 49)) f cdv A outer s H E) (fun c d _ H => E c d H)) : DSs (cxOf (L2.CX P₀ w) P₀ w K mg base ["script", "bag", "turn", "house", "day", "at", "heard"] "law" (defScope (top 49)) f cdv A outer s H E) (fun c d _ H => E c d H) (defBody (top 49)) (t_law K P) := by
  have hxx := hx
  obtain ⟨he_LockerError, he_NoWall, er_NoWall, hxf_NoWall, hno_NoWall, ek⟩ := hx
  exact dss_cons (ds_set sc_law.nd (i := 1) rfl (by first | exact Or.inl rfl | exact Or.inr rfl) (de_call c__law_bag (hr.mono (by decide)) tk (da_cons (de_var 0) (da_nil))))
    (dss_cons (ds_for (passes_of rfl) rfl (di_range1 (da_cons (de_int) (da_nil)) fr.f_range) (dg_name (i := 2) sc_law.nd rfl (by first | exact Or.inl rfl | exact Or.inr rfl)) (dss_cons (ds_set sc_law.nd (i := 3) rfl (by first | exact Or.inl rfl | exact Or.inr rfl) (de_call c__law_house (hr.mono (by decide)) tk (da_cons (de_var 1) (da_cons (de_op do_add (de_int) (de_call c__law_take (hr.mono (by decide)) tk (da_cons (de_var 1) (da_cons (de_int) (da_nil))))) (da_cons (de_op do_add (de_int) (de_call c__law_take (hr.mono (by decide)) tk (da_cons (de_var 1) (da_cons (de_int) (da_nil))))) (da_cons (de_int) (da_cons (de_op do_add (de_int) (de_call c__law_take (hr.mono (by decide)) tk (da_cons (de_var 1) (da_cons (de_int) (da_nil))))) (da_nil))))))))
    (dss_cons (ds_for (passes_of rfl) rfl (di_range1 (da_cons (de_callB dc_len (da_cons (de_ix (de_var 3) (de_int)) (da_nil)) fr.f_len (by decide +kernel)) (da_nil)) fr.f_range) (dg_name (i := 4) sc_law.nd rfl (by first | exact Or.inl rfl | exact Or.inr rfl)) (dss_one (ds_for (passes_of rfl) rfl (di_range1 (da_cons (de_callB dc_len (da_cons (de_ix (de_var 3) (de_int)) (da_nil)) fr.f_len (by decide +kernel)) (da_nil)) fr.f_range) (dg_name (i := 5) sc_law.nd rfl (by first | exact Or.inl rfl | exact Or.inr rfl)) (dss_one (ds_if (dt_not (dt_truth (de_call c__law_wall_right (hr.mono (by decide)) tk (da_cons (de_var 1) (da_cons (de_var 3) (da_cons (de_var 4) (da_cons (de_var 5) (da_nil))))) (hq := fun _ => hq rfl)))) (dss_one (ds_ret (de_bl))) (dss_nil))))))
    (dss_cons (ds_set sc_law.nd (i := 6) rfl (by first | exact Or.inl rfl | exact Or.inr rfl) (de_lstM (da_cons (lam__law_heard (k := 8) HB__law_heard hxx fr FH__law_heard hmH__law_heard TB (hcode hca) (by kernel_rfl) (hr.mono (by decide)) (LamX.lamS_by (by kernel_rfl)) rfl (fun _ _ _ _ _ => rfl) (fun A outer s H E f c' hr tk => de_call c_room_tails (hr.mono (by decide)) tk (da_cons (de_var 3) (da_cons (de_str) (da_cons (de_tup (da_nil)) (da_nil)))))) (da_nil))))
    (dss_cons (ds_expr (de_mt PySem.F.plainAttrs_list PySem.F.slot_list_append PySem.F.type_list_append dm_append (de_var 6) (da_cons (lam__law_heard (k := 8) HB__law_heard hxx fr FH__law_heard hmH__law_heard TB (hcode hca) (by kernel_rfl) (hr.mono (by decide)) (LamX.lamS_by (by kernel_rfl)) rfl (fun _ _ _ _ _ => rfl) (fun A outer s H E f c' hr tk => de_call c_takes (hr.mono (by decide)) tk (da_cons (de_var 3) (da_cons (de_int) (da_cons (de_str) (da_cons (de_tup (da_nil)) (da_cons (de_tup (da_nil)) (da_nil)))))))) (da_nil))))
    (dss_cons (ds_expr (de_mt PySem.F.plainAttrs_list PySem.F.slot_list_append PySem.F.type_list_append dm_append (de_var 6) (da_cons (lam__law_heard (k := 8) HB__law_heard hxx fr FH__law_heard hmH__law_heard TB (hcode hca) (by kernel_rfl) (hr.mono (by decide)) (LamX.lamS_by (by kernel_rfl)) rfl (fun _ _ _ _ _ => rfl) (fun A outer s H E f c' hr tk => de_call c_made_tails (hr.mono (by decide)) tk (da_cons (de_var 3) (da_cons (de_int) (da_cons (de_str) (da_cons (de_op do_mul (de_tup (da_cons (de_int) (da_nil))) (de_int)) (da_nil))))))) (da_nil))))
    (dss_one (ds_if (dt_not (dt_truth (de_call c__law_alike (hr.mono (by decide)) tk (da_cons (de_var 6) (da_cons (de_lst (da_cons (de_tup (da_cons (de_str) (da_cons (de_str) (da_nil)))) (da_cons (de_tup (da_cons (de_str) (da_cons (de_str) (da_nil)))) (da_cons (de_tup (da_cons (de_str) (da_cons (de_str) (da_nil)))) (da_nil))))) (da_nil))) (hq := fun _ => hq rfl)))) (dss_one (ds_ret (de_bl))) (dss_nil)))))))))
    (dss_one (ds_ret (de_bl))))
end K38
end

section
set_option Elab.async false
set_option linter.all false
set_option maxRecDepth 100000
set_option maxHeartbeats 4000000
namespace K38
open PySem PySem.Spec PyProof.Rows L2 DL

theorem ok_wall_names {P₀ : Program} {w : World} {K : PySem.W.Frag} {mg : Str → Option Value} {base : Heap} {f : Addr} {fd : FuncData} (F : FnP K "wall_names" (top 5) f fd) (hm : mg "wall_names" = some (.ref f)) (hx : ErrF P₀ K mg) (fr : Frees mg) :
    Cal false P₀ w K mg base 1 "wall_names" (p_wall_names K) :=
  cal_of (N := ["house", "wall"]) (ps := ["house"]) (t := t_wall_names K) F sc_wall_names hm (fun _ _ _ _ _ _ us hl => match us, hl with | [_], _ => rfl) (fun cdv A outer s H E hca hr hq tk => d_wall_names hx fr hca hr hq tk) (b_wall_names K (errK hx))
theorem ok_wall_index {P₀ : Program} {w : World} {K : PySem.W.Frag} {mg : Str → Option Value} {base : Heap} {f : Addr} {fd : FuncData} (F : FnP K "wall_index" (top 6) f fd) (hm : mg "wall_index" = some (.ref f)) (hx : ErrF P₀ K mg) (fr : Frees mg) (c_wall_names : Cal false P₀ w K mg base 1 "wall_names" (p_wall_names K)) :
    Cal false P₀ w K mg base 2 "wall_index" (p_wall_index K) :=
  cal_of (N := ["house", "name", "names"]) (ps := ["house", "name"]) (t := t_wall_index K) F sc_wall_index hm (fun _ _ _ _ _ _ us hl => match us, hl with | [_, _], _ => rfl) (fun cdv A outer s H E hca hr hq tk => d_wall_index hx fr c_wall_names hca hr hq tk) (b_wall_index K (errK hx))
theorem ok_wall_of {P₀ : Program} {w : World} {K : PySem.W.Frag} {mg : Str → Option Value} {base : Heap} {f : Addr} {fd : FuncData} (F : FnP K "wall_of" (top 7) f fd) (hm : mg "wall_of" = some (.ref f)) (hx : ErrF P₀ K mg) (fr : Frees mg) (c_wall_index : Cal false P₀ w K mg base 2 "wall_index" (p_wall_index K)) :
    Cal false P₀ w K mg base 3 "wall_of" (p_wall_of K) :=
  cal_of (N := ["house", "name"]) (ps := ["house", "name"]) (t := t_wall_of K) F sc_wall_of hm (fun _ _ _ _ _ _ us hl => match us, hl with | [_, _], _ => rfl) (fun cdv A outer s H E hca hr hq tk => d_wall_of hx fr c_wall_index hca hr hq tk) (b_wall_of K (errK hx))
theorem ok_backs_of {P₀ : Program} {w : World} {K : PySem.W.Frag} {mg : Str → Option Value} {base : Heap} {f : Addr} {fd : FuncData} (F : FnP K "backs_of" (top 8) f fd) (hm : mg "backs_of" = some (.ref f)) (hx : ErrF P₀ K mg) (fr : Frees mg) (c_wall_index : Cal false P₀ w K mg base 2 "wall_index" (p_wall_index K)) :
    Cal false P₀ w K mg base 3 "backs_of" (p_backs_of K) :=
  cal_of (N := ["house", "day", "name"]) (ps := ["house", "day", "name"]) (t := t_backs_of K) F sc_backs_of hm (fun _ _ _ _ _ _ us hl => match us, hl with | [_, _, _], _ => rfl) (fun cdv A outer s H E hca hr hq tk => d_backs_of hx fr c_wall_index hca hr hq tk) (b_backs_of K (errK hx))
theorem ok_tails_of {P₀ : Program} {w : World} {K : PySem.W.Frag} {mg : Str → Option Value} {base : Heap} {f : Addr} {fd : FuncData} (F : FnP K "tails_of" (top 10) f fd) (hm : mg "tails_of" = some (.ref f)) (hx : ErrF P₀ K mg) (fr : Frees mg) :
    Cal false P₀ w K mg base 1 "tails_of" (p_tails_of K) :=
  cal_of (N := ["counts", "at"]) (ps := ["counts"]) (t := t_tails_of K) F sc_tails_of hm (fun _ _ _ _ _ _ us hl => match us, hl with | [_], _ => rfl) (fun cdv A outer s H E hca hr hq tk => d_tails_of hx fr hca hr hq tk) (b_tails_of K (errK hx))
theorem ok_tails_of_sizes {P₀ : Program} {w : World} {K : PySem.W.Frag} {mg : Str → Option Value} {base : Heap} {f : Addr} {fd : FuncData} (F : FnP K "tails_of_sizes" (top 11) f fd) (hm : mg "tails_of_sizes" = some (.ref f)) (hx : ErrF P₀ K mg) (fr : Frees mg) :
    Cal false P₀ w K mg base 1 "tails_of_sizes" (p_tails_of_sizes K) :=
  cal_of (N := ["m", "sizes", "at", "size"]) (ps := ["m", "sizes"]) (t := t_tails_of_sizes K) F sc_tails_of_sizes hm (fun _ _ _ _ _ _ us hl => match us, hl with | [_, _], _ => rfl) (fun cdv A outer s H E hca hr hq tk => d_tails_of_sizes hx fr hca hr hq tk) (b_tails_of_sizes K (errK hx))
theorem ok_made_falling {P₀ : Program} {w : World} {K : PySem.W.Frag} {mg : Str → Option Value} {base : Heap} {f : Addr} {fd : FuncData} (F : FnP K "made_falling" (top 12) f fd) (hm : mg "made_falling" = some (.ref f)) (hx : ErrF P₀ K mg) (fr : Frees mg) :
    Cal false P₀ w K mg base 1 "made_falling" (p_made_falling K) :=
  cal_of (N := ["tails", "at"]) (ps := ["tails"]) (t := t_made_falling K) F sc_made_falling hm (fun _ _ _ _ _ _ us hl => match us, hl with | [_], _ => rfl) (fun cdv A outer s H E hca hr hq tk => d_made_falling hx fr hca hr hq tk) (b_made_falling K (errK hx))
theorem ok_least_box {P₀ : Program} {w : World} {K : PySem.W.Frag} {mg : Str → Option Value} {base : Heap} {f : Addr} {fd : FuncData} (F : FnP K "least_box" (top 13) f fd) (hm : mg "least_box" = some (.ref f)) (hx : ErrF P₀ K mg) (fr : Frees mg) :
    Cal false P₀ w K mg base 1 "least_box" (p_least_box K) :=
  cal_of (N := ["counts", "size", "found", "box"]) (ps := ["counts", "size"]) (t := t_least_box K) F sc_least_box hm (fun _ _ _ _ _ _ us hl => match us, hl with | [_, _], _ => rfl) (fun cdv A outer s H E hca hr hq tk => d_least_box hx fr hca hr hq tk) (b_least_box K (errK hx))
theorem ok_changed_by {P₀ : Program} {w : World} {K : PySem.W.Frag} {mg : Str → Option Value} {base : Heap} {f : Addr} {fd : FuncData} (F : FnP K "changed_by" (top 14) f fd) (hm : mg "changed_by" = some (.ref f)) (hx : ErrF P₀ K mg) (fr : Frees mg) :
    Cal false P₀ w K mg base 1 "changed_by" (p_changed_by K) :=
  cal_of (N := ["counts", "box", "many"]) (ps := ["counts", "box", "many"]) (t := t_changed_by K) F sc_changed_by hm (fun _ _ _ _ _ _ us hl => match us, hl with | [_, _, _], _ => rfl) (fun cdv A outer s H E hca hr hq tk => d_changed_by hx fr hca hr hq tk) (b_changed_by K (errK hx))
theorem ok_taken_from {P₀ : Program} {w : World} {K : PySem.W.Frag} {mg : Str → Option Value} {base : Heap} {f : Addr} {fd : FuncData} (F : FnP K "taken_from" (top 15) f fd) (hm : mg "taken_from" = some (.ref f)) (hx : ErrF P₀ K mg) (fr : Frees mg) (c_changed_by : Cal false P₀ w K mg base 1 "changed_by" (p_changed_by K)) :
    Cal false P₀ w K mg base 2 "taken_from" (p_taken_from K) :=
  cal_of (N := ["counts", "box"]) (ps := ["counts", "box"]) (t := t_taken_from K) F sc_taken_from hm (fun _ _ _ _ _ _ us hl => match us, hl with | [_, _], _ => rfl) (fun cdv A outer s H E hca hr hq tk => d_taken_from hx fr c_changed_by hca hr hq tk) (b_taken_from K (errK hx))
theorem ok_used_boxes {P₀ : Program} {w : World} {K : PySem.W.Frag} {mg : Str → Option Value} {base : Heap} {f : Addr} {fd : FuncData} (F : FnP K "used_boxes" (top 17) f fd) (hm : mg "used_boxes" = some (.ref f)) (hx : ErrF P₀ K mg) (fr : Frees mg) :
    Cal false P₀ w K mg base 1 "used_boxes" (p_used_boxes K) :=
  cal_of (N := ["m", "laying", "at", "size", "box"]) (ps := ["m", "laying"]) (t := t_used_boxes K) F sc_used_boxes hm (fun _ _ _ _ _ _ us hl => match us, hl with | [_, _], _ => rfl) (fun cdv A outer s H E hca hr hq tk => d_used_boxes hx fr hca hr hq tk) (b_used_boxes K (errK hx))
theorem ok_free_behind {P₀ : Program} {w : World} {K : PySem.W.Frag} {mg : Str → Option Value} {base : Heap} {f : Addr} {fd : FuncData} (F : FnP K "free_behind" (top 18) f fd) (hm : mg "free_behind" = some (.ref f)) (hx : ErrF P₀ K mg) (fr : Frees mg) (c_used_boxes : Cal false P₀ w K mg base 1 "used_boxes" (p_used_boxes K)) :
    Cal false P₀ w K mg base 2 "free_behind" (p_free_behind K) :=
  cal_of (N := ["counts", "laying", "many", "used"]) (ps := ["counts", "laying"]) (t := t_free_behind K) F sc_free_behind hm (fun _ _ _ _ _ _ us hl => match us, hl with | [_, _], _ => rfl) (fun cdv A outer s H E hca hr hq tk => d_free_behind hx fr c_used_boxes hca hr hq tk) (b_free_behind K (errK hx))
theorem ok_best_laying {P₀ : Program} {w : World} {K : PySem.W.Frag} {mg : Str → Option Value} {base : Heap} {f : Addr} {fd : FuncData} (F : FnP K "best_laying" (top 19) f fd) (hm : mg "best_laying" = some (.ref f)) (hx : ErrF P₀ K mg) (fr : Frees mg) (c_least_box : Cal false P₀ w K mg base 1 "least_box" (p_least_box K)) (c_taken_from : Cal false P₀ w K mg base 2 "taken_from" (p_taken_from K)) :
    Cal false P₀ w K mg base 3 "best_laying" (p_best_laying K) :=
  cal_of (N := ["counts", "sizes", "laying", "size", "box"]) (ps := ["counts", "sizes"]) (t := t_best_laying K) F sc_best_laying hm (fun _ _ _ _ _ _ us hl => match us, hl with | [_, _], _ => rfl) (fun cdv A outer s H E hca hr hq tk => d_best_laying hx fr c_least_box c_taken_from hca hr hq tk) (b_best_laying K (errK hx))
theorem ok_best_free {P₀ : Program} {w : World} {K : PySem.W.Frag} {mg : Str → Option Value} {base : Heap} {f : Addr} {fd : FuncData} (F : FnP K "best_free" (top 20) f fd) (hm : mg "best_free" = some (.ref f)) (hx : ErrF P₀ K mg) (fr : Frees mg) (c_best_laying : Cal false P₀ w K mg base 3 "best_laying" (p_best_laying K)) (c_tails_of : Cal false P₀ w K mg base 1 "tails_of" (p_tails_of K)) (c_free_behind : Cal false P₀ w K mg base 2 "free_behind" (p_free_behind K)) :
    Cal false P₀ w K mg base 4 "best_free" (p_best_free K) :=
  cal_of (N := ["counts", "sizes", "laying"]) (ps := ["counts", "sizes"]) (t := t_best_free K) F sc_best_free hm (fun _ _ _ _ _ _ us hl => match us, hl with | [_, _], _ => rfl) (fun cdv A outer s H E hca hr hq tk => d_best_free hx fr c_best_laying c_tails_of c_free_behind hca hr hq tk) (b_best_free K (errK hx))
theorem ok_room_tails {P₀ : Program} {w : World} {K : PySem.W.Frag} {mg : Str → Option Value} {base : Heap} {f : Addr} {fd : FuncData} (F : FnP K "room_tails" (top 22) f fd) (hm : mg "room_tails" = some (.ref f)) (hx : ErrF P₀ K mg) (fr : Frees mg) (c_wall_of : Cal false P₀ w K mg base 3 "wall_of" (p_wall_of K)) (c_best_free : Cal false P₀ w K mg base 4 "best_free" (p_best_free K)) :
    Cal false P₀ w K mg base 5 "room_tails" (p_room_tails K) :=
  cal_of (N := ["house", "name", "standing", "wall", "free", "tail"]) (ps := ["house", "name", "standing"]) (t := t_room_tails K) F sc_room_tails hm (fun _ _ _ _ _ _ us hl => match us, hl with | [_, _, _], _ => rfl) (fun cdv A outer s H E hca hr hq tk => d_room_tails hx fr c_wall_of c_best_free hca hr hq tk) (b_room_tails K (errK hx))
theorem ok_made_tails {P₀ : Program} {w : World} {K : PySem.W.Frag} {mg : Str → Option Value} {base : Heap} {f : Addr} {fd : FuncData} (F : FnP K "made_tails" (top 23) f fd) (hm : mg "made_tails" = some (.ref f)) (hx : ErrF P₀ K mg) (fr : Frees mg) (c_room_tails : Cal false P₀ w K mg base 5 "room_tails" (p_room_tails K)) (c_made_falling : Cal false P₀ w K mg base 1 "made_falling" (p_made_falling K)) (c_backs_of : Cal false P₀ w K mg base 3 "backs_of" (p_backs_of K)) :
    Cal false P₀ w K mg base 6 "made_tails" (p_made_tails K) :=
  cal_of (N := ["house", "day", "name", "standing", "found", "room", "owed"]) (ps := ["house", "day", "name", "standing"]) (t := t_made_tails K) F sc_made_tails hm (fun _ _ _ _ _ _ us hl => match us, hl with | [_, _, _, _], _ => rfl) (fun cdv A outer s H E hca hr hq tk => d_made_tails hx fr c_room_tails c_made_falling c_backs_of hca hr hq tk) (b_made_tails K (errK hx))
theorem ok_breaking {P₀ : Program} {w : World} {K : PySem.W.Frag} {mg : Str → Option Value} {base : Heap} {f : Addr} {fd : FuncData} (F : FnP K "breaking" (top 24) f fd) (hm : mg "breaking" = some (.ref f)) (hx : ErrF P₀ K mg) (fr : Frees mg) (c_tails_of : Cal false P₀ w K mg base 1 "tails_of" (p_tails_of K)) (c_wall_of : Cal false P₀ w K mg base 3 "wall_of" (p_wall_of K)) (c_room_tails : Cal false P₀ w K mg base 5 "room_tails" (p_room_tails K)) (c_tails_of_sizes : Cal false P₀ w K mg base 1 "tails_of_sizes" (p_tails_of_sizes K)) (c_backs_of : Cal false P₀ w K mg base 3 "backs_of" (p_backs_of K)) :
    Cal false P₀ w K mg base 6 "breaking" (p_breaking K) :=
  cal_of (N := ["house", "day", "name", "standing", "sizes", "boxes", "found", "stood", "owed", "come", "at"]) (ps := ["house", "day", "name", "standing", "sizes"]) (t := t_breaking K) F sc_breaking hm (fun _ _ _ _ _ _ us hl => match us, hl with | [_, _, _, _, _], _ => rfl) (fun cdv A outer s H E hca hr hq tk => d_breaking hx fr c_tails_of c_wall_of c_room_tails c_tails_of_sizes c_backs_of hca hr hq tk) (b_breaking K (errK hx))
theorem ok_takes {P₀ : Program} {w : World} {K : PySem.W.Frag} {mg : Str → Option Value} {base : Heap} {f : Addr} {fd : FuncData} (F : FnP K "takes" (top 25) f fd) (hm : mg "takes" = some (.ref f)) (hx : ErrF P₀ K mg) (fr : Frees mg) (c_breaking : Cal false P₀ w K mg base 6 "breaking" (p_breaking K)) :
    Cal false P₀ w K mg base 7 "takes" (p_takes K) :=
  cal_of (N := ["house", "day", "name", "standing", "sizes"]) (ps := ["house", "day", "name", "standing", "sizes"]) (t := t_takes K) F sc_takes hm (fun _ _ _ _ _ _ us hl => match us, hl with | [_, _, _, _, _], _ => rfl) (fun cdv A outer s H E hca hr hq tk => d_takes hx fr c_breaking hca hr hq tk) (b_takes K (errK hx))
theorem ok__law_take {P₀ : Program} {w : World} {K : PySem.W.Frag} {mg : Str → Option Value} {base : Heap} {f : Addr} {fd : FuncData} (F : FnP K "_law_take" (top 27) f fd) (hm : mg "_law_take" = some (.ref f)) (hx : ErrF P₀ K mg) (fr : Frees mg) :
    Cal false P₀ w K mg base 1 "_law_take" (p__law_take K) :=
  cal_of (N := ["bag", "many", "cell", "stirred", "value", "begin", "second"]) (ps := ["bag", "many"]) (t := t__law_take K) F sc__law_take hm (fun _ _ _ _ _ _ us hl => match us, hl with | [_, _], _ => rfl) (fun cdv A outer s H E hca hr hq tk => d__law_take hx fr hca hr hq tk) (b__law_take K (errK hx))
theorem ok__law_laid {P₀ : Program} {w : World} {K : PySem.W.Frag} {mg : Str → Option Value} {base : Heap} {f : Addr} {fd : FuncData} (F : FnP K "_law_laid" (top 28) f fd) (hm : mg "_law_laid" = some (.ref f)) (hx : ErrF P₀ K mg) (fr : Frees mg) :
    Cal false P₀ w K mg base 1 "_law_laid" (p__law_laid K) :=
  cal_of (N := ["counts", "sizes", "free", "found", "size", "some", "box"]) (ps := ["counts", "sizes"]) (t := t__law_laid K) F sc__law_laid hm (fun _ _ _ _ _ _ us hl => match us, hl with | [_, _], _ => rfl) (fun cdv A outer s H E hca hr hq tk => d__law_laid hx fr hca hr hq tk) (b__law_laid K (errK hx))
theorem ok__law_tails {P₀ : Program} {w : World} {K : PySem.W.Frag} {mg : Str → Option Value} {base : Heap} {f : Addr} {fd : FuncData} (F : FnP K "_law_tails" (top 29) f fd) (hm : mg "_law_tails" = some (.ref f)) (hx : ErrF P₀ K mg) (fr : Frees mg) :
    Cal false P₀ w K mg base 1 "_law_tails" (p__law_tails K) :=
  cal_of (N := ["counts", "at"]) (ps := ["counts"]) (t := t__law_tails K) F sc__law_tails hm (fun _ _ _ _ _ _ us hl => match us, hl with | [_], _ => rfl) (fun cdv A outer s H E hca hr hq tk => d__law_tails hx fr hca hr hq tk) (b__law_tails K (errK hx))
theorem ok__law_made {P₀ : Program} {w : World} {K : PySem.W.Frag} {mg : Str → Option Value} {base : Heap} {f : Addr} {fd : FuncData} (F : FnP K "_law_made" (top 30) f fd) (hm : mg "_law_made" = some (.ref f)) (hx : ErrF P₀ K mg) (fr : Frees mg) (c__law_laid : Cal false P₀ w K mg base 1 "_law_laid" (p__law_laid K)) (c__law_tails : Cal false P₀ w K mg base 1 "_law_tails" (p__law_tails K)) :
    Cal false P₀ w K mg base 2 "_law_made" (p__law_made K) :=
  cal_of (N := ["counts", "jams", "sizes", "backs", "laid", "found", "tail", "owed", "own"]) (ps := ["counts", "jams", "sizes", "backs"]) (t := t__law_made K) F sc__law_made hm (fun _ _ _ _ _ _ us hl => match us, hl with | [_, _, _, _], _ => rfl) (fun cdv A outer s H E hca hr hq tk => d__law_made hx fr c__law_laid c__law_tails hca hr hq tk) (b__law_made K (errK hx))
theorem ok__law_is_at_most {P₀ : Program} {w : World} {K : PySem.W.Frag} {mg : Str → Option Value} {base : Heap} {f : Addr} {fd : FuncData} (F : FnP K "_law_is_at_most" (top 31) f fd) (hm : mg "_law_is_at_most" = some (.ref f)) (hx : ErrF P₀ K mg) (fr : Frees mg) :
    Cal false P₀ w K mg base 1 "_law_is_at_most" (p__law_is_at_most K) :=
  cal_of (N := ["one", "other", "few", "many"]) (ps := ["one", "other"]) (t := t__law_is_at_most K) F sc__law_is_at_most hm (fun _ _ _ _ _ _ us hl => match us, hl with | [_, _], _ => rfl) (fun cdv A outer s H E hca hr hq tk => d__law_is_at_most hx fr hca hr hq tk) (b__law_is_at_most K (errK hx))
theorem ok__law_size_tails {P₀ : Program} {w : World} {K : PySem.W.Frag} {mg : Str → Option Value} {base : Heap} {f : Addr} {fd : FuncData} (F : FnP K "_law_size_tails" (top 32) f fd) (hm : mg "_law_size_tails" = some (.ref f)) (hx : ErrF P₀ K mg) (fr : Frees mg) :
    Cal false P₀ w K mg base 1 "_law_size_tails" (p__law_size_tails K) :=
  cal_of (N := ["m", "sizes", "at", "size"]) (ps := ["m", "sizes"]) (t := t__law_size_tails K) F sc__law_size_tails hm (fun _ _ _ _ _ _ us hl => match us, hl with | [_, _], _ => rfl) (fun cdv A outer s H E hca hr hq tk => d__law_size_tails hx fr hca hr hq tk) (b__law_size_tails K (errK hx))
theorem ok__law_counts {P₀ : Program} {w : World} {K : PySem.W.Frag} {mg : Str → Option Value} {base : Heap} {f : Addr} {fd : FuncData} (F : FnP K "_law_counts" (top 33) f fd) (hm : mg "_law_counts" = some (.ref f)) (hx : ErrF P₀ K mg) (fr : Frees mg) :
    Cal false P₀ w K mg base 1 "_law_counts" (p__law_counts K) :=
  cal_of (N := ["tails", "one", "other"]) (ps := ["tails"]) (t := t__law_counts K) F sc__law_counts hm (fun _ _ _ _ _ _ us hl => match us, hl with | [_], _ => rfl) (fun cdv A outer s H E hca hr hq tk => d__law_counts hx fr hca hr hq tk) (b__law_counts K (errK hx))
theorem ok__law_alike {P₀ : Program} {w : World} {K : PySem.W.Frag} {mg : Str → Option Value} {base : Heap} {f : Addr} {fd : FuncData} (F : FnP K "_law_alike" (top 34) f fd) (hm : mg "_law_alike" = some (.ref f)) (hx : ErrF P₀ K mg) (fr : Frees mg) :
    Cal true P₀ w K mg base 1 "_law_alike" (p__law_alike K) :=
  cal_of (N := ["found", "due"]) (ps := ["found", "due"]) (t := t__law_alike K) F sc__law_alike hm (fun _ _ _ _ _ _ us hl => match us, hl with | [_, _], _ => rfl) (fun cdv A outer s H E hca hr hq tk => d__law_alike hx fr hca hr hq tk) (b__law_alike K (errK hx))
theorem ok__law_bag {P₀ : Program} {w : World} {K : PySem.W.Frag} {mg : Str → Option Value} {base : Heap} {f : Addr} {fd : FuncData} (F : FnP K "_law_bag" (top 35) f fd) (hm : mg "_law_bag" = some (.ref f)) (hx : ErrF P₀ K mg) (fr : Frees mg) :
    Cal false P₀ w K mg base 1 "_law_bag" (p__law_bag K) :=
  cal_of (N := ["script", "cell"]) (ps := ["script"]) (t := t__law_bag K) F sc__law_bag hm (fun _ _ _ _ _ _ us hl => match us, hl with | [_], _ => rfl) (fun cdv A outer s H E hca hr hq tk => d__law_bag hx fr hca hr hq tk) (b__law_bag K (errK hx))
theorem ok__law_mixed {P₀ : Program} {w : World} {K : PySem.W.Frag} {mg : Str → Option Value} {base : Heap} {f : Addr} {fd : FuncData} (F : FnP K "_law_mixed" (top 36) f fd) (hm : mg "_law_mixed" = some (.ref f)) (hx : ErrF P₀ K mg) (fr : Frees mg) (c__law_take : Cal false P₀ w K mg base 1 "_law_take" (p__law_take K)) :
    Cal false P₀ w K mg base 2 "_law_mixed" (p__law_mixed K) :=
  cal_of (N := ["bag", "things", "left", "found"]) (ps := ["bag", "things"]) (t := t__law_mixed K) F sc__law_mixed hm (fun _ _ _ _ _ _ us hl => match us, hl with | [_, _], _ => rfl) (fun cdv A outer s H E hca hr hq tk => d__law_mixed hx fr c__law_take hca hr hq tk) (b__law_mixed K (errK hx))
theorem ok__law_names {P₀ : Program} {w : World} {K : PySem.W.Frag} {mg : Str → Option Value} {base : Heap} {f : Addr} {fd : FuncData} (F : FnP K "_law_names" (top 37) f fd) (hm : mg "_law_names" = some (.ref f)) (hx : ErrF P₀ K mg) (fr : Frees mg) (c__law_mixed : Cal false P₀ w K mg base 2 "_law_mixed" (p__law_mixed K)) :
    Cal false P₀ w K mg base 3 "_law_names" (p__law_names K) :=
  cal_of (N := ["bag", "many"]) (ps := ["bag", "many"]) (t := t__law_names K) F sc__law_names hm (fun _ _ _ _ _ _ us hl => match us, hl with | [_, _], _ => rfl) (fun cdv A outer s H E hca hr hq tk => d__law_names hx fr c__law_mixed hca hr hq tk) (b__law_names K (errK hx))
theorem ok__law_drawn_counts {P₀ : Program} {w : World} {K : PySem.W.Frag} {mg : Str → Option Value} {base : Heap} {f : Addr} {fd : FuncData} (F : FnP K "_law_drawn_counts" (top 38) f fd) (hm : mg "_law_drawn_counts" = some (.ref f)) (hx : ErrF P₀ K mg) (fr : Frees mg) (c__law_take : Cal false P₀ w K mg base 1 "_law_take" (p__law_take K)) :
    Cal false P₀ w K mg base 2 "_law_drawn_counts" (p__law_drawn_counts K) :=
  cal_of (N := ["bag", "m", "most", "found", "size"]) (ps := ["bag", "m", "most"]) (t := t__law_drawn_counts K) F sc__law_drawn_counts hm (fun _ _ _ _ _ _ us hl => match us, hl with | [_, _, _], _ => rfl) (fun cdv A outer s H E hca hr hq tk => d__law_drawn_counts hx fr c__law_take hca hr hq tk) (b__law_drawn_counts K (errK hx))
theorem ok__law_some {P₀ : Program} {w : World} {K : PySem.W.Frag} {mg : Str → Option Value} {base : Heap} {f : Addr} {fd : FuncData} (F : FnP K "_law_some" (top 39) f fd) (hm : mg "_law_some" = some (.ref f)) (hx : ErrF P₀ K mg) (fr : Frees mg) (c__law_take : Cal false P₀ w K mg base 1 "_law_take" (p__law_take K)) :
    Cal false P₀ w K mg base 2 "_law_some" (p__law_some K) :=
  cal_of (N := ["bag", "things"]) (ps := ["bag", "things"]) (t := t__law_some K) F sc__law_some hm (fun _ _ _ _ _ _ us hl => match us, hl with | [_, _], _ => rfl) (fun cdv A outer s H E hca hr hq tk => d__law_some hx fr c__law_take hca hr hq tk) (b__law_some K (errK hx))
theorem ok__law_places {P₀ : Program} {w : World} {K : PySem.W.Frag} {mg : Str → Option Value} {base : Heap} {f : Addr} {fd : FuncData} (F : FnP K "_law_places" (top 40) f fd) (hm : mg "_law_places" = some (.ref f)) (hx : ErrF P₀ K mg) (fr : Frees mg) (c__law_mixed : Cal false P₀ w K mg base 2 "_law_mixed" (p__law_mixed K)) (c__law_take : Cal false P₀ w K mg base 1 "_law_take" (p__law_take K)) :
    Cal false P₀ w K mg base 3 "_law_places" (p__law_places K) :=
  cal_of (N := ["bag", "names"]) (ps := ["bag", "names"]) (t := t__law_places K) F sc__law_places hm (fun _ _ _ _ _ _ us hl => match us, hl with | [_, _], _ => rfl) (fun cdv A outer s H E hca hr hq tk => d__law_places hx fr c__law_mixed c__law_take hca hr hq tk) (b__law_places K (errK hx))
theorem ok__law_drawn_tails {P₀ : Program} {w : World} {K : PySem.W.Frag} {mg : Str → Option Value} {base : Heap} {f : Addr} {fd : FuncData} (F : FnP K "_law_drawn_tails" (top 41) f fd) (hm : mg "_law_drawn_tails" = some (.ref f)) (hx : ErrF P₀ K mg) (fr : Frees mg) (c__law_size_tails : Cal false P₀ w K mg base 1 "_law_size_tails" (p__law_size_tails K)) (c__law_take : Cal false P₀ w K mg base 1 "_law_take" (p__law_take K)) :
    Cal false P₀ w K mg base 2 "_law_drawn_tails" (p__law_drawn_tails K) :=
  cal_of (N := ["bag", "m", "most", "turn"]) (ps := ["bag", "m", "most"]) (t := t__law_drawn_tails K) F sc__law_drawn_tails hm (fun _ _ _ _ _ _ us hl => match us, hl with | [_, _, _], _ => rfl) (fun cdv A outer s H E hca hr hq tk => d__law_drawn_tails hx fr c__law_size_tails c__law_take hca hr hq tk) (b__law_drawn_tails K (errK hx))
theorem ok__law_house {P₀ : Program} {w : World} {K : PySem.W.Frag} {mg : Str → Option Value} {base : Heap} {f : Addr} {fd : FuncData} (F : FnP K "_law_house" (top 42) f fd) (hm : mg "_law_house" = some (.ref f)) (hx : ErrF P₀ K mg) (fr : Frees mg) (c__law_names : Cal false P₀ w K mg base 3 "_law_names" (p__law_names K)) (c__law_some : Cal false P₀ w K mg base 2 "_law_some" (p__law_some K)) (c__law_drawn_counts : Cal false P₀ w K mg base 2 "_law_drawn_counts" (p__law_drawn_counts K)) (c__law_places : Cal false P₀ w K mg base 3 "_law_places" (p__law_places K)) (c__law_take : Cal false P₀ w K mg base 1 "_law_take" (p__law_take K)) (c__law_drawn_tails : Cal false P₀ w K mg base 2 "_law_drawn_tails" (p__law_drawn_tails K)) :
    Cal false P₀ w K mg base 4 "_law_house" (p__law_house K) :=
  cal_of (N := ["bag", "m", "walls", "kinds", "days", "names", "made", "name", "some", "ahead", "stay", "week", "day", "asks", "kind", "wall"]) (ps := ["bag", "m", "walls", "kinds", "days"]) (t := t__law_house K) F sc__law_house hm (fun _ _ _ _ _ _ us hl => match us, hl with | [_, _, _, _, _], _ => rfl) (fun cdv A outer s H E hca hr hq tk => d__law_house hx fr c__law_names c__law_some c__law_drawn_counts c__law_places c__law_take c__law_drawn_tails hca hr hq tk) (b__law_house K (errK hx))
theorem ok__law_stays {P₀ : Program} {w : World} {K : PySem.W.Frag} {mg : Str → Option Value} {base : Heap} {f : Addr} {fd : FuncData} (F : FnP K "_law_stays" (top 44) f fd) (hm : mg "_law_stays" = some (.ref f)) (hx : ErrF P₀ K mg) (fr : Frees mg) (c__law_take : Cal false P₀ w K mg base 1 "_law_take" (p__law_take K)) (c__law_some : Cal false P₀ w K mg base 2 "_law_some" (p__law_some K)) :
    Cal false P₀ w K mg base 3 "_law_stays" (p__law_stays K) :=
  cal_of (N := ["bag", "m", "boxes", "many", "turn"]) (ps := ["bag", "m", "boxes"]) (t := t__law_stays K) F sc__law_stays hm (fun _ _ _ _ _ _ us hl => match us, hl with | [_, _, _], _ => rfl) (fun cdv A outer s H E hca hr hq tk => d__law_stays hx fr c__law_take c__law_some hca hr hq tk) (b__law_stays K (errK hx))
theorem ok__law_room_tails {P₀ : Program} {w : World} {K : PySem.W.Frag} {mg : Str → Option Value} {base : Heap} {f : Addr} {fd : FuncData} (F : FnP K "_law_room_tails" (top 45) f fd) (hm : mg "_law_room_tails" = some (.ref f)) (hx : ErrF P₀ K mg) (fr : Frees mg) (c__law_laid : Cal false P₀ w K mg base 1 "_law_laid" (p__law_laid K)) (c__law_tails : Cal false P₀ w K mg base 1 "_law_tails" (p__law_tails K)) :
    Cal false P₀ w K mg base 2 "_law_room_tails" (p__law_room_tails K) :=
  cal_of (N := ["wall", "stays", "laid", "tail"]) (ps := ["wall", "stays"]) (t := t__law_room_tails K) F sc__law_room_tails hm (fun _ _ _ _ _ _ us hl => match us, hl with | [_, _], _ => rfl) (fun cdv A outer s H E hca hr hq tk => d__law_room_tails hx fr c__law_laid c__law_tails hca hr hq tk) (b__law_room_tails K (errK hx))
theorem ok__law_takes {P₀ : Program} {w : World} {K : PySem.W.Frag} {mg : Str → Option Value} {base : Heap} {f : Addr} {fd : FuncData} (F : FnP K "_law_takes" (top 46) f fd) (hm : mg "_law_takes" = some (.ref f)) (hx : ErrF P₀ K mg) (fr : Frees mg) (c__law_made : Cal false P₀ w K mg base 2 "_law_made" (p__law_made K)) (c__law_is_at_most : Cal false P₀ w K mg base 1 "_law_is_at_most" (p__law_is_at_most K)) (c__law_size_tails : Cal false P₀ w K mg base 1 "_law_size_tails" (p__law_size_tails K)) :
    Cal false P₀ w K mg base 3 "_law_takes" (p__law_takes K) :=
  cal_of (N := ["wall", "backs", "stays", "sizes", "made"]) (ps := ["wall", "backs", "stays", "sizes"]) (t := t__law_takes K) F sc__law_takes hm (fun _ _ _ _ _ _ us hl => match us, hl with | [_, _, _, _], _ => rfl) (fun cdv A outer s H E hca hr hq tk => d__law_takes hx fr c__law_made c__law_is_at_most c__law_size_tails hca hr hq tk) (b__law_takes K (errK hx))
theorem ok__law_edge {P₀ : Program} {w : World} {K : PySem.W.Frag} {mg : Str → Option Value} {base : Heap} {f : Addr} {fd : FuncData} (F : FnP K "_law_edge" (top 47) f fd) (hm : mg "_law_edge" = some (.ref f)) (hx : ErrF P₀ K mg) (fr : Frees mg) (c__law_take : Cal false P₀ w K mg base 1 "_law_take" (p__law_take K)) (c__law_counts : Cal false P₀ w K mg base 1 "_law_counts" (p__law_counts K)) :
    Cal false P₀ w K mg base 2 "_law_edge" (p__law_edge K) :=
  cal_of (N := ["bag", "m", "made", "sizes", "at", "many", "turn"]) (ps := ["bag", "m", "made"]) (t := t__law_edge K) F sc__law_edge hm (fun _ _ _ _ _ _ us hl => match us, hl with | [_, _, _], _ => rfl) (fun cdv A outer s H E hca hr hq tk => d__law_edge hx fr c__law_take c__law_counts hca hr hq tk) (b__law_edge K (errK hx))
theorem ok__law_wall_right {P₀ : Program} {w : World} {K : PySem.W.Frag} {mg : Str → Option Value} {base : Heap} {f : Addr} {fd : FuncData} (F : FnP K "_law_wall_right" (top 48) f fd) (hm : mg "_law_wall_right" = some (.ref f)) (hx : ErrF P₀ K mg) (fr : Frees mg) (c__law_stays : Cal false P₀ w K mg base 3 "_law_stays" (p__law_stays K)) (c__law_made : Cal false P₀ w K mg base 2 "_law_made" (p__law_made K)) (c__law_edge : Cal false P₀ w K mg base 2 "_law_edge" (p__law_edge K)) (c__law_takes : Cal false P₀ w K mg base 3 "_law_takes" (p__law_takes K)) (c__law_room_tails : Cal false P₀ w K mg base 2 "_law_room_tails" (p__law_room_tails K)) (c_made_tails : Cal false P₀ w K mg base 6 "made_tails" (p_made_tails K)) (c_room_tails : Cal false P₀ w K mg base 5 "room_tails" (p_room_tails K)) (c__law_alike : Cal true P₀ w K mg base 1 "_law_alike" (p__law_alike K)) (c_takes : Cal false P₀ w K mg base 7 "takes" (p_takes K)) :
    Cal true P₀ w K mg base 8 "_law_wall_right" (p__law_wall_right K) :=
  cal_of (N := ["bag", "house", "day", "at", "name", "counts", "jams", "backs", "stays", "made", "sizes", "due", "kept", "again", "found"]) (ps := ["bag", "house", "day", "at"]) (t := t__law_wall_right K) F sc__law_wall_right hm (fun _ _ _ _ _ _ us hl => match us, hl with | [_, _, _, _], _ => rfl) (fun cdv A outer s H E hca hr hq tk => d__law_wall_right hx fr c__law_stays c__law_made c__law_edge c__law_takes c__law_room_tails c_made_tails c_room_tails c__law_alike c_takes hca hr hq tk) (b__law_wall_right K (errK hx))
theorem okq_law {P₀ : Program} {w : World} {K : PySem.W.Frag} {mg : Str → Option Value} {base : Heap} {f : Addr} {fd : FuncData} (F : FnP K "law" (top 49) f fd) (hm : mg "law" = some (.ref f)) (hx : ErrF P₀ K mg) (fr : Frees mg) (c__law_bag : Cal false P₀ w K mg base 1 "_law_bag" (p__law_bag K)) (c__law_house : Cal false P₀ w K mg base 4 "_law_house" (p__law_house K)) (c__law_take : Cal false P₀ w K mg base 1 "_law_take" (p__law_take K)) (c__law_wall_right : Cal true P₀ w K mg base 8 "_law_wall_right" (p__law_wall_right K)) {gH : Addr} {fdH : FuncData} (FH__law_heard : FnP K "_law_heard" (top 43) gH fdH) (hmH__law_heard : mg "_law_heard" = some (.ref gH)) {cc P : Addr} (TB : LamX.TabB base mg cc P) (hcode : ∀ cdv, CodeAt K f cdv → cdv = .ref cc) (c_room_tails : Cal false P₀ w K mg base 5 "room_tails" (p_room_tails K)) (c_takes : Cal false P₀ w K mg base 7 "takes" (p_takes K)) (c_made_tails : Cal false P₀ w K mg base 6 "made_tails" (p_made_tails K)) (c__law_alike : Cal true P₀ w K mg base 1 "_law_alike" (p__law_alike K)) :
    FnQ true P₀ w K mg base (L2.CX P₀ w) 11 f fd ["script"] (lfSp K (p_law K P)) :=
  fnQ_body (N := ["script", "bag", "turn", "house", "day", "at", "heard"]) (ps := ["script"]) (t := t_law K P) F sc_law (fun cdv A outer s H E hca hr hq tk => d_law hx fr c__law_bag c__law_house c__law_take c__law_wall_right FH__law_heard hmH__law_heard (b__law_heard K (errK hx)) TB (hcode _) c_room_tails c_takes c_made_tails c__law_alike hca hr hq tk) (b_law K P (errK hx))
end K38
end

section
set_option Elab.async false
set_option linter.all false
set_option maxRecDepth 100000
set_option maxHeartbeats 0
namespace K38
open PySem PySem.Spec PyProof.Rows L2 DL
abbrev R0 : Program := PySem.Challenge.pw_owedapart_k38_made_tails_and_takes
def fns0 : List (Nat × Str) := [(5, "wall_names"), (6, "wall_index"), (7, "wall_of"), (8, "backs_of"), (10, "tails_of"), (11, "tails_of_sizes"), (12, "made_falling"), (13, "least_box"), (14, "changed_by"), (15, "taken_from"), (17, "used_boxes"), (18, "free_behind"), (19, "best_laying"), (20, "best_free"), (22, "room_tails"), (23, "made_tails"), (24, "breaking"), (25, "takes"), (27, "_law_take"), (28, "_law_laid"), (29, "_law_tails"), (30, "_law_made"), (31, "_law_is_at_most"), (32, "_law_size_tails"), (33, "_law_counts"), (34, "_law_alike"), (35, "_law_bag"), (36, "_law_mixed"), (37, "_law_names"), (38, "_law_drawn_counts")]
def fns1 : List (Nat × Str) := [(39, "_law_some"), (40, "_law_places"), (41, "_law_drawn_tails"), (42, "_law_house"), (43, "_law_heard"), (44, "_law_stays"), (45, "_law_room_tails"), (46, "_law_takes"), (47, "_law_edge"), (48, "_law_wall_right"), (49, "law")]
def fns : List (Nat × Str) := fns0 ++ fns1
def dd (p : Nat × Str) : He.DefD := ⟨(p.2, none), p.2, p.2, defArgs (top p.1), defBody (top p.1), defScope (top p.1), [], []⟩
def fn : List He.DefD := fns.map dd
def fa0 : List He.Fa := [.glo "wall_names", .glo "wall_index", .glo "wall_of", .glo "backs_of", .glo "tails_of", .glo "tails_of_sizes", .glo "made_falling", .glo "least_box", .glo "changed_by", .glo "taken_from", .glo "used_boxes", .glo "free_behind", .glo "best_laying", .glo "best_free", .glo "room_tails", .glo "made_tails", .glo "breaking", .glo "takes", .glo "_law_take", .glo "_law_laid", .glo "_law_tails", .glo "_law_made", .glo "_law_is_at_most", .glo "_law_size_tails", .glo "_law_counts", .glo "_law_alike", .glo "_law_bag", .glo "_law_mixed", .glo "_law_names", .glo "_law_drawn_counts"]
def fa1 : List He.Fa := [.glo "_law_some", .glo "_law_places", .glo "_law_drawn_tails", .glo "_law_house", .glo "_law_heard", .glo "_law_stays", .glo "_law_room_tails", .glo "_law_takes", .glo "_law_edge", .glo "_law_wall_right", .glo "law", .free "abs", .free "enumerate", .free "int", .free "isinstance", .free "len", .free "list", .free "max", .free "min", .free "range", .free "repr", .free "sorted", .free "sum", .free "tuple", .free "zip", .glo "LockerError", .glo "NoWall", .exm "NoWall" "LockerError" true, .noat "NoWall" "name"]
def fa : List He.Fa := fa0 ++ fa1
def tf : List He.Defn := [("law", none)]
def xs : List Str := ["NoWall"]
def vals : List IniW := [iniV "NoWall.__init__" (defArgs (initOf (top 2))) (defBody (initOf (top 2))) (defScope (initOf (top 2)))]
def ex (K : PySem.W.Frag) : Bool := txtB K R0.main.file "NoWall.__init__" "NoWall" "name" && (excB K (He.ga K "NoWall") && (xfB K (He.ga K "NoWall") && decide (PySem.W.kitOne K (.ref (He.ga K "NoWall")) (.ref (He.ga K "NoWall")) = some true)))
abbrev R : PySem.W.OpenRow := PySem.W.OpenLaw.row PySem.Challenge.rw_owedapart_k38_made_tails_and_takes
abbrev hk : PySem.W.Hook := hookY 5 fa fn tf ex xs vals
def ob (s : PySem.W.SharedT) : AlY := obsY 5 fa fn tf ex xs (HandSHeadRun.getT s)
theorem ob_eq (s : PySem.W.SharedT) : ob s = hk.obs s.abs := obsY_eq (HandSHeadRun.getT_eq s)
def names0 : List Str := ["LockerError", "NoWall", "Nothing", "wall_names", "wall_index", "wall_of", "backs_of", "tails_of", "tails_of_sizes", "made_falling", "least_box", "changed_by", "taken_from", "used_boxes", "free_behind", "best_laying", "best_free", "room_tails", "made_tails", "breaking", "takes", "_law_take", "_law_laid", "_law_tails", "_law_made", "_law_is_at_most", "_law_size_tails", "_law_counts", "_law_alike", "_law_bag"]
def names1 : List Str := ["_law_mixed", "_law_names", "_law_drawn_counts", "_law_some", "_law_places", "_law_drawn_tails", "_law_house", "_law_heard", "_law_stays", "_law_room_tails", "_law_takes", "_law_edge", "_law_wall_right"]
def names : List Str := names0 ++ names1
theorem run (w : World) : HandSHeadRun.RunEq R (PySem.W.view R.prog [49]) hk ob 6000 names w := by
  intro os
  kernel_rfl
theorem errF {P : Program} {K : PySem.W.Frag} {h : Heap} {mg : Str → Option Value} (kin : K.In h) (gns : h.Ns mainGlobals mg) (hP : P = R.prog) (c : SaysY fa fn tf ex xs vals h K) : ErrF P K mg := by
  subst hP
  have m := c.more
  unfold ex at m
  obtain ⟨m1, m⟩ := He.ba m
  obtain ⟨m2, m⟩ := He.ba m
  obtain ⟨m3, m4⟩ := He.ba m
  have g1 := He.glo_ok kin gns (c.d.fact 55 (f := .glo "LockerError") rfl)
  have g2 := He.glo_ok kin gns (c.d.fact 56 (f := .glo "NoWall") rfl)
  have e1 := He.exm_ok (c.d.fact 57 (f := .exm "NoWall" "LockerError" true) rfl)
  have e2 := He.noat_ok (c.d.fact 58 (f := .noat "NoWall" "name") rfl)
  have ei : iniW K "NoWall" = iniV "NoWall.__init__" (defArgs (initOf (top 2))) (defBody (initOf (top 2))) (defScope (initOf (top 2))) := (List.cons.inj c.ini).1
  exact ⟨g1, g2, err1_of m1 ei g2 rfl (fun _ _ _ _ _ _ _ _ => rfl) (fun env => ⟨_, rfl⟩), xfB_ok m3, e2, ⟨e1, excB_ok m2, of_decide_eq_true m4⟩⟩
theorem law_ok {P : Program} {w : World} {K : PySem.W.Frag} {h base : Heap} {mg : Str → Option Value} (kin : K.In h) (gns : h.Ns mainGlobals mg) (hP : P = R.prog) (c : SaysY fa fn tf ex xs vals h K) {fd_law : FuncData} (F_law : FnP K "law" (top 49) (He.ga K "law") fd_law)
    (TB : ∀ p ∈ [He.cT K ("law", none)], LamX.TabB base mg p.1 p.2) : FnQ true P w K mg base (L2.CX P w) 11 (He.ga K "law") fd_law ["script"] (lfSp K (p_law K (He.cT K ("law", none)).2)) := by
  obtain ⟨fd_wall_names, F_wall_names⟩ := c.d.def_ 0 (d := dd (5, "wall_names")) rfl
  obtain ⟨fd_wall_index, F_wall_index⟩ := c.d.def_ 1 (d := dd (6, "wall_index")) rfl
  obtain ⟨fd_wall_of, F_wall_of⟩ := c.d.def_ 2 (d := dd (7, "wall_of")) rfl
  obtain ⟨fd_backs_of, F_backs_of⟩ := c.d.def_ 3 (d := dd (8, "backs_of")) rfl
  obtain ⟨fd_tails_of, F_tails_of⟩ := c.d.def_ 4 (d := dd (10, "tails_of")) rfl
  obtain ⟨fd_tails_of_sizes, F_tails_of_sizes⟩ := c.d.def_ 5 (d := dd (11, "tails_of_sizes")) rfl
  obtain ⟨fd_made_falling, F_made_falling⟩ := c.d.def_ 6 (d := dd (12, "made_falling")) rfl
  obtain ⟨fd_least_box, F_least_box⟩ := c.d.def_ 7 (d := dd (13, "least_box")) rfl
  obtain ⟨fd_changed_by, F_changed_by⟩ := c.d.def_ 8 (d := dd (14, "changed_by")) rfl
  obtain ⟨fd_taken_from, F_taken_from⟩ := c.d.def_ 9 (d := dd (15, "taken_from")) rfl
  obtain ⟨fd_used_boxes, F_used_boxes⟩ := c.d.def_ 10 (d := dd (17, "used_boxes")) rfl
  obtain ⟨fd_free_behind, F_free_behind⟩ := c.d.def_ 11 (d := dd (18, "free_behind")) rfl
  obtain ⟨fd_best_laying, F_best_laying⟩ := c.d.def_ 12 (d := dd (19, "best_laying")) rfl
  obtain ⟨fd_best_free, F_best_free⟩ := c.d.def_ 13 (d := dd (20, "best_free")) rfl
  obtain ⟨fd_room_tails, F_room_tails⟩ := c.d.def_ 14 (d := dd (22, "room_tails")) rfl
  obtain ⟨fd_made_tails, F_made_tails⟩ := c.d.def_ 15 (d := dd (23, "made_tails")) rfl
  obtain ⟨fd_breaking, F_breaking⟩ := c.d.def_ 16 (d := dd (24, "breaking")) rfl
  obtain ⟨fd_takes, F_takes⟩ := c.d.def_ 17 (d := dd (25, "takes")) rfl
  obtain ⟨fd__law_take, F__law_take⟩ := c.d.def_ 18 (d := dd (27, "_law_take")) rfl
  obtain ⟨fd__law_laid, F__law_laid⟩ := c.d.def_ 19 (d := dd (28, "_law_laid")) rfl
  obtain ⟨fd__law_tails, F__law_tails⟩ := c.d.def_ 20 (d := dd (29, "_law_tails")) rfl
  obtain ⟨fd__law_made, F__law_made⟩ := c.d.def_ 21 (d := dd (30, "_law_made")) rfl
  obtain ⟨fd__law_is_at_most, F__law_is_at_most⟩ := c.d.def_ 22 (d := dd (31, "_law_is_at_most")) rfl
  obtain ⟨fd__law_size_tails, F__law_size_tails⟩ := c.d.def_ 23 (d := dd (32, "_law_size_tails")) rfl
  obtain ⟨fd__law_counts, F__law_counts⟩ := c.d.def_ 24 (d := dd (33, "_law_counts")) rfl
  obtain ⟨fd__law_alike, F__law_alike⟩ := c.d.def_ 25 (d := dd (34, "_law_alike")) rfl
  obtain ⟨fd__law_bag, F__law_bag⟩ := c.d.def_ 26 (d := dd (35, "_law_bag")) rfl
  obtain ⟨fd__law_mixed, F__law_mixed⟩ := c.d.def_ 27 (d := dd (36, "_law_mixed")) rfl
  obtain ⟨fd__law_names, F__law_names⟩ := c.d.def_ 28 (d := dd (37, "_law_names")) rfl
  obtain ⟨fd__law_drawn_counts, F__law_drawn_counts⟩ := c.d.def_ 29 (d := dd (38, "_law_drawn_counts")) rfl
  obtain ⟨fd__law_some, F__law_some⟩ := c.d.def_ 30 (d := dd (39, "_law_some")) rfl
  obtain ⟨fd__law_places, F__law_places⟩ := c.d.def_ 31 (d := dd (40, "_law_places")) rfl
  obtain ⟨fd__law_drawn_tails, F__law_drawn_tails⟩ := c.d.def_ 32 (d := dd (41, "_law_drawn_tails")) rfl
  obtain ⟨fd__law_house, F__law_house⟩ := c.d.def_ 33 (d := dd (42, "_law_house")) rfl
  obtain ⟨fd__law_heard, F__law_heard⟩ := c.d.def_ 34 (d := dd (43, "_law_heard")) rfl
  obtain ⟨fd__law_stays, F__law_stays⟩ := c.d.def_ 35 (d := dd (44, "_law_stays")) rfl
  obtain ⟨fd__law_room_tails, F__law_room_tails⟩ := c.d.def_ 36 (d := dd (45, "_law_room_tails")) rfl
  obtain ⟨fd__law_takes, F__law_takes⟩ := c.d.def_ 37 (d := dd (46, "_law_takes")) rfl
  obtain ⟨fd__law_edge, F__law_edge⟩ := c.d.def_ 38 (d := dd (47, "_law_edge")) rfl
  obtain ⟨fd__law_wall_right, F__law_wall_right⟩ := c.d.def_ 39 (d := dd (48, "_law_wall_right")) rfl
  have fr : Frees mg := ⟨He.free_ok kin gns (c.d.fact 41 (f := .free "abs") rfl), He.free_ok kin gns (c.d.fact 42 (f := .free "enumerate") rfl), He.free_ok kin gns (c.d.fact 43 (f := .free "int") rfl), He.free_ok kin gns (c.d.fact 44 (f := .free "isinstance") rfl), He.free_ok kin gns (c.d.fact 45 (f := .free "len") rfl), He.free_ok kin gns (c.d.fact 46 (f := .free "list") rfl), He.free_ok kin gns (c.d.fact 47 (f := .free "max") rfl), He.free_ok kin gns (c.d.fact 48 (f := .free "min") rfl), He.free_ok kin gns (c.d.fact 49 (f := .free "range") rfl), He.free_ok kin gns (c.d.fact 50 (f := .free "repr") rfl), He.free_ok kin gns (c.d.fact 51 (f := .free "sorted") rfl), He.free_ok kin gns (c.d.fact 52 (f := .free "sum") rfl), He.free_ok kin gns (c.d.fact 53 (f := .free "tuple") rfl), He.free_ok kin gns (c.d.fact 54 (f := .free "zip") rfl)⟩
  have hx : ErrF P K mg := errF kin gns hP c
  have c_wall_names := ok_wall_names (P₀ := P) (w := w) (base := base) F_wall_names (He.glo_ok kin gns (c.d.fact 0 (f := .glo "wall_names") rfl)) hx fr
  have c_wall_index := ok_wall_index (P₀ := P) (w := w) (base := base) F_wall_index (He.glo_ok kin gns (c.d.fact 1 (f := .glo "wall_index") rfl)) hx fr c_wall_names
  have c_wall_of := ok_wall_of (P₀ := P) (w := w) (base := base) F_wall_of (He.glo_ok kin gns (c.d.fact 2 (f := .glo "wall_of") rfl)) hx fr c_wall_index
  have c_backs_of := ok_backs_of (P₀ := P) (w := w) (base := base) F_backs_of (He.glo_ok kin gns (c.d.fact 3 (f := .glo "backs_of") rfl)) hx fr c_wall_index
  have c_tails_of := ok_tails_of (P₀ := P) (w := w) (base := base) F_tails_of (He.glo_ok kin gns (c.d.fact 4 (f := .glo "tails_of") rfl)) hx fr
  have c_tails_of_sizes := ok_tails_of_sizes (P₀ := P) (w := w) (base := base) F_tails_of_sizes (He.glo_ok kin gns (c.d.fact 5 (f := .glo "tails_of_sizes") rfl)) hx fr
  have c_made_falling := ok_made_falling (P₀ := P) (w := w) (base := base) F_made_falling (He.glo_ok kin gns (c.d.fact 6 (f := .glo "made_falling") rfl)) hx fr
  have c_least_box := ok_least_box (P₀ := P) (w := w) (base := base) F_least_box (He.glo_ok kin gns (c.d.fact 7 (f := .glo "least_box") rfl)) hx fr
  have c_changed_by := ok_changed_by (P₀ := P) (w := w) (base := base) F_changed_by (He.glo_ok kin gns (c.d.fact 8 (f := .glo "changed_by") rfl)) hx fr
  have c_taken_from := ok_taken_from (P₀ := P) (w := w) (base := base) F_taken_from (He.glo_ok kin gns (c.d.fact 9 (f := .glo "taken_from") rfl)) hx fr c_changed_by
  have c_used_boxes := ok_used_boxes (P₀ := P) (w := w) (base := base) F_used_boxes (He.glo_ok kin gns (c.d.fact 10 (f := .glo "used_boxes") rfl)) hx fr
  have c_free_behind := ok_free_behind (P₀ := P) (w := w) (base := base) F_free_behind (He.glo_ok kin gns (c.d.fact 11 (f := .glo "free_behind") rfl)) hx fr c_used_boxes
  have c_best_laying := ok_best_laying (P₀ := P) (w := w) (base := base) F_best_laying (He.glo_ok kin gns (c.d.fact 12 (f := .glo "best_laying") rfl)) hx fr c_least_box c_taken_from
  have c_best_free := ok_best_free (P₀ := P) (w := w) (base := base) F_best_free (He.glo_ok kin gns (c.d.fact 13 (f := .glo "best_free") rfl)) hx fr c_best_laying c_tails_of c_free_behind
  have c_room_tails := ok_room_tails (P₀ := P) (w := w) (base := base) F_room_tails (He.glo_ok kin gns (c.d.fact 14 (f := .glo "room_tails") rfl)) hx fr c_wall_of c_best_free
  have c_made_tails := ok_made_tails (P₀ := P) (w := w) (base := base) F_made_tails (He.glo_ok kin gns (c.d.fact 15 (f := .glo "made_tails") rfl)) hx fr c_room_tails c_made_falling c_backs_of
  have c_breaking := ok_breaking (P₀ := P) (w := w) (base := base) F_breaking (He.glo_ok kin gns (c.d.fact 16 (f := .glo "breaking") rfl)) hx fr c_tails_of c_wall_of c_room_tails c_tails_of_sizes c_backs_of
  have c_takes := ok_takes (P₀ := P) (w := w) (base := base) F_takes (He.glo_ok kin gns (c.d.fact 17 (f := .glo "takes") rfl)) hx fr c_breaking
  have c__law_take := ok__law_take (P₀ := P) (w := w) (base := base) F__law_take (He.glo_ok kin gns (c.d.fact 18 (f := .glo "_law_take") rfl)) hx fr
  have c__law_laid := ok__law_laid (P₀ := P) (w := w) (base := base) F__law_laid (He.glo_ok kin gns (c.d.fact 19 (f := .glo "_law_laid") rfl)) hx fr
  have c__law_tails := ok__law_tails (P₀ := P) (w := w) (base := base) F__law_tails (He.glo_ok kin gns (c.d.fact 20 (f := .glo "_law_tails") rfl)) hx fr
  have c__law_made := ok__law_made (P₀ := P) (w := w) (base := base) F__law_made (He.glo_ok kin gns (c.d.fact 21 (f := .glo "_law_made") rfl)) hx fr c__law_laid c__law_tails
  have c__law_is_at_most := ok__law_is_at_most (P₀ := P) (w := w) (base := base) F__law_is_at_most (He.glo_ok kin gns (c.d.fact 22 (f := .glo "_law_is_at_most") rfl)) hx fr
  have c__law_size_tails := ok__law_size_tails (P₀ := P) (w := w) (base := base) F__law_size_tails (He.glo_ok kin gns (c.d.fact 23 (f := .glo "_law_size_tails") rfl)) hx fr
  have c__law_counts := ok__law_counts (P₀ := P) (w := w) (base := base) F__law_counts (He.glo_ok kin gns (c.d.fact 24 (f := .glo "_law_counts") rfl)) hx fr
  have c__law_alike := ok__law_alike (P₀ := P) (w := w) (base := base) F__law_alike (He.glo_ok kin gns (c.d.fact 25 (f := .glo "_law_alike") rfl)) hx fr
  have c__law_bag := ok__law_bag (P₀ := P) (w := w) (base := base) F__law_bag (He.glo_ok kin gns (c.d.fact 26 (f := .glo "_law_bag") rfl)) hx fr
  have c__law_mixed := ok__law_mixed (P₀ := P) (w := w) (base := base) F__law_mixed (He.glo_ok kin gns (c.d.fact 27 (f := .glo "_law_mixed") rfl)) hx fr c__law_take
  have c__law_names := ok__law_names (P₀ := P) (w := w) (base := base) F__law_names (He.glo_ok kin gns (c.d.fact 28 (f := .glo "_law_names") rfl)) hx fr c__law_mixed
  have c__law_drawn_counts := ok__law_drawn_counts (P₀ := P) (w := w) (base := base) F__law_drawn_counts (He.glo_ok kin gns (c.d.fact 29 (f := .glo "_law_drawn_counts") rfl)) hx fr c__law_take
  have c__law_some := ok__law_some (P₀ := P) (w := w) (base := base) F__law_some (He.glo_ok kin gns (c.d.fact 30 (f := .glo "_law_some") rfl)) hx fr c__law_take
  have c__law_places := ok__law_places (P₀ := P) (w := w) (base := base) F__law_places (He.glo_ok kin gns (c.d.fact 31 (f := .glo "_law_places") rfl)) hx fr c__law_mixed c__law_take
  have c__law_drawn_tails := ok__law_drawn_tails (P₀ := P) (w := w) (base := base) F__law_drawn_tails (He.glo_ok kin gns (c.d.fact 32 (f := .glo "_law_drawn_tails") rfl)) hx fr c__law_size_tails c__law_take
  have c__law_house := ok__law_house (P₀ := P) (w := w) (base := base) F__law_house (He.glo_ok kin gns (c.d.fact 33 (f := .glo "_law_house") rfl)) hx fr c__law_names c__law_some c__law_drawn_counts c__law_places c__law_take c__law_drawn_tails
  have c__law_stays := ok__law_stays (P₀ := P) (w := w) (base := base) F__law_stays (He.glo_ok kin gns (c.d.fact 35 (f := .glo "_law_stays") rfl)) hx fr c__law_take c__law_some
  have c__law_room_tails := ok__law_room_tails (P₀ := P) (w := w) (base := base) F__law_room_tails (He.glo_ok kin gns (c.d.fact 36 (f := .glo "_law_room_tails") rfl)) hx fr c__law_laid c__law_tails
  have c__law_takes := ok__law_takes (P₀ := P) (w := w) (base := base) F__law_takes (He.glo_ok kin gns (c.d.fact 37 (f := .glo "_law_takes") rfl)) hx fr c__law_made c__law_is_at_most c__law_size_tails
  have c__law_edge := ok__law_edge (P₀ := P) (w := w) (base := base) F__law_edge (He.glo_ok kin gns (c.d.fact 38 (f := .glo "_law_edge") rfl)) hx fr c__law_take c__law_counts
  have c__law_wall_right := ok__law_wall_right (P₀ := P) (w := w) (base := base) F__law_wall_right (He.glo_ok kin gns (c.d.fact 39 (f := .glo "_law_wall_right") rfl)) hx fr c__law_stays c__law_made c__law_edge c__law_takes c__law_room_tails c_made_tails c_room_tails c__law_alike c_takes
  exact okq_law F_law (He.glo_ok kin gns (c.d.fact 40 (f := .glo "law") rfl)) hx fr c__law_bag c__law_house c__law_take c__law_wall_right F__law_heard (He.glo_ok kin gns (c.d.fact 34 (f := .glo "_law_heard") rfl)) (TB _ (by simp)) (fun cdv hc => code_is F_law hc) c_room_tails c_takes c_made_tails c__law_alike
end K38
open PySem PySem.W PySem.Calls PyProof.Rows
theorem PySem.Challenge.cw_owedapart_k38_made_tails_and_takes_holds : PySem.Challenge.rw_owedapart_k38_made_tails_and_takes.Holds := by
  w_on; o_law
  refine HandSHeadRun.head_any (r := K38.R) (q := view K38.R.prog [49]) (H := K38.hk) (ob := K38.ob) (M := 6000) (loose := K38.names) (d := HandSHeadRun.topDef K38.R.prog 49) (kwd := []) K38.ob_eq
    (by kernel_rfl) (fun s => by kernel_rfl) K38.run (by kernel_rfl) (by kernel_rfl) (by kernel_rfl) (by rfl) (by first | assumption | decide +kernel) (by decide +kernel) ⟨rfl, rfl, rfl, rfl, rfl, by decide +kernel⟩ ?hw ?hc
  case hw => w_witness2
  case hc =>
    refine DL.walk_ofQT (l := PySem.Challenge.rw_owedapart_k38_made_tails_and_takes) (n := 63) (k := 11) (x := "script") (CX := fun w => L2.CX K38.R.prog w) rfl (by decide) (by kernel_rfl) ⟨rfl, by decide, by decide⟩ ?F (fun _ _ _ _ _ z => by
      obtain ⟨_, _, _, _, _, _, _, _, _, _, _, _, z⟩ := z
      exact z)
    intro w mg fa h Y gns hmg0
    obtain ⟨K, kin, c⟩ := Y
    have hmg : mg ("law" : PySem.Str) = some (.ref fa) := by
      have e : (HandSHeadRun.topDef K38.R.prog 49).name = ("law" : PySem.Str) := by kernel_rfl
      rw [← e]
      exact hmg0
    obtain ⟨fd, F⟩ := c.d.def_ 40 (d := K38.dd (49, "law")) rfl
    have e := hmg.symm.trans (He.glo_ok kin gns (c.d.fact 40 (f := .glo "law") rfl))
    cases e
    have b := L2.FunD.bindsA (ps := ["script"]) F fun _ _ _ _ _ _ us hl => match us, hl with | [_], _ => rfl
    refine ⟨K, fd, [He.cT K ("law", none)], _, kin, ?_, ?_, ?_, fun s v => b s [v] rfl, ?_, fun base _ _ TB => K38.law_ok kin gns rfl c F TB⟩
    · intro p hp
      simp only [List.mem_cons, List.not_mem_nil, or_false] at hp
      rcases hp with rfl
      all_goals exact c.empty _ (by simp [K38.tf])
    · intro p hp
      simp only [List.mem_cons, List.not_mem_nil, or_false] at hp
      rcases hp with rfl
      all_goals exact c.out _ (by simp [K38.tf])
    · intro p hp
      simp only [List.mem_cons, List.not_mem_nil, or_false] at hp
      rcases hp with rfl
      all_goals exact PySem.W.codeHd_of_K kin (c.hd _ (by simp [K38.tf]))
    · intro H a is hl hH sq
      refine DL.law_sp (T := [((He.cT K ("law", none)).2, "law.<locals>.<lambda>")]) (fun t ht => ?_) sq ⟨is, rfl, rfl, fun _ => rfl⟩
      simp only [List.mem_cons, List.not_mem_nil, or_false] at ht
      rcases ht with rfl
      all_goals exact hH _ (by simp)
end
